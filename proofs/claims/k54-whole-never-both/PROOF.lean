import PyProof.Rows.All
import HandS.ForExc
import HandS.ForMost
import HandS.Wide
import HandS.Lambda
import HandS.IsInst
import HandS.TupAny
import HandS.TupMul
import HandS.Conv
import KE.GoesEnum
import PyProof.ReprRoads
import HandS.RaiseMore
import HandS.TryMany
import HandS.ExcOwn
import HandS.SortInts
import KE.KSuper
import HandS.ClsMeth
import HandS.Zip
import HandS.Style
import HandS.HotCalls
import HandS.ExcIs
import KE.KRevSl
import HandS.SetFor
import HandS.Strs
import HandS.More
import KE.KDictDisplayH
import KE.KDictWalk
import HandS.Star
import HandS.SortOrd
import HandS.SortRule
import HandS.TupSets
import HandS.Deep
import PySem.Challenge.RW_closenews_k54_whole_never_both
import KE.RegKSuper
import KE.RegKTryMore
import KE.RegKIsAll
set_option Elab.async false
set_option linter.all false
set_option maxRecDepth 100000
set_option maxHeartbeats 4000000
/-! PV1: data without a heap, how a heap bears them, and the relation that a running body keeps. -/
namespace PV
open PySem PySem.Spec PyProof.Rows L2

inductive D where
  | non
  | bl (b : Bool)
  | int (i : Int)
  | str (s : Str)
  | byt (b : Array UInt8)
  | ty (n : String)
  | fn (n : Str)
  | adr (a : Addr)
  | scr (l : List Int)
  | tup (l : List D)
  | ctp (l : List D)
  | lst (l : List D)
  | dct (l : List (Key × D))
  | dcT (l : List (List Key × D))
  | dcF (l : List (List Key × D))
  | ins (c : Str) (l : List (Str × D))

section
variable (K : PySem.W.Frag) (F : Hp)
mutual
/-- the value v stands for the datum, by what F holds -/
def Den : D → V → Prop
  | .non, v => v = .non
  | .bl b, v => v = .bl b
  | .int i, v => v = .int i
  | .str s, v => v = .str s
  | .byt b, v => v = .byt b
  | .ty n, v => v = .ty n
  | .fn n, v => ∃ a, v = .ref a ∧ PySem.W.nsIn K mainGlobals n = some (some (.ref a))
  | .adr a, v => v = .ref a
  | .scr l, v => ∃ a, v = .ref a ∧ SqL K F a (l.map V.int)
  | .tup l, v => ∃ a xs, v = .ref a ∧ F a = some (.tup xs) ∧ Dens l xs
  | .ctp l, v => ∃ a xs, v = .ref a ∧ SqT K F a xs ∧ Dens l xs
  | .lst l, v => ∃ a xs, v = .ref a ∧ F a = some (.lst xs) ∧ Dens l xs
  | .dct l, v => ∃ a kvs, v = .ref a ∧ F a = some (.dK kvs) ∧ DenK l kvs
  | .dcT l, v => ∃ a kvs, v = .ref a ∧ F a = some (.dT kvs) ∧ DenT l kvs
  | .dcF l, v => ∃ a od kvs, v = .ref a ∧ F a = some (.frz od (.dT kvs)) ∧ DenT l kvs
  | .ins c l, v => ∃ C a dx fs, v = .ref a ∧ PySem.W.nsIn K mainGlobals c = some (some (.ref C)) ∧ F a = some (.ins C dx fs) ∧ DenF l fs
def Dens : List D → List V → Prop
  | [], vs => vs = []
  | d :: ds, vs => ∃ v r, vs = v :: r ∧ Den d v ∧ Dens ds r
def DenK : List (Key × D) → List (Key × V) → Prop
  | [], vs => vs = []
  | (k, d) :: ds, vs => ∃ v r, vs = (k, v) :: r ∧ Den d v ∧ DenK ds r
def DenT : List (List Key × D) → List (List Key × V) → Prop
  | [], vs => vs = []
  | (k, d) :: ds, vs => ∃ v r, vs = (k, v) :: r ∧ Den d v ∧ DenT ds r
def DenF : List (Str × D) → List (Str × V) → Prop
  | [], vs => vs = []
  | (k, d) :: ds, vs => ∃ v r, vs = (k, v) :: r ∧ Den d v ∧ DenF ds r
end
end

theorem sqt {K : PySem.W.Frag} {H : Hp} {a : Addr} {xs : List V} (h : H a = some (.tup xs)) : SqT K H a xs := .inl (.inl h)
theorem Same.tup {K : PySem.W.Frag} {H H' : Hp} {a : Addr} {xs : List V} (e : Same H H') (h : SqT K H a xs) : SqT K H' a xs := by
  rcases h with (h | ⟨o, h⟩) | h
  · exact .inl (.inl (e _ _ h))
  · exact .inl (.inr ⟨o, e _ _ h⟩)
  · exact .inr h

section
variable {K : PySem.W.Frag} {F F' : Hp}
mutual
theorem Den.mono (e : Same F F') : ∀ (d : D) (v : V), Den K F d v → Den K F' d v
  | .non, _, h => h
  | .bl _, _, h => h
  | .int _, _, h => h
  | .str _, _, h => h
  | .byt _, _, h => h
  | .ty _, _, h => h
  | .fn _, _, h => h
  | .adr _, _, h => h
  | .tup l, _, ⟨a, xs, e1, h1, h2⟩ => ⟨a, xs, e1, e _ _ h1, Dens.mono e l xs h2⟩
  | .ctp l, _, ⟨a, xs, e1, h1, h2⟩ => ⟨a, xs, e1, PV.Same.tup e h1, Dens.mono e l xs h2⟩
  | .scr l, _, ⟨a, e1, h1⟩ => ⟨a, e1, e.seq h1⟩
  | .lst l, _, ⟨a, xs, e1, h1, h2⟩ => ⟨a, xs, e1, e _ _ h1, Dens.mono e l xs h2⟩
  | .dct l, _, ⟨a, xs, e1, h1, h2⟩ => ⟨a, xs, e1, e _ _ h1, DenK.mono e l xs h2⟩
  | .dcT l, _, ⟨a, xs, e1, h1, h2⟩ => ⟨a, xs, e1, e _ _ h1, DenT.mono e l xs h2⟩
  | .dcF l, _, ⟨a, od, xs, e1, h1, h2⟩ => ⟨a, od, xs, e1, e _ _ h1, DenT.mono e l xs h2⟩
  | .ins c l, _, ⟨C, a, dx, xs, e1, e0, h1, h2⟩ => ⟨C, a, dx, xs, e1, e0, e _ _ h1, DenF.mono e l xs h2⟩
theorem Dens.mono (e : Same F F') : ∀ (d : List D) (v : List V), Dens K F d v → Dens K F' d v
  | [], _, h => h
  | d :: ds, _, ⟨v, r, e1, h1, h2⟩ => ⟨v, r, e1, Den.mono e d v h1, Dens.mono e ds r h2⟩
theorem DenK.mono (e : Same F F') : ∀ (d : List (Key × D)) (v : List (Key × V)), DenK K F d v → DenK K F' d v
  | [], _, h => h
  | (k, d) :: ds, _, ⟨v, r, e1, h1, h2⟩ => ⟨v, r, e1, Den.mono e d v h1, DenK.mono e ds r h2⟩
theorem DenT.mono (e : Same F F') : ∀ (d : List (List Key × D)) (v : List (List Key × V)), DenT K F d v → DenT K F' d v
  | [], _, h => h
  | (k, d) :: ds, _, ⟨v, r, e1, h1, h2⟩ => ⟨v, r, e1, Den.mono e d v h1, DenT.mono e ds r h2⟩
theorem DenF.mono (e : Same F F') : ∀ (d : List (Str × D)) (v : List (Str × V)), DenF K F d v → DenF K F' d v
  | [], _, h => h
  | (k, d) :: ds, _, ⟨v, r, e1, h1, h2⟩ => ⟨v, r, e1, Den.mono e d v h1, DenF.mono e ds r h2⟩
end

theorem Dens.length : ∀ {ds : List D} {vs : List V}, Dens K F ds vs → vs.length = ds.length
  | [], _, h => by rw [show _ = _ from h]; rfl
  | d :: ds, _, ⟨v, r, e, _, h⟩ => by rw [e, List.length_cons, List.length_cons, Dens.length h]
theorem Dens.get : ∀ {ds : List D} {vs : List V} {i : Nat} {d : D}, Dens K F ds vs → ds[i]? = some d → ∃ v, vs[i]? = some v ∧ Den K F d v
  | [], _, i, _, _, h => by simp at h
  | d :: ds, _, 0, x, ⟨v, r, e, h1, _⟩, h => by
    have q : d = x := by simpa using h
    rw [e, ← q]
    exact ⟨v, rfl, h1⟩
  | d :: ds, _, i + 1, x, ⟨v, r, e, _, h2⟩, h => by
    obtain ⟨w, h3, h4⟩ := Dens.get (i := i) (d := x) h2 (by simpa using h)
    rw [e]
    exact ⟨w, by simpa using h3, h4⟩
theorem Dens.getV : ∀ {ds : List D} {vs : List V} {i : Nat} {v : V}, Dens K F ds vs → vs[i]? = some v → ∃ d, ds[i]? = some d ∧ Den K F d v
  | [], _, i, _, h, g => by rw [show _ = _ from h] at g; simp at g
  | d :: ds, _, 0, x, ⟨v, r, e, h1, _⟩, g => by
    rw [e] at g
    have q : v = x := by simpa using g
    rw [← q]
    exact ⟨d, rfl, h1⟩
  | d :: ds, _, i + 1, x, ⟨v, r, e, _, h2⟩, g => by
    rw [e] at g
    obtain ⟨w, h3, h4⟩ := Dens.getV (i := i) (v := x) h2 (by simpa using g)
    exact ⟨w, by simpa using h3, h4⟩
theorem Dens.append : ∀ {ds es : List D} {vs ws : List V}, Dens K F ds vs → Dens K F es ws → Dens K F (ds ++ es) (vs ++ ws)
  | [], _, _, _, h, g => by rw [show _ = _ from h]; exact g
  | d :: ds, _, _, _, ⟨v, r, e, h1, h2⟩, g => by rw [e]; exact ⟨v, _, rfl, h1, Dens.append h2 g⟩
theorem Dens.one {d : D} {v : V} (h : Den K F d v) : Dens K F [d] [v] := ⟨v, [], rfl, h, rfl⟩
theorem Dens.nil : Dens K F [] [] := rfl
theorem Dens.cons {d : D} {v : V} {ds : List D} {vs : List V} (h : Den K F d v) (g : Dens K F ds vs) : Dens K F (d :: ds) (v :: vs) := ⟨v, vs, rfl, h, g⟩
theorem Dens.drop : ∀ {ds : List D} {vs : List V} (n : Nat), Dens K F ds vs → Dens K F (ds.drop n) (vs.drop n)
  | _, _, 0, h => h
  | [], _, n + 1, h => by rw [show _ = _ from h]; exact Dens.nil
  | d :: ds, _, n + 1, ⟨v, r, e, _, h2⟩ => by rw [e]; exact Dens.drop n h2
theorem Dens.take : ∀ {ds : List D} {vs : List V} (n : Nat), Dens K F ds vs → Dens K F (ds.take n) (vs.take n)
  | _, _, 0, h => Dens.nil
  | [], _, n + 1, h => by rw [show _ = _ from h]; exact Dens.nil
  | d :: ds, _, n + 1, ⟨v, r, e, h1, h2⟩ => by rw [e]; exact ⟨v, _, rfl, h1, Dens.take n h2⟩
theorem Dens.set : ∀ {ds : List D} {vs : List V} (n : Nat) {d : D} {v : V}, Dens K F ds vs → Den K F d v → Dens K F (ds.set n d) (vs.set n v)
  | [], _, _, _, _, h, _ => by rw [show _ = _ from h]; exact Dens.nil
  | d :: ds, _, 0, _, _, ⟨v, r, e, h1, h2⟩, g => by rw [e]; exact ⟨_, r, rfl, g, h2⟩
  | d :: ds, _, n + 1, _, _, ⟨v, r, e, h1, h2⟩, g => by rw [e]; exact ⟨v, _, rfl, h1, Dens.set n h2 g⟩
theorem Dens.reverse : ∀ {ds : List D} {vs : List V}, Dens K F ds vs → Dens K F ds.reverse vs.reverse
  | [], _, h => by rw [show _ = _ from h]; exact Dens.nil
  | d :: ds, _, ⟨v, r, e, h1, h2⟩ => by
    rw [e, List.reverse_cons, List.reverse_cons]
    exact Dens.append (Dens.reverse h2) (Dens.one h1)
theorem Dens.rep {ds : List D} {vs : List V} (h : Dens K F ds vs) : ∀ k : Nat, Dens K F (List.replicate k ds).flatten (List.replicate k vs).flatten
  | 0 => Dens.nil
  | k + 1 => by
    rw [List.replicate_succ, List.replicate_succ, List.flatten_cons, List.flatten_cons]
    exact Dens.append h (Dens.rep h k)
end

/-! ### objects that a body may change -/
inductive MD where
  | lst (l : List D)
  | dct (l : List (Key × D))
  | dcT (l : List (List Key × D))
  | ins (c : Str) (l : List (Str × D))
def MD.d : MD → D
  | .lst l => .lst l
  | .dct l => .dct l
  | .dcT l => .dcT l
  | .ins c l => .ins c l
def MDen (K : PySem.W.Frag) (F : Hp) : MD → HO → Prop
  | .lst ds, .lst xs => Dens K F ds xs
  | .dct l, .dK kvs => DenK K F l kvs
  | .dcT l, .dT kvs => DenT K F l kvs
  | .ins c l, .ins C _ fs => PySem.W.nsIn K mainGlobals c = some (some (.ref C)) ∧ DenF K F l fs
  | _, _ => False
theorem MDen.mono {K : PySem.W.Frag} {F F' : Hp} (e : Same F F') : ∀ {m : MD} {o : HO}, MDen K F m o → MDen K F' m o
  | .lst ds, o, h => by cases o <;> first | exact False.elim h | exact Dens.mono e _ _ h
  | .dct ds, o, h => by cases o <;> first | exact False.elim h | exact DenK.mono e _ _ h
  | .dcT ds, o, h => by cases o <;> first | exact False.elim h | exact DenT.mono e _ _ h
  | .ins c ds, o, h => by cases o <;> first | exact False.elim h | exact ⟨h.1, DenF.mono e _ _ h.2⟩
theorem same_new {H : Hp} {p : Addr} {o : HO} (h : H p = none) : Same H (upd H p o) := fun b x e => by
  rw [upd_ne (ne_of_none e h)]
  exact e
/-- from now on it is not changed -/
theorem MDen.still {K : PySem.W.Frag} {F : Hp} {a : Addr} {o : HO} : ∀ {m : MD}, F a = none → MDen K F m o → Den K (upd F a o) m.d (.ref a)
  | .lst ds, n, h => by
    cases o <;> first | exact False.elim h | skip
    exact ⟨a, _, rfl, upd_same, Dens.mono (same_new n) _ _ h⟩
  | .dct ds, n, h => by
    cases o <;> first | exact False.elim h | skip
    exact ⟨a, _, rfl, upd_same, DenK.mono (same_new n) _ _ h⟩
  | .dcT ds, n, h => by
    cases o <;> first | exact False.elim h | skip
    exact ⟨a, _, rfl, upd_same, DenT.mono (same_new n) _ _ h⟩
  | .ins c ds, n, h => by
    cases o <;> first | exact False.elim h | skip
    obtain ⟨h0, h⟩ := h
    exact ⟨_, a, _, _, rfl, h0, upd_same, DenF.mono (same_new n) _ _ h⟩

/-! ### slots -/
/-- val: a datum that is not changed any more; own: the slot's own object; bor: the caller's, lent -/
inductive Sl where
  | val (d : D)
  | own (m : MD)
  | bor (m : MD)
abbrev DE := List (Option Sl)
def Sl.mut : Sl → Option MD
  | .val _ => none
  | .own m => some m
  | .bor m => some m
def Sl.wr : Sl → MD → Sl
  | .val d, _ => .val d
  | .own _, m => .own m
  | .bor _, m => .bor m
def Sl.d : Sl → D
  | .val d => d
  | .own m => m.d
  | .bor m => m.d
/-- what stood at the entry; G: things that an evaluation under way holds -/
structure Cq where
  F0 : Hp
  H0 : Hp
  G : Hp
  adr : Nat → Addr
  bs : List Nat

def SlOk (K : PySem.W.Frag) (c : Cq) (F H : Hp) (i : Nat) (sv : Option V) : Sl → Prop
  | .val d => ∃ v, sv = some v ∧ Den K F d v
  | .own m => ∃ a o, sv = some (.ref a) ∧ H a = some o ∧ MDen K F m o ∧ F a = none ∧ c.G a = none ∧ c.H0 a = none
  | .bor m => i ∈ c.bs ∧ ∃ o, sv = some (.ref (c.adr i)) ∧ H (c.adr i) = some o ∧ MDen K F m o ∧ F (c.adr i) = none ∧ c.G (c.adr i) = none

/-- the tables of code objects that the law's lambdas write -/
class Tbl where
  T : List (Addr × Str)
/-- neither a table nor a code object -/
def Pl : HO → Prop
  | .tbl _ => False
  | .ext _ => False
  | _ => True
def PlG : HO → Prop
  | .tbl _ => False
  | .ext _ => False
  | .tup _ => False
  | _ => True
theorem PlG.pl {o : HO} (h : PlG o) : Pl o := by cases o <;> first | exact False.elim h | trivial
theorem PlG.nt {xs : List V} (h : PlG (.tup xs)) : False := h
theorem MDen.plg {K : PySem.W.Frag} {F : Hp} {m : MD} {o : HO} (h : MDen K F m o) : PlG o := by
  cases m <;> cases o <;> first | exact False.elim h | trivial
theorem MDen.pl {K : PySem.W.Frag} {F : Hp} {m : MD} {o : HO} (h : MDen K F m o) : Pl o := by
  cases m <;> cases o <;> first | exact False.elim h | trivial
theorem tabs_upd {T : List (Addr × Str)} {H : Hp} {a : Addr} {o o' : HO} (t : LamX.Tabs T H) (ha : H a = some o) (pl : Pl o) : LamX.Tabs T (upd H a o') := fun p hp => by
  obtain ⟨ps, h1, h2, h3⟩ := t p hp
  refine ⟨ps, ?_, h2, fun pos cv hc => ?_⟩
  · rw [upd_ne (fun q => by rw [q, ha] at h1; cases h1; exact pl)]; exact h1
  · obtain ⟨c, e1, e2⟩ := h3 pos cv hc
    refine ⟨c, e1, ?_⟩
    rw [upd_ne (fun q => by rw [q, ha] at e2; cases e2; exact pl)]; exact e2
variable [Tbl]
structure TabI (c : Cq) (F H : Hp) : Prop where
  tabs : LamX.Tabs Tbl.T H
  fnt : ∀ b o, F b = some o → Pl o
  gnt : ∀ b o, c.G b = some o → PlG o
  hnt : ∀ b o, c.H0 b = some o → Pl o
theorem TabI.ext {c : Cq} {F H H' : Hp} (t : TabI c F H) (e : Same H H') : TabI c F H' := ⟨t.tabs.ext e, t.fnt, t.gnt, t.hnt⟩
theorem TabI.upd {c : Cq} {F H : Hp} {a : Addr} {o o' : HO} (t : TabI c F H) (ha : H a = some o) (pl : Pl o) : TabI c F (upd H a o') := ⟨tabs_upd t.tabs ha pl, t.fnt, t.gnt, t.hnt⟩
theorem TabI.lay {c : Cq} {F H : Hp} {a : Addr} {o : HO} (t : TabI c F H) (pl : Pl o) : TabI c (L2.upd F a o) H := ⟨t.tabs, fun b x e => by
  by_cases q : b = a
  · subst q; rw [upd_same] at e; cases e; exact pl
  · rw [upd_ne q] at e; exact t.fnt b x e, t.gnt, t.hnt⟩
theorem TabI.hold {c : Cq} {F H : Hp} {a : Addr} {o : HO} (t : TabI c F H) (pl : PlG o) : TabI { c with G := L2.upd c.G a o } F H := ⟨t.tabs, t.fnt, fun b x e => by
  have e : L2.upd c.G a o b = some x := e
  by_cases q : b = a
  · subst q; rw [upd_same] at e; cases e; exact pl
  · rw [upd_ne q] at e; exact t.gnt b x e, t.hnt⟩
theorem TabI.less {c : Cq} {F H G' : Hp} (t : TabI { c with G := G' } F H) (h : ∀ b o, c.G b = some o → G' b = some o) : TabI c F H := ⟨t.tabs, t.fnt, fun b x e => t.gnt b x (h b x e), t.hnt⟩
structure Rel (K : PySem.W.Frag) (c : Cq) (F H : Hp) (σ : L2.St) (δ : DE) : Prop where
  sub : Same F H
  pres : ∀ b o, c.H0 b = some o → (∀ i ∈ c.bs, c.adr i ≠ b) → H b = some o
  low : Same c.F0 F
  new : ∀ b o, F b = some o → c.F0 b = some o ∨ c.H0 b = none ∨ ∃ xs, o = HO.tup xs
  gs : ∀ b o, c.G b = some o → H b = some o ∧ F b = none
  bor0 : ∀ i ∈ c.bs, c.H0 (c.adr i) ≠ none
  borD : ∀ i ∈ c.bs, ∃ m, δ[i]? = some (some (.bor m))
  binj : ∀ i j, i ∈ c.bs → j ∈ c.bs → c.adr i = c.adr j → i = j
  len : σ.length = δ.length
  sl : ∀ i s, δ[i]? = some (some s) → SlOk K c F H i (σ[i]?.getD none) s
  apart : ∀ (i j : Nat) (a : Addr) (m n : MD), δ[i]? = some (some (Sl.own m)) → δ[j]? = some (some (Sl.own n)) → σ[i]? = some (some (V.ref a)) → σ[j]? = some (some (V.ref a)) → i = j
  tab : TabI c F H

section
variable {K : PySem.W.Frag} {c : Cq} {F H : Hp} {σ : L2.St} {δ : DE}

theorem getD_some {σ : L2.St} {i : Nat} {v : V} (h : σ[i]?.getD none = some v) : σ[i]? = some (some v) := by
  cases e : σ[i]? with
  | none => rw [e] at h; cases h
  | some x => rw [e] at h; rw [show x = some v from h]
theorem Rel.borAt (r : Rel K c F H σ δ) {i : Nat} (h : i ∈ c.bs) : ∃ m o, δ[i]? = some (some (.bor m)) ∧ σ[i]? = some (some (.ref (c.adr i))) ∧ H (c.adr i) = some o ∧ MDen K F m o ∧ F (c.adr i) = none ∧ c.G (c.adr i) = none := by
  obtain ⟨m, e⟩ := r.borD i h
  obtain ⟨_, o, e1, e2, e3, e4⟩ := r.sl i _ e
  exact ⟨m, o, e, getD_some e1, e2, e3, e4⟩
theorem Rel.free (r : Rel K c F H σ δ) {p : Addr} (h : H p = none) : c.H0 p = none := by
  cases e : c.H0 p with
  | none => rfl
  | some o =>
    by_cases q : ∃ i ∈ c.bs, c.adr i = p
    · obtain ⟨i, hi, rfl⟩ := q
      obtain ⟨_, o', _, _, z, _⟩ := r.borAt hi
      rw [h] at z; cases z
    · have := r.pres p o e fun i hi z => q ⟨i, hi, z⟩
      rw [h] at this; cases this
theorem Rel.freeF (r : Rel K c F H σ δ) {p : Addr} (h : H p = none) : F p = none := r.sub.free h
theorem Rel.freeG (r : Rel K c F H σ δ) {p : Addr} (h : H p = none) : c.G p = none := by
  cases e : c.G p with
  | none => rfl
  | some o => rw [(r.gs p o e).1] at h; cases h
theorem Rel.val (r : Rel K c F H σ δ) {i : Nat} {d : D} (h : δ[i]? = some (some (.val d))) : ∃ v, σ[i]? = some (some v) ∧ Den K F d v := by
  obtain ⟨v, e, q⟩ := r.sl i _ h
  exact ⟨v, getD_some e, q⟩
theorem Rel.own (r : Rel K c F H σ δ) {i : Nat} {m : MD} (h : δ[i]? = some (some (.own m))) : ∃ a o, σ[i]? = some (some (.ref a)) ∧ H a = some o ∧ MDen K F m o ∧ F a = none ∧ c.G a = none ∧ c.H0 a = none := by
  obtain ⟨a, o, e, q⟩ := r.sl i _ h
  exact ⟨a, o, getD_some e, q⟩
/-- a slot's object that may be written -/
theorem Rel.mutAt (r : Rel K c F H σ δ) {i : Nat} {s : Sl} {m : MD} (h : δ[i]? = some (some s)) (hm : s.mut = some m) : ∃ a o, σ[i]? = some (some (.ref a)) ∧ H a = some o ∧ MDen K F m o ∧ F a = none := by
  cases s with
  | val d => cases hm
  | own n =>
    cases hm
    obtain ⟨a, o, e1, e2, e3, e4, _⟩ := r.own h
    exact ⟨a, o, e1, e2, e3, e4⟩
  | bor n =>
    cases hm
    obtain ⟨_, o, e1, e2, e3, e4, _⟩ := r.sl i _ h
    exact ⟨_, o, getD_some e1, e2, e3, e4⟩

/-- F grows, and what stands stays -/
theorem SlOk.to {F' H' : Hp} {i : Nat} {sv : Option V} {s : Sl} (h : SlOk K c F H i sv s) (e : Same F F') (n : ∀ a o, H a = some o → F a = none → (∀ d, s ≠ .val d) → sv = some (.ref a) → F' a = none) (k : ∀ a o, (∀ d, s ≠ .val d) → sv = some (.ref a) → H a = some o → F a = none → H' a = some o) : SlOk K c F' H' i sv s := by
  cases s with
  | val d =>
    obtain ⟨v, e1, e2⟩ := h
    exact ⟨v, e1, Den.mono e _ _ e2⟩
  | own m =>
    obtain ⟨a, o, e1, e2, e3, e4, e5⟩ := h
    exact ⟨a, o, e1, k a o (fun _ z => nomatch z) e1 e2 e4, e3.mono e, n a o e2 e4 (fun _ z => nomatch z) e1, e5⟩
  | bor m =>
    obtain ⟨hi, o, e1, e2, e3, e4, e5⟩ := h
    exact ⟨hi, o, e1, k _ o (fun _ z => nomatch z) e1 e2 e4, e3.mono e, n _ o e2 e4 (fun _ z => nomatch z) e1, e5⟩

theorem SlOk.toP {F' H' : Hp} {i : Nat} {sv : Option V} {s : Sl} (h : SlOk K c F H i sv s) (e : Same F F') (n : ∀ a o, H a = some o → H' a = some o → PlG o → F a = none → F' a = none) (k : ∀ a o, (∀ d, s ≠ .val d) → sv = some (.ref a) → H a = some o → Pl o → F a = none → H' a = some o) : SlOk K c F' H' i sv s := by
  cases s with
  | val d =>
    obtain ⟨v, e1, e2⟩ := h
    exact ⟨v, e1, Den.mono e _ _ e2⟩
  | own m =>
    obtain ⟨a, o, e1, e2, e3, e4, e5⟩ := h
    have hk := k a o (fun _ z => nomatch z) e1 e2 e3.pl e4
    exact ⟨a, o, e1, hk, e3.mono e, n a o e2 hk e3.plg e4, e5⟩
  | bor m =>
    obtain ⟨hi, o, e1, e2, e3, e4, e5⟩ := h
    have hk := k _ o (fun _ z => nomatch z) e1 e2 e3.pl e4
    exact ⟨hi, o, e1, hk, e3.mono e, n _ o e2 hk e3.plg e4, e5⟩
/-- a new object that nobody asks for -/
theorem Rel.tmp (r : Rel K c F H σ δ) {p : Addr} {o : HO} (hp : H p = none) : Rel K c F (upd H p o) σ δ :=
  ⟨r.sub.trans (same_new hp), fun b x e1 e2 => same_new hp _ _ (r.pres b x e1 e2), r.low, r.new, fun b x e => ⟨same_new hp _ _ (r.gs b x e).1, (r.gs b x e).2⟩, r.bor0, r.borD, r.binj, r.len, fun i s e => (r.sl i s e).to (.refl _) (fun _ _ _ z _ _ => z) fun a x _ _ z _ => same_new hp _ _ z, r.apart, r.tab.ext (same_new hp)⟩
/-- a new object that stays as it is -/
theorem Rel.lay (r : Rel K c F H σ δ) {p : Addr} {o : HO} (hp : H p = none) (pl : Pl o := by trivial) : Rel K c (upd F p o) (upd H p o) σ δ := by
  have hF := r.freeF hp
  have t := r.tmp (o := o) hp
  refine ⟨fun b x e => ?_, t.pres, r.low.trans (same_new hF), fun b x e => ?_, fun b x e => ⟨(t.gs b x e).1, ?_⟩, r.bor0, r.borD, r.binj, r.len, fun i s e => (r.sl i s e).to (same_new hF) (fun a x z1 z2 _ _ => ?_) fun a x _ _ z _ => same_new hp _ _ z, r.apart, t.tab.lay pl⟩
  · by_cases q : b = p
    · subst q; rw [upd_same] at e ⊢; exact e
    · rw [upd_ne q] at e ⊢; exact r.sub _ _ e
  · by_cases q : b = p
    · subst q; exact .inr (.inl (r.free hp))
    · rw [upd_ne q] at e; exact r.new _ _ e
  · rw [upd_ne (ne_of_none (r.gs b x e).1 hp)]; exact (r.gs b x e).2
  · rw [upd_ne (ne_of_none z1 hp)]; exact z2
/-- a thing of the heap is held while an evaluation is under way -/
theorem Rel.hold (r : Rel K c F H σ δ) {p : Addr} {o : HO} (hp : H p = some o) (hF : F p = none) (h1 : ∀ (j : Nat) (n : MD), δ[j]? = some (some (Sl.own n)) → σ[j]? ≠ some (some (V.ref p))) (h2 : ∀ i ∈ c.bs, c.adr i ≠ p) (pl : PlG o := by trivial) :
    Rel K { c with G := upd c.G p o } F H σ δ := by
  refine ⟨r.sub, r.pres, r.low, r.new, fun b x e => ?_, r.bor0, r.borD, r.binj, r.len, fun i s e => ?_, r.apart, r.tab.hold pl⟩
  · by_cases q : b = p
    · subst q
      have e : upd c.G b o b = some x := e
      rw [upd_same] at e; cases e; exact ⟨hp, hF⟩
    · have e : upd c.G p o b = some x := e
      rw [upd_ne q] at e; exact r.gs b x e
  · have z := r.sl i s e
    cases s with
    | val d => exact z
    | own n =>
      obtain ⟨a, x, e1, e2, e3, e4, e5, e6⟩ := z
      refine ⟨a, x, e1, e2, e3, e4, ?_, e6⟩
      show upd c.G p o a = none
      rw [upd_ne (fun q => h1 i n e (by rw [← q]; exact getD_some e1))]; exact e5
    | bor n =>
      obtain ⟨hi, x, e1, e2, e3, e4, e5⟩ := z
      refine ⟨hi, x, e1, e2, e3, e4, ?_⟩
      show upd c.G p o (c.adr i) = none
      rw [upd_ne (h2 i hi)]; exact e5
theorem Rel.drop {p : Addr} {o : HO} (r : Rel K { c with G := upd c.G p o } F H σ δ) (hg : c.G p = none) :
    Rel K c F H σ δ ∧ H p = some o ∧ F p = none ∧ (∀ (j : Nat) (n : MD), δ[j]? = some (some (Sl.own n)) → σ[j]? ≠ some (some (V.ref p))) ∧ ∀ i ∈ c.bs, c.adr i ≠ p := by
  have hp := r.gs p o upd_same
  have tl : TabI c F H := r.tab.less fun b x e => by
    show upd c.G p o b = some x
    rw [upd_ne (fun q => by subst q; rw [hg] at e; cases e)]; exact e
  have h1 : ∀ (j : Nat) (n : MD), δ[j]? = some (some (Sl.own n)) → σ[j]? ≠ some (some (V.ref p)) := fun j n e z => by
    obtain ⟨a, x, e1, _, _, _, e5, _⟩ := r.own e
    rw [z] at e1; cases e1
    have e5 : upd c.G p o p = none := e5
    rw [upd_same] at e5; cases e5
  have h2 : ∀ i ∈ c.bs, c.adr i ≠ p := fun i hi z => by
    obtain ⟨m, x, e1, e2, e3, e4, e5, e6⟩ := r.borAt hi
    have e6 : upd c.G p o (c.adr i) = none := e6
    rw [z, upd_same] at e6; cases e6
  refine ⟨⟨r.sub, r.pres, r.low, r.new, fun b x e => r.gs b x ?_, r.bor0, r.borD, r.binj, r.len, fun i s e => ?_, r.apart, tl⟩, hp.1, hp.2, h1, h2⟩
  · show upd c.G p o b = some x
    rw [upd_ne (fun q => by subst q; rw [hg] at e; cases e)]; exact e
  · have z := r.sl i s e
    cases s with
    | val d => exact z
    | own n =>
      obtain ⟨a, x, e1, e2, e3, e4, e5, e6⟩ := z
      refine ⟨a, x, e1, e2, e3, e4, ?_, e6⟩
      have e5 : upd c.G p o a = none := e5
      rw [upd_ne (fun q => h1 i n e (by rw [← q]; exact getD_some e1))] at e5; exact e5
    | bor n =>
      obtain ⟨hi, x, e1, e2, e3, e4, e5⟩ := z
      refine ⟨hi, x, e1, e2, e3, e4, ?_⟩
      have e5 : upd c.G p o (c.adr i) = none := e5
      rw [upd_ne (h2 i hi)] at e5; exact e5
/-- the held thing is written -/
theorem Rel.holdPut {p : Addr} {o o' : HO} (r : Rel K { c with G := upd c.G p o } F H σ δ) (hg : c.G p = none) (h0 : c.H0 p = none) (pl' : PlG o' := by trivial) : Rel K { c with G := upd c.G p o' } F (upd H p o') σ δ := by
  have pl : Pl o := (r.tab.gnt p o upd_same).pl
  obtain ⟨r, hp, hF, h1, h2⟩ := r.drop hg
  refine Rel.hold (c := c) ⟨fun b x e => ?_, fun b x e q => ?_, r.low, r.new, fun b x e => ⟨?_, (r.gs b x e).2⟩, r.bor0, r.borD, r.binj, r.len, fun i s e => (r.sl i s e).to (.refl _) (fun _ _ _ z _ _ => z) fun a x z0 z1 z _ => ?_, r.apart, r.tab.upd hp pl⟩ upd_same hF h1 h2 pl'
  · rw [upd_ne (fun q => by subst q; rw [hF] at e; cases e)]; exact r.sub _ _ e
  · rw [upd_ne (fun z => by subst z; rw [h0] at e; cases e)]; exact r.pres b x e q
  · rw [upd_ne (fun z => by subst z; rw [hg] at e; cases e)]; exact (r.gs b x e).1
  · rw [upd_ne ?_]; exact z
    intro q
    subst q
    have z1 := getD_some z1
    cases s with
    | val d => exact z0 d rfl
    | own n => exact h1 i n e z1
    | bor n =>
      obtain ⟨hb, _, w1, _⟩ := r.sl i _ e
      rw [getD_some w1] at z1
      have z1 : c.adr i = a := V.ref.inj (Option.some.inj (Option.some.inj z1))
      exact h2 i hb z1
/-- a slot takes a datum; not a lent one -/
theorem Rel.set (r : Rel K c F H σ δ) {i : Nat} {v : V} {d : D} (h : Den K F d v) (nb : ∀ m, δ[i]? ≠ some (some (.bor m))) : Rel K c F H (σ.set i (some v)) (δ.set i (some (.val d))) := by
  have nbs : i ∉ c.bs := fun z => let ⟨m, e⟩ := r.borD i z; nb m e
  have nin : ∀ {j : Nat} {m : MD}, (δ.set i (some (.val d)))[j]? = some (some (.own m)) → j ≠ i ∧ δ[j]? = some (some (.own m)) := fun {j m} e => by
    rw [List.getElem?_set] at e
    split at e
    · split at e <;> cases e
    · rename_i z; exact ⟨fun q => z q.symm, e⟩
  refine ⟨r.sub, r.pres, r.low, r.new, r.gs, r.bor0, fun j hj => ?_, r.binj, by rw [List.length_set, List.length_set, r.len], fun j s e => ?_, fun j k a m n e1 e2 e3 e4 => ?_, r.tab⟩
  · have : i ≠ j := fun q => nbs (q ▸ hj)
    rw [List.getElem?_set_ne this]; exact r.borD j hj
  · by_cases q : i = j
    · subst q
      rw [List.getElem?_set] at e
      simp only [if_true] at e
      split at e
      · rename_i hl
        cases e
        exact ⟨v, by rw [List.getElem?_set]; simp only [if_true]; rw [if_pos (by rw [r.len]; exact hl)]; rfl, h⟩
      · cases e
    · rw [List.getElem?_set_ne q] at e
      rw [List.getElem?_set_ne q]
      exact r.sl j s e
  · obtain ⟨n1, o1⟩ := nin e1
    obtain ⟨n2, o2⟩ := nin e2
    rw [List.getElem?_set_ne (fun q => n1 q.symm)] at e3
    rw [List.getElem?_set_ne (fun q => n2 q.symm)] at e4
    exact r.apart j k a m n o1 o2 e3 e4
/-- a slot takes a new object of its own -/
theorem Rel.setOwn (r : Rel K c F H σ δ) {i : Nat} {p : Addr} {o : HO} {m : MD} (hp : H p = some o) (hF : F p = none) (hG : c.G p = none) (h0 : c.H0 p = none) (hm : MDen K F m o) (ap : ∀ (j : Nat) (n : MD), δ[j]? = some (some (Sl.own n)) → σ[j]? ≠ some (some (V.ref p))) (nb : ∀ m, δ[i]? ≠ some (some (.bor m))) :
    Rel K c F H (σ.set i (some (.ref p))) (δ.set i (some (.own m))) := by
  have nbs : i ∉ c.bs := fun z => let ⟨m, e⟩ := r.borD i z; nb m e
  refine ⟨r.sub, r.pres, r.low, r.new, r.gs, r.bor0, fun j hj => ?_, r.binj, by rw [List.length_set, List.length_set, r.len], fun j s e => ?_, fun j k a m1 n1 e1 e2 e3 e4 => ?_, r.tab⟩
  · have : i ≠ j := fun q => nbs (q ▸ hj)
    rw [List.getElem?_set_ne this]; exact r.borD j hj
  · by_cases q : i = j
    · subst q
      rw [List.getElem?_set] at e
      simp only [if_true] at e
      split at e
      · rename_i hl
        cases e
        exact ⟨p, o, by rw [List.getElem?_set]; simp only [if_true]; rw [if_pos (by rw [r.len]; exact hl)]; rfl, hp, hm, hF, hG, h0⟩
      · cases e
    · rw [List.getElem?_set_ne q] at e
      rw [List.getElem?_set_ne q]
      exact r.sl j s e
  · have at_ : ∀ {j : Nat} {n : MD}, (δ.set i (some (.own m)))[j]? = some (some (.own n)) → (σ.set i (some (V.ref p)))[j]? = some (some (.ref a)) → (j = i ∧ a = p) ∨ (j ≠ i ∧ δ[j]? = some (some (.own n)) ∧ σ[j]? = some (some (.ref a))) := fun {j n} g1 g2 => by
      by_cases q : i = j
      · subst q
        rw [List.getElem?_set] at g2
        simp only [if_true] at g2
        split at g2
        · cases g2; exact .inl ⟨rfl, rfl⟩
        · cases g2
      · rw [List.getElem?_set_ne q] at g1 g2
        exact .inr ⟨fun z => q z.symm, g1, g2⟩
    rcases at_ e1 e3 with ⟨q1, z1⟩ | ⟨q1, z1, y1⟩ <;> rcases at_ e2 e4 with ⟨q2, z2⟩ | ⟨q2, z2, y2⟩
    · rw [q1, q2]
    · subst z1; exact absurd y2 (ap k _ z2)
    · subst z2; exact absurd y1 (ap j _ z1)
    · exact r.apart j k a _ _ z1 z2 y1 y2
/-- a slot's own object, or a lent one, is written -/
theorem Rel.write (r : Rel K c F H σ δ) {i : Nat} {a : Addr} {s : Sl} {m m' : MD} {o' : HO} (hi : δ[i]? = some (some s)) (hs : s.mut = some m) (ha : σ[i]? = some (some (.ref a))) (hm : MDen K F m' o') : Rel K c F (upd H a o') σ (δ.set i (some (s.wr m'))) := by
  have hl : i < δ.length := (List.getElem?_eq_some_iff.mp hi).1
  have facts : F a = none ∧ c.G a = none ∧ (∀ (b : Addr) (x : HO), c.H0 b = some x → (∀ j ∈ c.bs, c.adr j ≠ b) → b ≠ a) ∧ (∀ (j : Nat) (s' : Sl), i ≠ j → δ[j]? = some (some s') → (∀ d, s' ≠ .val d) → σ[j]? ≠ some (some (V.ref a))) ∧ SlOk K c F (upd H a o') i (σ[i]?.getD none) (s.wr m') := by
    cases s with
    | val d => cases hs
    | own n =>
      obtain ⟨a', o, e1, e2, e3, e4, e5, e6⟩ := r.own hi
      rw [ha] at e1
      cases e1
      refine ⟨e4, e5, fun b x e _ q => (by subst q; rw [e6] at e; cases e), fun j s' q e z0 z1 => ?_, ⟨a, o', by rw [ha]; rfl, upd_same, hm, e4, e5, e6⟩⟩
      cases s' with
      | val d => exact z0 d rfl
      | own n' => exact q (r.apart i j a _ _ hi e ha z1)
      | bor n' =>
        obtain ⟨hb, _, w1, _⟩ := r.sl j _ e
        rw [getD_some w1] at z1; cases z1
        exact r.bor0 j hb e6
    | bor n =>
      obtain ⟨hb, o, e1, e2, e3, e4, e5⟩ := r.sl i _ hi
      have e1 := getD_some e1
      rw [ha] at e1
      cases e1
      refine ⟨e4, e5, fun b x e q z => q i hb z.symm, fun j s' q e z0 z1 => ?_, ⟨hb, o', by rw [ha]; rfl, upd_same, hm, e4, e5⟩⟩
      cases s' with
      | val d => exact z0 d rfl
      | own n' =>
        obtain ⟨_, _, w1, _, _, _, _, w2⟩ := r.own e
        rw [z1] at w1; cases w1
        exact r.bor0 i hb w2
      | bor n' =>
        obtain ⟨hb', _, w1, _⟩ := r.sl j _ e
        rw [getD_some w1] at z1
        have z1 : c.adr j = c.adr i := V.ref.inj (Option.some.inj (Option.some.inj z1))
        exact q (r.binj i j hb hb' z1.symm)
  obtain ⟨hF, hG, h0, hne, hok⟩ := facts
  have told : TabI c F (upd H a o') := by
    obtain ⟨a', o, g1, g2, g3, _⟩ := r.mutAt hi hs
    rw [ha] at g1; cases g1
    exact r.tab.upd g2 g3.pl
  refine ⟨fun b x e => ?_, fun b x e q => ?_, r.low, r.new, fun b x e => ⟨?_, (r.gs b x e).2⟩, r.bor0, fun j hj => ?_, r.binj, by rw [List.length_set, r.len], fun j s' e => ?_, fun j k b m1 n1 g1 g2 g3 g4 => ?_, told⟩
  · rw [upd_ne (fun q => by subst q; rw [hF] at e; cases e)]; exact r.sub _ _ e
  · rw [upd_ne (h0 b x e q)]; exact r.pres b x e q
  · rw [upd_ne (fun z => by subst z; rw [hG] at e; cases e)]; exact (r.gs b x e).1
  · by_cases q : i = j
    · subst q
      obtain ⟨m, e⟩ := r.borD i hj
      rw [hi] at e; cases e
      exact ⟨m', by rw [List.getElem?_set_self hl]; rfl⟩
    · rw [List.getElem?_set_ne q]; exact r.borD j hj
  · by_cases q : i = j
    · subst q
      rw [List.getElem?_set_self hl] at e
      cases e
      exact hok
    · rw [List.getElem?_set_ne q] at e
      refine (r.sl j s' e).to (.refl _) (fun _ _ _ z _ _ => z) fun b x z0 z1 z2 z3 => ?_
      rw [upd_ne ?_]; exact z2
      intro z
      subst z
      exact hne j s' q e z0 (getD_some z1)
  · have at_ : ∀ {j : Nat} {n : MD}, (δ.set i (some (s.wr m')))[j]? = some (some (Sl.own n)) → ∃ n', δ[j]? = some (some (Sl.own n')) := fun {j n} g => by
      by_cases q : i = j
      · subst q
        rw [List.getElem?_set_self hl] at g
        cases s with
        | val d => cases hs
        | own n' => exact ⟨_, hi⟩
        | bor n' => cases g
      · rw [List.getElem?_set_ne q] at g; exact ⟨_, g⟩
    obtain ⟨_, h1⟩ := at_ g1
    obtain ⟨_, h2⟩ := at_ g2
    exact r.apart j k b _ _ h1 h2 g3 g4
/-- an own object is not changed any more -/
theorem Rel.still (r : Rel K c F H σ δ) {i : Nat} {m : MD} (hi : δ[i]? = some (some (.own m))) : ∃ a o, σ[i]? = some (some (.ref a)) ∧ Same F (upd F a o) ∧ Den K (upd F a o) m.d (.ref a) ∧ Rel K c (upd F a o) H σ (δ.set i (some (.val m.d))) := by
  obtain ⟨a, o, e1, e2, e3, e4, e5, e6⟩ := r.own hi
  have hl : i < δ.length := (List.getElem?_eq_some_iff.mp hi).1
  have sF : Same F (upd F a o) := same_new e4
  have nbs : i ∉ c.bs := fun z => by
    obtain ⟨m, e⟩ := r.borD i z
    rw [hi] at e; cases e
  have ne_ : ∀ {j : Nat} {n : MD}, (δ.set i (some (.val m.d)))[j]? = some (some (Sl.own n)) → i ≠ j ∧ δ[j]? = some (some (Sl.own n)) := fun {j n} g => by
    by_cases q : i = j
    · subst q
      rw [List.getElem?_set_self hl] at g; cases g
    · rw [List.getElem?_set_ne q] at g; exact ⟨q, g⟩
  refine ⟨a, o, e1, sF, e3.still e4, fun b x e => ?_, r.pres, r.low.trans sF, fun b x e => ?_, fun b x e => ⟨(r.gs b x e).1, ?_⟩, r.bor0, fun j hj => ?_, r.binj, by rw [List.length_set, r.len], fun j s e => ?_, fun j k b m1 n1 g1 g2 g3 g4 => ?_, r.tab.lay e3.pl⟩
  · by_cases q : b = a
    · subst q; rw [upd_same] at e; cases e; exact e2
    · rw [upd_ne q] at e; exact r.sub _ _ e
  · by_cases q : b = a
    · subst q; exact .inr (.inl e6)
    · rw [upd_ne q] at e; exact r.new _ _ e
  · rw [upd_ne (fun z => by subst z; rw [e5] at e; cases e)]; exact (r.gs b x e).2
  · have : i ≠ j := fun q => nbs (q ▸ hj)
    rw [List.getElem?_set_ne this]; exact r.borD j hj
  · by_cases q : i = j
    · subst q
      rw [List.getElem?_set_self hl] at e
      cases e
      exact ⟨.ref a, by rw [e1]; rfl, e3.still e4⟩
    · rw [List.getElem?_set_ne q] at e
      refine (r.sl j s e).to sF (fun b x z1 z2 z0 z3 => ?_) fun b x _ _ z _ => z
      rw [upd_ne ?_]; exact z2
      intro z
      subst z
      have z3 := getD_some z3
      cases s with
      | val d => exact z0 d rfl
      | own n => exact q (r.apart i j b _ _ hi e e1 z3)
      | bor n =>
        obtain ⟨hb, _, w1, _⟩ := r.sl j _ e
        rw [getD_some w1] at z3; cases z3
        exact r.bor0 j hb e6
  · obtain ⟨_, h1⟩ := ne_ g1
    obtain ⟨_, h2⟩ := ne_ g2
    exact r.apart j k b _ _ h1 h2 g3 g4
/-- the tables are written, all else stays -/
theorem Rel.extN (r : Rel K c F H σ δ) {H1 : Hp} (e : LamX.ExtN H H1) (t : LamX.Tabs Tbl.T H1) : Rel K c F H1 σ δ := by
  have k : ∀ {b : Addr} {o : HO}, H b = some o → Pl o → H1 b = some o := fun {b o} h p => e b o h fun ps z => by subst z; exact p
  refine ⟨fun b o h => k (r.sub b o h) (r.tab.fnt b o h), fun b o h q => k (r.pres b o h q) (r.tab.hnt b o h), r.low, r.new, fun b o h => ⟨k (r.gs b o h).1 (r.tab.gnt b o h).pl, (r.gs b o h).2⟩, r.bor0, r.borD, r.binj, r.len, fun i s h => ?_, r.apart, ⟨t, r.tab.fnt, r.tab.gnt, r.tab.hnt⟩⟩
  have z := r.sl i s h
  cases s with
  | val d => exact z
  | own m =>
    obtain ⟨a, o, e1, e2, e3, e4⟩ := z
    exact ⟨a, o, e1, k e2 e3.pl, e3, e4⟩
  | bor m =>
    obtain ⟨hi, o, e1, e2, e3, e4⟩ := z
    exact ⟨hi, o, e1, k e2 e3.pl, e3, e4⟩
end
end PV

/-! PV2: readings by functions on data; expressions. -/
namespace PV
open PySem PySem.Spec PyProof.Rows L2
variable [Tbl]

/-- an exception: its class, its fields -/
structure XD where
  c : Str
  fs : List (Str × D)
inductive R (α : Type) where
  | ok (a : α) (δ : DE)
  | exc (x : XD) (δ : DE)
  | stuck
def R.bind {α β : Type} (r : R α) (g : α → DE → R β) : R β :=
  match r with
  | .ok a δ => g a δ
  | .exc x δ => .exc x δ
  | .stuck => .stuck
def R.of {α : Type} (o : Option α) (δ : DE) : R α :=
  match o with
  | some a => .ok a δ
  | none => .stuck
theorem R.bind_ok {α β : Type} {a : α} {δ : DE} {g : α → DE → R β} : (R.ok a δ).bind g = g a δ := rfl

/-- the class of a name -/
def ClsIs (K : PySem.W.Frag) (n : Str) (cls : Value) : Prop := PySem.W.nsIn K mainGlobals n = some (some cls) ∨ (PySem.W.nsIn K mainGlobals n = some none ∧ bootBuiltins n = some cls)
theorem ClsIs.uniq {K : PySem.W.Frag} {n : Str} {a b : Value} (h : ClsIs K n a) (g : ClsIs K n b) : a = b := by
  rcases h with h | ⟨h, h2⟩ <;> rcases g with g | ⟨g, g2⟩ <;> rw [h] at g
  · exact Option.some.inj (Option.some.inj g)
  · cases g
  · cases g
  · rw [h2] at g2; exact Option.some.inj g2
def XOk (K : PySem.W.Frag) (F H : Hp) (x : XD) (cls : Value) (od : Option Addr) : Prop :=
  ClsIs K x.c cls ∧ match od with
    | none => x.fs = []
    | some a => x.fs ≠ [] ∧ ∃ fs, H a = some (.xd fs) ∧ DenF K F x.fs fs

/-- what is wanted of a result -/
def aft {α β : Type} (K : PySem.W.Frag) (W : WX) (DN : Cq → Hp → Hp → L2.St → DE → α → β → Prop) (c : Cq) (F : Hp) (σ : L2.St) (Q : β → Hp → Prop) : R α → Prop
  | .ok a δ => ∀ v F' H', Rel K c F' H' σ δ → Same F F' → DN c F' H' σ δ a v → Q v H'
  | .exc x δ => ∀ cls od F' H', Rel K c F' H' σ δ → Same F F' → XOk K F' H' x cls od → W cls od σ H'
  | .stuck => False
def rd {α β : Type} (K : PySem.W.Frag) (W : WX) (DN : Cq → Hp → Hp → L2.St → DE → α → β → Prop) (f : DE → R α) : L2.St → Hp → (β → Hp → Prop) → Prop :=
  fun σ H Q => ∃ c F δ, Rel K c F H σ δ ∧ aft K W DN c F σ Q (f δ)

/-- values, lists of values, truths -/
abbrev dnE (K : PySem.W.Frag) : Cq → Hp → Hp → L2.St → DE → D → V → Prop := fun _ F _ _ _ d v => Den K F d v
abbrev dnB : Cq → Hp → Hp → L2.St → DE → Bool → Bool → Prop := fun _ _ _ _ _ b v => v = b
abbrev dnO : Cq → Hp → Hp → L2.St → DE → Option Int → Option Int → Prop := fun _ _ _ _ _ b v => v = b
/-- an argument: a datum, or a slot whose object is lent -/
inductive Arg where
  | val (d : D)
  | slot (i : Nat)
def ArgD (K : PySem.W.Frag) (F : Hp) (σ : L2.St) : Arg → V → Prop
  | .val d, v => Den K F d v
  | .slot i, v => σ[i]? = some (some v)
def ArgsD (K : PySem.W.Frag) (F : Hp) (σ : L2.St) : List Arg → List V → Prop
  | [], vs => vs = []
  | a :: as, vs => ∃ v r, vs = v :: r ∧ ArgD K F σ a v ∧ ArgsD K F σ as r
abbrev dnA (K : PySem.W.Frag) : Cq → Hp → Hp → L2.St → DE → List Arg → List V → Prop := fun _ F _ σ _ as vs => ArgsD K F σ as vs
/-- a new object of one's own -/
abbrev dnN (K : PySem.W.Frag) : Cq → Hp → Hp → L2.St → DE → MD → V → Prop := fun c F H σ δ m v => ∃ p o, v = .ref p ∧ H p = some o ∧ MDen K F m o ∧ F p = none ∧ c.G p = none ∧ c.H0 p = none ∧
  ∀ (j : Nat) (n : MD), δ[j]? = some (some (Sl.own n)) → σ[j]? ≠ some (some (V.ref p))

abbrev rdE (K : PySem.W.Frag) (W : WX) (f : DE → R D) : TE := rd K W (dnE K) f
abbrev rdT (K : PySem.W.Frag) (W : WX) (f : DE → R Bool) : TT := rd K W dnB f
abbrev rdA (K : PySem.W.Frag) (W : WX) (f : DE → R (List Arg)) : TA := rd K W (dnA K) f
abbrev rdO (K : PySem.W.Frag) (W : WX) (f : DE → R (Option Int)) : TO := rd K W dnO f
abbrev rdN (K : PySem.W.Frag) (W : WX) (f : DE → R MD) : TE := rd K W (dnN K) f

theorem ArgD.mono {K : PySem.W.Frag} {F F' : Hp} {σ : L2.St} (e : Same F F') : ∀ {a : Arg} {v : V}, ArgD K F σ a v → ArgD K F' σ a v
  | .val _, _, h => Den.mono e _ _ h
  | .slot _, _, h => h
theorem ArgsD.mono {K : PySem.W.Frag} {F F' : Hp} {σ : L2.St} (e : Same F F') : ∀ {as : List Arg} {vs : List V}, ArgsD K F σ as vs → ArgsD K F' σ as vs
  | [], _, h => h
  | _ :: _, _, ⟨v, r, e1, h1, h2⟩ => ⟨v, r, e1, h1.mono e, h2.mono e⟩

section
variable {α β γ δ' : Type} {K : PySem.W.Frag} {W : WX} {DN : Cq → Hp → Hp → L2.St → DE → α → β → Prop} {DM : Cq → Hp → Hp → L2.St → DE → γ → δ' → Prop} {σ : L2.St} {H : Hp}

theorem aft.mono {c : Cq} {F F1 : Hp} {Q Q' : β → Hp → Prop} : ∀ {r : R α}, aft K W DN c F σ Q r → Same F F1 → (∀ v H', Q v H' → Q' v H') → aft K W DN c F1 σ Q' r
  | .ok a δ, h, s, q => fun v F' H' r e d => q v H' (h v F' H' r (s.trans e) d)
  | .exc x δ, h, s, _ => fun cls od F' H' r e d => h cls od F' H' r (s.trans e) d
  | .stuck, h, _, _ => h
theorem rd.mono {f : DE → R α} {Q Q' : β → Hp → Prop} (h : rd K W DN f σ H Q) (q : ∀ v H', Q v H' → Q' v H') : rd K W DN f σ H Q' := by
  obtain ⟨c, F, δ, r, a⟩ := h
  exact ⟨c, F, δ, r, a.mono (.refl _) q⟩
/-- the first part of a whole -/
theorem rd.first {f : DE → R γ} {g : γ → DE → R α} {Q : β → Hp → Prop} {Q' : δ' → Hp → Prop} (h : rd K W DN (fun δ => (f δ).bind g) σ H Q)
    (k : ∀ c F H1 δ a v, Rel K c F H1 σ δ → DM c F H1 σ δ a v → aft K W DN c F σ Q (g a δ) → Q' v H1) : rd K W DM f σ H Q' := by
  obtain ⟨c, F, δ, r, a⟩ := h
  refine ⟨c, F, δ, r, ?_⟩
  cases e : f δ with
  | ok x δ1 =>
    have a : aft K W DN c F σ Q ((f δ).bind g) := a
    rw [e] at a
    exact fun v F' H' r' s d => k c F' H' δ1 x v r' d (a.mono s fun _ _ z => z)
  | exc x δ1 =>
    have a : aft K W DN c F σ Q ((f δ).bind g) := a
    rw [e] at a
    exact a
  | stuck =>
    have a : aft K W DN c F σ Q ((f δ).bind g) := a
    rw [e] at a
    exact a
/-- and a further part -/
theorem aft.next {c : Cq} {F : Hp} {δ : DE} {f : DE → R γ} {g : γ → DE → R α} {Q : β → Hp → Prop} {Q' : δ' → Hp → Prop} (r : Rel K c F H σ δ) (h : aft K W DN c F σ Q ((f δ).bind g))
    (k : ∀ F1 H1 δ1 a v, Rel K c F1 H1 σ δ1 → Same F F1 → DM c F1 H1 σ δ1 a v → aft K W DN c F1 σ Q (g a δ1) → Q' v H1) : rd K W DM f σ H Q' := by
  refine ⟨c, F, δ, r, ?_⟩
  cases e : f δ with
  | ok x δ1 =>
    rw [e] at h
    exact fun v F' H' r' s d => k F' H' δ1 x v r' s d (h.mono s fun _ _ z => z)
  | exc x δ1 => rw [e] at h; exact h
  | stuck => rw [e] at h; exact h
end

/-! ### expressions -/
abbrev VE (X : Cx) (W : WX) (e : Expr) (f : DE → R D) : Prop := PE X e (rdE X.K W f)
abbrev VT (X : Cx) (W : WX) (e : Expr) (f : DE → R Bool) : Prop := PT X e (rdT X.K W f)
abbrev VA (X : Cx) (W : WX) (es : List Expr) (f : DE → R (List Arg)) : Prop := PA X es (rdA X.K W f)
abbrev VN (X : Cx) (W : WX) (e : Expr) (f : DE → R MD) : Prop := PE X e (rdN X.K W f)
abbrev VO (X : Cx) (W : WX) (e : Option Expr) (f : DE → R (Option Int)) : Prop := PO X e (rdO X.K W f)
theorem PE.to {X : Cx} {e : Expr} {t t' : TE} (h : PE X e t) (i : ∀ σ H Q, t' σ H Q → t σ H Q) : PE X e t' := ⟨fun pins s σ H Q I z => h.run pins s σ H Q I (i σ H Q z)⟩
theorem PT.to {X : Cx} {e : Expr} {t t' : TT} (h : PT X e t) (i : ∀ σ H Q, t' σ H Q → t σ H Q) : PT X e t' := ⟨fun pins s σ H Q I z => h.run pins s σ H Q I (i σ H Q z)⟩
theorem PW.to {X : Cx} {e : Expr} {t t' : TT} (h : PW X e t) (i : ∀ σ H Q, t' σ H Q → t σ H Q) : PW X e t' := ⟨fun E pins s σ H Q I z => h.run E pins s σ H Q I (i σ H Q z)⟩
theorem PA.to {X : Cx} {e : List Expr} {t t' : TA} (h : PA X e t) (i : ∀ σ H Q, t' σ H Q → t σ H Q) : PA X e t' := ⟨fun pos pins s σ H Q I z => h.run pos pins s σ H Q I (i σ H Q z)⟩
theorem PO.to {X : Cx} {e : Option Expr} {t t' : TO} (h : PO X e t) (i : ∀ σ H Q, t' σ H Q → t σ H Q) : PO X e t' := ⟨fun pins s σ H Q I z => h.run pins s σ H Q I (i σ H Q z)⟩

/-- a datum that is written -/
def cst (d : D) : DE → R D := fun δ => .ok d δ
/-- a name: a datum, or an own object that is not changed from here on -/
def var (i : Nat) : DE → R D := fun δ =>
  match δ[i]? with
  | some (some (.val d)) => .ok d δ
  | some (some (.own m)) => .ok m.d (δ.set i (some (.val m.d)))
  | _ => .stuck
section
variable {X : Cx} {W : WX} {a b e : Expr} {fa fb : DE → R D} {pos : Pos}

theorem rd_cst {K : PySem.W.Frag} {d : D} {v : V} {σ : L2.St} {H : Hp} {Q : VK} (hd : ∀ F, Den K F d v) (h : rdE K W (cst d) σ H Q) : Q v H := by
  obtain ⟨c, F, δ, r, z⟩ := h
  exact z v F H r (.refl _) (hd F)
theorem ve_int {i j pos} : VE X W (.Constant (.int i) j pos) (cst (.int i)) := PE.to pe_int fun _ _ _ h => rd_cst (d := .int i) (v := .int i) (fun _ => by unfold Den; rfl) h
theorem ve_str {i j pos} : VE X W (.Constant (.str i) j pos) (cst (.str i)) := PE.to pe_str fun _ _ _ h => rd_cst (d := .str i) (v := .str i) (fun _ => by unfold Den; rfl) h
theorem ve_bl {i j pos} : VE X W (.Constant (.bool i) j pos) (cst (.bl i)) := PE.to pe_bl fun _ _ _ h => rd_cst (d := .bl i) (v := .bl i) (fun _ => by unfold Den; rfl) h
theorem ve_non {j pos} : VE X W (.Constant .none j pos) (cst .non) := PE.to pe_non fun _ _ _ h => rd_cst (d := .non) (v := .non) (fun _ => by unfold Den; rfl) h
theorem ve_byt {x k pos} : VE X W (.Constant (.bytes x) k pos) (cst (.byt x.toArray)) := PE.to pe_byt fun _ _ _ h => rd_cst (d := .byt x.toArray) (v := .byt x.toArray) (fun _ => by unfold Den; rfl) h
/-- a module's constant -/
theorem ve_glob {x : Str} {v : V} {d : D} {u : Value} {pos : Pos} (hg : Gl X x) (hm : X.mg x = some u) (r : RelV v u) (hd : ∀ F, Den X.K F d v) (hdb : (x == ("__debug__" : Str)) = false := by decide) : VE X W (.Name x pos) (cst d) :=
  PE.to (pe_glob hg hm r hdb) fun _ _ _ h => rd_cst hd h
theorem ve_bltn {x : Str} {v : V} {d : D} {u : Value} {pos : Pos} (hg : Gl X x) (hm : X.mg x = none) (hv : bootBuiltins x = some u) (r : RelV v u) (hd : ∀ F, Den X.K F d v) (hn : x ≠ "__name__" := by decide) (hdb : (x == ("__debug__" : Str)) = false := by decide) : VE X W (.Name x pos) (cst d) :=
  PE.to (pe_bltn hg hm hv r hn hdb) fun _ _ _ h => rd_cst hd h

theorem rd_var {K : PySem.W.Frag} {i : Nat} {σ : L2.St} {H : Hp} {Q : VK} (h : rdE K W (var i) σ H Q) : tVar i σ H Q := by
  obtain ⟨c, F, δ, r, z⟩ := h
  unfold var at z
  cases e : δ[i]? with
  | none => rw [e] at z; exact False.elim z
  | some s =>
    rw [e] at z
    cases s with
    | none => exact False.elim z
    | some s =>
      cases s with
      | val d =>
        obtain ⟨v, e1, e2⟩ := r.val e
        exact ⟨v, e1, z v F H r (.refl _) e2⟩
      | own m =>
        obtain ⟨a, o, e1, e2, e3, e4⟩ := r.still e
        exact ⟨.ref a, e1, z _ _ H e4 e2 e3⟩
      | bor m => exact False.elim z
theorem ve_var (i : Nat) {x : Str} {pos : Pos} (hN : X.N[i]? = some x := by rfl) (hv : Vis X.env.scope x := by first | exact Or.inl rfl | exact Or.inr (Or.inl rfl) | exact Or.inr (Or.inr rfl)) (hd : (x == ("__debug__" : Str)) = false := by decide)
    (hcd : (x == ("__classdict__" : Str)) = false := by decide) : VE X W (.Name x pos) (var i) := PE.to (pe_var hN hv hd hcd) fun _ _ _ h => rd_var h

/-! ### operators -/
def op2 (o : D → D → Option D) (fa fb : DE → R D) : DE → R D := fun δ => (fa δ).bind fun x δ => (fb δ).bind fun y δ => R.of (o x y) δ
/-- an operation on values, by a function on data -/
def Op2 (X : Cx) (sem : Value → Value → Sem Value) (o : D → D → Option D) : Prop :=
  ∃ r : R2, OpR X sem r ∧ ∀ c F H σ δ d e z v w (Q : VK), Rel X.K c F H σ δ → Den X.K F d v → Den X.K F e w → o d e = some z →
    (∀ u F' H', Rel X.K c F' H' σ δ → Same F F' → Den X.K F' z u → Q u H') → r v w H Q
theorem Op2.rd {sem : Value → Value → Sem Value} {o : D → D → Option D} (h : Op2 X sem o) : ∃ r, OpR X sem r ∧ ∀ σ H Q, rdE X.K W (op2 o fa fb) σ H Q → tOp r (rdE X.K W fa) (rdE X.K W fb) σ H Q := by
  obtain ⟨r, h1, h2⟩ := h
  refine ⟨r, h1, fun σ H Q z => ?_⟩
  refine z.first fun c F H1 δ x v r1 d1 z1 => ?_
  refine z1.next (DM := dnE X.K) r1 fun F2 H2 δ2 y w r2 s2 d2 z2 => ?_
  cases e : o x y with
  | none => rw [e] at z2; exact False.elim z2
  | some q =>
    rw [e] at z2
    exact h2 c F2 H2 σ δ2 x y q v w Q r2 (Den.mono s2 _ _ d1) d2 e fun u F' H' r' s' d' => z2 u F' H' r' s' d'
theorem ve_op {op : Operator} {o : D → D → Option D} (h : Op2 X (binaryOp op) o) (ha : VE X W a fa) (hb : VE X W b fb) : VE X W (.BinOp a op b pos) (op2 o fa fb) := by
  obtain ⟨r, h1, h2⟩ := h.rd (W := W) (fa := fa) (fb := fb)
  exact PE.to (pe_op h1 ha hb) h2
theorem ve_cmp {op : CmpOp} {o : D → D → Option D} (h : Op2 X (compareOp op) o) (ha : VE X W a fa) (hb : VE X W b fb) (hm : behindInMarks op b = false) : VE X W (.Compare a [op] [b] pos) (op2 o fa fb) := by
  obtain ⟨r, h1, h2⟩ := h.rd (W := W) (fa := fa) (fb := fb)
  exact PE.to (pe_cmpR h1 ha hb hm) h2
theorem Op2.or {sem : Value → Value → Sem Value} {o o' : D → D → Option D} (h : Op2 X sem o) (h' : Op2 X sem o') : Op2 X sem (fun x y => (o x y).or (o' x y)) := by
  obtain ⟨r, h1, h2⟩ := h
  obtain ⟨r', h1', h2'⟩ := h'
  refine ⟨_, OpR.or h1 h1', fun c F H σ δ d e z v w Q r0 d1 d2 q k => ?_⟩
  have q : (o d e).or (o' d e) = some z := q
  cases e1 : o d e with
  | some y =>
    rw [e1] at q
    exact .inl (h2 c F H σ δ d e z v w Q r0 d1 d2 (by rw [e1]; exact q) k)
  | none =>
    rw [e1] at q
    exact .inr (h2' c F H σ δ d e z v w Q r0 d1 d2 q k)

/-! ### tests -/
def tst (f : DE → R D) : DE → R Bool := fun δ => (f δ).bind fun x δ => match x with
  | .bl b => .ok b δ
  | _ => .stuck
theorem rd_tst {K : PySem.W.Frag} {f : DE → R D} {σ : L2.St} {H : Hp} {Q : Bool → Hp → Prop} (h : rdT K W (tst f) σ H Q) : rdE K W f σ H fun x H' => ∃ k, x = .bl k ∧ Q k H' := by
  refine h.first fun c F H1 δ x v r1 d1 z1 => ?_
  cases x <;> first | exact False.elim z1 | skip
  exact ⟨_, d1, z1 _ F H1 r1 (.refl _) rfl⟩
/-- a test that is a truth value -/
theorem vt_val {f : DE → R D} (h : VE X W e f) (he : ∀ whole, isTrue e X.env whole = (do let v ← whole; standAt e.pos; holding [v] (truthy v)) := by intro _; rfl) : VT X W e (tst f) :=
  PT.to (pt_val h he) fun _ _ _ z => rd_tst z
theorem vt_cmp {op : CmpOp} {o : D → D → Option D} (h : Op2 X (compareOp op) o) (ha : VE X W a fa) (hb : VE X W b fb) (hm : behindInMarks op b = false) : VT X W (.Compare a [op] [b] pos) (tst (op2 o fa fb)) := by
  obtain ⟨r, h1, h2⟩ := h.rd (W := W) (fa := fa) (fb := fb)
  exact PT.to (pt_cmpR h1 ha hb hm) fun σ H Q z => h2 σ H _ (rd_tst z)
def andT (f g : DE → R Bool) : DE → R Bool := fun δ => (f δ).bind fun b δ => if b = true then g δ else .ok false δ
def orT (f g : DE → R Bool) : DE → R Bool := fun δ => (f δ).bind fun b δ => if b = true then .ok true δ else g δ
def notT (f : DE → R Bool) : DE → R Bool := fun δ => (f δ).bind fun b δ => .ok (!b) δ
theorem rd_here {α β : Type} {K : PySem.W.Frag} {DN : Cq → Hp → Hp → L2.St → DE → α → β → Prop} {c : Cq} {F H : Hp} {σ : L2.St} {δ : DE} {g : DE → R α} {Q : β → Hp → Prop} (r : Rel K c F H σ δ) (h : aft K W DN c F σ Q (g δ)) : rd K W DN g σ H Q := ⟨c, F, δ, r, h⟩
theorem rd_and {K : PySem.W.Frag} {f g : DE → R Bool} {σ : L2.St} {H : Hp} {Q : Bool → Hp → Prop} (h : rdT K W (andT f g) σ H Q) : tAnd (rdT K W f) (rdT K W g) σ H Q := by
  refine h.first fun c F H1 δ b v r1 d1 z1 => ?_
  cases (show v = b from d1)
  cases b with
  | true => exact rd_here r1 z1
  | false => exact z1 _ F H1 r1 (.refl _) rfl
theorem rd_or {K : PySem.W.Frag} {f g : DE → R Bool} {σ : L2.St} {H : Hp} {Q : Bool → Hp → Prop} (h : rdT K W (orT f g) σ H Q) : tOr (rdT K W f) (rdT K W g) σ H Q := by
  refine h.first fun c F H1 δ b v r1 d1 z1 => ?_
  cases (show v = b from d1)
  cases b with
  | true => exact z1 _ F H1 r1 (.refl _) rfl
  | false => exact rd_here r1 z1
theorem vt_not {f : DE → R Bool} (h : VT X W e f) : VT X W (.UnaryOp .Not e pos) (notT f) := PT.to (pt_not h) fun σ H Q z => by
  refine z.first fun c F H1 δ b v r1 d1 z1 => ?_
  cases (show v = b from d1)
  exact z1 _ F H1 r1 (.refl _) rfl
section
variable {b : Expr} {rest : List Expr} {f g : DE → R Bool}
abbrev VW (X : Cx) (W : WX) (e : Expr) (f : DE → R Bool) : Prop := PW X e (rdT X.K W f)
theorem vw_and1 (h : VT X W a f) : VW X W (.BoolOp .And [a] pos) f := pw_and1 h
theorem vw_or1 (h : VT X W a f) : VW X W (.BoolOp .Or [a] pos) f := pw_or1 h
theorem vw_and (h : VT X W a f) (k : VW X W (.BoolOp .And (b :: rest) pos) g) : VW X W (.BoolOp .And (a :: b :: rest) pos) (andT f g) := PW.to (pw_and h k) fun _ _ _ z => rd_and z
theorem vw_or (h : VT X W a f) (k : VW X W (.BoolOp .Or (b :: rest) pos) g) : VW X W (.BoolOp .Or (a :: b :: rest) pos) (orT f g) := PW.to (pw_or h k) fun _ _ _ z => rd_or z
theorem vt_w (h : VW X W e f) : VT X W e f := h.pt
end
/-! and, or, not of truth values, as values -/
def andE (f g : DE → R D) : DE → R D := fun δ => (f δ).bind fun b δ => match b with
  | .bl true => g δ
  | .bl false => .ok (.bl false) δ
  | _ => .stuck
def orE (f g : DE → R D) : DE → R D := fun δ => (f δ).bind fun b δ => match b with
  | .bl true => .ok (.bl true) δ
  | .bl false => g δ
  | _ => .stuck
def notE (f : DE → R D) : DE → R D := fun δ => (f δ).bind fun b δ => match b with
  | .bl b => .ok (.bl (!b)) δ
  | _ => .stuck
section
variable {b : Expr} {rest : List Expr}
theorem ve_one {op} (h : VE X W a fa) : VE X W (.BoolOp op [a] pos) fa := pe_one h
theorem ve_and (h : VE X W a fa) (k : VE X W (.BoolOp .And (b :: rest) pos) fb) : VE X W (.BoolOp .And (a :: b :: rest) pos) (andE fa fb) := PE.to (pe_and h k) fun σ H Q z => by
  refine z.first fun c F H1 δ x v r1 d1 z1 => ?_
  cases x <;> first | exact False.elim z1 | skip
  rename_i k
  refine ⟨k, d1, ?_⟩
  cases k with
  | true => exact rd_here r1 z1
  | false => exact z1 _ F H1 r1 (.refl _) rfl
theorem ve_or (h : VE X W a fa) (k : VE X W (.BoolOp .Or (b :: rest) pos) fb) : VE X W (.BoolOp .Or (a :: b :: rest) pos) (orE fa fb) := PE.to (pe_or h k) fun σ H Q z => by
  refine z.first fun c F H1 δ x v r1 d1 z1 => ?_
  cases x <;> first | exact False.elim z1 | skip
  rename_i k
  refine ⟨k, d1, ?_⟩
  cases k with
  | true => exact z1 _ F H1 r1 (.refl _) rfl
  | false => exact rd_here r1 z1
theorem ve_not (h : VE X W a fa) : VE X W (.UnaryOp .Not a pos) (notE fa) := PE.to (pe_not h) fun σ H Q z => by
  refine z.first fun c F H1 δ x v r1 d1 z1 => ?_
  cases x <;> first | exact False.elim z1 | skip
  exact ⟨_, d1, z1 _ F H1 r1 (.refl _) rfl⟩
end
/-- x if t else y -/
def ifE (t : DE → R Bool) (f g : DE → R D) : DE → R D := fun δ => (t δ).bind fun b δ => if b = true then f δ else g δ
theorem ve_if {c : Expr} {ft : DE → R Bool} (hc : VT X W c ft) (ha : VE X W a fa) (hb : VE X W b fb) : VE X W (.IfExp c a b pos) (ifE ft fa fb) := PE.to (pe_ifExp hc ha hb) fun σ H Q z => by
  refine z.first (DM := dnB) fun c F H1 δ x v r1 d1 z1 => ?_
  cases (show v = x from d1)
  cases x with
  | true => exact rd_here r1 z1
  | false => exact rd_here r1 z1
/-- a op b op' c -/
def chn (o o' : D → D → Option D) (fa fb fc : DE → R D) : DE → R D := fun δ => (fa δ).bind fun x δ => (fb δ).bind fun y δ => (R.of (o x y) δ).bind fun z δ => match z with
  | .bl true => (fc δ).bind fun w δ => R.of (o' y w) δ
  | .bl false => .ok (.bl false) δ
  | _ => .stuck
theorem rd_chn {c : Expr} {fc : DE → R D} {op op' : CmpOp} {o o' : D → D → Option D} (h : Op2 X (compareOp op) o) (h' : Op2 X (compareOp op') o') : ∃ r r', OpR X (compareOp op) r ∧ OpR X (compareOp op') r' ∧
    ∀ σ H Q, rdE X.K W (chn o o' fa fb fc) σ H Q → tChain r r' (rdE X.K W fa) (rdE X.K W fb) (rdE X.K W fc) σ H Q := by
  obtain ⟨r, h1, h2⟩ := h
  obtain ⟨r', h1', h2'⟩ := h'
  refine ⟨r, r', h1, h1', fun σ H Q z => ?_⟩
  refine z.first fun c F H1 δ x v r1 d1 z1 => ?_
  refine z1.next (DM := dnE X.K) r1 fun F2 H2 δ2 y w r2 s2 d2 z2 => ?_
  cases e : o x y with
  | none => rw [e] at z2; exact False.elim z2
  | some q =>
    rw [e] at z2
    refine h2 c F2 H2 σ δ2 x y q v w _ r2 (Den.mono s2 _ _ d1) d2 e fun u F3 H3 r3 s3 d3 => ?_
    cases q <;> first | exact False.elim z2 | skip
    rename_i k
    refine ⟨k, d3, ?_⟩
    have z3 := z2.mono s3 fun _ _ z => z
    cases k with
    | true =>
      refine aft.next (DM := dnE X.K) (f := fc) (g := fun w δ => R.of (o' y w) δ) r3 z3 fun F4 H4 δ4 t w' r4 s4 d4 z4 => ?_
      cases e' : o' y t with
      | none => rw [e'] at z4; exact False.elim z4
      | some q' =>
        rw [e'] at z4
        exact h2' c F4 H4 σ δ4 y t q' w w' Q r4 (Den.mono (s3.trans s4) _ _ d2) d4 e' fun u F' H' r' s' d' => z4 u F' H' r' s' d'
    | false => exact z3 _ F3 H3 r3 (.refl _) rfl
theorem ve_chain {c : Expr} {fc : DE → R D} {op op' : CmpOp} {o o' : D → D → Option D} (h : Op2 X (compareOp op) o) (h' : Op2 X (compareOp op') o') (ha : VE X W a fa) (hb : VE X W b fb) (hc : VE X W c fc)
    (hm : lastMarks [op, op'] [b, c] = false := by with_unfolding_all rfl) : VE X W (.Compare a [op, op'] [b, c] pos) (chn o o' fa fb fc) := by
  obtain ⟨r, r', h1, h2, h3⟩ := rd_chn (W := W) (fa := fa) (fb := fb) (c := c) (fc := fc) h h'
  exact PE.to (pe_chain h1 h2 ha hb hc hm) h3
end
end PV

/-! PV3: what a def is worth; calls; statements. -/
namespace PV
open PySem PySem.Spec PyProof.Rows L2
variable [Tbl]

/-! ### a def as a function -/
inductive FR where
  | ret (d : D) (as : List Sl)
  | exc (x : XD) (as : List Sl)
  | stuck
/-- the heap without tables and code objects -/
def pl (H : Hp) : Hp := fun b => match H b with
  | some (.tbl _) => none
  | some (.ext _) => none
  | x => x
theorem pl_of {H : Hp} {b : Addr} {o : HO} (h : pl H b = some o) : H b = some o ∧ Pl o := by
  unfold pl at h
  split at h
  · cases h
  · cases h
  · rename_i n1 n2
    refine ⟨h, ?_⟩
    cases o with
    | tbl ps => exact n1 ps h
    | ext f => exact n2 f h
    | _ => trivial
theorem pl_to {H : Hp} {b : Addr} {o : HO} (h : H b = some o) (p : Pl o) : pl H b = some o := by
  unfold pl
  rw [h]
  cases o with
  | tbl ps => exact False.elim p
  | ext f => exact False.elim p
  | _ => rfl
theorem pl_none {H : Hp} {b : Addr} (h : H b = none) : pl H b = none := by unfold pl; rw [h]
theorem pl_same {H : Hp} : Same (pl H) H := fun b o h => (pl_of h).1
def ArgOk (K : PySem.W.Frag) (F H : Hp) (s : Sl) (v : V) : Prop :=
  match s with
  | .val d => Den K F d v
  | .bor m => ∃ a o, v = .ref a ∧ H a = some o ∧ MDen K F m o ∧ F a = none
  | .own _ => False
structure AOk (K : PySem.W.Frag) (F H : Hp) (as : List Sl) (vs : List V) : Prop where
  sub : Same F H
  len : as.length = vs.length
  ok : ∀ (i : Nat) (s : Sl) (v : V), as[i]? = some s → vs[i]? = some v → ArgOk K F H s v
  apart : ∀ (i j : Nat) (a : Addr) (m n : MD), as[i]? = some (.bor m) → as[j]? = some (.bor n) → vs[i]? = some (.ref a) → vs[j]? = some (.ref a) → i = j
  tabs : LamX.Tabs Tbl.T H
  fnt : ∀ b o, F b = some o → Pl o
structure Done (K : PySem.W.Frag) (F H : Hp) (as : List Sl) (vs : List V) (F' H' : Hp) (as' : List Sl) : Prop where
  low : Same F F'
  args : AOk K F' H' as' vs
  new : ∀ b o, F' b = some o → F b = some o ∨ pl H b = none ∨ ∃ xs, o = HO.tup xs
  pres : ∀ b o, pl H b = some o → (∀ (i : Nat) (m : MD), as[i]? = some (.bor m) → vs[i]? ≠ some (.ref b)) → H' b = some o
  keep : ∀ (i : Nat) (m : MD), as[i]? = some (.bor m) → ∃ m', as'[i]? = some (.bor m')
def spV (K : PySem.W.Frag) (φ : List Sl → FR) : Sp := fun vs H Q E => ∃ F as, AOk K F H as vs ∧
  match φ as with
  | .ret d as' => ∀ v F' H', Done K F H as vs F' H' as' → Den K F' d v → Q v H'
  | .exc x as' => ∀ cls od F' H', Done K F H as vs F' H' as' → XOk K F' H' x cls od → E cls od H'
  | .stuck => False

/-! ### a statement -/
inductive O where
  | nx (δ : DE)
  | ret (d : D) (δ : DE)
  | brk (δ : DE)
  | cnt (δ : DE)
  | exc (x : XD) (δ : DE)
  | stuck
def aftS (K : PySem.W.Frag) (W : WX) (N : Ends) (c : Cq) (F : Hp) : O → Prop
  | .nx δ => ∀ σ' F' H', Rel K c F' H' σ' δ → Same F F' → N.nx σ' H'
  | .ret d δ => ∀ v σ' F' H', Rel K c F' H' σ' δ → Same F F' → Den K F' d v → N.rt v H'
  | .brk δ => ∀ σ' F' H', Rel K c F' H' σ' δ → Same F F' → N.bk σ' H'
  | .cnt δ => ∀ σ' F' H', Rel K c F' H' σ' δ → Same F F' → N.ct σ' H'
  | .exc x δ => ∀ cls od σ' F' H', Rel K c F' H' σ' δ → Same F F' → XOk K F' H' x cls od → W cls od σ' H'
  | .stuck => False
def rdS (K : PySem.W.Frag) (W : WX) (g : DE → O) : TS := fun N σ H => ∃ c F δ, Rel K c F H σ δ ∧ aftS K W N c F (g δ)
abbrev VS (X : Cx) (W : WX) (st : Stmt) (g : DE → O) : Prop := PS X st (rdS X.K W g)
abbrev VSs (X : Cx) (W : WX) (st : List Stmt) (g : DE → O) : Prop := PSs X st (rdS X.K W g)
theorem PS.to {X : Cx} {st : Stmt} {t t' : TS} (h : PS X st t) (i : ∀ N σ H, t' N σ H → t N σ H) : PS X st t' := ⟨fun pins s σ H N I z => h.run pins s σ H N I (i N σ H z)⟩
theorem PSs.to {X : Cx} {st : List Stmt} {t t' : TS} (h : PSs X st t) (i : ∀ N σ H, t' N σ H → t N σ H) : PSs X st t' := ⟨fun pins s σ H N I z => h.run pins s σ H N I (i N σ H z)⟩

/-! ### the entry -/
/-- what is handed back of lent things -/
def back : List Sl → DE → List Sl
  | [], _ => []
  | .bor m :: as, some (.bor m') :: δ => .bor m' :: back as δ
  | a :: as, _ :: δ => a :: back as δ
  | a :: as, [] => a :: as
def fnF (n N : Nat) (g : DE → O) : List Sl → FR := fun as =>
  if as.length = n then
    match g (as.map some ++ List.replicate (N - n) none) with
    | .ret d δ => .ret d (back as δ)
    | .nx δ => .ret .non (back as δ)
    | .exc x δ => .exc x (back as δ)
    | _ => .stuck
  else .stuck
theorem back_len : ∀ (as : List Sl) (δ : DE), (back as δ).length = as.length
  | [], _ => rfl
  | .val d :: as, [] => rfl
  | .own d :: as, [] => rfl
  | .bor d :: as, [] => rfl
  | .val d :: as, x :: δ => congrArg (· + 1) (back_len as δ)
  | .own d :: as, x :: δ => congrArg (· + 1) (back_len as δ)
  | .bor d :: as, none :: δ => congrArg (· + 1) (back_len as δ)
  | .bor d :: as, some (.val _) :: δ => congrArg (· + 1) (back_len as δ)
  | .bor d :: as, some (.own _) :: δ => congrArg (· + 1) (back_len as δ)
  | .bor d :: as, some (.bor _) :: δ => congrArg (· + 1) (back_len as δ)
theorem back_val : ∀ {as : List Sl} {δ : DE} {i : Nat} {d : D}, as[i]? = some (.val d) → (back as δ)[i]? = some (.val d)
  | [], _, _, _, h => by simp at h
  | a :: as, [], i, d, h => by cases a <;> exact h
  | .val _ :: as, x :: δ, 0, d, h => h
  | .own _ :: as, x :: δ, 0, d, h => h
  | .bor _ :: as, x :: δ, 0, d, h => by simp at h
  | .val _ :: as, x :: δ, i + 1, d, h => back_val (as := as) (δ := δ) (i := i) h
  | .own _ :: as, x :: δ, i + 1, d, h => back_val (as := as) (δ := δ) (i := i) h
  | .bor _ :: as, none :: δ, i + 1, d, h => back_val (as := as) (δ := δ) (i := i) h
  | .bor _ :: as, some (.val _) :: δ, i + 1, d, h => back_val (as := as) (δ := δ) (i := i) h
  | .bor _ :: as, some (.own _) :: δ, i + 1, d, h => back_val (as := as) (δ := δ) (i := i) h
  | .bor _ :: as, some (.bor _) :: δ, i + 1, d, h => back_val (as := as) (δ := δ) (i := i) h
theorem back_bor : ∀ {as : List Sl} {δ : DE} {i : Nat} {m m' : MD}, as[i]? = some (.bor m) → δ[i]? = some (some (.bor m')) → (back as δ)[i]? = some (.bor m')
  | [], _, _, _, _, h, _ => by simp at h
  | a :: as, [], i, _, _, h, g => by simp at g
  | .val _ :: as, x :: δ, 0, _, _, h, g => by simp at h
  | .own _ :: as, x :: δ, 0, _, _, h, g => by simp at h
  | .bor _ :: as, none :: δ, 0, _, _, h, g => by simp at g
  | .bor _ :: as, some (.val _) :: δ, 0, _, _, h, g => by simp at g
  | .bor _ :: as, some (.own _) :: δ, 0, _, _, h, g => by simp at g
  | .bor _ :: as, some (.bor _) :: δ, 0, _, _, h, g => by
    have g : some (Sl.bor _) = some (Sl.bor _) := Option.some.inj g
    cases g
    rfl
  | .val _ :: as, x :: δ, i + 1, _, _, h, g => back_bor (as := as) (δ := δ) (i := i) h g
  | .own _ :: as, x :: δ, i + 1, _, _, h, g => back_bor (as := as) (δ := δ) (i := i) h g
  | .bor _ :: as, none :: δ, i + 1, _, _, h, g => back_bor (as := as) (δ := δ) (i := i) h g
  | .bor _ :: as, some (.val _) :: δ, i + 1, _, _, h, g => back_bor (as := as) (δ := δ) (i := i) h g
  | .bor _ :: as, some (.own _) :: δ, i + 1, _, _, h, g => back_bor (as := as) (δ := δ) (i := i) h g
  | .bor _ :: as, some (.bor _) :: δ, i + 1, _, _, h, g => back_bor (as := as) (δ := δ) (i := i) h g

/-- the places of lent things -/
def bIx (as : List Sl) : List Nat := (List.range as.length).filter fun i => match as[i]? with
  | some (.bor _) => true
  | _ => false
theorem mem_bIx {as : List Sl} {i : Nat} : i ∈ bIx as ↔ ∃ m, as[i]? = some (.bor m) := by
  unfold bIx
  rw [List.mem_filter, List.mem_range]
  constructor
  · rintro ⟨_, h⟩
    cases e : as[i]? with
    | none => rw [e] at h; cases h
    | some s =>
      rw [e] at h
      cases s <;> first | cases h | skip
      exact ⟨_, rfl⟩
  · rintro ⟨m, e⟩
    exact ⟨(List.getElem?_eq_some_iff.mp e).1, by rw [e]⟩
def adrOf (vs : List V) (i : Nat) : Addr := match vs[i]? with
  | some (.ref a) => a
  | _ => 0
def cq0 (F H : Hp) (as : List Sl) (vs : List V) : Cq := ⟨F, pl H, fun _ => none, adrOf vs, bIx as⟩

section
variable {K : PySem.W.Frag} {F H : Hp} {as : List Sl} {vs : List V} {N : List Str}
theorem AOk.bor (A : AOk K F H as vs) {i : Nat} {m : MD} (h : as[i]? = some (.bor m)) : ∃ o, vs[i]? = some (.ref (adrOf vs i)) ∧ H (adrOf vs i) = some o ∧ MDen K F m o ∧ F (adrOf vs i) = none := by
  have hl : i < vs.length := by rw [← A.len]; exact (List.getElem?_eq_some_iff.mp h).1
  have e := List.getElem?_eq_getElem hl
  obtain ⟨a, o, e1, e2, e3, e4⟩ := A.ok i _ _ h e
  rw [e1] at e
  have ea : adrOf vs i = a := by unfold adrOf; rw [e]
  rw [ea]
  exact ⟨o, e, e2, e3, e4⟩
theorem start_get {i : Nat} (h : i < vs.length) : (L2.start N vs)[i]? = some (vs[i]?) := by
  unfold L2.start
  rw [List.getElem?_append_left (by rw [List.length_map]; exact h), List.getElem?_map, List.getElem?_eq_getElem h]
  rfl
theorem ent_get {i n : Nat} {s : Sl} (h : (as.map some ++ List.replicate n none : DE)[i]? = some (some s)) : as[i]? = some s := by
  by_cases hi : i < as.length
  · rw [List.getElem?_append_left (by rw [List.length_map]; exact hi), List.getElem?_map] at h
    cases e : as[i]? with
    | none => rw [e] at h; cases h
    | some x => rw [e] at h; cases h; rfl
  · rw [List.getElem?_append_right (by rw [List.length_map]; omega), List.getElem?_replicate] at h
    split at h <;> cases h
theorem ent_of {i n : Nat} {s : Sl} (h : as[i]? = some s) : (as.map some ++ List.replicate n none : DE)[i]? = some (some s) := by
  have hi := (List.getElem?_eq_some_iff.mp h).1
  rw [List.getElem?_append_left (by rw [List.length_map]; exact hi), List.getElem?_map, h]
  rfl
theorem AOk.rel (A : AOk K F H as vs) : Rel K (cq0 F H as vs) F H (L2.start N vs) (as.map some ++ List.replicate (N.length - as.length) none) := by
  have b0 : ∀ i ∈ bIx as, ∃ m o, as[i]? = some (.bor m) ∧ vs[i]? = some (.ref (adrOf vs i)) ∧ H (adrOf vs i) = some o ∧ MDen K F m o ∧ F (adrOf vs i) = none := fun i hi => by
    obtain ⟨m, e⟩ := mem_bIx.mp hi
    obtain ⟨o, h⟩ := A.bor e
    exact ⟨m, o, e, h⟩
  refine ⟨A.sub, fun b o e _ => (pl_of e).1, .refl _, fun b o e => .inl e, fun b o e => (nomatch e), fun i hi => ?_, fun i hi => ?_, fun i j hi hj q => ?_, ?_, fun i s e => ?_, fun i j a m n e _ _ _ => ?_, ⟨A.tabs, A.fnt, fun b o e => (nomatch e), fun b o e => (pl_of e).2⟩⟩
  · obtain ⟨m, o, _, _, h, hm, _⟩ := b0 i hi
    intro z
    have z : pl H (adrOf vs i) = none := z
    rw [pl_to h hm.pl] at z; cases z
  · obtain ⟨m, o, e, _⟩ := b0 i hi
    exact ⟨m, ent_of e⟩
  · obtain ⟨m, o, e, e1, _⟩ := b0 i hi
    obtain ⟨m', o', e', e1', _⟩ := b0 j hj
    have q : adrOf vs i = adrOf vs j := q
    rw [q] at e1
    exact A.apart i j _ m m' e e' e1 e1'
  · unfold L2.start
    rw [List.length_append, List.length_map, List.length_replicate, List.length_append, List.length_map, List.length_replicate, A.len]
  · have e := ent_get e
    have hl : i < vs.length := by rw [← A.len]; exact (List.getElem?_eq_some_iff.mp e).1
    have hv := List.getElem?_eq_getElem hl
    have ok := A.ok i s _ e hv
    cases s with
    | val d => exact ⟨_, by rw [start_get hl, hv]; rfl, ok⟩
    | own m => exact False.elim ok
    | bor m =>
      obtain ⟨o, h1, h2, h3, h4⟩ := A.bor e
      exact ⟨mem_bIx.mpr ⟨m, e⟩, o, by rw [start_get hl, h1]; rfl, h2, h3, h4, rfl⟩
  · have e := ent_get e
    have hl : i < vs.length := by rw [← A.len]; exact (List.getElem?_eq_some_iff.mp e).1
    exact False.elim (A.ok i _ _ e (List.getElem?_eq_getElem hl))
/-- behind the body -/
theorem AOk.done (A : AOk K F H as vs) {F' H' : Hp} {σ : L2.St} {δ : DE} (r : Rel K (cq0 F H as vs) F' H' σ δ) : Done K F H as vs F' H' (back as δ) := by
  have lent : ∀ (i : Nat) (m : MD), as[i]? = some (.bor m) → ∃ m' o, δ[i]? = some (some (.bor m')) ∧ H' (adrOf vs i) = some o ∧ MDen K F' m' o ∧ F' (adrOf vs i) = none := fun i m e => by
    obtain ⟨m', o, h1, _, h2, h3, h4, _⟩ := r.borAt (mem_bIx.mpr ⟨m, e⟩)
    exact ⟨m', o, h1, h2, h3, h4⟩
  have borB : ∀ {i : Nat} {m : MD}, (back as δ)[i]? = some (.bor m) → ∃ n, as[i]? = some (.bor n) := fun {i m} e => by
    have hl : i < as.length := by rw [← back_len as δ]; exact (List.getElem?_eq_some_iff.mp e).1
    have e0 := List.getElem?_eq_getElem hl
    cases q : as[i] with
    | val d => rw [q] at e0; rw [back_val e0] at e; cases e
    | own n =>
      rw [q] at e0
      exact False.elim (A.ok i _ _ e0 (List.getElem?_eq_getElem (by rw [← A.len]; exact hl)))
    | bor n => rw [q] at e0; exact ⟨n, e0⟩
  refine ⟨r.low, ⟨r.sub, by rw [back_len]; exact A.len, fun i s v e1 e2 => ?_, fun i j a m n e1 e2 e3 e4 => ?_, r.tab.tabs, r.tab.fnt⟩, r.new, fun b o e q => r.pres b o e fun i hi z => ?_, fun i m e => ?_⟩
  · have hl : i < as.length := by rw [← back_len as δ]; exact (List.getElem?_eq_some_iff.mp e1).1
    have e0 := List.getElem?_eq_getElem hl
    cases q : as[i] with
    | val d =>
      rw [q] at e0
      rw [back_val e0] at e1
      cases e1
      exact Den.mono r.low _ _ (A.ok i _ _ e0 e2)
    | own n =>
      rw [q] at e0
      exact False.elim (A.ok i _ _ e0 e2)
    | bor n =>
      rw [q] at e0
      obtain ⟨m', o, h1, h2, h3, h4⟩ := lent i n e0
      rw [back_bor e0 h1] at e1
      cases e1
      obtain ⟨_, g1, _⟩ := A.bor e0
      rw [g1] at e2
      cases e2
      exact ⟨_, o, rfl, h2, h3, h4⟩
  · obtain ⟨_, h1⟩ := borB e1
    obtain ⟨_, h2⟩ := borB e2
    exact A.apart i j a _ _ h1 h2 e3 e4
  · obtain ⟨m, e⟩ := mem_bIx.mp hi
    obtain ⟨_, g1, _⟩ := A.bor e
    have z : adrOf vs i = b := z
    rw [z] at g1
    exact q i m e g1
  · obtain ⟨m', _, h1, _⟩ := lent i m e
    exact ⟨m', back_bor e h1⟩
/-- a promise, as a body's reading -/
theorem sp_body {n : Nat} {g : DE → O} {Q : VK} {E : XK} (h : spV K (fnF n N.length g) vs H Q E) : rdS K (fun cls od _ H => E cls od H) g { nx := fun _ H' => Q .non H', rt := Q } (L2.start N vs) H := by
  obtain ⟨F, as, A, z⟩ := h
  refine ⟨cq0 F H as vs, F, _, A.rel, ?_⟩
  unfold fnF at z
  by_cases hl : as.length = n
  · rw [if_pos hl] at z
    rw [hl]
    cases e : g (as.map some ++ List.replicate (N.length - n) none) with
    | nx δ => rw [e] at z; exact fun σ' F' H' r s => z _ F' H' (A.done r) rfl
    | ret d δ => rw [e] at z; exact fun v σ' F' H' r s d => z v F' H' (A.done r) d
    | brk δ => rw [e] at z; exact False.elim z
    | cnt δ => rw [e] at z; exact False.elim z
    | exc x δ => rw [e] at z; exact fun cls od σ' F' H' r s d => z cls od F' H' (A.done r) d
    | stuck => rw [e] at z; exact False.elim z
  · rw [if_neg hl] at z
    exact False.elim z
end

/-- the def at f is worth φ; g: repr's own marks are none where it is called -/
structure VOk (g : Bool) (P : Program) (w : World) (K : PySem.W.Frag) (mg : Str → Option Value) (base : Heap) (k : Nat) (f : Addr) (fd : FuncData) (ps : List Str) (φ : List Sl → FR) : Prop where
  len : ∀ as, φ as ≠ .stuck → as.length = ps.length
  run : ∀ (A : Around) (outer : List Env) (s : Shared) (H : Hp) (args : Args) (us : List Value) (vs : List V) (Q : VK) (E : XK), Room k A → (g = true → A.guards = some []) → Env0 P w K mg base A outer s H → BindsTo s fd args (ps.zip us) →
    Vals vs us → spV K φ vs H Q E → codeAny (model P w) A (.call (.ref f) args) (CR (L2.CX P w) outer P w H s Q E) s
theorem spV.len {K : PySem.W.Frag} {φ : List Sl → FR} {n : Nat} (hl : ∀ as, φ as ≠ .stuck → as.length = n) {vs : List V} {H : Hp} {Q : VK} {E : XK} (h : spV K φ vs H Q E) : vs.length = n := by
  obtain ⟨F, as, A, z⟩ := h
  rw [← A.len]
  refine hl as fun q => ?_
  rw [q] at z
  exact z
theorem fnF_len {n N : Nat} {g : DE → O} (as : List Sl) (h : fnF n N g as ≠ .stuck) : as.length = n := by
  unfold fnF at h
  by_cases q : as.length = n
  · exact q
  · rw [if_neg q] at h; exact absurd rfl h

end PV

/-! PV4: a def by its body; calls; statements. -/
namespace PV
open PySem PySem.Spec PyProof.Rows L2
variable [Tbl]

theorem guards_in {A : Around} {env : Env} {g : Bool} (h : g = true → A.guards = some []) : g = true → (A.deeper env).guards = some [] := fun z => by
  first | exact h z | simpa [Around.deeper] using h z

/-- the context of a body -/
abbrev cxV (P : Program) (w : World) (K : PySem.W.Frag) (mg : Str → Option Value) (base : Heap) (N : List Str) (qual : Str) (scope : Scope) (f : Addr) (cd : Value) (A : Around) (outer : List Env) (s : Shared) (H : Hp) (E : XK) : Cx :=
  cxOf (L2.CX P w) P w K mg base N qual scope f cd A outer s H E
abbrev wE (E : XK) : WX := fun cls od _ H => E cls od H

section
variable {P : Program} {w : World} {K : PySem.W.Frag} {mg : Str → Option Value} {base : Heap}
/-- a def is worth what its body does -/
theorem Fun.val {x qual : Str} {st : Stmt} {f : Addr} {fd : FuncData} {N ps : List Str} {k n : Nat} {g : Bool} {G : DE → O} (T : Fun K x qual st f fd) (S : FnScope N ps (defScope st)) (hn : ps.length = n)
    (body : ∀ (cd : Value) (A : Around) (outer : List Env) (s : Shared) (H : Hp) (E : XK), fd.code = cd → Room k (A.deeper (envOfC qual (defScope st) s.heap.objs.size f cd)) → (g = true → (A.deeper (envOfC qual (defScope st) s.heap.objs.size f cd)).guards = some []) →
      Takes (cxV P w K mg base N qual (defScope st) f cd A outer s H E) (wE E) → VSs (cxV P w K mg base N qual (defScope st) f cd A outer s H E) (wE E) (defBody st) G) :
    VOk g P w K mg base (k + 1) f fd ps (fnF n N.length G) := by
  obtain ⟨oc, od, kV, doc, pm, an, cd, ct, osl, rfl, lk, hc⟩ := T.ex
  refine ⟨fun as h => by rw [hn]; exact fnF_len as h, fun A outer s H args us vs Q E room gd en hb rv sp => ?_⟩
  have stays : ∀ b o, base.get? b = some o → s.heap.get? b = some o := fun b o e => (en.bs b o e).1
  have hl : vs.length = ps.length := by rw [hn]; exact spV.len fnF_len sp
  have kinds : ∀ y ∈ ps.zip us, (defScope st).names.lookup y.1 = some .local ∨ ((defScope st).names.lookup y.1 = some .cell ∧ ((cellsFrom (s.heap.objs.size + 1) (defScope st).names []).lookup y.1).isSome = true) := by
    rintro ⟨nm, vl⟩ hy
    rcases S.par nm (List.of_mem_zip hy).1 with q | q
    · left; exact q
    · right; exact ⟨q, PySem.W.cellsFrom_some _ _ _ (Or.inl q)⟩
  refine codeAny_call_function room.depth ((en.mod.kin.keeps stays) _ _ lk) rfl S.co S.gen rfl (PySem.W.codeRec_of (en.mod.kin.keeps stays) hc) (hb _ _ _ _ ?_)
  refine wpAny_newFunctionEnv_cells S.kind kinds fun env he s1 inC => ?_
  subst he
  refine ⟨(en.mod.nolimit.keeps stays).keeps inC.toInCall.keep, codeAny_func ?_⟩
  have tk : Takes (cxV P w K mg base N qual (defScope st) f cd A outer s H E) (wE E) := takes_of rfl rfl rfl rfl
  have J := inv_start (CX := L2.CX P w) (E := E) S room.hd en hl rv inC
  refine wpAny_mono ((body cd A outer s H E rfl (room.deeper _) (guards_in gd) tk).run [] s1 (L2.start N vs) H _ J (sp_body sp)) (fun fl s' hs => ?_) fun e s' hs => hs
  cases fl with
  | ret u =>
    obtain ⟨v, σ', H', J', rv', q⟩ := hs
    exact ⟨v, H', J'.os, J'.bare, J'.base, J'.hok, rv', q⟩
  | next =>
    obtain ⟨σ', H', J', q⟩ := hs
    exact ⟨V.non, H', J'.os, J'.bare, J'.base, J'.hok, rfl, q⟩
  | brk =>
    obtain ⟨_, _, _, q⟩ := hs
    exact q.elim
  | cont =>
    obtain ⟨_, _, _, q⟩ := hs
    exact q.elim
theorem VOk.mono {g : Bool} {j k : Nat} {f : Addr} {fd : FuncData} {ps : List Str} {φ : List Sl → FR} (V0 : VOk g P w K mg base j f fd ps φ) (h : j ≤ k) : VOk g P w K mg base k f fd ps φ :=
  ⟨V0.len, fun A outer s H args us vs Q E room => V0.run A outer s H args us vs Q E (room.mono h)⟩
theorem VOk.gd {k : Nat} {f : Addr} {fd : FuncData} {ps : List Str} {φ : List Sl → FR} (V0 : VOk false P w K mg base k f fd ps φ) {g : Bool} : VOk g P w K mg base k f fd ps φ :=
  ⟨V0.len, fun A outer s H args us vs Q E room _ => V0.run A outer s H args us vs Q E room (fun z => absurd z Bool.false_ne_true)⟩
end

/-! ### arguments -/
def noA : DE → R (List Arg) := fun δ => .ok [] δ
def valA (f : DE → R D) (r : DE → R (List Arg)) : DE → R (List Arg) := fun δ => (f δ).bind fun d δ => (r δ).bind fun as δ => .ok (.val d :: as) δ
/-- the object that a slot may write -/
def mutOf (δ : DE) (i : Nat) : Option (Sl × MD) := match δ[i]? with
  | some (some s) => s.mut.map fun m => (s, m)
  | _ => none
def slotA (i : Nat) (r : DE → R (List Arg)) : DE → R (List Arg) := fun δ => match mutOf δ i with
  | some _ => (r δ).bind fun as δ => .ok (.slot i :: as) δ
  | none => .stuck
theorem mutOf_some {δ : DE} {i : Nat} {s : Sl} {m : MD} (h : mutOf δ i = some (s, m)) : δ[i]? = some (some s) ∧ s.mut = some m := by
  unfold mutOf at h
  split at h
  · rename_i s' e
    cases q : s'.mut with
    | none => rw [q] at h; cases h
    | some m' => rw [q] at h; cases h; exact ⟨e, q⟩
  · cases h
section
variable {X : Cx} {W : WX} {e : Expr} {es : List Expr} {f : DE → R D} {r : DE → R (List Arg)}
theorem va_nil : VA X W [] noA := PA.to pa_nil fun σ H Q h => by
  obtain ⟨c, F, δ, r, z⟩ := h
  exact z [] F H r (.refl _) rfl
theorem va_val (h : VE X W e f) (k : VA X W es r) (hs : starEach (e :: es) X.env = (false, eval e X.env) :: starEach es X.env := by rfl) : VA X W (e :: es) (valA f r) := PA.to (pa_cons h k hs) fun σ H Q z => by
  refine z.first (DM := dnE X.K) fun c F H1 δ x v r1 d1 z1 => ?_
  refine z1.next (DM := dnA X.K) r1 fun F2 H2 δ2 as vs r2 s2 d2 z2 => ?_
  exact z2 _ F2 H2 r2 (.refl _) ⟨v, vs, rfl, Den.mono s2 _ _ d1, d2⟩
/-- a name whose object is lent -/
theorem va_slot (i : Nat) {x : Str} {pos : Pos} (k : VA X W es r) (hN : X.N[i]? = some x := by rfl) (hv : Vis X.env.scope x := by first | exact Or.inl rfl | exact Or.inr (Or.inl rfl) | exact Or.inr (Or.inr rfl))
    (hs : starEach (.Name x pos :: es) X.env = (false, eval (.Name x pos) X.env) :: starEach es X.env := by rfl) (hd : (x == ("__debug__" : Str)) = false := by decide) (hcd : (x == ("__classdict__" : Str)) = false := by decide) :
    VA X W (.Name x pos :: es) (slotA i r) := PA.to (pa_cons (pe_var hN hv hd hcd) k hs) fun σ H Q z => by
  obtain ⟨c, F, δ, r1, z⟩ := z
  unfold slotA at z
  cases e : mutOf δ i with
  | none => rw [e] at z; exact False.elim z
  | some p =>
    obtain ⟨s, m⟩ := p
    rw [e] at z
    obtain ⟨e1, e2⟩ := mutOf_some e
    obtain ⟨a, o, h1, _⟩ := r1.mutAt e1 e2
    refine ⟨.ref a, h1, ?_⟩
    refine aft.next (DM := dnA X.K) (f := r) (g := fun as δ => .ok (.slot i :: as) δ) r1 z fun F2 H2 δ2 as vs r2 s2 d2 z2 => ?_
    exact z2 _ F2 H2 r2 (.refl _) ⟨_, vs, rfl, h1, d2⟩
end

/-! ### a call -/
def lend (δ : DE) : List Arg → Option (List Sl)
  | [] => some []
  | .val d :: as => (lend δ as).map fun r => .val d :: r
  | .slot i :: as => match mutOf δ i with
    | some (_, m) => (lend δ as).map fun r => .bor m :: r
    | none => none
def slots : List Arg → List Nat
  | [] => []
  | .val _ :: as => slots as
  | .slot i :: as => i :: slots as
def unlend (δ : DE) : List Arg → List Sl → DE
  | .slot i :: as, .bor m :: r => match mutOf δ i with
    | some (s, _) => (unlend δ as r).set i (some (s.wr m))
    | none => unlend δ as r
  | _ :: as, _ :: r => unlend δ as r
  | _, _ => δ
def callF (φ : List Sl → FR) (fa : DE → R (List Arg)) : DE → R D := fun δ => (fa δ).bind fun as δ =>
  if (slots as).Nodup then
    match lend δ as with
    | none => .stuck
    | some ss => match φ ss with
      | .ret d ss' => .ok d (unlend δ as ss')
      | .exc x ss' => .exc x (unlend δ as ss')
      | .stuck => .stuck
  else .stuck

section
variable {K : PySem.W.Frag} {c : Cq} {F H : Hp} {σ : L2.St} {δ : DE}
/-- two slots whose objects may be written have two objects -/
theorem Rel.mutApart (r : Rel K c F H σ δ) {i j : Nat} {s t : Sl} {m n : MD} {a : Addr} (h1 : δ[i]? = some (some s)) (h2 : s.mut = some m) (h3 : δ[j]? = some (some t)) (h4 : t.mut = some n) (h5 : σ[i]? = some (some (.ref a))) (h6 : σ[j]? = some (some (.ref a))) : i = j := by
  have lent : ∀ {k : Nat} {q : MD}, δ[k]? = some (some (.bor q)) → σ[k]? = some (some (.ref a)) → k ∈ c.bs ∧ c.adr k = a := fun {k q} e1 e2 => by
    obtain ⟨hb, _, w, _⟩ := r.sl k _ e1
    rw [getD_some w] at e2
    exact ⟨hb, V.ref.inj (Option.some.inj (Option.some.inj e2))⟩
  have own0 : ∀ {k : Nat} {q : MD}, δ[k]? = some (some (.own q)) → σ[k]? = some (some (.ref a)) → c.H0 a = none := fun {k q} e1 e2 => by
    obtain ⟨_, _, w, _, _, _, _, w2⟩ := r.own e1
    rw [e2] at w; cases w
    exact w2
  cases s with
  | val d => cases h2
  | own m1 =>
    cases t with
    | val d => cases h4
    | own n1 => exact r.apart i j a _ _ h1 h3 h5 h6
    | bor n1 =>
      obtain ⟨b1, b2⟩ := lent h3 h6
      have := r.bor0 j b1
      rw [b2] at this
      exact absurd (own0 h1 h5) this
  | bor m1 =>
    obtain ⟨b1, b2⟩ := lent h1 h5
    cases t with
    | val d => cases h4
    | own n1 =>
      have := r.bor0 i b1
      rw [b2] at this
      exact absurd (own0 h3 h6) this
    | bor n1 =>
      obtain ⟨b3, b4⟩ := lent h3 h6
      exact r.binj i j b1 b3 (b2.trans b4.symm)

theorem ArgsD.len : ∀ {as : List Arg} {vs : List V}, ArgsD K F σ as vs → vs.length = as.length
  | [], _, h => by rw [show _ = _ from h]; rfl
  | _ :: _, _, ⟨v, r, e, _, h⟩ => by rw [e, List.length_cons, List.length_cons, h.len]
theorem ArgsD.get : ∀ {as : List Arg} {vs : List V} {k : Nat} {a : Arg}, ArgsD K F σ as vs → as[k]? = some a → ∃ v, vs[k]? = some v ∧ ArgD K F σ a v
  | [], _, k, _, _, h => by simp at h
  | x :: _, _, 0, a, ⟨v, r, e, h1, _⟩, h => by
    have q : x = a := by simpa using h
    rw [e, ← q]
    exact ⟨v, rfl, h1⟩
  | _ :: as, _, k + 1, a, ⟨v, r, e, _, h2⟩, h => by
    obtain ⟨w, h3, h4⟩ := ArgsD.get (k := k) (a := a) h2 (by simpa using h)
    rw [e]
    exact ⟨w, by simpa using h3, h4⟩
theorem lend_len : ∀ {as : List Arg} {ss : List Sl}, lend δ as = some ss → ss.length = as.length
  | [], _, h => by cases h; rfl
  | .val d :: as, ss, h => by
    obtain ⟨r, e, q⟩ := Option.map_eq_some_iff.mp h
    rw [← q, List.length_cons, List.length_cons, lend_len e]
  | .slot i :: as, ss, h => by
    unfold lend at h
    split at h
    · obtain ⟨r, e, q⟩ := Option.map_eq_some_iff.mp h
      rw [← q, List.length_cons, List.length_cons, lend_len e]
    · cases h
theorem lend_get : ∀ {as : List Arg} {ss : List Sl} {k : Nat} {s : Sl}, lend δ as = some ss → ss[k]? = some s → (∃ d, as[k]? = some (.val d) ∧ s = .val d) ∨ ∃ i t m, as[k]? = some (.slot i) ∧ mutOf δ i = some (t, m) ∧ s = .bor m
  | [], _, k, _, h, g => by cases h; simp at g
  | .val d :: as, ss, 0, s, h, g => by
    obtain ⟨r, e, q⟩ := Option.map_eq_some_iff.mp h
    rw [← q] at g
    have g : Sl.val d = s := by simpa using g
    exact .inl ⟨d, rfl, g.symm⟩
  | .val d :: as, ss, k + 1, s, h, g => by
    obtain ⟨r, e, q⟩ := Option.map_eq_some_iff.mp h
    rw [← q] at g
    have := lend_get (k := k) (s := s) e (by simpa using g)
    simpa using this
  | .slot i :: as, ss, 0, s, h, g => by
    unfold lend at h
    split at h
    · rename_i t m e'
      obtain ⟨r, e, q⟩ := Option.map_eq_some_iff.mp h
      rw [← q] at g
      have g : Sl.bor m = s := by simpa using g
      exact .inr ⟨i, t, m, rfl, e', g.symm⟩
    · cases h
  | .slot i :: as, ss, k + 1, s, h, g => by
    unfold lend at h
    split at h
    · obtain ⟨r, e, q⟩ := Option.map_eq_some_iff.mp h
      rw [← q] at g
      have := lend_get (k := k) (s := s) e (by simpa using g)
      simpa using this
    · cases h
theorem slots_mem : ∀ {as : List Arg} {k i : Nat}, as[k]? = some (.slot i) → i ∈ slots as
  | [], _, _, h => by simp at h
  | .val d :: as, 0, _, h => by simp at h
  | .val d :: as, k + 1, _, h => slots_mem (as := as) (k := k) (by simpa using h)
  | .slot j :: as, 0, i, h => by
    have q : j = i := by simpa using h
    rw [q]
    exact List.mem_cons_self
  | .slot j :: as, k + 1, i, h => List.mem_cons_of_mem _ (slots_mem (as := as) (k := k) (by simpa using h))
theorem slots_inj : ∀ {as : List Arg} {k l i : Nat}, (slots as).Nodup → as[k]? = some (.slot i) → as[l]? = some (.slot i) → k = l
  | [], _, _, _, _, h, _ => by simp at h
  | .val d :: as, 0, _, _, _, h, _ => by simp at h
  | .val d :: as, _ + 1, 0, _, _, _, h => by simp at h
  | .val d :: as, k + 1, l + 1, i, n, h, g => congrArg (· + 1) (slots_inj (as := as) (k := k) (l := l) n (by simpa using h) (by simpa using g))
  | .slot j :: as, 0, 0, _, _, _, _ => rfl
  | .slot j :: as, 0, l + 1, i, n, h, g => by
    have q : j = i := by simpa using h
    exact absurd (slots_mem (as := as) (k := l) (by simpa using g)) (q ▸ (List.nodup_cons.mp n).1)
  | .slot j :: as, k + 1, 0, i, n, h, g => by
    have q : j = i := by simpa using g
    exact absurd (slots_mem (as := as) (k := k) (by simpa using h)) (q ▸ (List.nodup_cons.mp n).1)
  | .slot j :: as, k + 1, l + 1, i, n, h, g => congrArg (· + 1) (slots_inj (as := as) (k := k) (l := l) (List.nodup_cons.mp n).2 (by simpa using h) (by simpa using g))
theorem unlend_len : ∀ (as : List Arg) (ss : List Sl), (unlend δ as ss).length = δ.length
  | [], _ => by unfold unlend; rfl
  | .val d :: as, [] => by unfold unlend; rfl
  | .val d :: as, s :: ss => by unfold unlend; exact unlend_len as ss
  | .slot i :: as, [] => by unfold unlend; rfl
  | .slot i :: as, .val _ :: ss => by unfold unlend; exact unlend_len as ss
  | .slot i :: as, .own _ :: ss => by unfold unlend; exact unlend_len as ss
  | .slot i :: as, .bor m :: ss => by
    unfold unlend
    split
    · rw [List.length_set]; exact unlend_len as ss
    · exact unlend_len as ss
theorem unlend_out : ∀ {as : List Arg} {ss : List Sl} {j : Nat}, j ∉ slots as → (unlend δ as ss)[j]? = δ[j]?
  | [], _, _, _ => by unfold unlend; rfl
  | .val d :: as, [], _, _ => by unfold unlend; rfl
  | .val d :: as, s :: ss, j, h => by unfold unlend; exact unlend_out (as := as) h
  | .slot i :: as, [], _, _ => by unfold unlend; rfl
  | .slot i :: as, .val _ :: ss, j, h => by unfold unlend; exact unlend_out (as := as) fun z => h (List.mem_cons_of_mem _ z)
  | .slot i :: as, .own _ :: ss, j, h => by unfold unlend; exact unlend_out (as := as) fun z => h (List.mem_cons_of_mem _ z)
  | .slot i :: as, .bor m :: ss, j, h => by
    have hj : i ≠ j := fun q => h (by rw [q]; exact List.mem_cons_self)
    unfold unlend
    split
    · rw [List.getElem?_set_ne hj]; exact unlend_out (as := as) fun z => h (List.mem_cons_of_mem _ z)
    · exact unlend_out (as := as) fun z => h (List.mem_cons_of_mem _ z)
theorem unlend_in : ∀ {as : List Arg} {ss : List Sl} {k i : Nat} {t : Sl} {m m' : MD}, (slots as).Nodup → as[k]? = some (.slot i) → ss[k]? = some (.bor m') → mutOf δ i = some (t, m) → (unlend δ as ss)[i]? = some (some (t.wr m'))
  | [], _, _, _, _, _, _, _, h, _, _ => by simp at h
  | .val d :: as, [], _, _, _, _, _, _, _, h, _ => by simp at h
  | .slot d :: as, [], _, _, _, _, _, _, _, h, _ => by simp at h
  | .val d :: as, s :: ss, 0, _, _, _, _, _, h, _, _ => by simp at h
  | .val d :: as, s :: ss, k + 1, i, t, m, m', n, h, g, e => by
    unfold unlend
    exact unlend_in (as := as) (ss := ss) (k := k) n (by simpa using h) (by simpa using g) e
  | .slot j :: as, s :: ss, 0, i, t, m, m', n, h, g, e => by
    have q : j = i := by simpa using h
    have g : s = .bor m' := by simpa using g
    subst q g
    unfold unlend
    rw [e]
    have hl : j < δ.length := (List.getElem?_eq_some_iff.mp (mutOf_some e).1).1
    exact List.getElem?_set_self (by rw [unlend_len]; exact hl)
  | .slot j :: as, s :: ss, k + 1, i, t, m, m', n, h, g, e => by
    have ih := unlend_in (as := as) (ss := ss) (k := k) (List.nodup_cons.mp n).2 (by simpa using h) (by simpa using g) e
    have hj : j ≠ i := fun q => (List.nodup_cons.mp n).1 (q ▸ slots_mem (as := as) (k := k) (by simpa using h))
    cases s with
    | val d => unfold unlend; exact ih
    | own d => unfold unlend; exact ih
    | bor d =>
      unfold unlend
      split
      · rw [List.getElem?_set_ne hj]; exact ih
      · exact ih

theorem Sl.mut_wr {s : Sl} {m n : MD} (h : s.mut = some m) : (s.wr n).mut = some n := by
  cases s with
  | val d => cases h
  | own d => rfl
  | bor d => rfl
theorem Rel.freeP (r : Rel K c F H σ δ) {p : Addr} (h : pl H p = none) : c.H0 p = none := by
  cases e : c.H0 p with
  | none => rfl
  | some o =>
    by_cases q : ∃ i ∈ c.bs, c.adr i = p
    · obtain ⟨i, hi, rfl⟩ := q
      obtain ⟨_, o', _, _, z, zm, _⟩ := r.borAt hi
      rw [pl_to z zm.pl] at h; cases h
    · have := pl_to (r.pres p o e fun i hi z => q ⟨i, hi, z⟩) (r.tab.hnt p o e)
      rw [h] at this; cases this
theorem Rel.lent (r : Rel K c F H σ δ) {as : List Arg} {ss : List Sl} {vs : List V} (nd : (slots as).Nodup) (hl : lend δ as = some ss) (ha : ArgsD K F σ as vs) : AOk K F H ss vs := by
  refine ⟨r.sub, by rw [lend_len hl, ha.len], fun k s v e1 e2 => ?_, fun k l a m n e1 e2 e3 e4 => ?_, r.tab.tabs, r.tab.fnt⟩
  · rcases lend_get hl e1 with ⟨d, h1, rfl⟩ | ⟨i, t, m, h1, h2, rfl⟩
    · obtain ⟨v', g1, g2⟩ := ha.get h1
      rw [g1] at e2; cases e2
      exact g2
    · obtain ⟨v', g1, g2⟩ := ha.get h1
      rw [g1] at e2
      have ev : v' = v := Option.some.inj e2
      subst ev
      obtain ⟨q1, q2⟩ := mutOf_some h2
      obtain ⟨a, o, w1, w2, w3, w4⟩ := r.mutAt q1 q2
      have g2 : σ[i]? = some (some v') := g2
      rw [w1] at g2; cases g2
      exact ⟨a, o, rfl, w2, w3, w4⟩
  · rcases lend_get hl e1 with ⟨d, _, z⟩ | ⟨i, t, m1, h1, h2, _⟩
    · cases z
    rcases lend_get hl e2 with ⟨d, _, z⟩ | ⟨j, u, n1, g1, g2, _⟩
    · cases z
    obtain ⟨v1, x1, x2⟩ := ha.get h1
    obtain ⟨v2, y1, y2⟩ := ha.get g1
    rw [x1] at e3; cases e3
    rw [y1] at e4; cases e4
    have ij := r.mutApart (mutOf_some h2).1 (mutOf_some h2).2 (mutOf_some g2).1 (mutOf_some g2).2 x2 y2
    subst ij
    exact slots_inj nd h1 g1
/-- behind a call -/
theorem Rel.called (r : Rel K c F H σ δ) {as : List Arg} {ss ss' : List Sl} {vs : List V} {F' H' : Hp} (nd : (slots as).Nodup) (hl : lend δ as = some ss) (ha : ArgsD K F σ as vs) (z : Done K F H ss vs F' H' ss') : Rel K c F' H' σ (unlend δ as ss') := by
  -- a lent slot, before and behind
  have lent : ∀ {i : Nat}, i ∈ slots as → ∃ (k : Nat) (t : Sl) (m m' : MD) (a : Addr) (o : HO), as[k]? = some (.slot i) ∧ δ[i]? = some (some t) ∧ t.mut = some m ∧ σ[i]? = some (some (.ref a)) ∧ ss[k]? = some (.bor m) ∧ vs[k]? = some (.ref a) ∧ (unlend δ as ss')[i]? = some (some (t.wr m')) ∧ H' a = some o ∧ MDen K F' m' o ∧ F' a = none := by
    intro i hi
    have : ∀ {as : List Arg}, i ∈ slots as → ∃ (k : Nat), as[k]? = some (Arg.slot i) := by
      intro as
      induction as with
      | nil => intro h; cases h
      | cons x as ih =>
        intro h
        cases x with
        | val d => obtain ⟨k, e⟩ := ih h; exact ⟨k + 1, by simpa using e⟩
        | slot j =>
          rcases List.mem_cons.mp h with q | q
          · exact ⟨0, by rw [q]; rfl⟩
          · obtain ⟨k, e⟩ := ih q; exact ⟨k + 1, by simpa using e⟩
    obtain ⟨k, ek⟩ := this hi
    have hk : k < ss.length := by rw [lend_len hl]; exact (List.getElem?_eq_some_iff.mp ek).1
    have es := List.getElem?_eq_getElem hk
    rcases lend_get hl es with ⟨d, h1, _⟩ | ⟨i', t, m, h1, h2, h3⟩
    · rw [ek] at h1; cases h1
    rw [ek] at h1; cases h1
    rw [h3] at es
    obtain ⟨q1, q2⟩ := mutOf_some h2
    obtain ⟨a, o, w1, w2, w3, w4⟩ := r.mutAt q1 q2
    obtain ⟨v', g1, g2⟩ := ha.get ek
    have g2 : σ[i]? = some (some v') := g2
    rw [w1] at g2; cases g2
    obtain ⟨m', em'⟩ := z.keep k m es
    obtain ⟨a', o', x1, x2, x3, x4⟩ := z.args.ok k _ _ em' g1
    cases x1
    exact ⟨k, t, m, m', a, o', ek, q1, q2, w1, es, g1, unlend_in nd ek em' h2, x2, x3, x4⟩
  -- what is not lent
  have notB : ∀ {b : Addr} {o : HO}, H b = some o → Pl o → (∀ (i : Nat) (t : Sl) (m : MD), i ∈ slots as → δ[i]? = some (some t) → t.mut = some m → σ[i]? ≠ some (some (.ref b))) → H' b = some o := fun {b o} e hpl q => by
    refine z.pres b o (pl_to e hpl) fun k m ek => ?_
    rcases lend_get hl ek with ⟨d, _, y⟩ | ⟨i, t, m1, h1, h2, _⟩
    · cases y
    obtain ⟨v', g1, g2⟩ := ha.get h1
    intro y
    rw [g1] at y; cases y
    exact q i t m1 (slots_mem h1) (mutOf_some h2).1 (mutOf_some h2).2 g2
  have outF : ∀ {a : Addr} {o : HO}, H a = some o → H' a = some o → PlG o → F a = none → F' a = none := fun {a o} e1 e1' hpl e2 => by
    cases q : F' a with
    | none => rfl
    | some x =>
      rcases z.new a x q with y | y | ⟨xs, y⟩
      · rw [e2] at y; cases y
      · rw [pl_to e1 hpl.pl] at y; cases y
      · have w := z.args.sub _ _ q
        rw [e1', y] at w
        cases w
        exact False.elim hpl
  have same : ∀ {j : Nat}, j ∉ slots as → (unlend δ as ss')[j]? = δ[j]? := fun h => unlend_out h
  refine ⟨z.args.sub, fun b o e q => notB (r.pres b o e q) (r.tab.hnt b o e) fun i t m hi e1 e2 e3 => ?_, r.low.trans z.low, fun b o e => ?_, fun b o e => ?_, r.bor0, fun i hi => ?_, r.binj, by rw [unlend_len]; exact r.len, fun i s e => ?_, fun i j a m n e1 e2 e3 e4 => ?_, ⟨z.args.tabs, z.args.fnt, r.tab.gnt, r.tab.hnt⟩⟩
  · cases t with
    | val d => cases e2
    | own n =>
      obtain ⟨_, _, w, _, _, _, _, w2⟩ := r.own e1
      rw [e3] at w; cases w
      rw [e] at w2; cases w2
    | bor n =>
      obtain ⟨hb, _, w, _⟩ := r.sl i _ e1
      rw [getD_some w] at e3
      exact q i hb (V.ref.inj (Option.some.inj (Option.some.inj e3)))
  · rcases z.new b o e with y | y | y
    · exact r.new b o y
    · exact .inr (.inl (r.freeP y))
    · exact .inr (.inr y)
  · obtain ⟨g1, g2⟩ := r.gs b o e
    have kb : H' b = some o := notB g1 (r.tab.gnt b o e).pl fun i t m hi e1 e2 e3 => ?_
    · exact ⟨kb, outF g1 kb (r.tab.gnt b o e) g2⟩
    cases t with
    | val d => cases e2
    | own n =>
      obtain ⟨_, _, w, _, _, _, w1, w2⟩ := r.own e1
      rw [e3] at w; cases w
      rw [e] at w1; cases w1
    | bor n =>
      obtain ⟨hb, _, w, _, _, _, w1⟩ := r.sl i _ e1
      rw [getD_some w] at e3
      have y := V.ref.inj (Option.some.inj (Option.some.inj e3))
      rw [y, e] at w1; cases w1
  · obtain ⟨m, em⟩ := r.borD i hi
    by_cases q : i ∈ slots as
    · obtain ⟨k, t, _, m', _, _, _, e1, _, _, _, _, e2, _⟩ := lent q
      rw [em] at e1; cases e1
      exact ⟨m', e2⟩
    · rw [same q]; exact ⟨m, em⟩
  · by_cases q : i ∈ slots as
    · obtain ⟨k, t, m, m', a, o, ek, e1, e2, e3, e4, e5, e6, e7, e8, e9⟩ := lent q
      rw [e6] at e
      cases e
      have ok := r.sl i _ e1
      cases t with
      | val d => cases e2
      | own n =>
        obtain ⟨a', o', w1, w2, w3, w4, w5, w6⟩ := ok
        rw [e3] at w1; cases w1
        exact ⟨a, o, by rw [e3]; rfl, e7, e8, e9, w5, w6⟩
      | bor n =>
        obtain ⟨hb, o', w1, w2, w3, w4, w5⟩ := ok
        rw [e3] at w1
        have y : a = c.adr i := V.ref.inj (Option.some.inj w1)
        subst y
        exact ⟨hb, o, by rw [e3]; rfl, e7, e8, e9, w5⟩
    · rw [same q] at e
      refine (r.sl i s e).toP z.low (fun a o h1 h1' hpl h2 => outF h1 h1' hpl h2) fun a o z0 z1 z2 hpl z3 => notB z2 hpl fun j t m hj e1 e2 e3 => ?_
      have hs : ∃ n, s.mut = some n := by
        cases s with
        | val d => exact absurd rfl (z0 d)
        | own n => exact ⟨n, rfl⟩
        | bor n => exact ⟨n, rfl⟩
      obtain ⟨n, hs⟩ := hs
      have := r.mutApart e hs e1 e2 (getD_some z1) e3
      subst this
      exact q hj
  · have own0 : ∀ {j : Nat} {n : MD}, (unlend δ as ss')[j]? = some (some (Sl.own n)) → ∃ n', δ[j]? = some (some (Sl.own n')) := fun {j n} g => by
      by_cases q : j ∈ slots as
      · obtain ⟨k, t, m, m', a, o, ek, e1, e2, _, _, _, e6, _⟩ := lent q
        rw [e6] at g
        cases t with
        | val d => cases e2
        | own x => exact ⟨x, e1⟩
        | bor x => cases g
      · rw [same q] at g; exact ⟨n, g⟩
    obtain ⟨_, h1⟩ := own0 e1
    obtain ⟨_, h2⟩ := own0 e2
    exact r.apart i j a _ _ h1 h2 e3 e4
end

section
variable {X : Cx} {W : WX} {k : Nat} {f : Addr} {fd : FuncData} {ps : List Str} {φ : List Sl → FR} {x : Str} {p pos : Pos} {e : Expr} {es : List Expr} {fa : DE → R (List Arg)} {g : Bool}
theorem rd_call {σ : L2.St} {H : Hp} {Q : VK} (h : rdE X.K W (callF φ fa) σ H Q) : rdA X.K W fa σ H fun vs H1 => spV X.K φ vs H1 Q (WE W σ) := by
  refine h.first (DM := dnA X.K) fun c F H1 δ as vs r1 d1 z1 => ?_
  by_cases nd : (slots as).Nodup
  · rw [if_pos nd] at z1
    cases hl : lend δ as with
    | none => rw [hl] at z1; exact False.elim z1
    | some ss =>
      rw [hl] at z1
      refine ⟨F, ss, r1.lent nd hl d1, ?_⟩
      have z1 : aft X.K W (dnE X.K) c F σ Q (match φ ss with
        | .ret d ss' => .ok d (unlend δ as ss')
        | .exc x ss' => .exc x (unlend δ as ss')
        | .stuck => .stuck) := z1
      cases hq : φ ss with
      | ret d ss' => rw [hq] at z1; exact fun v F' H' dn dd => z1 v F' H' (r1.called nd hl d1 dn) dn.low dd
      | exc x ss' => rw [hq] at z1; exact fun cls od F' H' dn dd => z1 cls od F' H' (r1.called nd hl d1 dn) dn.low dd
      | stuck => rw [hq] at z1; exact z1
  · rw [if_neg nd] at z1; exact False.elim z1
theorem run_V {pins : List (Addr × Obj)} {σ : L2.St} {H : Hp} {s : Shared} {Q : VK} {us : List Value} {vs : List V} (V0 : VOk g X.prog X.w X.K X.mg X.base k f fd ps φ) (room : Room k X.A) (gd : g = true → X.A.guards = some []) (hb : Binds X.K fd ps []) (tk : Takes X W)
    (I : L2.Inv X pins σ H s) (rv : Vals vs us) (h : spV X.K φ vs H Q (WE W σ)) : wpAny (model X.prog X.w) X.A (call (.ref f) us) (EP X pins σ Q) X.xe s := by
  have lu : (us ++ []).length = ps.length := by rw [List.append_nil, ← rv.length]; exact spV.len V0.len h
  have bd := hb s us I.kIn lu
  rw [List.append_nil] at bd
  refine wpAny_call (codeAny_mono (V0.run X.A X.stack s H ⟨us, []⟩ us vs Q (WE W σ) room gd I.env0 bd rv h) fun res s' hq => ?_)
  cases res with
  | error e => exact passAt tk σ pins H s e s' I hq
  | ok fl => cases fl <;> first | exact I.after hq | exact False.elim hq
/-- f(e, ..) of a def -/
theorem ve_call (V0 : VOk g X.prog X.w X.K X.mg X.base k f fd ps φ) (room : Room k X.A) (gd : g = true → X.A.guards = some []) (tk : Takes X W) (hg : Gl X x) (hm : X.mg x = some (.ref f)) (hk : PySem.W.keepIn X.K (.ref f) = true) (hb : Binds X.K fd ps [])
    (ha : VA X W (e :: es) fa) (hdb : (x == ("__debug__" : Str)) = false := by decide) (he : starEach (e :: es) X.env = (false, eval e X.env) :: starEach es X.env := by rfl) (hpl : (backTo pos (starEach es X.env)).any (·.1) = false := by rfl) :
    VE X W (.Call (.Name x p) (e :: es) [] pos) (callF φ fa) := by
  refine ⟨fun pins s σ H Q I h => wpAny_Call_Name_kw (ld_glob I hg hm ?_ hdb)⟩
  exact PySem.W.callWith_K (h₀ := X.base) I.ok.mod.kin hk (thn (ha.run pos pins s σ H _ I (rd_call h)) fun us s1 ⟨vs, H1, I1, rv, q⟩ => ⟨I1.kIn, run_V V0 room gd hb tk I1 rv q⟩) he hpl
end
end PV

/-! PV5: statements, targets, loops. -/
namespace PV
open PySem PySem.Spec PyProof.Rows L2
variable [Tbl]

section
variable {K : PySem.W.Frag} {W : WX} {N N' : Ends} {c : Cq} {F F1 : Hp}
theorem aftS.mono : ∀ {o : O}, aftS K W N c F o → Same F F1 → (∀ σ H, N.nx σ H → N'.nx σ H) → (∀ v H, N.rt v H → N'.rt v H) → (∀ σ H, N.bk σ H → N'.bk σ H) → (∀ σ H, N.ct σ H → N'.ct σ H) → aftS K W N' c F1 o
  | .nx δ, h, s, a, _, _, _ => fun σ' F' H' r e => a _ _ (h σ' F' H' r (s.trans e))
  | .ret d δ, h, s, _, a, _, _ => fun v σ' F' H' r e d => a _ _ (h v σ' F' H' r (s.trans e) d)
  | .brk δ, h, s, _, _, a, _ => fun σ' F' H' r e => a _ _ (h σ' F' H' r (s.trans e))
  | .cnt δ, h, s, _, _, _, a => fun σ' F' H' r e => a _ _ (h σ' F' H' r (s.trans e))
  | .exc x δ, h, s, _, _, _, _ => fun cls od σ' F' H' r e d => h cls od σ' F' H' r (s.trans e) d
  | .stuck, h, _, _, _, _, _ => h
theorem aftS.up {o : O} (h : aftS K W N c F o) (s : Same F F1) : aftS K W N c F1 o := h.mono s (fun _ _ z => z) (fun _ _ z => z) (fun _ _ z => z) fun _ _ z => z
end

/-- an expression, then a statement's end -/
def bindS {α : Type} (r : R α) (g : α → DE → O) : O :=
  match r with
  | .ok a δ => g a δ
  | .exc x δ => .exc x δ
  | .stuck => .stuck
theorem rdS.first {α β : Type} {K : PySem.W.Frag} {W : WX} {DM : Cq → Hp → Hp → L2.St → DE → α → β → Prop} {f : DE → R α} {g : α → DE → O} {N : Ends} {σ : L2.St} {H : Hp} {Q' : β → Hp → Prop} (h : rdS K W (fun δ => bindS (f δ) g) N σ H)
    (k : ∀ c F H1 δ a v, Rel K c F H1 σ δ → DM c F H1 σ δ a v → aftS K W N c F (g a δ) → Q' v H1) : rd K W DM f σ H Q' := by
  obtain ⟨c, F, δ, r, a⟩ := h
  refine ⟨c, F, δ, r, ?_⟩
  have a : aftS K W N c F (bindS (f δ) g) := a
  cases e : f δ with
  | ok x δ1 =>
    rw [e] at a
    exact fun v F' H' r' s d => k c F' H' δ1 x v r' d (a.up s)
  | exc x δ1 =>
    rw [e] at a
    exact fun cls od F' H' r' s d => a cls od σ F' H' r' s d
  | stuck => rw [e] at a; exact a
theorem aftS.next {α β : Type} {K : PySem.W.Frag} {W : WX} {DM : Cq → Hp → Hp → L2.St → DE → α → β → Prop} {f : DE → R α} {g : α → DE → O} {N : Ends} {c : Cq} {F H : Hp} {σ : L2.St} {δ : DE} {Q' : β → Hp → Prop} (r : Rel K c F H σ δ) (h : aftS K W N c F (bindS (f δ) g))
    (k : ∀ F1 H1 δ1 a v, Rel K c F1 H1 σ δ1 → Same F F1 → DM c F1 H1 σ δ1 a v → aftS K W N c F1 (g a δ1) → Q' v H1) : rd K W DM f σ H Q' := by
  refine ⟨c, F, δ, r, ?_⟩
  cases e : f δ with
  | ok x δ1 => rw [e] at h; exact fun v F' H' r' s d => k F' H' δ1 x v r' s d (h.up s)
  | exc x δ1 => rw [e] at h; exact fun cls od F' H' r' s d => h cls od σ F' H' r' s d
  | stuck => rw [e] at h; exact h
theorem rdS.here {K : PySem.W.Frag} {W : WX} {c : Cq} {F H : Hp} {σ : L2.St} {δ : DE} {g : DE → O} {N : Ends} (r : Rel K c F H σ δ) (h : aftS K W N c F (g δ)) : rdS K W g N σ H := ⟨c, F, δ, r, h⟩

def thenS (g h : DE → O) : DE → O := fun δ => match g δ with
  | .nx δ => h δ
  | o => o
def skipS : DE → O := fun δ => .nx δ
def neverS : DE → O := fun _ => .stuck
def retS (f : DE → R D) : DE → O := fun δ => bindS (f δ) fun d δ => .ret d δ
def dropS (f : DE → R D) : DE → O := fun δ => bindS (f δ) fun _ δ => .nx δ
def ifS (t : DE → R Bool) (g h : DE → O) : DE → O := fun δ => bindS (t δ) fun b δ => if b = true then g δ else h δ
/-- a slot that is not lent takes a datum | an own object -/
def setSl (i : Nat) (s : Sl) (δ : DE) : Option DE := match δ[i]? with
  | some (some (.bor _)) => none
  | some _ => some (δ.set i (some s))
  | none => none
def setS (i : Nat) (f : DE → R D) : DE → O := fun δ => bindS (f δ) fun d δ => match setSl i (.val d) δ with
  | some δ => .nx δ
  | none => .stuck
def ownS (i : Nat) (f : DE → R MD) : DE → O := fun δ => bindS (f δ) fun m δ => match setSl i (.own m) δ with
  | some δ => .nx δ
  | none => .stuck
theorem setSl_some {i : Nat} {s : Sl} {δ δ' : DE} (h : setSl i s δ = some δ') : δ' = δ.set i (some s) ∧ ∀ m, δ[i]? ≠ some (some (.bor m)) := by
  unfold setSl at h
  split at h
  · cases h
  · rename_i x hx e
    cases h
    refine ⟨rfl, fun m q => ?_⟩
    rw [e] at q
    exact hx m (Option.some.inj q)
  · cases h

section
variable {X : Cx} {W : WX} {e a b : Expr} {st : Stmt} {rest sts sts' : List Stmt} {g h : DE → O} {f : DE → R D} {pos pos' : Pos}
theorem vss_nil : VSs X W [] skipS := PSs.to pss_nil fun N σ H z => by
  obtain ⟨c, F, δ, r, z⟩ := z
  exact z σ F H r (.refl _)
theorem vss_one (k : VS X W st g) : VSs X W [st] g := pss_one k
theorem rd_then {K : PySem.W.Frag} {N : Ends} {σ : L2.St} {H : Hp} (z : rdS K W (thenS g h) N σ H) : tSeq (rdS K W g) (rdS K W h) N σ H := by
  obtain ⟨c, F, δ, r, z⟩ := z
  refine ⟨c, F, δ, r, ?_⟩
  unfold thenS at z
  cases e : g δ with
  | nx δ1 => rw [e] at z; exact fun σ' F' H' r' s => rdS.here r' (z.up s)
  | ret d δ1 => rw [e] at z; exact z
  | brk δ1 => rw [e] at z; exact z
  | cnt δ1 => rw [e] at z; exact z
  | exc x δ1 => rw [e] at z; exact z
  | stuck => rw [e] at z; exact z
theorem vss_cons (k : VS X W st g) (l : VSs X W rest h) : VSs X W (st :: rest) (thenS g h) := PSs.to (pss_cons k l) fun _ _ _ z => rd_then z
theorem vs_never : VS X W st neverS := PS.to ps_never fun N σ H z => by
  obtain ⟨c, F, δ, r, z⟩ := z
  exact z
theorem vs_pass : VS X W (.Pass pos) skipS := PS.to ps_pass fun N σ H z => by
  obtain ⟨c, F, δ, r, z⟩ := z
  exact z σ F H r (.refl _)
theorem vs_break : VS X W (.Break pos) (fun δ => .brk δ) := PS.to ps_break fun N σ H z => by
  obtain ⟨c, F, δ, r, z⟩ := z
  exact z σ F H r (.refl _)
theorem vs_continue : VS X W (.Continue pos) (fun δ => .cnt δ) := PS.to ps_continue fun N σ H z => by
  obtain ⟨c, F, δ, r, z⟩ := z
  exact z σ F H r (.refl _)
theorem vs_ret (k : VE X W e f) : VS X W (.Return (some e) pos) (retS f) := PS.to (ps_ret k) fun N σ H z =>
  z.first (DM := dnE X.K) fun c F H1 δ x v r1 d1 z1 => z1 v σ F H1 r1 (.refl _) d1
theorem vs_retN : VS X W (.Return none pos) (retS (cst .non)) := PS.to ps_retN fun N σ H z => by
  obtain ⟨c, F, δ, r, z⟩ := z
  exact z .non σ F H r (.refl _) rfl
theorem vs_expr (k : VE X W e f) (hs : swapsWith e none pos.line X.env = pure false := by rfl) : VS X W (.Expr e pos) (dropS f) := PS.to (ps_expr k hs) fun N σ H z =>
  z.first (DM := dnE X.K) fun c F H1 δ x v r1 d1 z1 => z1 σ F H1 r1 (.refl _)
theorem vs_if {t : DE → R Bool} (k : VT X W e t) (l : VSs X W sts g) (m : VSs X W sts' h) : VS X W (.If e sts sts' pos) (ifS t g h) := PS.to (ps_if k l m) fun N σ H z => by
  refine z.first (DM := dnB) fun c F H1 δ x v r1 d1 z1 => ?_
  cases (show v = x from d1)
  cases x with
  | true => exact rdS.here r1 z1
  | false => exact rdS.here r1 z1
theorem rd_set {K : PySem.W.Frag} {i : Nat} {N : Ends} {σ : L2.St} {H : Hp} (z : rdS K W (setS i f) N σ H) : tAsg (rdE K W f) (gName i) N σ H := by
  refine z.first (DM := dnE K) fun c F H1 δ x v r1 d1 z1 => ?_
  cases q : setSl i (.val x) δ with
  | none => rw [q] at z1; exact False.elim z1
  | some δ' =>
    rw [q] at z1
    obtain ⟨rfl, nb⟩ := setSl_some q
    exact z1 _ F H1 (r1.set d1 nb) (.refl _)
theorem vs_set {i : Nat} {x : Str} (hN : X.N.Nodup) (hi : X.N[i]? = some x) (hx : Loc X.env.scope x) (k : VE X W e f) (hs : swapsWith e (some (.Name x pos')) pos.line X.env = pure false := by rfl) (hf : X.fn x = true ∨ X.env.scope.names.lookup x = some .local := by first | exact .inl rfl | exact .inr rfl | assumption) :
    VS X W (.Assign [.Name x pos'] e pos) (setS i f) := PS.to (ps_set hN hi hx k hs hf) fun _ _ _ z => rd_set z
theorem rd_own {K : PySem.W.Frag} {i : Nat} {fm : DE → R MD} {N : Ends} {σ : L2.St} {H : Hp} (z : rdS K W (ownS i fm) N σ H) : tAsg (rdN K W fm) (gName i) N σ H := by
  refine z.first (DM := dnN K) fun c F H1 δ m v r1 d1 z1 => ?_
  cases q : setSl i (.own m) δ with
  | none => rw [q] at z1; exact False.elim z1
  | some δ' =>
    rw [q] at z1
    obtain ⟨rfl, nb⟩ := setSl_some q
    obtain ⟨p, o, rfl, h1, h2, h3, h4, h5, h6⟩ := d1
    exact z1 _ F H1 (r1.setOwn h1 h3 h4 h5 h2 h6 nb) (.refl _)
theorem vs_own {i : Nat} {x : Str} {fm : DE → R MD} (hN : X.N.Nodup) (hi : X.N[i]? = some x) (hx : Loc X.env.scope x) (k : VN X W e fm) (hs : swapsWith e (some (.Name x pos')) pos.line X.env = pure false := by rfl) (hf : X.fn x = true ∨ X.env.scope.names.lookup x = some .local := by first | exact .inl rfl | exact .inr rfl | assumption) :
    VS X W (.Assign [.Name x pos'] e pos) (ownS i fm) := PS.to (ps_set hN hi hx k hs hf) fun _ _ _ z => rd_own z
/-- a new object that is not changed any more -/
def ofN (f : DE → R MD) : DE → R D := fun δ => (f δ).bind fun m δ => .ok m.d δ
theorem rd_ofN {K : PySem.W.Frag} {fm : DE → R MD} {σ : L2.St} {H : Hp} {Q : VK} (z : rdE K W (ofN fm) σ H Q) : rdN K W fm σ H Q := by
  refine z.first (DM := dnN K) fun c F H1 δ m v r1 d1 z1 => ?_
  obtain ⟨p, o, rfl, h1, h2, h3, h4, h5, h6⟩ := d1
  have bne : ∀ i ∈ c.bs, c.adr i ≠ p := fun i hi q => by
    have := r1.bor0 i hi
    rw [q] at this
    exact this h5
  refine z1 _ (upd F p o) H1 ⟨fun b x e => ?_, r1.pres, r1.low.trans (same_new h3), fun b x e => ?_, fun b x e => ⟨(r1.gs b x e).1, ?_⟩, r1.bor0, r1.borD, r1.binj, r1.len, fun i s e => (r1.sl i s e).to (same_new h3) (fun a x y1 y2 y0 y3 => ?_) fun _ _ _ _ y _ => y, r1.apart, r1.tab.lay h2.pl⟩ (same_new h3) (h2.still h3)
  · by_cases q : b = p
    · subst q; rw [upd_same] at e; cases e; exact h1
    · rw [upd_ne q] at e; exact r1.sub _ _ e
  · by_cases q : b = p
    · subst q; exact .inr (.inl h5)
    · rw [upd_ne q] at e; exact r1.new _ _ e
  · rw [upd_ne (fun q => by subst q; rw [h4] at e; cases e)]; exact (r1.gs b x e).2
  · rw [upd_ne ?_]; exact y2
    intro q
    subst q
    cases s with
    | val d => exact y0 d rfl
    | own n => exact h6 i n e (getD_some y3)
    | bor n =>
      obtain ⟨hb, _, w, _⟩ := r1.sl i _ e
      have y3 := getD_some y3
      rw [getD_some w] at y3
      exact bne i hb (V.ref.inj (Option.some.inj (Option.some.inj y3)))
theorem ve_new {fm : DE → R MD} (k : VN X W e fm) : VE X W e (ofN fm) := PE.to k fun σ H Q z => rd_ofN z
end

/-! ### targets -/
/-- t takes a datum; ts are its slots -/
def rdG (K : PySem.W.Frag) (ts : List Nat) (t : D → DE → Option DE) : TG := fun v σ H Q => ∃ c F δ d, Rel K c F H σ δ ∧ Den K F d v ∧
  match t d δ with
  | some δ' => ∀ σ', Rel K c F H σ' δ' → σ'.length = σ.length → (∀ j, j ∉ ts → σ'[j]? = σ[j]?) → Q σ' H
  | none => False
abbrev VG (X : Cx) (ts : List Nat) (tg : Expr) (t : D → DE → Option DE) : Prop := PG X tg (rdG X.K ts t)
def rdGs (K : PySem.W.Frag) (ts : List Nat) (t : List D → DE → Option DE) : TGs := fun vs σ H Q => ∃ c F δ ds, Rel K c F H σ δ ∧ Dens K F ds vs ∧
  match t ds δ with
  | some δ' => ∀ σ', Rel K c F H σ' δ' → σ'.length = σ.length → (∀ j, j ∉ ts → σ'[j]? = σ[j]?) → Q σ' H
  | none => False
abbrev VGs (X : Cx) (ts : List Nat) (tg : List Expr) (t : List D → DE → Option DE) : Prop := PGs X tg (rdGs X.K ts t)
theorem PG.to {X : Cx} {e : Expr} {t t' : TG} (h : PG X e t) (i : ∀ v σ H Q, t' v σ H Q → t v σ H Q) : PG X e t' := ⟨fun pins s σ H x v Q I r z => h.run pins s σ H x v Q I r (i _ _ _ _ z)⟩
theorem PGs.to {X : Cx} {e : List Expr} {t t' : TGs} (h : PGs X e t) (i : ∀ v σ H Q, t' v σ H Q → t v σ H Q) : PGs X e t' := ⟨fun pins s σ H x v Q I r z => h.run pins s σ H x v Q I r (i _ _ _ _ z)⟩
def nmG (i : Nat) : D → DE → Option DE := fun d δ => setSl i (.val d) δ
def nilG : List D → DE → Option DE := fun ds δ => match ds with
  | [] => some δ
  | _ => none
def consG (t : D → DE → Option DE) (r : List D → DE → Option DE) : List D → DE → Option DE := fun ds δ => match ds with
  | [] => none
  | d :: ds => (t d δ).bind fun δ => r ds δ
def tupG (n : Nat) (r : List D → DE → Option DE) : D → DE → Option DE := fun d δ => match d with
  | .tup ds => if ds.length = n then r ds δ else none
  | _ => none
section
variable {X : Cx} {ts ts' : List Nat} {e : Expr} {es : List Expr} {t : D → DE → Option DE} {r : List D → DE → Option DE}
theorem vg_name {i : Nat} {x : Str} {pos : Pos} (hN : X.N.Nodup) (hi : X.N[i]? = some x) (hx : Loc X.env.scope x) (hf : X.fn x = true ∨ X.env.scope.names.lookup x = some .local := by first | exact .inl rfl | exact .inr rfl | assumption) : VG X [i] (.Name x pos) (nmG i) :=
  PG.to (pg_name hN hi hx hf) fun v σ H Q z => by
    obtain ⟨c, F, δ, d, r, dd, z⟩ := z
    unfold nmG at z
    cases q : setSl i (.val d) δ with
    | none => rw [q] at z; exact False.elim z
    | some δ' =>
      rw [q] at z
      obtain ⟨rfl, nb⟩ := setSl_some q
      exact z _ (r.set dd nb) (List.length_set) fun j hj => List.getElem?_set_ne (fun y => hj (by rw [y]; exact List.mem_singleton.mpr rfl))
theorem vgs_nil : VGs X [] [] nilG := PGs.to pgs_nil fun v σ H Q z => by
  obtain ⟨c, F, δ, ds, r, dd, z⟩ := z
  unfold nilG at z
  cases ds with
  | nil => exact ⟨dd, z σ r rfl fun _ _ => rfl⟩
  | cons d ds => exact False.elim z
theorem vgs_cons (h : VG X ts e t) (k : VGs X ts' es r) (hs : (assignEach (e :: es) X.env).map (·.2) = assign e X.env :: (assignEach es X.env).map (·.2) := by rfl) : VGs X (ts ++ ts') (e :: es) (consG t r) := PGs.to (pgs_cons h k hs) fun v σ H Q z => by
  obtain ⟨c, F, δ, ds, r1, dd, z⟩ := z
  unfold consG at z
  cases ds with
  | nil => exact False.elim z
  | cons d ds =>
    obtain ⟨v1, vs, rfl, d1, d2⟩ := dd
    refine ⟨v1, vs, rfl, c, F, δ, d, r1, d1, ?_⟩
    have z : match (t d δ).bind (fun δ => r ds δ) with
      | some δ' => ∀ σ', Rel X.K c F H σ' δ' → σ'.length = σ.length → (∀ j, j ∉ ts ++ ts' → σ'[j]? = σ[j]?) → Q σ' H
      | none => False := z
    cases q : t d δ with
    | none => rw [q] at z; exact z
    | some δ1 =>
      rw [q] at z
      intro σ1 r2 l1 n1
      refine ⟨c, F, δ1, ds, r2, d2, ?_⟩
      have z : match r ds δ1 with
        | some δ' => ∀ σ', Rel X.K c F H σ' δ' → σ'.length = σ.length → (∀ j, j ∉ ts ++ ts' → σ'[j]? = σ[j]?) → Q σ' H
        | none => False := z
      cases q2 : r ds δ1 with
      | none => rw [q2] at z; exact z
      | some δ2 =>
        rw [q2] at z
        exact fun σ2 r3 l2 n2 => z σ2 r3 (l2.trans l1) fun j hj => (n2 j fun y => hj (List.mem_append_right _ y)).trans (n1 j fun y => hj (List.mem_append_left _ y))
theorem vg_tup {kt : Nat} {pos : Pos} {n : Nat} (hc : X.calm = true) (k : VGs X ts es r) (hn : (assignEach es X.env).length = n := by rfl) (hst : (assignEach es X.env).findIdx? (·.1) = none := by rfl) :
    VG X ts (.Tuple es kt pos) (tupG n r) := PG.to (pg_tup hc k hn hst) fun v σ H Q z => by
  obtain ⟨c, F, δ, d, r1, dd, z⟩ := z
  unfold tupG at z
  cases d <;> first | exact False.elim z | skip
  rename_i ds
  obtain ⟨a, xs, rfl, h1, h2⟩ := dd
  have z : match (if ds.length = n then r ds δ else none) with
    | some δ' => ∀ σ', Rel X.K c F H σ' δ' → σ'.length = σ.length → (∀ j, j ∉ ts → σ'[j]? = σ[j]?) → Q σ' H
    | none => False := z
  by_cases q : ds.length = n
  · rw [if_pos q] at z
    exact ⟨a, xs, rfl, sqt (r1.sub _ _ h1), by rw [h2.length, q], c, F, δ, ds, r1, h2, z⟩
  · rw [if_neg q] at z; exact False.elim z
end

/-! ### loops -/
/-- what a loop walks: these data, one after the other -/
def ItF (K : PySem.W.Frag) (F0 : Hp) (J : It) (ds : List D) : Prop := ∀ c F H σ δ (i : Nat), Rel K c F H σ δ → Same F0 F →
  (∀ d, ds[i]? = some d → J.go i H ∧ ∀ x H1, J.yld i H x H1 → ∃ F1, Rel K c F1 H1 σ δ ∧ Same F F1 ∧ Den K F1 d x) ∧ (i = ds.length → J.stop i H)
abbrev dnI (K : PySem.W.Frag) : Cq → Hp → Hp → L2.St → DE → List D → It → Prop := fun _ F _ _ _ ds J => ItF K F J ds
abbrev rdI (K : PySem.W.Frag) (W : WX) (f : DE → R (List D)) : TI := rd K W (dnI K) f
abbrev VI (X : Cx) (W : WX) (tg iter : Expr) (f : DE → R (List D)) : Prop := PI X tg iter (rdI X.K W f)
theorem PI.to {X : Cx} {tg e : Expr} {t t' : TI} (h : PI X tg e t) (i : ∀ σ H Q, t' σ H Q → t σ H Q) : PI X tg e t' := ⟨fun pins s σ H Q I z => h.run pins s σ H Q I (i σ H Q z)⟩
def loopF (t : D → DE → Option DE) (g : DE → O) : List D → DE → O
  | [], δ => .nx δ
  | d :: ds, δ => match t d δ with
    | none => .stuck
    | some δ => match g δ with
      | .nx δ => loopF t g ds δ
      | .cnt δ => loopF t g ds δ
      | .brk δ => .nx δ
      | o => o
def forS (f : DE → R (List D)) (t : D → DE → Option DE) (g : DE → O) : DE → O := fun δ => bindS (f δ) fun ds δ => loopF t g ds δ
theorem rd_for {K : PySem.W.Frag} {W : WX} {f : DE → R (List D)} {ts : List Nat} {t : D → DE → Option DE} {g : DE → O} {N : Ends} {σ : L2.St} {H : Hp} (z : rdS K W (forS f t g) N σ H) : tFor (rdI K W f) (rdG K ts t) (rdS K W g) N σ H := by
  refine z.first (DM := dnI K) fun c F H1 δ ds J r1 d1 z1 => ?_
  refine ⟨fun i m σ H => ∃ F' δ, Rel K c F' H σ δ ∧ Same F F' ∧ i + m = ds.length ∧ aftS K W N c F' (loopF t g (ds.drop i) δ), ⟨ds.length, F, δ, r1, .refl _, by omega, z1⟩, ?_⟩
  rintro i m σ H ⟨F2, δ2, r2, s2, em, z2⟩
  obtain ⟨hg, hs⟩ := d1 c F2 H σ δ2 i r2 s2
  by_cases hi : i < ds.length
  · have ed := List.getElem?_eq_getElem hi
    obtain ⟨go, yl⟩ := hg _ ed
    rw [List.drop_eq_getElem_cons hi] at z2
    refine .inr ⟨go, fun σ' H' => ∃ F' δ, Rel K c F' H' σ' δ ∧ Same F F' ∧ aftS K W N c F' (loopF t g (ds.drop (i + 1)) δ), ?_, fun x H3 hy => ?_⟩
    · rintro σ' H' ⟨F3, δ3, r3, s3, z3⟩
      exact ⟨m - 1, by omega, F3, δ3, r3, s3, by omega, z3⟩
    · obtain ⟨F3, r3, s3, d3⟩ := yl x H3 hy
      refine ⟨c, F3, δ2, ds[i], r3, d3, ?_⟩
      unfold loopF at z2
      cases q : t ds[i] δ2 with
      | none => rw [q] at z2; exact z2
      | some δ4 =>
        rw [q] at z2
        intro σ4 r4 _ _
        refine rdS.here r4 ?_
        have z2 : aftS K W N c F2 (match g δ4 with
          | .nx δ => loopF t g (ds.drop (i + 1)) δ
          | .cnt δ => loopF t g (ds.drop (i + 1)) δ
          | .brk δ => .nx δ
          | o => o) := z2
        have z2 := z2.up s3
        cases q2 : g δ4 with
        | nx δ5 => rw [q2] at z2; exact fun σ' F' H' r' s' => ⟨F', δ5, r', (s2.trans s3).trans s', z2.up s'⟩
        | cnt δ5 => rw [q2] at z2; exact fun σ' F' H' r' s' => ⟨F', δ5, r', (s2.trans s3).trans s', z2.up s'⟩
        | brk δ5 => rw [q2] at z2; exact z2
        | ret d δ5 => rw [q2] at z2; exact z2
        | exc x δ5 => rw [q2] at z2; exact z2
        | stuck => rw [q2] at z2; exact z2
  · refine .inl ⟨hs (by omega), ?_⟩
    rw [List.drop_eq_nil_of_le (by omega)] at z2
    exact z2 σ F2 H r2 (.refl _)
theorem vs_for {X : Cx} {W : WX} {tg iter : Expr} {body : List Stmt} {f : DE → R (List D)} {ts : List Nat} {t : D → DE → Option DE} {g : DE → O} {pos : Pos} (hp : PassesOwn (model X.prog X.w) X.A X.env X.xe) (hc : X.calm = true) (hi : VI X W tg iter f) (hg : VG X ts tg t) (hb : VSs X W body g)
    (hs : ∀ x, foldedSetIterable iter X.env x = pure x := by intro _; rfl) : VS X W (.For tg iter body [] pos) (forS f t g) := PS.to (ps_for hp hc hi hg hb hs) fun _ _ _ z => rd_for z
end PV

/-! PV6: displays, slots that are written, comprehensions. -/
namespace PV
open PySem PySem.Spec PyProof.Rows L2
variable [Tbl]

abbrev LIM : Nat := 1000000
theorem lim_le {n : Nat} (h : n ≤ LIM) : n ≤ sizeLine := Nat.le_trans h (by decide)
theorem lim_lt {n : Nat} (h : n < LIM) : n < sizeLine := Nat.lt_of_lt_of_le h (by decide)

/-! ### displays -/
def valsOf : List Arg → Option (List D)
  | [] => some []
  | .val d :: as => (valsOf as).map fun r => d :: r
  | .slot _ :: _ => none
def tupE (fa : DE → R (List Arg)) : DE → R D := fun δ => (fa δ).bind fun as δ => match valsOf as with
  | some ds => if ds.length ≤ LIM then .ok (.tup ds) δ else .stuck
  | none => .stuck
def lstN (fa : DE → R (List Arg)) : DE → R MD := fun δ => (fa δ).bind fun as δ => match valsOf as with
  | some ds => if ds.length ≤ LIM then .ok (.lst ds) δ else .stuck
  | none => .stuck
theorem vals_den {K : PySem.W.Frag} {F : Hp} {σ : L2.St} : ∀ {as : List Arg} {ds : List D} {vs : List V}, valsOf as = some ds → ArgsD K F σ as vs → Dens K F ds vs
  | [], _, _, h, g => by cases h; exact g
  | .val d :: as, ds, vs, h, ⟨v, r, e, g1, g2⟩ => by
    obtain ⟨t, e1, e2⟩ := Option.map_eq_some_iff.mp h
    rw [← e2]
    exact ⟨v, r, e, g1, vals_den e1 g2⟩
  | .slot i :: as, _, _, h, _ => by cases h
section
variable {K : PySem.W.Frag} {c : Cq} {F H : Hp} {σ : L2.St} {δ : DE}
/-- a new object, as an object of one's own -/
theorem Rel.fresh (r : Rel K c F H σ δ) {p : Addr} {o : HO} {m : MD} (hp : H p = none) (hm : MDen K F m o) : Rel K c F (upd H p o) σ δ ∧ dnN K c F (upd H p o) σ δ m (.ref p) := by
  refine ⟨r.tmp hp, p, o, rfl, upd_same, hm, r.freeF hp, r.freeG hp, r.free hp, fun j n e z => ?_⟩
  obtain ⟨a, o', e1, e2, _⟩ := r.own e
  rw [z] at e1; cases e1
  rw [hp] at e2; cases e2
end
section
variable {X : Cx} {W : WX} {es : List Expr} {fa : DE → R (List Arg)} {pos : Pos}
theorem ve_tup {x1} (h : VA X W es fa) : VE X W (.Tuple es x1 pos) (tupE fa) := PE.to (pe_tup h) fun σ H Q z => by
  refine z.first (DM := dnA X.K) fun c F H1 δ as vs r1 d1 z1 => ?_
  cases e : valsOf as with
  | none => rw [e] at z1; exact False.elim z1
  | some ds =>
    rw [e] at z1
    have dd := vals_den e d1
    by_cases hl : ds.length ≤ LIM
    · have z1 : aft X.K W (dnE X.K) c F σ Q (if ds.length ≤ LIM then .ok (.tup ds) δ else .stuck) := z1
      rw [if_pos hl] at z1
      refine ⟨by rw [dd.length]; exact lim_le hl, fun p hp => z1 _ _ _ (r1.lay hp) (same_new (r1.freeF hp)) ⟨p, vs, rfl, upd_same, Dens.mono (same_new (r1.freeF hp)) _ _ dd⟩⟩
    · have z1 : aft X.K W (dnE X.K) c F σ Q (if ds.length ≤ LIM then .ok (.tup ds) δ else .stuck) := z1
      rw [if_neg hl] at z1; exact False.elim z1
theorem vn_lst (h : VA X W es fa) : VN X W (.List es pos) (lstN fa) := PE.to (pe_lst h) fun σ H Q z => by
  refine z.first (DM := dnA X.K) fun c F H1 δ as vs r1 d1 z1 => ?_
  cases e : valsOf as with
  | none => rw [e] at z1; exact False.elim z1
  | some ds =>
    rw [e] at z1
    have dd := vals_den e d1
    by_cases hl : ds.length ≤ LIM
    · have z1 : aft X.K W (dnN X.K) c F σ Q (if ds.length ≤ LIM then .ok (.lst ds) δ else .stuck) := z1
      rw [if_pos hl] at z1
      refine ⟨by rw [dd.length]; exact lim_le hl, fun p hp => ?_⟩
      obtain ⟨h1, h2⟩ := r1.fresh (o := .lst vs) (m := .lst ds) hp dd
      exact z1 _ _ _ h1 (.refl _) h2
    · have z1 : aft X.K W (dnN X.K) c F σ Q (if ds.length ≤ LIM then .ok (.lst ds) δ else .stuck) := z1
      rw [if_neg hl] at z1; exact False.elim z1
end

/-! ### a list in a slot -/
/-- x.append(e) -/
def appS (i : Nat) (f : DE → R D) : DE → O := fun δ => match mutOf δ i with
  | some (_, .lst _) => bindS (f δ) fun d δ => match mutOf δ i with
    | some (s, .lst l) => if l.length < LIM then .nx (δ.set i (some (s.wr (.lst (l ++ [d]))))) else .stuck
    | _ => .stuck
  | _ => .stuck
theorem mden_lst {K : PySem.W.Frag} {F : Hp} {l : List D} {o : HO} (h : MDen K F (.lst l) o) : ∃ xs, o = .lst xs ∧ Dens K F l xs := by
  cases o <;> first | exact False.elim h | exact ⟨_, rfl, h⟩
section
variable {X : Cx} {W : WX} {e : Expr} {f : DE → R D} {pos : Pos}
theorem vs_append (i : Nat) {x : Str} {px apos cpos : Pos} (k : VE X W e f) (hN : X.N[i]? = some x := by rfl) (hv : Vis X.env.scope x := by first | exact Or.inl rfl | exact Or.inr (Or.inl rfl) | exact Or.inr (Or.inr rfl)) (hd : (x == ("__debug__" : Str)) = false := by decide) (hcd : (x == ("__classdict__" : Str)) = false := by decide)
    (hst : starEach [e] X.env = [(false, eval e X.env)] := by rfl) (hline : (apos.endLine == cpos.line) = true := by rfl) (hs : swapsWith (.Call (.Attribute (.Name x px) "append" apos) [e] [] cpos) none pos.line X.env = pure false := by rfl)
    (hbase : attributeBase (.Name x px) "append" X.env (eval (.Name x px) X.env) = eval (.Name x px) X.env := by rfl)
    (hfew : ((backTo cpos (starEach [e] X.env)).all (fun x => !x.1) && (backToKw cpos (keywordEach [] X.env)).all (fun x => x.1.isSome) && decide ([e].length + ([] : List Keyword).length + (if ([] : List Keyword).isEmpty then 0 else 1) < 30)) = true := by rfl) :
    VS X W (.Expr (.Call (.Attribute (.Name x px) "append" apos) [e] [] cpos) pos) (appS i f) :=
  PS.to (ps_expr (pe_bm PySem.F.plainAttrs_list PySem.F.slot_list_append PySem.F.type_list_append mt_append (pe_var hN hv hd hcd) (pa_cons k pa_nil hst) hbase hfew hline hst (by rfl)) hs) fun N σ H z => by
    obtain ⟨c, F, δ, r, z⟩ := z
    unfold appS at z
    split at z
    · rename_i s0 l0 q0
      obtain ⟨q1, q2⟩ := mutOf_some q0
      obtain ⟨a, o, h1, h2, h3, h4⟩ := r.mutAt q1 q2
      obtain ⟨xs, rfl, h3⟩ := mden_lst h3
      refine ⟨.ref a, h1, .inl ⟨rfl, xs, .inl (.inl h2)⟩, ?_⟩
      have z0 : rdS X.K W (fun δ => bindS (f δ) fun d δ => match mutOf δ i with
        | some (s, .lst l) => if l.length < LIM then .nx (δ.set i (some (s.wr (.lst (l ++ [d]))))) else .stuck
        | _ => .stuck) N σ H := ⟨c, F, δ, r, z⟩
      refine z0.first (DM := dnE X.K) fun c F H1 δ d v r1 d1 z1 => ?_
      split at z1
      · rename_i s l q
        obtain ⟨g1, g2⟩ := mutOf_some q
        obtain ⟨b, o, y1, y2, y3, y4⟩ := r1.mutAt g1 g2
        rw [h1] at y1; cases y1
        obtain ⟨ys, rfl, y3⟩ := mden_lst y3
        by_cases hl : l.length < LIM
        · rw [if_pos hl] at z1
          exact ⟨a, ys, v, rfl, rfl, y2, by rw [y3.length]; exact lim_lt hl, z1 σ F _ (r1.write (m' := .lst (l ++ [d])) g1 g2 h1 (Dens.append y3 (Dens.one d1))) (.refl _)⟩
        · rw [if_neg hl] at z1; exact False.elim z1
      · exact False.elim z1
    · exact False.elim z
/-- x[k] of a list in a slot -/
def ixSl (i : Nat) (fb : DE → R D) : DE → R D := fun δ => match mutOf δ i with
  | some _ => (fb δ).bind fun k δ => match mutOf δ i, k with
    | some (_, .lst l), .int k => R.of (atI l k) δ
    | _, _ => .stuck
  | none => .stuck
theorem Dens.atI {K : PySem.W.Frag} {F : Hp} {ds : List D} {vs : List V} {k : Int} {d : D} (h : Dens K F ds vs) (e : L2.atI ds k = some d) : ∃ v, L2.atI vs k = some v ∧ Den K F d v := by
  unfold L2.atI at e ⊢
  rw [h.length]
  cases q : ixN ds.length k with
  | none => rw [q] at e; cases e
  | some j => rw [q] at e; exact h.get e
theorem ve_ixSl (i : Nat) {x : Str} {px : Pos} {b : Expr} {fb : DE → R D} (k : VE X W b fb) (hs : PlainIx b) (hN : X.N[i]? = some x := by rfl) (hv : Vis X.env.scope x := by first | exact Or.inl rfl | exact Or.inr (Or.inl rfl) | exact Or.inr (Or.inr rfl)) (hd : (x == ("__debug__" : Str)) = false := by decide) (hcd : (x == ("__classdict__" : Str)) = false := by decide) :
    VE X W (.Subscript (.Name x px) b pos) (ixSl i fb) := PE.to (pe_ix ix_list (pe_var hN hv hd hcd) k hs) fun σ H Q z => by
  obtain ⟨c, F, δ, r, z⟩ := z
  unfold ixSl at z
  split at z
  · rename_i p q0
    obtain ⟨s0, m0⟩ := p
    obtain ⟨q1, q2⟩ := mutOf_some q0
    obtain ⟨a, o, h1, _⟩ := r.mutAt q1 q2
    refine ⟨.ref a, h1, ?_⟩
    refine aft.next (DM := dnE X.K) (f := fb) (g := fun k δ => match mutOf δ i, k with
      | some (_, .lst l), .int k => R.of (L2.atI l k) δ
      | _, _ => .stuck) r z fun F2 H2 δ2 kd v r2 s2 d2 z2 => ?_
    split at z2
    · rename_i s l kk q
      obtain ⟨g1, g2⟩ := mutOf_some q
      obtain ⟨b, o, y1, y2, y3, y4⟩ := r2.mutAt g1 g2
      rw [h1] at y1; cases y1
      obtain ⟨ys, rfl, y3⟩ := mden_lst y3
      cases e : L2.atI l kk with
      | none => rw [e] at z2; exact False.elim z2
      | some d =>
        rw [e] at z2
        obtain ⟨w, w1, w2⟩ := y3.atI e
        exact ⟨a, ys, kk, w, rfl, d2, .inl (.inl y2), w1, z2 w F2 H2 r2 (.refl _) w2⟩
    · exact False.elim z2
  · exact False.elim z
/-- x[k] = e -/
def putS (i : Nat) (fk f : DE → R D) : DE → O := fun δ => bindS (f δ) fun d δ => match mutOf δ i with
  | some _ => bindS (fk δ) fun k δ => match mutOf δ i, k with
    | some (s, .lst l), .int k => match ixN l.length k with
      | some j => .nx (δ.set i (some (s.wr (.lst (l.set j d)))))
      | none => .stuck
    | _, _ => .stuck
  | none => .stuck
theorem vs_put (i : Nat) {x : Str} {px tpos : Pos} {ik : Expr} {fk : DE → R D} (k : VE X W e f) (kk : VE X W ik fk) (hN : X.N[i]? = some x := by rfl) (hv : Vis X.env.scope x := by first | exact Or.inl rfl | exact Or.inr (Or.inl rfl) | exact Or.inr (Or.inr rfl)) (hd : (x == ("__debug__" : Str)) = false := by decide) (hcd : (x == ("__classdict__" : Str)) = false := by decide)
    (ha : ∀ v, assign (.Subscript (.Name x px) ik tpos) X.env v = (do let ov ← holding [v] (eval (.Name x px) X.env); let iv ← holding [v, ov] (eval ik X.env); standAt tpos; holding [v, ov, iv] (setItem ov iv v); release [v, ov, iv] []) := by intro _; rfl)
    (hs : swapsWithSole [.Subscript (.Name x px) ik tpos] e pos.line X.env = pure false := by rfl) (hw : swappedStores [.Subscript (.Name x px) ik tpos] e X.env = pure none := by rfl)
    (h1 : (assignEach [.Subscript (.Name x px) ik tpos] X.env).map (·.2) = [assign (.Subscript (.Name x px) ik tpos) X.env] := by rfl) :
    VS X W (.Assign [.Subscript (.Name x px) ik tpos] e pos) (putS i fk f) := PS.to (ps_asg k (pg_sub (pe_var hN hv hd hcd) kk set_list ha) hs hw h1) fun N σ H z => by
  refine z.first (DM := dnE X.K) fun c F H1 δ d v r1 d1 z1 => ?_
  split at z1
  · rename_i p q0
    obtain ⟨s0, m0⟩ := p
    obtain ⟨q1, q2⟩ := mutOf_some q0
    obtain ⟨a, o, h1, _⟩ := r1.mutAt q1 q2
    refine ⟨.ref a, h1, ?_⟩
    refine aftS.next (DM := dnE X.K) (f := fk) (g := fun k δ => match mutOf δ i, k with
      | some (s, .lst l), .int k => match ixN l.length k with
        | some j => .nx (δ.set i (some (s.wr (.lst (l.set j d)))))
        | none => .stuck
      | _, _ => .stuck) r1 z1 fun F2 H2 δ2 kd kv r2 s2 d2 z2 => ?_
    split at z2
    · rename_i s l n q
      obtain ⟨g1, g2⟩ := mutOf_some q
      obtain ⟨b, o, y1, y2, y3, y4⟩ := r2.mutAt g1 g2
      rw [h1] at y1; cases y1
      obtain ⟨ys, rfl, y3⟩ := mden_lst y3
      split at z2
      · rename_i j e
        exact ⟨a, ys, n, j, rfl, d2, y2, by rw [y3.length]; exact e, z2 σ F2 _ (r2.write (m' := .lst (l.set j d)) g1 g2 h1 (Dens.set j y3 (Den.mono s2 _ _ d1))) (.refl _)⟩
      · exact False.elim z2
    · exact False.elim z2
  · exact False.elim z1
end
end PV

/-! PV7: comprehensions. -/
namespace PV
open PySem PySem.Spec PyProof.Rows L2
variable [Tbl]

/-- the slots of a comprehension's own names forgotten; they may not hold what may be written -/
def wipeD (δ : DE) : List Nat → Option DE
  | [] => some δ
  | v :: vs => match mutOf δ v with
    | some _ => none
    | none => (wipeD δ vs).map fun δ' => δ'.set v none
theorem wipeD_get {δ : DE} : ∀ {vs : List Nat} {δ' : DE} {j : Nat}, wipeD δ vs = some δ' → (j ∉ vs → δ'[j]? = δ[j]?) ∧ (j ∈ vs → ∀ s, δ'[j]? ≠ some (some s)) ∧ δ'.length = δ.length ∧ ∀ v ∈ vs, mutOf δ v = none
  | [], δ', j, h => by cases h; exact ⟨fun _ => rfl, fun h => (nomatch h), rfl, fun _ h => (nomatch h)⟩
  | v :: vs, δ', j, h => by
    unfold wipeD at h
    split at h
    · cases h
    · rename_i q
      obtain ⟨δ1, e, q2⟩ := Option.map_eq_some_iff.mp h
      obtain ⟨i1, i2, i3, i4⟩ := wipeD_get (j := j) e
      rw [← q2]
      refine ⟨fun hj => ?_, fun hj s => ?_, by rw [List.length_set]; exact i3, fun w hw => ?_⟩
      · rw [List.getElem?_set_ne (fun z => hj (by rw [z]; exact List.mem_cons_self))]
        exact i1 fun z => hj (List.mem_cons_of_mem _ z)
      · by_cases z : v = j
        · subst z
          rw [List.getElem?_set]
          simp only [if_true]
          split <;> exact fun y => nomatch y
        · rw [List.getElem?_set_ne z]
          rcases List.mem_cons.mp hj with y | y
          · exact absurd y.symm z
          · exact i2 y s
      · rcases List.mem_cons.mp hw with y | y
        · rw [y]; exact q
        · exact i4 w y
theorem wipe_get {σ : L2.St} {j : Nat} {vs : List Nat} (h : j ∉ vs) : (wipe σ vs)[j]? = σ[j]? := wipe_out h
theorem wipe_in (ρ : L2.St) {j : Nat} : ∀ {vs : List Nat}, j ∈ vs → (wipe ρ vs)[j]? = if j < ρ.length then some none else none
  | [], h => nomatch h
  | v :: vs, h => by
    unfold wipe
    by_cases z : v = j
    · subst z
      rw [List.getElem?_set]
      simp only [if_true]
      rw [wipe_length]
    · rw [List.getElem?_set_ne z]
      rcases List.mem_cons.mp h with y | y
      · exact absurd y.symm z
      · exact wipe_in ρ y
theorem wipe_ext {σ σ' : L2.St} {vs : List Nat} (hl : σ'.length = σ.length) (h : ∀ j, j ∉ vs → σ'[j]? = σ[j]?) : wipe σ' vs = wipe σ vs := by
  refine List.ext_getElem? fun j => ?_
  by_cases hj : j ∈ vs
  · rw [wipe_in σ' hj, wipe_in σ hj, hl]
  · rw [wipe_get hj, wipe_get hj]; exact h j hj

section
variable {K : PySem.W.Frag} {c : Cq} {F H : Hp} {σ : L2.St} {δ δ' : DE} {vs : List Nat}
theorem mutOf_of {δ : DE} {i : Nat} {s : Sl} {m : MD} (h : δ[i]? = some (some s)) (hm : s.mut = some m) : mutOf δ i = some (s, m) := by
  unfold mutOf
  rw [h]
  show s.mut.map _ = _
  rw [hm]; rfl
theorem Rel.wipe (r : Rel K c F H σ δ) (h : wipeD δ vs = some δ') : Rel K c F H (L2.wipe σ vs) δ' := by
  have nb : ∀ {i : Nat} {m : MD}, δ[i]? = some (some (.bor m)) → i ∉ vs := fun {i m} e hi => by
    have := (wipeD_get (j := i) h).2.2.2 i hi
    rw [mutOf_of e rfl] at this; cases this
  have at_ : ∀ {i : Nat} {s : Sl}, δ'[i]? = some (some s) → i ∉ vs ∧ δ[i]? = some (some s) := fun {i s} e => by
    obtain ⟨h1, h2, _⟩ := wipeD_get (j := i) h
    by_cases hi : i ∈ vs
    · exact absurd e (h2 hi s)
    · exact ⟨hi, by rw [← h1 hi]; exact e⟩
  refine ⟨r.sub, r.pres, r.low, r.new, r.gs, r.bor0, fun i hi => ?_, r.binj, by rw [wipe_length, (wipeD_get (j := 0) h).2.2.1]; exact r.len, fun i s e => ?_, fun i j a m n e1 e2 e3 e4 => ?_, r.tab⟩
  · obtain ⟨m, e⟩ := r.borD i hi
    exact ⟨m, by rw [(wipeD_get (j := i) h).1 (nb e)]; exact e⟩
  · obtain ⟨h1, h2⟩ := at_ e
    rw [wipe_get h1]
    exact r.sl i s h2
  · obtain ⟨h1, h2⟩ := at_ e1
    obtain ⟨g1, g2⟩ := at_ e2
    rw [wipe_get h1] at e3
    rw [wipe_get g1] at e4
    exact r.apart i j a m n h2 g2 e3 e4
/-- the outer slots as they were, the others as they are -/
def unwipe (δ0 δ : DE) : List Nat → DE
  | [] => δ
  | v :: vs => (unwipe δ0 δ vs).set v (δ0[v]?.getD none)
theorem unwipe_get {δ0 δ : DE} (hl : δ.length = δ0.length) : ∀ {vs : List Nat} {j : Nat}, (j ∉ vs → (unwipe δ0 δ vs)[j]? = δ[j]?) ∧ (j ∈ vs → (unwipe δ0 δ vs)[j]? = δ0[j]?) ∧ (unwipe δ0 δ vs).length = δ.length
  | [], j => ⟨fun _ => rfl, fun h => (nomatch h), rfl⟩
  | v :: vs, j => by
    obtain ⟨i1, i2, i3⟩ := unwipe_get (δ0 := δ0) hl (vs := vs) (j := j)
    unfold unwipe
    refine ⟨fun hj => ?_, fun hj => ?_, by rw [List.length_set]; exact i3⟩
    · rw [List.getElem?_set_ne (fun z => hj (by rw [z]; exact List.mem_cons_self))]
      exact i1 fun z => hj (List.mem_cons_of_mem _ z)
    · by_cases z : v = j
      · subst z
        rw [List.getElem?_set]
        simp only [if_true]
        rw [i3, hl]
        split
        · rename_i hv
          rw [List.getElem?_eq_getElem hv]; rfl
        · rename_i hv
          exact (List.getElem?_eq_none (by omega)).symm
      · rw [List.getElem?_set_ne z]
        rcases List.mem_cons.mp hj with y | y
        · exact absurd y.symm z
        · exact i2 y
theorem Rel.unwipe {δ0 : DE} {F0 H0 : Hp} (r0 : Rel K c F0 H0 σ δ0) (e0 : Same F0 F) (h0 : ∀ v ∈ vs, mutOf δ0 v = none) (r : Rel K c F H (L2.wipe σ vs) δ) (hd : ∀ v ∈ vs, ∀ m, δ[v]? ≠ some (some (.bor m))) : Rel K c F H σ (PV.unwipe δ0 δ vs) := by
  have hl : δ.length = δ0.length := by rw [← r.len, wipe_length]; exact r0.len
  have in_ : ∀ {i : Nat} {s : Sl}, i ∈ vs → (PV.unwipe δ0 δ vs)[i]? = some (some s) → ∃ d, s = .val d ∧ δ0[i]? = some (some (.val d)) := fun {i s} hi e => by
    rw [(unwipe_get (δ0 := δ0) hl (j := i)).2.1 hi] at e
    cases s with
    | val d => exact ⟨d, rfl, e⟩
    | own m => have := h0 i hi; rw [mutOf_of e rfl] at this; cases this
    | bor m => have := h0 i hi; rw [mutOf_of e rfl] at this; cases this
  have own_ : ∀ {i : Nat} {n : MD}, (PV.unwipe δ0 δ vs)[i]? = some (some (Sl.own n)) → i ∉ vs ∧ δ[i]? = some (some (Sl.own n)) := fun {i n} e => by
    by_cases hi : i ∈ vs
    · obtain ⟨d, q, _⟩ := in_ hi e; cases q
    · rw [(unwipe_get (δ0 := δ0) hl (j := i)).1 hi] at e; exact ⟨hi, e⟩
  refine ⟨r.sub, r.pres, r.low, r.new, r.gs, r.bor0, fun i hi => ?_, r.binj, by rw [(unwipe_get (δ0 := δ0) hl (j := 0)).2.2, hl]; exact r0.len, fun i s e => ?_, fun i j a m n e1 e2 e3 e4 => ?_, r.tab⟩
  · obtain ⟨m, e⟩ := r.borD i hi
    have : i ∉ vs := fun z => hd i z m e
    exact ⟨m, by rw [(unwipe_get (δ0 := δ0) hl (j := i)).1 this]; exact e⟩
  · by_cases hi : i ∈ vs
    · obtain ⟨d, rfl, e1⟩ := in_ hi e
      obtain ⟨v, e2, e3⟩ := r0.sl i _ e1
      exact ⟨v, e2, Den.mono e0 _ _ e3⟩
    · rw [(unwipe_get (δ0 := δ0) hl (j := i)).1 hi] at e
      have z := r.sl i s e
      rw [wipe_get hi] at z
      exact z
  · obtain ⟨h1, h2⟩ := own_ e1
    obtain ⟨g1, g2⟩ := own_ e2
    exact r.apart i j a m n h2 g2 (by rw [wipe_get h1]; exact e3) (by rw [wipe_get g1]; exact e4)
end

/-! ### [elt for t in items if cond] -/
/-- inside a comprehension nothing may be raised -/
def R.calm {α : Type} (r : R α) : R α := match r with
  | .exc _ _ => .stuck
  | r => r
def lcLoop (t : D → DE → Option DE) (cond : DE → R Bool) (elt : DE → R D) (vs : List Nat) : List D → DE → List D → R (List D)
  | [], δ, acc => .ok acc δ
  | d :: ds, δ, acc => match t d δ with
    | none => .stuck
    | some δ => (cond δ).calm.bind fun b δ => if b = true then
        (elt δ).calm.bind fun y δ => if acc.length < LIM then
          match wipeD δ vs with
          | some δ => lcLoop t cond elt vs ds δ (acc ++ [y])
          | none => .stuck
        else .stuck
      else match wipeD δ vs with
        | some δ => lcLoop t cond elt vs ds δ acc
        | none => .stuck
/-- the items, then the walk over them -/
def lcN (f : DE → R (List D)) (t : D → DE → Option DE) (cond : DE → R Bool) (elt : DE → R D) (vs : List Nat) : DE → R MD := fun δ => (f δ).bind fun ds δ => match wipeD δ vs with
  | none => .stuck
  | some δ1 => (lcLoop t cond elt vs ds δ1 []).bind fun ys δ2 => .ok (.lst ys) (unwipe δ δ2 vs)
abbrev W0 : WX := fun _ _ _ _ => False
theorem aft.calm {α β : Type} {K : PySem.W.Frag} {W : WX} {DN : Cq → Hp → Hp → L2.St → DE → α → β → Prop} {c : Cq} {F : Hp} {σ : L2.St} {Q : β → Hp → Prop} {r : R α} (h : aft K W DN c F σ Q r.calm) : aft K W0 DN c F σ Q r := by
  cases r with
  | ok a δ => exact h
  | exc x δ => exact False.elim h
  | stuck => exact h
def noCond : DE → R Bool := fun δ => .ok true δ
section
variable {X : Cx} {W : WX}
theorem vts_nil : PTs X [] (rdT X.K W noCond) := ⟨fun pins s σ H Q I z => pts_nil.run pins s σ H Q I (by
  obtain ⟨c, F, δ, r, z⟩ := z
  exact z true F H r (.refl _) rfl)⟩
theorem vts_one {e : Expr} {t : DE → R Bool} (h : VT X W e t) : PTs X [e] (rdT X.K W t) := pts_one h
end
/-- the bookkeeping of the walk -/
theorem lc_walk {K : PySem.W.Frag} {c : Cq} {F0 : Hp} {σ : L2.St} {ts vs : List Nat} {J : It} {ds : List D} {p : Addr} {t : D → DE → Option DE} {cond : DE → R Bool} {elt : DE → R D} {Q : Hp → Prop} (hts : ∀ i ∈ ts, i ∈ vs) (hJ : ItF K F0 J ds) (hg : c.G p = none) (h0 : c.H0 p = none)
    {F1 H1 : Hp} {δ1 : DE} (r1 : Rel K { c with G := upd c.G p (.lst []) } F1 H1 (wipe σ vs) δ1) (s1 : Same F0 F1)
    (fin : ∀ ys δ F H xs, lcLoop t cond elt vs ds δ1 [] = .ok ys δ → Rel K { c with G := upd c.G p (.lst xs) } F H (wipe σ vs) δ → Same F1 F → Dens K F ys xs → Q H) (good : ∃ ys δ, lcLoop t cond elt vs ds δ1 [] = .ok ys δ) :
    ∃ W : Nat → Nat → Hp → Prop, (∃ m, W 0 m H1) ∧ ∀ i m H, W i m H → (J.stop i H ∧ Q H) ∨ (J.go i H ∧ ∃ Nx : Hp → Prop, (∀ H', Nx H' → ∃ m', m' < m ∧ W (i + 1) m' H') ∧
      ∀ x H', J.yld i H x H' → rdG K ts t x (wipe σ vs) H' fun σ2 H2 => wipe σ2 vs = wipe σ vs ∧ rdT K W0 cond σ2 H2 fun b H3 =>
        if b = true then rdE K W0 elt σ2 H3 fun y H4 => ∃ acc, H4 p = some (.lst acc) ∧ acc.length < sizeLine ∧ Nx (upd H4 p (.lst (acc ++ [y]))) else Nx H3) := by
  obtain ⟨ys, δf, good⟩ := good
  have ww : ∀ ρ : L2.St, wipe ρ vs = wipe σ vs → wipe (wipe ρ vs) vs = wipe σ vs := fun ρ e => by
    rw [e]
    exact wipe_ext (wipe_length _ _) fun j hj => wipe_get hj
  refine ⟨fun i m H => ∃ F δ acc xs, Rel K { c with G := upd c.G p (.lst xs) } F H (wipe σ vs) δ ∧ Same F1 F ∧ Dens K F acc xs ∧ i + m = ds.length ∧ lcLoop t cond elt vs (ds.drop i) δ acc = .ok ys δf,
    ⟨ds.length, F1, δ1, [], [], r1, .refl _, rfl, by omega, good⟩, ?_⟩
  rintro i m H ⟨F2, δ2, acc, xs, r2, s2, d2, em, z2⟩
  obtain ⟨hgo, hst⟩ := hJ _ F2 H _ δ2 i r2 (s1.trans s2)
  by_cases hi : i < ds.length
  · have ed := List.getElem?_eq_getElem hi
    obtain ⟨go, yl⟩ := hgo _ ed
    rw [List.drop_eq_getElem_cons hi] at z2
    refine .inr ⟨go, fun H' => ∃ F δ acc xs, Rel K { c with G := upd c.G p (.lst xs) } F H' (wipe σ vs) δ ∧ Same F1 F ∧ Dens K F acc xs ∧ lcLoop t cond elt vs (ds.drop (i + 1)) δ acc = .ok ys δf, ?_, fun x H3 hy => ?_⟩
    · rintro H' ⟨F3, δ3, acc3, xs3, r3, s3, d3, z3⟩
      exact ⟨m - 1, by omega, F3, δ3, acc3, xs3, r3, s3, d3, by omega, z3⟩
    · obtain ⟨F3, r3, s3, d3⟩ := yl x H3 hy
      refine ⟨_, F3, δ2, ds[i], r3, d3, ?_⟩
      unfold lcLoop at z2
      split at z2
      · cases z2
      · rename_i δ4 q
        rw [q]
        intro σ4 r4 l4 n4
        have w4 : wipe σ4 vs = wipe σ vs := by
          rw [show wipe σ vs = wipe (wipe σ vs) vs from (ww σ rfl).symm]
          exact wipe_ext l4 fun j hj => n4 j fun y => hj (hts j y)
        refine ⟨w4, ?_⟩
        refine ⟨_, F3, δ4, r4, ?_⟩
        cases qc : cond δ4 with
        | exc e δ5 => rw [qc] at z2; cases z2
        | stuck => rw [qc] at z2; cases z2
        | ok b δ5 =>
          rw [qc] at z2
          intro b' F5 H5 r5 s5 eb
          cases (show b' = b from eb)
          cases b with
          | false =>
            have z2 : (match wipeD δ5 vs with
              | some δ => lcLoop t cond elt vs (ds.drop (i + 1)) δ acc
              | none => .stuck) = R.ok ys δf := z2
            show ∃ F δ acc xs, _
            split at z2
            · rename_i δ6 q6
              have r6 := r5.wipe q6
              rw [w4] at r6
              exact ⟨F5, δ6, acc, xs, r6, (s2.trans s3).trans s5, Dens.mono (s3.trans s5) _ _ d2, z2⟩
            · cases z2
          | true =>
            show rdE K W0 elt σ4 H5 _
            refine ⟨_, F5, δ5, r5, ?_⟩
            have z2 : ((elt δ5).calm.bind fun y δ => if acc.length < LIM then
              match wipeD δ vs with
              | some δ => lcLoop t cond elt vs (ds.drop (i + 1)) δ (acc ++ [y])
              | none => .stuck
              else .stuck) = R.ok ys δf := z2
            cases qe : elt δ5 with
            | exc e δ6 => rw [qe] at z2; cases z2
            | stuck => rw [qe] at z2; cases z2
            | ok y δ6 =>
              rw [qe] at z2
              intro v F6 H6 r6 s6 d6
              have z2 : (if acc.length < LIM then
                match wipeD δ6 vs with
                | some δ => lcLoop t cond elt vs (ds.drop (i + 1)) δ (acc ++ [y])
                | none => .stuck
                else .stuck) = R.ok ys δf := z2
              by_cases hl : acc.length < LIM
              · rw [if_pos hl] at z2
                have dx := Dens.mono ((s3.trans s5).trans s6) _ _ d2
                refine ⟨xs, (r6.drop hg).2.1, by rw [dx.length]; exact lim_lt hl, ?_⟩
                split at z2
                · rename_i δ7 q7
                  have r7 := (r6.holdPut (o' := .lst (xs ++ [v])) hg h0).wipe q7
                  rw [w4] at r7
                  exact ⟨F6, δ7, acc ++ [y], xs ++ [v], r7, ((s2.trans s3).trans s5).trans s6, Dens.append dx (Dens.one d6), z2⟩
                · cases z2
              · rw [if_neg hl] at z2; cases z2
  · refine .inl ⟨hst (by omega), ?_⟩
    rw [List.drop_eq_nil_of_le (by omega)] at z2
    have z2 : R.ok acc δ2 = R.ok ys δf := z2
    cases z2
    exact fin _ _ F2 H xs good r2 s2 d2
section
variable {X : Cx} {W : WX} {elt tg iter : Expr} {ifs : List Expr} {scope : Scope} {own : List (Str × Nat)} {pos : Pos} {f : DE → R (List D)} {ts : List Nat} {t : D → DE → Option DE} {cond : DE → R Bool} {fe : DE → R D}
theorem rd_lc {K : PySem.W.Frag} {vs : List Nat} {σ : L2.St} {H : Hp} {Q : VK} (hts : ∀ i ∈ ts, i ∈ vs) (z : rdN K W (lcN f t cond fe vs) σ H Q) : tLc (rdI K W f) (rdG K ts t) (rdT K W0 cond) (rdE K W0 fe) vs σ H Q := by
  refine z.first (DM := dnI K) fun c F H1 δ ds J r1 d1 z1 => ?_
  intro p hp
  split at z1
  · exact False.elim z1
  · rename_i δ1 q
    have rw1 := r1.wipe q
    obtain ⟨rf, p', o', e0, f1, f2, f3, f4, f5, f6⟩ := rw1.fresh (o := .lst []) (m := .lst []) hp rfl
    cases e0
    have eo : o' = HO.lst [] := by rw [upd_same] at f1; exact (Option.some.inj f1).symm
    subst eo
    have bne : ∀ i ∈ c.bs, c.adr i ≠ p := fun i hi y => by
      have := r1.bor0 i hi
      rw [y] at this
      exact this f5
    have rh := rf.hold f1 f3 f6 bne
    cases hl : lcLoop t cond fe vs ds δ1 [] with
    | exc x δ2 =>
      exfalso
      have never : ∀ (ds : List D) (δ : DE) (acc : List D) (x : XD) (δ' : DE), lcLoop t cond fe vs ds δ acc ≠ .exc x δ' := by
        intro ds
        induction ds with
        | nil => intro δ acc x δ' y; cases y
        | cons d ds ih =>
          intro δ acc x δ' y
          unfold lcLoop at y
          split at y
          · cases y
          · rename_i δ2 _
            cases qc : cond δ2 with
            | exc _ _ => rw [qc] at y; cases y
            | stuck => rw [qc] at y; cases y
            | ok b δ3 =>
              rw [qc] at y
              cases b with
              | false =>
                have y : (match wipeD δ3 vs with
                  | some δ => lcLoop t cond fe vs ds δ acc
                  | none => .stuck) = R.exc x δ' := y
                split at y
                · exact ih _ _ _ _ y
                · cases y
              | true =>
                have y : ((fe δ3).calm.bind fun y δ => if acc.length < LIM then
                  match wipeD δ vs with
                  | some δ => lcLoop t cond fe vs ds δ (acc ++ [y])
                  | none => .stuck
                  else .stuck) = R.exc x δ' := y
                cases qe : fe δ3 with
                | exc _ _ => rw [qe] at y; cases y
                | stuck => rw [qe] at y; cases y
                | ok w δ4 =>
                  rw [qe] at y
                  have y : (if acc.length < LIM then
                    match wipeD δ4 vs with
                    | some δ => lcLoop t cond fe vs ds δ (acc ++ [w])
                    | none => .stuck
                    else .stuck) = R.exc x δ' := y
                  split at y
                  · split at y
                    · exact ih _ _ _ _ y
                    · cases y
                  · cases y
      exact never _ _ _ _ _ hl
    | stuck => rw [hl] at z1; exact False.elim z1
    | ok ys δ2 =>
      rw [hl] at z1
      refine lc_walk (c := c) (F1 := F) (H1 := upd H1 p (.lst [])) (δ1 := δ1) hts d1 f4 f5 rh (.refl _) (fun ys' δ' F' H' xs e r' s' d' => ?_) ⟨ys, δ2, hl⟩
      rw [hl] at e
      cases e
      obtain ⟨rd', g1, g2, g3, g4⟩ := r'.drop f4
      have hw := (wipeD_get (j := 0) q).2.2.2
      have hlen : List.length δ2 = List.length δ := by rw [← rd'.len, wipe_length]; exact r1.len
      refine z1 _ F' H' (Rel.unwipe r1 s' hw rd' fun v hv m e => ?_) s' ⟨p, _, rfl, g1, d', g2, f4, f5, fun j n e y => ?_⟩
      · obtain ⟨hb, _⟩ := rd'.sl v _ e
        obtain ⟨m', e'⟩ := r1.borD v hb
        have := hw v hv
        rw [mutOf_of e' rfl] at this; cases this
      · by_cases hj : j ∈ vs
        · rw [(unwipe_get (δ0 := δ) hlen (j := j)).2.1 hj] at e
          have := hw j hj
          rw [mutOf_of e rfl] at this; cases this
        · rw [(unwipe_get (δ0 := δ) hlen (j := j)).1 hj] at e
          exact g3 j n e (by rw [wipe_get hj]; exact y)
theorem vn_lc (hc : X.calm = true) (hN : X.N.Nodup) (hi : VI X W tg iter f) (ok : BlkOk X.N X.env.scope scope own) (hts : ∀ i ∈ ts, i ∈ own.map (·.2))
    (hg : ∀ (s : Shared) (H : Hp) (C : Addr) (cl : List (Str × Addr)) (fp : List Addr), VG (X.blk s H scope (compEnvC scope cl C X.env) fp) ts tg t)
    (ht : ∀ (s : Shared) (H : Hp) (C : Addr) (cl : List (Str × Addr)) (fp : List Addr), PTs (X.blk s H scope (compEnvC scope cl C X.env) fp) ifs (rdT X.K W0 cond))
    (he : ∀ (s : Shared) (H : Hp) (C : Addr) (cl : List (Str × Addr)) (fp : List Addr), VE (X.blk s H scope (compEnvC scope cl C X.env) fp) W0 elt fe) (hs : ∀ x, foldedSetIterable iter X.env x = pure x := by intro _; rfl) :
    VN X W (.ListComp elt [⟨tg, iter, ifs, 0⟩] scope pos) (lcN f t cond fe (own.map (·.2))) := PE.to (pe_lc hc hN hi ok hg ht he hs) fun σ H Q z => rd_lc hts z
/-- y = [..] -/
theorem vs_ownLc {i : Nat} {y : Str} {py spos : Pos} (hc : X.calm = true) (hN : X.N.Nodup) (hy : X.N[i]? = some y) (hyl : X.env.scope.names.lookup y = some .local)
    (hsw : swapsWith (.ListComp elt [⟨tg, iter, ifs, 0⟩] scope pos) (some (.Name y py)) spos.line X.env = pure true) (hi : VI X W tg iter f) (ok : BlkOk X.N X.env.scope scope own) (hts : ∀ i ∈ ts, i ∈ own.map (·.2))
    (hg : ∀ (s : Shared) (H : Hp) (C : Addr) (cl : List (Str × Addr)) (fp : List Addr), VG (X.blk s H scope (compEnvC scope cl C X.env) fp) ts tg t)
    (ht : ∀ (s : Shared) (H : Hp) (C : Addr) (cl : List (Str × Addr)) (fp : List Addr), PTs (X.blk s H scope (compEnvC scope cl C X.env) fp) ifs (rdT X.K W0 cond))
    (he : ∀ (s : Shared) (H : Hp) (C : Addr) (cl : List (Str × Addr)) (fp : List Addr), VE (X.blk s H scope (compEnvC scope cl C X.env) fp) W0 elt fe) (hs : ∀ x, foldedSetIterable iter X.env x = pure x := by intro _; rfl) :
    VS X W (.Assign [.Name y py] (.ListComp elt [⟨tg, iter, ifs, 0⟩] scope pos) spos) (ownS i (lcN f t cond fe (own.map (·.2)))) := PS.to (ps_setLc hc hN hy hyl hsw hi ok hg ht he hs) fun N σ H z => by
  have z := rd_own z
  exact rd_lc hts z
theorem vs_setLc {i : Nat} {y : Str} {py spos : Pos} (hc : X.calm = true) (hN : X.N.Nodup) (hy : X.N[i]? = some y) (hyl : X.env.scope.names.lookup y = some .local)
    (hsw : swapsWith (.ListComp elt [⟨tg, iter, ifs, 0⟩] scope pos) (some (.Name y py)) spos.line X.env = pure true) (hi : VI X W tg iter f) (ok : BlkOk X.N X.env.scope scope own) (hts : ∀ i ∈ ts, i ∈ own.map (·.2))
    (hg : ∀ (s : Shared) (H : Hp) (C : Addr) (cl : List (Str × Addr)) (fp : List Addr), VG (X.blk s H scope (compEnvC scope cl C X.env) fp) ts tg t)
    (ht : ∀ (s : Shared) (H : Hp) (C : Addr) (cl : List (Str × Addr)) (fp : List Addr), PTs (X.blk s H scope (compEnvC scope cl C X.env) fp) ifs (rdT X.K W0 cond))
    (he : ∀ (s : Shared) (H : Hp) (C : Addr) (cl : List (Str × Addr)) (fp : List Addr), VE (X.blk s H scope (compEnvC scope cl C X.env) fp) W0 elt fe) (hs : ∀ x, foldedSetIterable iter X.env x = pure x := by intro _; rfl) :
    VS X W (.Assign [.Name y py] (.ListComp elt [⟨tg, iter, ifs, 0⟩] scope pos) spos) (setS i (ofN (lcN f t cond fe (own.map (·.2))))) := PS.to (ps_setLc hc hN hy hyl hsw hi ok hg ht he hs) fun N σ H z => by
  have z := rd_set z
  exact rd_lc hts (rd_ofN z)
end
end PV

/-! PV8: operators and built-ins on data. -/
namespace PV
open PySem PySem.Spec PyProof.Rows L2
variable [Tbl]

/-! ### ints -/
def iop (h : Int → Int → D) : D → D → Option D
  | .int i, .int j => some (h i j)
  | _, _ => none
def iopC (C : Int → Int → Bool) (h : Int → Int → D) : D → D → Option D
  | .int i, .int j => if C i j = true then some (h i j) else none
  | _, _ => none
section
variable {X : Cx} {sem : Value → Value → Sem Value}
theorem o2_I0 {g : Int → Int → V} {h : Int → Int → D} (o : OpR X sem (rI0 g)) (e : ∀ F i j, Den X.K F (h i j) (g i j)) : Op2 X sem (iop h) := by
  refine ⟨_, o, fun c F H σ δ d e' z v w Q r d1 d2 q k => ?_⟩
  cases d <;> first | cases q | skip
  cases e' <;> first | cases q | skip
  exact ⟨_, _, d1, d2, k _ F H r (.refl _) (e F _ _)⟩
theorem o2_I {C : Int → Int → Prop} {B : Int → Int → Bool} {g : Int → Int → V} {h : Int → Int → D} (o : OpR X sem (rI C g)) (b : ∀ i j, B i j = true → C i j) (e : ∀ F i j, Den X.K F (h i j) (g i j)) : Op2 X sem (iopC B h) := by
  refine ⟨_, o, fun c F H σ δ d e' z v w Q r d1 d2 q k => ?_⟩
  cases d <;> first | cases q | skip
  cases e' <;> first | cases q | skip
  rename_i i j
  have q : (if B i j = true then some (h i j) else none) = some z := q
  split at q
  · rename_i hb
    cases q
    exact ⟨_, _, d1, d2, b _ _ hb, k _ F H r (.refl _) (e F _ _)⟩
  · cases q
abbrev iadd := iop fun i j => .int (i + j)
abbrev isub := iop fun i j => .int (i - j)
def mulOk (i j : Int) : Bool := (decide (-(2 ^ 64) < i) && decide (i < 2 ^ 64)) || (decide (-(2 ^ 64) < j) && decide (j < 2 ^ 64))
abbrev imul := iopC mulOk fun i j => .int (i * j)
def divOk (_ j : Int) : Bool := decide (0 < j) && decide (j < 2 ^ 64)
abbrev idiv := iopC divOk fun i j => .int (i / j)
abbrev imod := iopC divOk fun i j => .int (i % j)
def powOk (i j : Int) : Bool := decide (0 ≤ j) && decide (j ≤ 1000) && decide (i.natAbs < 2 ^ 64)
abbrev ipow := iopC powOk fun i j => .int (i ^ j.toNat)
abbrev ilt := iop fun i j => .bl (decide (i < j))
abbrev ile := iop fun i j => .bl (decide (i ≤ j))
abbrev igt := iop fun i j => .bl (decide (j < i))
abbrev ige := iop fun i j => .bl (decide (j ≤ i))
theorem o_iadd : Op2 X (binaryOp .Add) iadd := o2_I0 op_add fun _ _ _ => rfl
theorem o_isub : Op2 X (binaryOp .Sub) isub := o2_I0 op_sub fun _ _ _ => rfl
theorem o_imul : Op2 X (binaryOp .Mult) imul := o2_I op_mul (fun i j h => by
  unfold mulOk at h
  rw [Bool.or_eq_true, Bool.and_eq_true, Bool.and_eq_true, decide_eq_true_iff, decide_eq_true_iff, decide_eq_true_iff, decide_eq_true_iff] at h
  exact h) fun _ _ _ => rfl
theorem o_idiv : Op2 X (binaryOp .FloorDiv) idiv := o2_I op_fdivW (fun i j h => by
  unfold divOk at h
  rw [Bool.and_eq_true, decide_eq_true_iff, decide_eq_true_iff] at h
  exact wide_div (b := 64) h.1 (by omega) (by decide) (by decide)) fun _ _ _ => rfl
theorem o_imod : Op2 X (binaryOp .Mod) imod := o2_I op_mod (fun i j h => by
  unfold divOk at h
  rw [Bool.and_eq_true, decide_eq_true_iff, decide_eq_true_iff] at h
  exact h.1) fun _ _ _ => rfl
theorem o_ipow : Op2 X (binaryOp .Pow) ipow := o2_I op_pow (fun i j h => by
  unfold powOk at h
  rw [Bool.and_eq_true, Bool.and_eq_true, decide_eq_true_iff, decide_eq_true_iff, decide_eq_true_iff] at h
  exact ⟨h.1.1, by omega, h.2⟩) fun _ _ _ => rfl
theorem o_ilt : Op2 X (compareOp .Lt) ilt := o2_I0 op_lt fun _ _ _ => rfl
theorem o_ile : Op2 X (compareOp .LtE) ile := o2_I0 op_le fun _ _ _ => rfl
theorem o_igt : Op2 X (compareOp .Gt) igt := o2_I0 op_gt fun _ _ _ => rfl
theorem o_ige : Op2 X (compareOp .GtE) ige := o2_I0 op_ge fun _ _ _ => rfl
end

/-! ### texts, lists, tuples: + and * -/
def sadd : D → D → Option D
  | .str a, .str b => if a.length + b.length ≤ LIM then some (.str (a ++ b)) else none
  | _, _ => none
def ladd : D → D → Option D
  | .lst a, .lst b => if a.length + b.length ≤ LIM then some (.lst (a ++ b)) else none
  | _, _ => none
def tadd : D → D → Option D
  | .tup a, .tup b => if a.length + b.length ≤ LIM then some (.tup (a ++ b)) else none
  | _, _ => none
def lmul : D → D → Option D
  | .lst a, .int k => if 0 ≤ k ∧ k ≤ 1000 ∧ a.length ≤ 1000 then some (.lst (List.replicate k.toNat a).flatten) else none
  | _, _ => none
def tmul : D → D → Option D
  | .tup a, .int k => if a ≠ [] ∧ 2 ≤ k ∧ k ≤ 1000 ∧ a.length ≤ 1000 then some (.tup (List.replicate k.toNat a).flatten) else none
  | _, _ => none
section
variable {X : Cx}
theorem o_sadd : Op2 X (binaryOp .Add) sadd := by
  refine ⟨_, op_add_str, fun c F H σ δ d e z v w Q r d1 d2 q k => ?_⟩
  cases d <;> first | cases q | skip
  cases e <;> first | cases q | skip
  rename_i a b
  have q : (if a.length + b.length ≤ LIM then some (D.str (a ++ b)) else none) = some z := q
  split at q
  · rename_i hl
    cases q
    exact ⟨a, b, d1, d2, lim_le hl, k _ F H r (.refl _) rfl⟩
  · cases q
theorem o_ladd : Op2 X (binaryOp .Add) ladd := by
  refine ⟨_, op_cat, fun c F H σ δ d e z v w Q r d1 d2 q k => ?_⟩
  cases d <;> first | cases q | skip
  cases e <;> first | cases q | skip
  rename_i la lb
  have q : (if la.length + lb.length ≤ LIM then some (D.lst (la ++ lb)) else none) = some z := q
  obtain ⟨a, xs, rfl, h1, h2⟩ := d1
  obtain ⟨b, ys, rfl, g1, g2⟩ := d2
  split at q
  · rename_i hl
    cases q
    refine ⟨a, b, xs, ys, rfl, rfl, r.sub _ _ h1, r.sub _ _ g1, by rw [h2.length, g2.length]; exact lim_le hl, fun p hp => k _ _ _ (r.lay hp) (same_new (r.freeF hp)) ⟨p, _, rfl, upd_same, ?_⟩⟩
    exact Dens.mono (same_new (r.freeF hp)) _ _ (Dens.append h2 g2)
  · cases q
theorem o_tadd : Op2 X (binaryOp .Add) tadd := by
  refine ⟨_, op_catA, fun c F H σ δ d e z v w Q r d1 d2 q k => ?_⟩
  cases d <;> first | cases q | skip
  cases e <;> first | cases q | skip
  rename_i la lb
  have q : (if la.length + lb.length ≤ LIM then some (D.tup (la ++ lb)) else none) = some z := q
  obtain ⟨a, xs, rfl, h1, h2⟩ := d1
  obtain ⟨b, ys, rfl, g1, g2⟩ := d2
  split at q
  · rename_i hl
    cases q
    refine ⟨a, b, xs, ys, rfl, rfl, sqt (r.sub _ _ h1), sqt (r.sub _ _ g1), by rw [h2.length, g2.length]; exact lim_le hl, fun e1 => ?_, fun e1 e2 => ?_, fun _ _ p hp => ?_⟩
    · have l0 := h2.length
      rw [e1] at l0
      have : la = [] := List.length_eq_zero_iff.mp l0.symm
      rw [this] at k
      exact k _ F H r (.refl _) ⟨b, ys, rfl, g1, g2⟩
    · have l0 := g2.length
      rw [e2] at l0
      have : lb = [] := List.length_eq_zero_iff.mp l0.symm
      rw [this, List.append_nil] at k
      exact k _ F H r (.refl _) ⟨a, xs, rfl, h1, h2⟩
    · exact k _ _ _ (r.lay hp) (same_new (r.freeF hp)) ⟨p, _, rfl, upd_same, Dens.mono (same_new (r.freeF hp)) _ _ (Dens.append h2 g2)⟩
  · cases q
theorem o_lmul : Op2 X (binaryOp .Mult) lmul := by
  refine ⟨_, op_rep, fun c F H σ δ d e z v w Q r d1 d2 q k => ?_⟩
  cases d <;> first | cases q | skip
  cases e <;> first | cases q | skip
  rename_i la n
  have q : (if 0 ≤ n ∧ n ≤ 1000 ∧ la.length ≤ 1000 then some (D.lst (List.replicate n.toNat la).flatten) else none) = some z := q
  obtain ⟨a, xs, rfl, h1, h2⟩ := d1
  split at q
  · rename_i hl
    cases q
    refine ⟨a, n, xs, rfl, d2, r.sub _ _ h1, by omega, by omega, ?_, fun p hp => k _ _ _ (r.lay hp) (same_new (r.freeF hp)) ⟨p, _, rfl, upd_same, Dens.mono (same_new (r.freeF hp)) _ _ (Dens.rep h2 _)⟩⟩
    rw [h2.length]
    exact lim_le (Nat.le_trans (Nat.mul_le_mul hl.2.2 (show n.toNat ≤ 1000 by omega)) (by decide))
  · cases q
theorem o_tmul : Op2 X (binaryOp .Mult) tmul := by
  refine ⟨_, op_repT, fun c F H σ δ d e z v w Q r d1 d2 q k => ?_⟩
  cases d <;> first | cases q | skip
  cases e <;> first | cases q | skip
  rename_i la n
  have q : (if la ≠ [] ∧ 2 ≤ n ∧ n ≤ 1000 ∧ la.length ≤ 1000 then some (D.tup (List.replicate n.toNat la).flatten) else none) = some z := q
  obtain ⟨a, xs, rfl, h1, h2⟩ := d1
  split at q
  · rename_i hl
    cases q
    have lx := h2.length
    refine ⟨a, n, xs, rfl, d2, sqt (r.sub _ _ h1), fun y => ?_, hl.2.1, hl.2.2.1, by rw [lx]; exact hl.2.2.2, fun p hp => k _ _ _ (r.lay hp) (same_new (r.freeF hp)) ⟨p, _, rfl, upd_same, Dens.mono (same_new (r.freeF hp)) _ _ (Dens.rep h2 _)⟩⟩
    rw [y] at lx
    exact hl.1 (List.length_eq_zero_iff.mp lx.symm)
  · cases q
end

/-! ### == and != -/
mutual
/-- as the library's data, where it has them -/
def D.py : D → Option PyData
  | .non => some .none
  | .bl b => some (.bool b)
  | .int i => some (.int i)
  | .str s => some (.str s)
  | .tup l => (D.pys l).map .tuple
  | .lst l => (D.pys l).map .list
  | _ => none
def D.pys : List D → Option (List PyData)
  | [] => some []
  | d :: ds => (D.py d).bind fun p => (D.pys ds).map fun ps => p :: ps
end
section
variable {K : PySem.W.Frag} {F H : Hp}
mutual
theorem py_dp (e : Same F H) : ∀ {d : D} {p : PyData} {v : V}, D.py d = some p → Den K F d v → Dp K H v p
  | .non, _, _, h, g => by unfold D.py at h; cases h; cases g; exact .non
  | .bl b, _, _, h, g => by unfold D.py at h; cases h; cases g; exact .bl b
  | .int b, _, _, h, g => by unfold D.py at h; cases h; cases g; exact .int b
  | .str b, _, _, h, g => by unfold D.py at h; cases h; cases g; exact .str b
  | .byt _, _, _, h, _ => by unfold D.py at h; cases h
  | .ty _, _, _, h, _ => by unfold D.py at h; cases h
  | .fn _, _, _, h, _ => by unfold D.py at h; cases h
  | .adr _, _, _, h, _ => by unfold D.py at h; cases h
  | .scr _, _, _, h, _ => by unfold D.py at h; cases h
  | .dct _, _, _, h, _ => by unfold D.py at h; cases h
  | .dcT _, _, _, h, _ => by unfold D.py at h; cases h
  | .dcF _, _, _, h, _ => by unfold D.py at h; cases h
  | .ctp _, _, _, h, _ => by unfold D.py at h; cases h
  | .ins _ _, _, _, h, _ => by unfold D.py at h; cases h
  | .tup l, _, _, h, g => by
    unfold D.py at h
    obtain ⟨ps, h1, rfl⟩ := Option.map_eq_some_iff.mp h
    obtain ⟨a, xs, rfl, g1, g2⟩ := g
    exact .tup (sqt (e _ _ g1)) (pys_dp e h1 g2)
  | .lst l, _, _, h, g => by
    unfold D.py at h
    obtain ⟨ps, h1, rfl⟩ := Option.map_eq_some_iff.mp h
    obtain ⟨a, xs, rfl, g1, g2⟩ := g
    exact .lst (.inl (.inl (e _ _ g1))) (pys_dp e h1 g2)
theorem pys_dp (e : Same F H) : ∀ {ds : List D} {ps : List PyData} {vs : List V}, D.pys ds = some ps → Dens K F ds vs → DpAll K H vs ps
  | [], _, _, h, g => by unfold D.pys at h; cases h; rw [show _ = _ from g]; exact .nil
  | d :: ds, _, _, h, ⟨v, r, e1, g1, g2⟩ => by
    unfold D.pys at h
    obtain ⟨p, h1, h2⟩ := Option.bind_eq_some_iff.mp h
    obtain ⟨ps, h3, rfl⟩ := Option.map_eq_some_iff.mp h2
    rw [e1]
    exact .cons (py_dp e h1 g1) (pys_dp e h3 g2)
end
end
/-- of scalars -/
def eqS : D → D → Option Bool
  | .non, .non => some true
  | .int i, .int j => some (decide (i = j))
  | .str i, .str j => some (decide (i = j))
  | .bl i, .bl j => some (decide (i = j))
  | .byt i, .byt j => some (decide (i = j))
  | .non, .int _ => some false
  | .int _, .non => some false
  | .non, .bl _ => some false
  | .bl _, .non => some false
  | .non, .str _ => some false
  | .str _, .non => some false
  | .int _, .str _ => some false
  | .str _, .int _ => some false
  | .bl _, .str _ => some false
  | .str _, .bl _ => some false
  | _, _ => none
/-- of data -/
def eqP (x y : D) : Option Bool := match x.py, y.py with
  | some p, some q => if SeqAt.shaped p = true ∧ SeqAt.shaped q = true then some (PyData.eqv p q) else none
  | _, _ => none
def eqD (x y : D) : Option D := ((eqS x y).or (eqP x y)).map .bl
def neD (x y : D) : Option D := ((eqS x y).or (eqP x y)).map fun b => .bl (!b)
section
variable {X : Cx}
theorem eqS_v {K : PySem.W.Frag} {F : Hp} {x y : D} {v w : V} {b : Bool} (h : eqS x y = some b) (d1 : Den K F x v) (d2 : Den K F y w) : scal v w = true ∧ decide (v = w) = b := by
  unfold eqS at h
  split at h <;> first | (cases h; done) | skip
  all_goals
    cases h
    rw [show v = _ from d1, show w = _ from d2]
    refine ⟨rfl, ?_⟩
    first
      | rfl
      | (rw [Bool.eq_iff_iff]; simp)
theorem o_eq (hu : X.A.units + 64 < cLine) : Op2 X (compareOp .Eq) eqD := by
  refine ⟨_, OpR.or op_eq (op_eqD hu), fun c F H σ δ d e z v w Q r d1 d2 q k => ?_⟩
  obtain ⟨b, q1, rfl⟩ := Option.map_eq_some_iff.mp q
  cases qs : eqS d e with
  | some b' =>
    rw [qs] at q1
    cases q1
    obtain ⟨h1, h2⟩ := eqS_v qs d1 d2
    exact .inl ⟨h1, by rw [h2]; exact k _ F H r (.refl _) rfl⟩
  | none =>
    rw [qs] at q1
    have q1 : eqP d e = some b := q1
    unfold eqP at q1
    split at q1
    · rename_i p p' e1 e2
      split at q1
      · rename_i hs
        cases q1
        exact .inr ⟨p, p', py_dp r.sub e1 d1, py_dp r.sub e2 d2, hs.1, hs.2, k _ F H r (.refl _) rfl⟩
      · cases q1
    · cases q1
theorem o_ne (hu : X.A.units + 64 < cLine) : Op2 X (compareOp .NotEq) neD := by
  refine ⟨_, OpR.or op_ne (op_neD hu), fun c F H σ δ d e z v w Q r d1 d2 q k => ?_⟩
  obtain ⟨b, q1, rfl⟩ := Option.map_eq_some_iff.mp q
  cases qs : eqS d e with
  | some b' =>
    rw [qs] at q1
    cases q1
    obtain ⟨h1, h2⟩ := eqS_v qs d1 d2
    exact .inl ⟨h1, by rw [h2]; exact k _ F H r (.refl _) rfl⟩
  | none =>
    rw [qs] at q1
    have q1 : eqP d e = some b := q1
    unfold eqP at q1
    split at q1
    · rename_i p p' e1 e2
      split at q1
      · rename_i hs
        cases q1
        exact .inr ⟨p, p', py_dp r.sub e1 d1, py_dp r.sub e2 d2, hs.1, hs.2, k _ F H r (.refl _) rfl⟩
      · cases q1
    · cases q1
end
/-! ### is None -/
def D.isN : D → Bool
  | .non => true
  | _ => false
theorem isN_v {K : PySem.W.Frag} {F : Hp} {x : D} {v : V} (h : Den K F x v) : decide (v = .non) = x.isN := by
  cases x with
  | non => rw [show v = _ from h]; rfl
  | bl b => rw [show v = _ from h]; rfl
  | int b => rw [show v = _ from h]; rfl
  | str b => rw [show v = _ from h]; rfl
  | byt b => rw [show v = _ from h]; rfl
  | ty b => rw [show v = _ from h]; rfl
  | fn b => obtain ⟨a, e, _⟩ := h; rw [e]; rfl
  | adr b => rw [show v = _ from h]; rfl
  | scr l => obtain ⟨a, e, _⟩ := h; rw [e]; rfl
  | tup l => obtain ⟨a, xs, e, _⟩ := h; rw [e]; rfl
  | lst l => obtain ⟨a, xs, e, _⟩ := h; rw [e]; rfl
  | dct l => obtain ⟨a, xs, e, _⟩ := h; rw [e]; rfl
  | dcT l => obtain ⟨a, xs, e, _⟩ := h; rw [e]; rfl
  | dcF l => obtain ⟨a, od, xs, e, _⟩ := h; rw [e]; rfl
  | ctp l => obtain ⟨a, xs, e, _⟩ := h; rw [e]; rfl
  | ins c l => obtain ⟨C, a, dx, xs, e, _⟩ := h; rw [e]; rfl
def isNo : D → D → Option D := fun x y => match y with
  | .non => some (.bl x.isN)
  | _ => none
def notNo : D → D → Option D := fun x y => match y with
  | .non => some (.bl (!x.isN))
  | _ => none
section
variable {X : Cx}
theorem o_isN : Op2 X (compareOp .Is) isNo := by
  refine ⟨_, op_isN, fun c F H σ δ d e z v w Q r d1 d2 q k => ?_⟩
  cases e <;> first | cases q | skip
  exact ⟨d2, by rw [isN_v d1]; exact k _ F H r (.refl _) rfl⟩
theorem o_notN : Op2 X (compareOp .IsNot) notNo := by
  refine ⟨_, op_notN, fun c F H σ δ d e z v w Q r d1 d2 q k => ?_⟩
  cases e <;> first | cases q | skip
  exact ⟨d2, by rw [isN_v d1]; exact k _ F H r (.refl _) rfl⟩
end
/-! ### in a tuple or list of scalars -/
def D.flat : D → Option V
  | .non => some .non
  | .bl b => some (.bl b)
  | .int i => some (.int i)
  | .str s => some (.str s)
  | _ => none
def flats : List D → Option (List V)
  | [] => some []
  | d :: ds => d.flat.bind fun v => (flats ds).map fun r => v :: r
theorem flat_v {K : PySem.W.Frag} {F : Hp} {x : D} {u v : V} (h : x.flat = some u) (d : Den K F x v) : v = u ∧ flatV v = true := by
  cases x <;> first | (cases h; done) | skip
  all_goals
    cases h
    rw [show v = _ from d]
    exact ⟨rfl, rfl⟩
theorem flats_v {K : PySem.W.Frag} {F : Hp} : ∀ {xs : List D} {us vs : List V}, flats xs = some us → Dens K F xs vs → vs = us ∧ vs.all flatV = true
  | [], _, _, h, d => by cases h; rw [show _ = _ from d]; exact ⟨rfl, rfl⟩
  | x :: xs, us, vs, h, ⟨v, r, e, d1, d2⟩ => by
    obtain ⟨u, h1, h2⟩ := Option.bind_eq_some_iff.mp h
    obtain ⟨us', h3, rfl⟩ := Option.map_eq_some_iff.mp h2
    obtain ⟨e1, e2⟩ := flat_v h1 d1
    obtain ⟨e3, e4⟩ := flats_v h3 d2
    rw [e, e1, e3]
    rw [e1] at e2
    rw [e3] at e4
    exact ⟨rfl, by rw [List.all_cons, e2, e4]; rfl⟩
def itemsOf : D → Option (List D)
  | .tup l => some l
  | .ctp l => some l
  | .lst l => some l
  | _ => none
def inF (neg : Bool) (x y : D) : Option D := match x.flat, (itemsOf y).bind flats with
  | some u, some us => some (.bl (if neg = true then !inV u us else inV u us))
  | _, _ => none
section
variable {X : Cx}
theorem in_r {K : PySem.W.Frag} {c : Cq} {F H : Hp} {σ : L2.St} {δ : DE} {neg : Bool} {d e z : D} {v w : V} {Q : VK} (r : Rel K c F H σ δ) (d1 : Den K F d v) (d2 : Den K F e w) (q : inF neg d e = some z)
    (k : ∀ u F' H', Rel K c F' H' σ δ → Same F F' → Den K F' z u → Q u H') : rIn K neg v w H Q := by
  unfold inF at q
  split at q
  · rename_i u us h1 h2
    cases q
    obtain ⟨ds, h3, h4⟩ := Option.bind_eq_some_iff.mp h2
    obtain ⟨e1, e2⟩ := flat_v h1 d1
    cases e <;> first | (cases h3; done) | skip
    · cases h3
      obtain ⟨a, xs, rfl, g1, g2⟩ := d2
      obtain ⟨e3, e4⟩ := flats_v h4 g2
      exact ⟨a, xs, rfl, .inr (sqt (r.sub _ _ g1)), e2, e4, by rw [e1, e3]; exact k _ F H r (.refl _) (by cases neg <;> rfl)⟩
    · cases h3
      obtain ⟨a, xs, rfl, g1, g2⟩ := d2
      obtain ⟨e3, e4⟩ := flats_v h4 g2
      exact ⟨a, xs, rfl, .inr (PV.Same.tup r.sub g1), e2, e4, by rw [e1, e3]; exact k _ F H r (.refl _) (by cases neg <;> rfl)⟩
    · cases h3
      obtain ⟨a, xs, rfl, g1, g2⟩ := d2
      obtain ⟨e3, e4⟩ := flats_v h4 g2
      exact ⟨a, xs, rfl, .inl (.inl (.inl (r.sub _ _ g1))), e2, e4, by rw [e1, e3]; exact k _ F H r (.refl _) (by cases neg <;> rfl)⟩
  · cases q
theorem o_in : Op2 X (compareOp .In) (inF false) := ⟨_, op_in_seq, fun c F H σ δ d e z v w Q r d1 d2 q k => in_r r d1 d2 q k⟩
theorem o_notIn : Op2 X (compareOp .NotIn) (inF true) := ⟨_, op_notIn_seq, fun c F H σ δ d e z v w Q r d1 d2 q k => in_r r d1 d2 q k⟩
end

/-! ### subscripts, slices -/
def ixD : D → D → Option D
  | .tup l, .int k => atI l k
  | .lst l, .int k => atI l k
  | .scr l, .int k => (atI l k).map .int
  | .str s, .int k => if s.length ≤ LIM then (atI s.cps.toList k).map fun c => .str ⟨#[c]⟩ else none
  | _, _ => none
section
variable {X : Cx} {W : WX} {a b : Expr} {fa fb : DE → R D} {pos : Pos}
theorem atI_map {α β : Type} {f : α → β} {l : List α} {k : Int} {x : α} (h : atI l k = some x) : atI (l.map f) k = some (f x) := by
  unfold atI at h ⊢
  rw [List.length_map]
  cases q : ixN l.length k with
  | none => rw [q] at h; cases h
  | some j =>
    rw [q] at h
    have h : l[j]? = some x := h
    show (l.map f)[j]? = _
    rw [List.getElem?_map, h]; rfl
theorem ve_ix (ha : VE X W a fa) (hb : VE X W b fb) (hs : PlainIx b) : VE X W (.Subscript a b pos) (op2 ixD fa fb) := PE.to (pe_ix ix_seq ha hb hs) fun σ H Q z => by
  refine z.first (DM := dnE X.K) fun c F H1 δ x v r1 d1 z1 => ?_
  refine z1.next (DM := dnE X.K) r1 fun F2 H2 δ2 y w r2 s2 d2 z2 => ?_
  replace d1 := Den.mono s2 _ _ d1
  cases q : ixD x y with
  | none => rw [q] at z2; exact False.elim z2
  | some d =>
    rw [q] at z2
    have fin : ∀ u, Den X.K F2 d u → Q u H2 := fun u du => z2 u F2 H2 r2 (.refl _) du
    cases x <;> first | (cases q; done) | skip
    · cases y <;> first | (cases q; done) | skip
      rename_i s n
      have q : (if s.length ≤ LIM then (atI s.cps.toList n).map (fun c => D.str ⟨#[c]⟩) else none) = some d := q
      split at q
      · rename_i hl
        obtain ⟨c', h1, rfl⟩ := Option.map_eq_some_iff.mp q
        exact .inr (.inr ⟨s, n, c', d1, d2, lim_le hl, h1, fin _ rfl⟩)
      · cases q
    · cases y <;> first | (cases q; done) | skip
      rename_i l n
      obtain ⟨i, h1, rfl⟩ := Option.map_eq_some_iff.mp q
      obtain ⟨p, rfl, g1⟩ := d1
      exact .inl ⟨p, _, n, .int i, rfl, d2, r2.sub.seq g1, atI_map h1, fin _ rfl⟩
    · cases y <;> first | (cases q; done) | skip
      rename_i l n
      obtain ⟨p, xs, rfl, g1, g2⟩ := d1
      obtain ⟨u, h1, h2⟩ := g2.atI q
      exact .inr (.inl ⟨p, xs, n, u, rfl, d2, sqt (r2.sub _ _ g1), h1, fin _ h2⟩)
    · cases y <;> first | (cases q; done) | skip
      rename_i l n
      obtain ⟨p, xs, rfl, g1, g2⟩ := d1
      obtain ⟨u, h1, h2⟩ := g2.atI q
      exact .inl ⟨p, xs, n, u, rfl, d2, .inl (.inl (r2.sub _ _ g1)), h1, fin _ h2⟩
def oNo : DE → R (Option Int) := fun δ => .ok none δ
def oSome (f : DE → R D) : DE → R (Option Int) := fun δ => (f δ).bind fun x δ => match x with
  | .int i => .ok (some i) δ
  | _ => .stuck
theorem vo_none : VO X W none oNo := PO.to po_none fun σ H Q z => by
  obtain ⟨c, F, δ, r, z⟩ := z
  exact z none F H r (.refl _) rfl
theorem vo_some {e : Expr} {f : DE → R D} (h : VE X W e f) : VO X W (some e) (oSome f) := PO.to (po_some h) fun σ H Q z => by
  refine z.first (DM := dnE X.K) fun c F H1 δ x v r1 d1 z1 => ?_
  cases x <;> first | exact False.elim z1 | skip
  exact ⟨_, d1, z1 _ F H1 r1 (.refl _) rfl⟩
def cutD {α : Type} (xs : List α) (lo hi : Option Int) : List α := (xs.drop (HT.sIx xs.length 0 lo)).take (HT.sIx xs.length xs.length hi - HT.sIx xs.length 0 lo)
def slD (x : D) (lo hi : Option Int) : Option D := match x with
  | .tup l => some (.tup (cutD l lo hi))
  | .lst l => some (.lst (cutD l lo hi))
  | _ => none
def slE (fa : DE → R D) (fl fh : DE → R (Option Int)) : DE → R D := fun δ => (fa δ).bind fun x δ => (fl δ).bind fun lo δ => (fh δ).bind fun hi δ => R.of (slD x lo hi) δ
theorem Dens.cut {K : PySem.W.Frag} {F : Hp} {ds : List D} {vs : List V} (h : Dens K F ds vs) (lo hi : Option Int) : Dens K F (cutD ds lo hi) (cutV vs lo hi) := by
  unfold cutD cutV
  rw [h.length]
  exact Dens.take _ (Dens.drop _ h)
theorem cut_all {α : Type} {l : List α} {lo hi : Option Int} (h : HT.sIx l.length 0 lo = 0 ∧ HT.sIx l.length l.length hi = l.length) : cutD l lo hi = l := by
  unfold cutD
  rw [h.1, h.2, List.drop_zero, Nat.sub_zero, List.take_length]
theorem ve_slice {lo hi : Option Expr} {fl fh : DE → R (Option Int)} {p2 : Pos} (ha : VE X W a fa) (hl : VO X W lo fl) (hh : VO X W hi fh) : VE X W (.Subscript a (.Slice lo hi none p2) pos) (slE fa fl fh) := PE.to (pe_slice (SlR.or sl_tupA sl_list) ha hl hh) fun σ H Q z => by
  refine z.first (DM := dnE X.K) fun c F H1 δ x v r1 d1 z1 => ?_
  refine z1.next (DM := dnO) r1 fun F2 H2 δ2 lo v2 r2 s2 d2 z2 => ?_
  cases (show v2 = lo from d2)
  refine z2.next (DM := dnO) r2 fun F3 H3 δ3 hi v3 r3 s3 d3 z3 => ?_
  cases (show v3 = hi from d3)
  replace d1 := Den.mono (s2.trans s3) _ _ d1
  cases x <;> first | (exact False.elim z3; done) | skip
  · rename_i l
    obtain ⟨p, xs, rfl, g1, g2⟩ := d1
    refine .inl ⟨p, xs, rfl, sqt (r3.sub _ _ g1), fun hw => ?_, fun hw q hq => ?_⟩
    · rw [g2.length] at hw
      have z3 : aft X.K W (dnE X.K) c F3 σ Q (.ok (.tup (cutD l lo hi)) δ3) := z3
      rw [cut_all hw] at z3
      exact z3 _ F3 H3 r3 (.refl _) ⟨p, xs, rfl, g1, g2⟩
    · exact z3 _ _ _ (r3.lay hq) (same_new (r3.freeF hq)) ⟨q, _, rfl, upd_same, Dens.mono (same_new (r3.freeF hq)) _ _ (g2.cut lo hi)⟩
  · obtain ⟨p, xs, rfl, g1, g2⟩ := d1
    exact .inr ⟨p, xs, rfl, .inl (.inl (r3.sub _ _ g1)), fun q hq => z3 _ _ _ (r3.lay hq) (same_new (r3.freeF hq)) ⟨q, _, rfl, upd_same, Dens.mono (same_new (r3.freeF hq)) _ _ (g2.cut lo hi)⟩⟩
end
end PV

/-! PVE: enumerate(tuple). -/
namespace PV
open PySem PySem.Spec PyProof.Rows L2

theorem enum1_meets {v : Value} {o : Obj} {P : Heap → Prop} (B : Begins v o P) :
    Meets (Builtin.«enumerate.__new__» ⟨[.type "enumerate", v], []⟩) (fun _ R s => P s.heap ∧ R (.ok (.ret (.ref (s.heap.push o).objs.size))) { s with heap := (s.heap.push o).push { cls := .type "enumerate", data := .fields #[.none, .bool false, .ref s.heap.objs.size, rawInt 0, .none, .none] } }) :=
  .of_wp fun prog w A R s hh => by
    obtain ⟨hp, gs, dr, tk, os⟩ := s
    obtain ⟨hP, hR⟩ := hh
    have sub := sub_enumerate
    have it0 : ∀ {A' : Around} {E : Value → Shared → Prop} {Q : Value → Shared → Prop}, Q (.ref hp.objs.size) ⟨hp.push o, gs, dr, tk, os⟩ → wpAny (model prog w) A' (pyIter v) Q E ⟨hp, gs, dr, tk, os⟩ := fun q => B.iter prog w _ _ ⟨hp, gs, dr, tk, os⟩ _ hP q
    wp_walk using it0
    refine wpAny_stack_any fun st => wpAny_pure ?_
    split
    · rename_i c _ _ _ _ _
      cases (c == Value.type "enumerate")
      · wp_walk using it0
        exact ⟨_, rfl, hR⟩
      · wp_walk using it0
        exact ⟨_, rfl, hR⟩
    · wp_walk using it0
      exact ⟨_, rfl, hR⟩
theorem enum1_call {prog : Program} {w : World} {A : Around} {E : Value → Shared → Prop} {s : Shared} {v : Value} {o : Obj} {P : Heap → Prop} {Q : Value → Shared → Prop} (B : Begins v o P) (hP : P s.heap)
    (h : ∀ h', IsEnum h' (s.heap.objs.size + 1) s.heap.objs.size 0 .none → h'.get? s.heap.objs.size = some o → (∀ b o, s.heap.get? b = some o → h'.get? b = some o) → Q (.ref (s.heap.objs.size + 1)) { s with heap := h' }) :
    wpAny (model prog w) A (call (.type "enumerate") [v]) Q E s := by
  refine callType_new F.called_enumerate (by decide) (F.typeCall_enumerate_1 _) (F.newCall_enumerate_1 _) (fun obj => F.args_object_init_2 obj _) F.entry_enumerate_new (enum1_meets B) ⟨hP, ?_⟩
  have z1 : (s.heap.push o).objs.size = s.heap.objs.size + 1 := Heap.size_push ..
  show _ ∧ _
  rw [z1]
  have e1 : IsEnum ((s.heap.push o).push { cls := .type "enumerate", data := .fields #[.none, .bool false, .ref s.heap.objs.size, rawInt 0, .none, .none] }) (s.heap.objs.size + 1) s.heap.objs.size 0 .none := by
    have q := Heap.get?_push_size (s.heap.push o) (o := { cls := .type "enumerate", data := .fields #[.none, .bool false, .ref s.heap.objs.size, rawInt 0, .none, .none] }) rfl
    rw [z1] at q
    exact q
  exact ⟨⟨_, e1, rfl⟩, h _ e1 (Heap.get?_push_of_some _ (Heap.get?_push_size _ B.free)) fun b o x => Heap.get?_push_of_some _ (Heap.get?_push_of_some _ x)⟩

/-- the tuple at a, each item in a new pair -/
def ItnT (K : PySem.W.Frag) (a : Addr) : It :=
  ⟨fun i H => ∃ (xs : List V) (x : V), SqT K H a xs ∧ xs[i]? = some x, fun i H v H' => ∃ T x, v = .ref T ∧ H T = none ∧ H' = upd H T (.tup [.int (i : Nat), x]) ∧ ∀ xs, SqT K H a xs → xs[i]? = some x, fun i H => ∃ xs : List V, SqT K H a xs ∧ i = xs.length⟩
theorem turn_enumT {P : Program} {w : World} {K : PySem.W.Frag} {elts : List Expr} {kk : Nat} {tpos : Pos} (a e it : Addr) (hne : e ≠ it) (hai : a ≠ it) (hae : e ≠ a) :
    Turn P w K (.Tuple elts kk tpos) (ItnT K a) [e, it] e (fun i h => (∃ old, IsEnum h e it ((i : Nat) : Int) old) ∧ h.IsTupleIter it a i) where
  mem := by simp
  obj := fun i h st b hb => by
    obtain ⟨⟨old, he⟩, ⟨o, ho, hc, hd⟩⟩ := st
    rcases (show b = e ∨ b = it by simpa using hb) with z | z
    · rw [z]; exact ⟨_, he, fun v q => nomatch q⟩
    · rw [z]; exact ⟨o, ho, fun v q => by rw [hd] at q; cases q⟩
  keep := fun i h h' st k => by
    obtain ⟨⟨old, he⟩, hi⟩ := st
    exact ⟨⟨old, k e (by simp) _ he⟩, hi.at fun o q => k it (by simp) o q⟩
  item := by
    intro X hP hw hK hc i pins s σ H E I hf st hg
    subst hP hw hK
    obtain ⟨⟨old, he⟩, hit⟩ := st
    obtain ⟨xs, x, hq, hx⟩ := hg
    obtain ⟨its, rv, p, hz⟩ := I.tuple hq
    have tp : s.heap.IsTuple a its.toArray := p
    have hel : e < s.heap.objs.size := Heap.lt_size he
    have hil : it < s.heap.objs.size := by obtain ⟨_, q, _⟩ := hit; exact Heap.lt_size q
    have hi : i < its.length := by rw [← rv.length]; exact (List.getElem?_eq_some_iff.mp hx).1
    refine wpAny_pyNext_enum_itemD (Draws.tuple (show X.A.in1.handled = none from I.ok.hd hc) it a hai its.toArray) he ⟨hit, tp⟩ (by simpa using hi) hne (by simp [hne, hae]) fun u h' tk hu ho st' hT hsz hk => ?_
    obtain ⟨u', hu', ru'⟩ := rv.get hx
    have eu : u = u' := by
      have hu : its.toArray[i]? = some u := hu
      rw [show its.toArray[i]? = its[i]? by simp, hu'] at hu
      exact (Option.some.inj hu).symm
    subst eu
    refine ⟨_, rfl, wpAny_letOwnedTupleGo_enum (s := { s with heap := h', toks := tk + 1 }) ho fun h'' he' sb => ?_⟩
    have hT2 : h''.get? s.heap.objs.size = some { cls := .type "tuple", data := .seq #[.int i tk, u] } := (sb.2 _ (Nat.ne_of_gt hel)).trans hT
    have new : ObjOk X.prog X.w (upd H s.heap.objs.size (.tup [.int (i : Nat), x])) h'' s.heap.objs.size (.tup [.int (i : Nat), x]) :=
      ⟨by show 2 ≤ sizeLine; decide, [.int i tk, u], .cons ⟨_, rfl⟩ (.cons ru' .nil), ⟨_, hT2, rfl, _, rfl⟩⟩
    have I1 : Inv X pins σ (upd H s.heap.objs.size (.tup [.int (i : Nat), x])) { s with heap := h'', toks := tk + 1 } :=
      I.turnedNew (ch := [e, it]) (fun b ob hb q => (sb.2 b (fun z => hb (by simp [z]))).trans (hk b ob (fun z => hb (by simp [z])) (fun z => hb (by simp [z])) q)) hf (Nat.le_refl _) new
    refine ⟨.ref s.heap.objs.size, _, I1, rfl, ⟨_, x, rfl, I.hok.fresh (Nat.le_refl _), rfl, fun ys hy => by rw [I.tuple_inj hy hq]; exact hx⟩, ⟨⟨u, ?_⟩, st'.1.at fun o q => (sb.2 it (Ne.symm hne)).trans q⟩, fun b hb => ?_⟩
    · have e1 : ((i + 1 : Nat) : Int) = (i : Int) + 1 := by omega
      rw [e1]
      exact he'
    · have hb' : b < s.heap.objs.size := by
        rcases (show b = e ∨ b = it by simpa using hb) with z | z
        · rw [z]; exact hel
        · rw [z]; exact hil
      rw [upd_ne (Nat.ne_of_lt hb')]
      exact (hf b hb).1
  done := by
    intro X hP hw hK hc i pins s σ H E I hf st hg
    subst hP hw hK
    obtain ⟨⟨old, he⟩, hit⟩ := st
    obtain ⟨xs, hq, hx⟩ := hg
    obtain ⟨its, rv, p, hz⟩ := I.tuple hq
    obtain ⟨f0, f1, f2, f3, f4, f5⟩ := hf it (by simp)
    have tp : s.heap.IsTuple a its.toArray := p
    have hi : i = its.toArray.size := by rw [hx, rv.length]; simp
    rw [hi] at hit
    exact wpAny_pyNext_enum_endD (Draws.tuple (show X.A.in1.handled = none from I.ok.hd hc) it a hai its.toArray) he ⟨hit, tp⟩ fun h' eb => ⟨rfl, I.turned (t' := s.toks) (fun b o hb q => eb b o hb q) f0 f1 f3 f4 f5⟩
  self := fun A i s Q E st h => by
    obtain ⟨⟨_, he⟩, _⟩ := st
    exact wpAny_pyIter_enum he h
def iEnT (K : PySem.W.Frag) (ta : TA) : TI := fun σ H R => ta σ H fun vs H1 => ∃ a xs, vs = [.ref a] ∧ SqT K H1 a xs ∧ R (ItnT K a) H1
theorem pi_enumT {X : Cx} {e : Expr} {ta : TA} {p pos tpos : Pos} {elts : List Expr} {kk : Nat} (hg : Gl X "enumerate") (hm : X.mg "enumerate" = none) (ha : PA X [e] ta) (hs : starEach [e] X.env = [(false, eval e X.env)] := by rfl) :
    PI X (.Tuple elts kk tpos) (.Call (.Name "enumerate" p) [e] [] pos) (iEnT X.K ta) := by
  refine ⟨fun pins s σ H R I h => ?_⟩
  refine Call_ (ld_blt I hg hm boot_enumerate (PyProof.Rows.callWith_type1 (thn (ha.run pos pins s σ H _ I h) fun us s1 ⟨vs, H1, I1, r1, q1⟩ => ?_) hs rfl))
  obtain ⟨a, xs, rfl, hq, q⟩ := q1
  have eu := Vals.ref1 r1
  subst eu
  obtain ⟨its, rv, p', hz⟩ := I1.tuple hq
  have tp : s1.heap.IsTuple a its.toArray := p'
  have hal : a < s1.heap.objs.size := by obtain ⟨o, ho, _⟩ := p'; exact Heap.lt_size ho
  refine enum1_call (begins_tuple a its.toArray) tp fun h' he hit hk => wpAny_pyIter_enum he ?_
  have I2 : Inv X pins σ H1 { s1 with heap := h' } := I1.kept (t' := s1.toks) hk
  refine ⟨s1.heap.objs.size + 1, [s1.heap.objs.size + 1, s1.heap.objs.size], _, _, H1, rfl, I2, turn_enumT a (s1.heap.objs.size + 1) s1.heap.objs.size (Nat.succ_ne_self _) (Nat.ne_of_lt hal) (Nat.ne_of_gt (Nat.lt_succ_of_lt hal)), ⟨⟨.none, he⟩, ⟨_, hit, rfl, rfl⟩⟩, fun b hb => ?_, q⟩
  have hle : s1.heap.objs.size ≤ b := by
    rcases (show b = s1.heap.objs.size + 1 ∨ b = s1.heap.objs.size by simpa using hb) with z | z
    · rw [z]; exact Nat.le_add_right _ _
    · rw [z]; exact Nat.le_refl _
  exact I1.fpOk hle (I1.hok.fresh hle)
end PV

/-! PV9: calls of built-ins; what loops walk; repr. -/
namespace PV
open PySem PySem.Spec PyProof.Rows L2
variable [Tbl]

/-- a datum as it stands: not changed any more, or a slot's object -/
def DenH (K : PySem.W.Frag) (F H : Hp) (d : D) (v : V) : Prop := Den K F d v ∨ ∃ (m : MD) (a : Addr) (o : HO), d = m.d ∧ v = .ref a ∧ H a = some o ∧ MDen K F m o
def DensH (K : PySem.W.Frag) (F H : Hp) : List D → List V → Prop
  | [], vs => vs = []
  | d :: ds, vs => ∃ v r, vs = v :: r ∧ DenH K F H d v ∧ DensH K F H ds r
def peekA (δ : DE) : Arg → Option D
  | .val d => some d
  | .slot i => (mutOf δ i).map fun p => p.2.d
def peeks (δ : DE) : List Arg → Option (List D)
  | [] => some []
  | a :: as => (peekA δ a).bind fun d => (peeks δ as).map fun r => d :: r
section
variable {K : PySem.W.Frag} {c : Cq} {F H : Hp} {σ : L2.St} {δ : DE}
theorem Rel.peek (r : Rel K c F H σ δ) : ∀ {as : List Arg} {ds : List D} {vs : List V}, peeks δ as = some ds → ArgsD K F σ as vs → DensH K F H ds vs
  | [], _, _, h, g => by cases h; exact g
  | a :: as, ds, vs, h, ⟨v, t, e, g1, g2⟩ => by
    obtain ⟨d, h1, h2⟩ := Option.bind_eq_some_iff.mp h
    obtain ⟨ds', h3, rfl⟩ := Option.map_eq_some_iff.mp h2
    refine ⟨v, t, e, ?_, r.peek h3 g2⟩
    cases a with
    | val d' => cases h1; exact .inl g1
    | slot i =>
      obtain ⟨p, h4, rfl⟩ := Option.map_eq_some_iff.mp h1
      obtain ⟨s, m⟩ := p
      obtain ⟨q1, q2⟩ := mutOf_some h4
      obtain ⟨b, o, w1, w2, w3, _⟩ := r.mutAt q1 q2
      have g1 : σ[i]? = some (some v) := g1
      rw [w1] at g1; cases g1
      exact .inr ⟨m, b, o, rfl, rfl, w2, w3⟩
theorem DenH.lst (s : Same F H) {l : List D} {v : V} (h : DenH K F H (.lst l) v) : ∃ a xs, v = .ref a ∧ H a = some (.lst xs) ∧ Dens K F l xs := by
  rcases h with ⟨a, xs, e, h1, h2⟩ | ⟨m, a, o, e, e1, h1, h2⟩
  · exact ⟨a, xs, e, s _ _ h1, h2⟩
  · cases m with
    | lst l' =>
      cases e
      obtain ⟨xs, rfl, h2⟩ := mden_lst h2
      exact ⟨a, xs, e1, h1, h2⟩
    | dct l' => cases e
    | dcT l' => cases e
    | ins c l' => cases e
theorem DenH.low {d : D} {v : V} (h : DenH K F H d v) (n1 : ∀ l, d ≠ .lst l) (n2 : ∀ l, d ≠ .dct l) (n4 : ∀ l, d ≠ .dcT l) (n3 : ∀ c l, d ≠ .ins c l) : Den K F d v := by
  rcases h with h | ⟨m, a, o, e, _⟩
  · exact h
  · cases m with
    | lst l => exact absurd e (n1 l)
    | dct l => exact absurd e (n2 l)
    | dcT l => exact absurd e (n4 l)
    | ins c l => exact absurd e (n3 c l)
end

/-! ### a call of a built-in, by data -/
def callB (o : List D → Option D) (fa : DE → R (List Arg)) : DE → R D := fun δ => (fa δ).bind fun as δ => match peeks δ as with
  | some ds => R.of (o ds) δ
  | none => .stuck
def callN (o : List D → Option MD) (fa : DE → R (List Arg)) : DE → R MD := fun δ => (fa δ).bind fun as δ => match peeks δ as with
  | some ds => R.of (o ds) δ
  | none => .stuck
def Bf (X : Cx) (f : Value) (o : List D → Option D) : Prop := ∃ r, CallR X f r ∧ ∀ c F H σ δ ds z vs (Q : VK), Rel X.K c F H σ δ → DensH X.K F H ds vs → o ds = some z →
  (∀ u F' H', Rel X.K c F' H' σ δ → Same F F' → Den X.K F' z u → Q u H') → r vs H Q
def Bn (X : Cx) (f : Value) (o : List D → Option MD) : Prop := ∃ r, CallR X f r ∧ ∀ c F H σ δ ds z vs (Q : VK), Rel X.K c F H σ δ → DensH X.K F H ds vs → o ds = some z →
  (∀ u F' H', Rel X.K c F' H' σ δ → Same F F' → dnN X.K c F' H' σ δ z u → Q u H') → r vs H Q
section
variable {X : Cx} {W : WX} {x : Str} {p pos : Pos} {e : Expr} {es : List Expr} {fa : DE → R (List Arg)} {id T : String}
theorem rd_callB {f : Value} {o : List D → Option D} (h : Bf X f o) : ∃ r, CallR X f r ∧ ∀ σ H Q, rdE X.K W (callB o fa) σ H Q → tCB r (rdA X.K W fa) σ H Q := by
  obtain ⟨r, h1, h2⟩ := h
  refine ⟨r, h1, fun σ H Q z => ?_⟩
  refine z.first (DM := dnA X.K) fun c F H1 δ as vs r1 d1 z1 => ?_
  cases q : peeks δ as with
  | none => rw [q] at z1; exact False.elim z1
  | some ds =>
    rw [q] at z1
    have z1 : aft X.K W (dnE X.K) c F σ Q (R.of (o ds) δ) := z1
    cases q2 : o ds with
    | none => rw [q2] at z1; exact False.elim z1
    | some d =>
      rw [q2] at z1
      exact h2 c F H1 σ δ ds d vs Q r1 (r1.peek q d1) q2 fun u F' H' r' s' d' => z1 u F' H' r' s' d'
theorem rd_callN {f : Value} {o : List D → Option MD} (h : Bn X f o) : ∃ r, CallR X f r ∧ ∀ σ H Q, rdN X.K W (callN o fa) σ H Q → tCB r (rdA X.K W fa) σ H Q := by
  obtain ⟨r, h1, h2⟩ := h
  refine ⟨r, h1, fun σ H Q z => ?_⟩
  refine z.first (DM := dnA X.K) fun c F H1 δ as vs r1 d1 z1 => ?_
  cases q : peeks δ as with
  | none => rw [q] at z1; exact False.elim z1
  | some ds =>
    rw [q] at z1
    have z1 : aft X.K W (dnN X.K) c F σ Q (R.of (o ds) δ) := z1
    cases q2 : o ds with
    | none => rw [q2] at z1; exact False.elim z1
    | some d =>
      rw [q2] at z1
      exact h2 c F H1 σ δ ds d vs Q r1 (r1.peek q d1) q2 fun u F' H' r' s' d' => z1 u F' H' r' s' d'
theorem ve_bf {o : List D → Option D} (h : Bf X (.builtin id) o) (hg : Gl X x) (hm : X.mg x = none) (hv : bootBuiltins x = some (.builtin id)) (ha : VA X W (e :: es) fa) (hn : x ≠ "__name__" := by decide) (hdb : (x == ("__debug__" : Str)) = false := by decide)
    (he : starEach (e :: es) X.env = (false, eval e X.env) :: starEach es X.env := by rfl) (hpl : (backTo pos (starEach es X.env)).any (·.1) = false := by rfl) : VE X W (.Call (.Name x p) (e :: es) [] pos) (callB o fa) := by
  obtain ⟨r, h1, h2⟩ := rd_callB (W := W) (fa := fa) h
  exact PE.to (pe_callB h1 hg hm hv ha hn hdb he hpl) h2
theorem ve_bty {o : List D → Option D} (h : Bf X (.type T) o) (hg : Gl X x) (hm : X.mg x = none) (hv : bootBuiltins x = some (.type T)) (ha : VA X W (e :: es) fa) (hn : x ≠ "__name__" := by decide) (hdb : (x == ("__debug__" : Str)) = false := by decide)
    (he : starEach (e :: es) X.env = (false, eval e X.env) :: starEach es X.env := by rfl) (hpl : (backTo pos (starEach es X.env)).any (·.1) = false := by rfl) : VE X W (.Call (.Name x p) (e :: es) [] pos) (callB o fa) := by
  obtain ⟨r, h1, h2⟩ := rd_callB (W := W) (fa := fa) h
  exact PE.to (pe_callTy h1 hg hm hv ha hn hdb he hpl) h2
theorem vn_bf {o : List D → Option MD} (h : Bn X (.builtin id) o) (hg : Gl X x) (hm : X.mg x = none) (hv : bootBuiltins x = some (.builtin id)) (ha : VA X W (e :: es) fa) (hn : x ≠ "__name__" := by decide) (hdb : (x == ("__debug__" : Str)) = false := by decide)
    (he : starEach (e :: es) X.env = (false, eval e X.env) :: starEach es X.env := by rfl) (hpl : (backTo pos (starEach es X.env)).any (·.1) = false := by rfl) : VN X W (.Call (.Name x p) (e :: es) [] pos) (callN o fa) := by
  obtain ⟨r, h1, h2⟩ := rd_callN (W := W) (fa := fa) h
  exact PE.to (pe_callB h1 hg hm hv ha hn hdb he hpl) h2
theorem vn_bty {o : List D → Option MD} (h : Bn X (.type T) o) (hg : Gl X x) (hm : X.mg x = none) (hv : bootBuiltins x = some (.type T)) (ha : VA X W (e :: es) fa) (hn : x ≠ "__name__" := by decide) (hdb : (x == ("__debug__" : Str)) = false := by decide)
    (he : starEach (e :: es) X.env = (false, eval e X.env) :: starEach es X.env := by rfl) (hpl : (backTo pos (starEach es X.env)).any (·.1) = false := by rfl) : VN X W (.Call (.Name x p) (e :: es) [] pos) (callN o fa) := by
  obtain ⟨r, h1, h2⟩ := rd_callN (W := W) (fa := fa) h
  exact PE.to (pe_callTy h1 hg hm hv ha hn hdb he hpl) h2
end
theorem Bf.or {X : Cx} {f : Value} {o o' : List D → Option D} (h : Bf X f o) (h' : Bf X f o') : Bf X f (fun ds => (o ds).or (o' ds)) := by
  obtain ⟨r, h1, h2⟩ := h
  obtain ⟨r', h1', h2'⟩ := h'
  refine ⟨_, CallR.or h1 h1', fun c F H σ δ ds z vs Q r0 d1 q k => ?_⟩
  have q : (o ds).or (o' ds) = some z := q
  cases e1 : o ds with
  | some y => rw [e1] at q; exact .inl (h2 c F H σ δ ds z vs Q r0 d1 (by rw [e1]; exact q) k)
  | none => rw [e1] at q; exact .inr (h2' c F H σ δ ds z vs Q r0 d1 q k)

/-! ### len, max, min, sum, all, any, tuple, list -/
def lenD : List D → Option D
  | [.lst l] => some (.int l.length)
  | [.tup l] => some (.int l.length)
  | [.scr l] => some (.int l.length)
  | [.str s] => if s.length ≤ LIM then some (.int s.length) else none
  | [.byt s] => if s.size ≤ LIM then some (.int s.size) else none
  | _ => none
def max2D : List D → Option D
  | [.int i, .int j] => some (.int (if j > i then j else i))
  | _ => none
def min2D : List D → Option D
  | [.int i, .int j] => some (.int (if j < i then j else i))
  | _ => none
def intsOf : List D → Option (List Int)
  | [] => some []
  | .int i :: ds => (intsOf ds).map fun r => i :: r
  | _ :: _ => none
def blsOf : List D → Option (List Bool)
  | [] => some []
  | .bl i :: ds => (blsOf ds).map fun r => i :: r
  | _ :: _ => none
def maxI : List Int → Int
  | [] => 0
  | [x] => x
  | x :: y :: r => max x (maxI (y :: r))
def minI : List Int → Int
  | [] => 0
  | [x] => x
  | x :: y :: r => min x (minI (y :: r))
theorem maxI_mem : ∀ {l : List Int}, l ≠ [] → maxI l ∈ l ∧ ∀ y ∈ l, y ≤ maxI l
  | [], h => absurd rfl h
  | [x], _ => ⟨List.mem_singleton.mpr rfl, fun y hy => by rw [List.mem_singleton.mp hy]; exact Int.le_refl _⟩
  | x :: y :: r, _ => by
    obtain ⟨h1, h2⟩ := maxI_mem (l := y :: r) (by simp)
    unfold maxI
    refine ⟨?_, fun z hz => ?_⟩
    · by_cases q : x ≤ maxI (y :: r)
      · rw [Int.max_eq_right q]; exact List.mem_cons_of_mem _ h1
      · rw [Int.max_eq_left (by omega)]; exact List.mem_cons_self
    · rcases List.mem_cons.mp hz with q | q
      · rw [q]; exact Int.le_max_left _ _
      · exact Int.le_trans (h2 z q) (Int.le_max_right _ _)
theorem minI_mem : ∀ {l : List Int}, l ≠ [] → minI l ∈ l ∧ ∀ y ∈ l, minI l ≤ y
  | [], h => absurd rfl h
  | [x], _ => ⟨List.mem_singleton.mpr rfl, fun y hy => by rw [List.mem_singleton.mp hy]; exact Int.le_refl _⟩
  | x :: y :: r, _ => by
    obtain ⟨h1, h2⟩ := minI_mem (l := y :: r) (by simp)
    unfold minI
    refine ⟨?_, fun z hz => ?_⟩
    · by_cases q : maxI [0] ≤ 0 ∧ x ≤ minI (y :: r)
      · rw [Int.min_eq_left q.2]; exact List.mem_cons_self
      · have : minI (y :: r) ≤ x := by
          have : maxI [0] = 0 := rfl
          omega
        rw [Int.min_eq_right this]; exact List.mem_cons_of_mem _ h1
    · rcases List.mem_cons.mp hz with q | q
      · rw [q]; exact Int.min_le_left _ _
      · exact Int.le_trans (Int.min_le_right _ _) (h2 z q)
def maxLD : List D → Option D
  | [.lst l] => (intsOf l).bind fun ns => if ns = [] then none else some (.int (maxI ns))
  | _ => none
def minLD : List D → Option D
  | [.lst l] => (intsOf l).bind fun ns => if ns = [] then none else some (.int (minI ns))
  | _ => none
def sumLD : List D → Option D
  | [.lst l] => (intsOf l).map fun ns => .int ns.sum
  | _ => none
def allD : List D → Option D
  | [.lst l] => (blsOf l).map fun bs => .bl (bs.all id)
  | _ => none
def anyD : List D → Option D
  | [.lst l] => (blsOf l).map fun bs => .bl (bs.any id)
  | _ => none
def tupleD : List D → Option D
  | [.lst l] => some (.tup l)
  | [.tup l] => some (.tup l)
  | _ => none
def listN : List D → Option MD
  | [.lst l] => some (.lst l)
  | [.tup l] => some (.lst l)
  | _ => none
theorem ints_den {K : PySem.W.Frag} {F : Hp} : ∀ {ds : List D} {ns : List Int} {vs : List V}, intsOf ds = some ns → Dens K F ds vs → vs = ns.map V.int
  | [], _, _, h, g => by cases h; exact g
  | d :: ds, ns, vs, h, ⟨v, r, e, g1, g2⟩ => by
    cases d <;> first | (cases h; done) | skip
    obtain ⟨t, h1, rfl⟩ := Option.map_eq_some_iff.mp h
    rw [e, show v = _ from g1, ints_den h1 g2]
    rfl
theorem bls_den {K : PySem.W.Frag} {F : Hp} : ∀ {ds : List D} {ns : List Bool} {vs : List V}, blsOf ds = some ns → Dens K F ds vs → vs = ns.map V.bl
  | [], _, _, h, g => by cases h; exact g
  | d :: ds, ns, vs, h, ⟨v, r, e, g1, g2⟩ => by
    cases d <;> first | (cases h; done) | skip
    obtain ⟨t, h1, rfl⟩ := Option.map_eq_some_iff.mp h
    rw [e, show v = _ from g1, bls_den h1 g2]
    rfl
section
variable {X : Cx}
theorem densH1 {K : PySem.W.Frag} {F H : Hp} {d : D} {vs : List V} (h : DensH K F H [d] vs) : ∃ v, vs = [v] ∧ DenH K F H d v := by
  obtain ⟨v, r, e, h1, h2⟩ := h
  rw [show r = _ from h2] at e
  exact ⟨v, e, h1⟩
theorem densH2 {K : PySem.W.Frag} {F H : Hp} {d d' : D} {vs : List V} (h : DensH K F H [d, d'] vs) : ∃ v v', vs = [v, v'] ∧ DenH K F H d v ∧ DenH K F H d' v' := by
  obtain ⟨v, r, e, h1, h2⟩ := h
  obtain ⟨v', e', h3⟩ := densH1 h2
  rw [e'] at e
  exact ⟨v, v', e, h1, h3⟩
theorem b_len : Bf X (.builtin "len") lenD := by
  refine ⟨_, call_len, fun c F H σ δ ds z vs Q r d1 q k => ?_⟩
  unfold lenD at q
  split at q
  · cases q
    obtain ⟨v, rfl, h⟩ := densH1 d1
    obtain ⟨a, xs, rfl, h1, h2⟩ := h.lst r.sub
    exact ⟨_, xs.length, rfl, .inl ⟨xs, .inl (.inl h1), rfl⟩, k _ F H r (.refl _) (by rw [h2.length]; rfl)⟩
  · cases q
    obtain ⟨v, rfl, h⟩ := densH1 d1
    obtain ⟨a, xs, rfl, h1, h2⟩ := h.low (fun _ z => nomatch z) (fun _ z => nomatch z) (fun _ z => nomatch z) fun _ _ z => nomatch z
    exact ⟨_, xs.length, rfl, .inr ⟨xs, sqt (r.sub _ _ h1), rfl⟩, k _ F H r (.refl _) (by rw [h2.length]; rfl)⟩
  · cases q
    obtain ⟨v, rfl, h⟩ := densH1 d1
    obtain ⟨a, rfl, h1⟩ := h.low (fun _ z => nomatch z) (fun _ z => nomatch z) (fun _ z => nomatch z) fun _ _ z => nomatch z
    exact ⟨_, _, rfl, .inl ⟨_, r.sub.seq h1, rfl⟩, k _ F H r (.refl _) (by rw [List.length_map]; rfl)⟩
  · rename_i s
    split at q
    · rename_i hl
      cases q
      obtain ⟨v, rfl, h⟩ := densH1 d1
      have h := h.low (fun _ z => nomatch z) (fun _ z => nomatch z) (fun _ z => nomatch z) fun _ _ z => nomatch z
      rw [show v = _ from h]
      exact ⟨_, s.length, rfl, ⟨lim_le hl, rfl⟩, k _ F H r (.refl _) rfl⟩
    · cases q
  · rename_i s
    split at q
    · rename_i hl
      cases q
      obtain ⟨v, rfl, h⟩ := densH1 d1
      have h := h.low (fun _ z => nomatch z) (fun _ z => nomatch z) (fun _ z => nomatch z) fun _ _ z => nomatch z
      rw [show v = _ from h]
      exact ⟨_, s.size, rfl, ⟨lim_le hl, rfl⟩, k _ F H r (.refl _) rfl⟩
    · cases q
  · cases q
theorem two_ints {K : PySem.W.Frag} {F H : Hp} {i j : Int} {vs : List V} (h : DensH K F H [.int i, .int j] vs) : vs = [.int i, .int j] := by
  obtain ⟨v, v', rfl, h1, h2⟩ := densH2 h
  have h1 := h1.low (fun _ z => nomatch z) (fun _ z => nomatch z) (fun _ z => nomatch z) fun _ _ z => nomatch z
  have h2 := h2.low (fun _ z => nomatch z) (fun _ z => nomatch z) (fun _ z => nomatch z) fun _ _ z => nomatch z
  rw [show v = _ from h1, show v' = _ from h2]
theorem b_max2 (hc : X.calm = true) : Bf X (.builtin "max") max2D := by
  refine ⟨_, call_max2 hc, fun c F H σ δ ds z vs Q r d1 q k => ?_⟩
  unfold max2D at q
  split at q
  · cases q
    exact ⟨_, _, two_ints d1, k _ F H r (.refl _) rfl⟩
  · cases q
theorem b_min2 (hc : X.calm = true) : Bf X (.builtin "min") min2D := by
  refine ⟨_, call_min2 hc, fun c F H σ δ ds z vs Q r d1 q k => ?_⟩
  unfold min2D at q
  split at q
  · cases q
    exact ⟨_, _, two_ints d1, k _ F H r (.refl _) rfl⟩
  · cases q
theorem b_maxL (hc : X.calm = true) : Bf X (.builtin "max") maxLD := by
  refine ⟨_, cr_max hc, fun c F H σ δ ds z vs Q r d1 q k => ?_⟩
  unfold maxLD at q
  split at q
  · obtain ⟨ns, q1, q2⟩ := Option.bind_eq_some_iff.mp q
    split at q2
    · cases q2
    · rename_i hne
      cases q2
      obtain ⟨v, rfl, h⟩ := densH1 d1
      obtain ⟨a, xs, rfl, h1, h2⟩ := h.lst r.sub
      rw [ints_den q1 h2] at h1
      refine ⟨a, ns, rfl, .inl (.inl h1), List.length_pos_iff.mpr hne, fun m hm hy => ?_⟩
      obtain ⟨g1, g2⟩ := maxI_mem hne
      have : m = maxI ns := Int.le_antisymm (g2 m hm) (hy _ g1)
      rw [this]
      exact k _ F H r (.refl _) rfl
  · cases q
theorem b_minL (hc : X.calm = true) : Bf X (.builtin "min") minLD := by
  refine ⟨_, cr_min hc, fun c F H σ δ ds z vs Q r d1 q k => ?_⟩
  unfold minLD at q
  split at q
  · obtain ⟨ns, q1, q2⟩ := Option.bind_eq_some_iff.mp q
    split at q2
    · cases q2
    · rename_i hne
      cases q2
      obtain ⟨v, rfl, h⟩ := densH1 d1
      obtain ⟨a, xs, rfl, h1, h2⟩ := h.lst r.sub
      rw [ints_den q1 h2] at h1
      refine ⟨a, ns, rfl, .inl (.inl h1), List.length_pos_iff.mpr hne, fun m hm hy => ?_⟩
      obtain ⟨g1, g2⟩ := minI_mem hne
      have : m = minI ns := Int.le_antisymm (hy _ g1) (g2 m hm)
      rw [this]
      exact k _ F H r (.refl _) rfl
  · cases q
theorem b_sum (hc : X.calm = true) : Bf X (.builtin "sum") sumLD := by
  refine ⟨_, cr_sum hc, fun c F H σ δ ds z vs Q r d1 q k => ?_⟩
  unfold sumLD at q
  split at q
  · obtain ⟨ns, q1, rfl⟩ := Option.map_eq_some_iff.mp q
    obtain ⟨v, rfl, h⟩ := densH1 d1
    obtain ⟨a, xs, rfl, h1, h2⟩ := h.lst r.sub
    rw [ints_den q1 h2] at h1
    exact ⟨a, ns, rfl, .inl (.inl h1), k _ F H r (.refl _) rfl⟩
  · cases q
theorem b_all (hc : X.calm = true) : Bf X (.builtin "all") allD := by
  refine ⟨_, cr_all hc, fun c F H σ δ ds z vs Q r d1 q k => ?_⟩
  unfold allD at q
  split at q
  · obtain ⟨ns, q1, rfl⟩ := Option.map_eq_some_iff.mp q
    obtain ⟨v, rfl, h⟩ := densH1 d1
    obtain ⟨a, xs, rfl, h1, h2⟩ := h.lst r.sub
    rw [bls_den q1 h2] at h1
    exact ⟨a, ns, rfl, .inl (.inl h1), k _ F H r (.refl _) rfl⟩
  · cases q
theorem b_any (hc : X.calm = true) : Bf X (.builtin "any") anyD := by
  refine ⟨_, cr_any hc, fun c F H σ δ ds z vs Q r d1 q k => ?_⟩
  unfold anyD at q
  split at q
  · obtain ⟨ns, q1, rfl⟩ := Option.map_eq_some_iff.mp q
    obtain ⟨v, rfl, h⟩ := densH1 d1
    obtain ⟨a, xs, rfl, h1, h2⟩ := h.lst r.sub
    rw [bls_den q1 h2] at h1
    exact ⟨a, ns, rfl, .inl (.inl h1), k _ F H r (.refl _) rfl⟩
  · cases q
theorem b_tuple : Bf X (.type "tuple") tupleD := by
  refine ⟨_, call_tuple_of, fun c F H σ δ ds z vs Q r d1 q k => ?_⟩
  unfold tupleD at q
  split at q
  · cases q
    obtain ⟨v, rfl, h⟩ := densH1 d1
    obtain ⟨a, xs, rfl, h1, h2⟩ := h.lst r.sub
    exact ⟨a, xs, rfl, .inl ⟨.inl (.inl h1), fun p hp => k _ _ _ (r.lay hp) (same_new (r.freeF hp)) ⟨p, xs, rfl, upd_same, Dens.mono (same_new (r.freeF hp)) _ _ h2⟩⟩⟩
  · cases q
    obtain ⟨v, rfl, h⟩ := densH1 d1
    obtain ⟨a, xs, rfl, h1, h2⟩ := h.low (fun _ z => nomatch z) (fun _ z => nomatch z) (fun _ z => nomatch z) fun _ _ z => nomatch z
    exact ⟨a, xs, rfl, .inr ⟨sqt (r.sub _ _ h1), k _ F H r (.refl _) ⟨a, xs, rfl, h1, h2⟩⟩⟩
  · cases q
theorem b_list : Bn X (.type "list") listN := by
  refine ⟨_, call_list_of, fun c F H σ δ ds z vs Q r d1 q k => ?_⟩
  unfold listN at q
  split at q
  · cases q
    obtain ⟨v, rfl, h⟩ := densH1 d1
    obtain ⟨a, xs, rfl, h1, h2⟩ := h.lst r.sub
    refine ⟨a, xs, rfl, .inl (.inl (.inl h1)), fun p hp => ?_⟩
    obtain ⟨g1, g2⟩ := r.fresh (o := .lst xs) (m := .lst _) hp h2
    exact k _ _ _ g1 (.refl _) g2
  · cases q
    obtain ⟨v, rfl, h⟩ := densH1 d1
    obtain ⟨a, xs, rfl, h1, h2⟩ := h.low (fun _ z => nomatch z) (fun _ z => nomatch z) (fun _ z => nomatch z) fun _ _ z => nomatch z
    refine ⟨a, xs, rfl, .inr (sqt (r.sub _ _ h1)), fun p hp => ?_⟩
    obtain ⟨g1, g2⟩ := r.fresh (o := .lst xs) (m := .lst _) hp h2
    exact k _ _ _ g1 (.refl _) g2
  · cases q
end

/-! ### isinstance of a built-in type -/
def D.tyN : D → Option String
  | .non => some "NoneType"
  | .bl _ => some "bool"
  | .int _ => some "int"
  | .str _ => some "str"
  | .byt _ => some "bytes"
  | .tup _ => some "tuple"
  | .lst _ => some "list"
  | .dct _ => some "dict"
  | _ => none
def isiD : List D → Option D
  | [x, .ty T] => x.tyN.bind fun t => (kitB t T).map .bl
  | _ => none
theorem sqT_ty {K : PySem.W.Frag} {H : Hp} {a : Addr} {xs : List V} (h : SqT K H a xs) : TyX K H (.ref a) (.type "tuple") := by
  rcases h with (h | ⟨o, h⟩) | h
  · exact .base (.tup h)
  · exact .fTuple h
  · obtain ⟨o, its, n, e, c, _⟩ := h
    exact .kTuple e c
theorem tyN_x {K : PySem.W.Frag} {F H : Hp} (s : Same F H) {x : D} {v : V} {t : String} (h : DenH K F H x v) (e : x.tyN = some t) : TyX K H v (.type t) := by
  cases x <;> first | (cases e; done) | skip
  · have h := h.low (fun _ z => nomatch z) (fun _ z => nomatch z) (fun _ z => nomatch z) fun _ _ z => nomatch z
    cases e; rw [show v = _ from h]; exact .base .non
  · have h := h.low (fun _ z => nomatch z) (fun _ z => nomatch z) (fun _ z => nomatch z) fun _ _ z => nomatch z
    cases e; rw [show v = _ from h]; exact .base (.bl _)
  · have h := h.low (fun _ z => nomatch z) (fun _ z => nomatch z) (fun _ z => nomatch z) fun _ _ z => nomatch z
    cases e; rw [show v = _ from h]; exact .base (.int _)
  · have h := h.low (fun _ z => nomatch z) (fun _ z => nomatch z) (fun _ z => nomatch z) fun _ _ z => nomatch z
    cases e; rw [show v = _ from h]; exact .base (.str _)
  · have h := h.low (fun _ z => nomatch z) (fun _ z => nomatch z) (fun _ z => nomatch z) fun _ _ z => nomatch z
    cases e; rw [show v = _ from h]; exact .byt _
  · have h := h.low (fun _ z => nomatch z) (fun _ z => nomatch z) (fun _ z => nomatch z) fun _ _ z => nomatch z
    cases e
    obtain ⟨a, xs, rfl, h1, _⟩ := h
    exact sqT_ty (sqt (s _ _ h1))
  · cases e
    obtain ⟨a, xs, rfl, h1, _⟩ := h.lst s
    exact .base (.lst h1)
  · cases e
    rcases h with ⟨a, xs, rfl, h1, _⟩ | ⟨m, a, o, e', rfl, h1, h2⟩
    · exact .base (.dK (s _ _ h1))
    · cases m with
      | lst l => cases e'
      | ins c l => cases e'
      | dcT l => cases e'
      | dct l =>
        cases o <;> first | exact False.elim h2 | skip
        exact .base (.dK h1)
theorem b_isi {X : Cx} : Bf X (.builtin "isinstance") isiD := by
  refine ⟨_, call_isi, fun c F H σ δ ds z vs Q r d1 q k => ?_⟩
  unfold isiD at q
  split at q
  · obtain ⟨t, q1, q2⟩ := Option.bind_eq_some_iff.mp q
    obtain ⟨b, q3, rfl⟩ := Option.map_eq_some_iff.mp q2
    obtain ⟨v, v', rfl, h1, h2⟩ := densH2 d1
    have h2 := h2.low (fun _ z => nomatch z) (fun _ z => nomatch z) (fun _ z => nomatch z) fun _ _ z => nomatch z
    rw [show v' = _ from h2]
    exact ⟨v, _, _, _, b, rfl, .ty _, tyN_x r.sub h1 q1, kit_ty q3, k _ F H r (.refl _) rfl⟩
  · cases q
end PV

/-! PV10: what loops walk; repr; the end of a law. -/
namespace PV
open PySem PySem.Spec PyProof.Rows L2
variable [Tbl]

theorem PI.or {X : Cx} {tg e : Expr} {t t' : TI} (h : PI X tg e t) (h' : PI X tg e t') : PI X tg e (fun σ H Q => t σ H Q ∨ t' σ H Q) := ⟨fun pins s σ H Q I z => z.elim (h.run pins s σ H Q I) (h'.run pins s σ H Q I)⟩
/-! ### walks -/
def seqE (f : DE → R D) : DE → R (List D) := fun δ => (f δ).bind fun x δ => match x with
  | .lst l => .ok l δ
  | .tup l => .ok l δ
  | .scr l => .ok (l.map .int) δ
  | .str s => .ok (s.cps.toList.map fun c => .str ⟨#[c]⟩) δ
  | _ => .stuck
section
variable {K : PySem.W.Frag} {F0 : Hp}
theorem it_list {a : Addr} {xs : List V} {ds : List D} (h : SqL K F0 a xs) (d : Dens K F0 ds xs) : ItF K F0 (Itl K a) ds := by
  intro c F H σ δ i r s
  have h1 : SqL K H a xs := r.sub.seq (s.seq h)
  refine ⟨fun d0 e => ?_, fun e => ⟨xs, h1, by rw [d.length, e]; exact Nat.le_refl _⟩⟩
  obtain ⟨v, g1, g2⟩ := d.get e
  refine ⟨⟨xs, v, h1, g1⟩, fun x H1 y => ?_⟩
  obtain ⟨rfl, y2⟩ := y
  have := (y2 xs h1).symm.trans g1
  cases this
  exact ⟨F, r, .refl _, Den.mono s _ _ g2⟩
theorem it_tup {a : Addr} {xs : List V} {ds : List D} (h : SqT K F0 a xs) (d : Dens K F0 ds xs) : ItF K F0 (Itt K a) ds := by
  intro c F H σ δ i r s
  have h1 : SqT K H a xs := PV.Same.tup r.sub (PV.Same.tup s h)
  refine ⟨fun d0 e => ?_, fun e => ⟨xs, h1, by rw [d.length, e]; exact Nat.le_refl _⟩⟩
  obtain ⟨v, g1, g2⟩ := d.get e
  refine ⟨⟨xs, v, h1, g1⟩, fun x H1 y => ?_⟩
  obtain ⟨rfl, y2⟩ := y
  have := (y2 xs h1).symm.trans g1
  cases this
  exact ⟨F, r, .refl _, Den.mono s _ _ g2⟩
theorem it_str {x : Str} : ItF K F0 (Its x) (x.cps.toList.map fun c => .str ⟨#[c]⟩) := by
  intro c F H σ δ i r s
  refine ⟨fun d0 e => ?_, fun e => ?_⟩
  · rw [List.getElem?_map] at e
    cases q : x.cps.toList[i]? with
    | none => rw [q] at e; cases e
    | some cp =>
      rw [q] at e
      cases e
      refine ⟨?_, fun v H1 y => ?_⟩
      · have := (List.getElem?_eq_some_iff.mp q).1
        show i < x.cps.size
        simpa using this
      · obtain ⟨rfl, c', y1, rfl⟩ := y
        rw [Array.getElem?_toList] at q
        rw [q] at y1
        cases y1
        exact ⟨F, r, .refl _, rfl⟩
  · show x.cps.size ≤ i
    rw [e, List.length_map]
    simp
theorem dens_ints {F : Hp} : ∀ ns : List Int, Dens K F (ns.map .int) (ns.map V.int)
  | [] => rfl
  | n :: ns => ⟨.int n, _, rfl, rfl, dens_ints ns⟩
theorem it_range {lo : Int} {n : Nat} : ItF K F0 (Itr lo n) ((List.range n).map fun i => .int (lo + (i : Nat))) := by
  intro c F H σ δ i r s
  refine ⟨fun d0 e => ?_, fun e => ?_⟩
  · rw [List.getElem?_map] at e
    by_cases hi : i < n
    · rw [List.getElem?_range hi] at e
      cases e
      refine ⟨hi, fun v H1 y => ?_⟩
      obtain ⟨rfl, rfl⟩ := y
      exact ⟨F, r, .refl _, rfl⟩
    · rw [List.getElem?_eq_none (by rw [List.length_range]; omega)] at e
      cases e
  · rw [List.length_map, List.length_range] at e
    exact Nat.le_of_eq e.symm
end
section
variable {X : Cx} {W : WX} {tg e : Expr} {f : DE → R D} {p pos : Pos}
theorem vi_seq (h : VE X W e f) : VI X W tg e (seqE f) := PI.to (PI.or (pi_list h) (PI.or (pi_tup h) (pi_str h))) fun σ H Q z => by
  obtain ⟨c, F, δ, r, z0⟩ := id z
  have z0 : aft X.K W (dnI X.K) c F σ Q ((f δ).bind _) := z0
  cases q : f δ with
  | exc x δ1 => rw [q] at z0; exact .inl ⟨c, F, δ, r, by rw [q]; exact z0⟩
  | stuck => rw [q] at z0; exact False.elim z0
  | ok d δ1 =>
    rw [q] at z0
    cases d <;> first | (exact False.elim z0; done) | skip
    · refine .inr (.inr ⟨c, F, δ, r, ?_⟩)
      rw [q]
      intro v F' H' r' s' d'
      exact ⟨_, d', z0 _ F' H' r' s' it_str⟩
    · refine .inl ⟨c, F, δ, r, ?_⟩
      rw [q]
      intro v F' H' r' s' d'
      obtain ⟨a, rfl, h1⟩ := d'
      exact ⟨a, rfl, ⟨_, r'.sub.seq h1⟩, z0 _ F' H' r' s' (it_list h1 (dens_ints _))⟩
    · refine .inr (.inl ⟨c, F, δ, r, ?_⟩)
      rw [q]
      intro v F' H' r' s' d'
      obtain ⟨a, xs, rfl, h1, h2⟩ := d'
      exact ⟨a, rfl, ⟨xs, sqt (r'.sub _ _ h1)⟩, z0 _ F' H' r' s' (it_tup (sqt h1) h2)⟩
    · refine .inl ⟨c, F, δ, r, ?_⟩
      rw [q]
      intro v F' H' r' s' d'
      obtain ⟨a, xs, rfl, h1, h2⟩ := d'
      exact ⟨a, rfl, ⟨xs, .inl (.inl (r'.sub _ _ h1))⟩, z0 _ F' H' r' s' (it_list (.inl (.inl h1)) h2)⟩
/-- range(n), range(a, b) -/
noncomputable def rng1 (fa : DE → R (List Arg)) : DE → R (List D) := fun δ => (fa δ).bind fun as δ => match as with
  | [.val (.int j)] => @ite _ (j < 2 ^ 62 ∧ -(2 ^ 62) ≤ j) (Classical.propDecidable _) (.ok ((List.range j.toNat).map fun i => .int ((0 : Int) + (i : Nat))) δ) .stuck
  | _ => .stuck
noncomputable def rng2 (fa : DE → R (List Arg)) : DE → R (List D) := fun δ => (fa δ).bind fun as δ => match as with
  | [.val (.int i), .val (.int j)] => @ite _ (j < 2 ^ 62 ∧ -(2 ^ 62) ≤ j ∧ i < 2 ^ 62 ∧ -(2 ^ 62) ≤ i) (Classical.propDecidable _) (.ok ((List.range (j - i).toNat).map fun k => .int (i + (k : Nat))) δ) .stuck
  | _ => .stuck
theorem argsD1 {K : PySem.W.Frag} {F : Hp} {σ : L2.St} {d : D} {vs : List V} (h : ArgsD K F σ [.val d] vs) : ∃ v, vs = [v] ∧ Den K F d v := by
  obtain ⟨v, r, e, h1, h2⟩ := h
  rw [show r = _ from h2] at e
  exact ⟨v, e, h1⟩
theorem vi_range1 {a : Expr} {fa : DE → R (List Arg)} (hg : Gl X "range") (hm : X.mg "range" = none) (ha : VA X W [a] fa) (hs : starEach [a] X.env = [(false, eval a X.env)] := by rfl) : VI X W tg (.Call (.Name "range" p) [a] [] pos) (rng1 fa) := PI.to (pi_range1 hg hm ha hs) fun σ H Q z => by
  refine z.first (DM := dnA X.K) fun c F H1 δ as vs r1 d1 z1 => ?_
  split at z1
  · rename_i j
    split at z1
    · rename_i hj
      obtain ⟨v, rfl, h⟩ := argsD1 d1
      rw [show v = _ from h]
      exact ⟨j, rfl, hj.2, hj.1, z1 _ F H1 r1 (.refl _) it_range⟩
    · exact False.elim z1
  · exact False.elim z1
theorem vi_range2 {a b : Expr} {fa : DE → R (List Arg)} (hg : Gl X "range") (hm : X.mg "range" = none) (ha : VA X W [a, b] fa) (hs : starEach [a, b] X.env = [(false, eval a X.env), (false, eval b X.env)] := by rfl) (hs2 : starEach [b] X.env = [(false, eval b X.env)] := by rfl) :
    VI X W tg (.Call (.Name "range" p) [a, b] [] pos) (rng2 fa) := PI.to (pi_range2 hg hm ha hs hs2) fun σ H Q z => by
  refine z.first (DM := dnA X.K) fun c F H1 δ as vs r1 d1 z1 => ?_
  split at z1
  · rename_i i j
    split at z1
    · rename_i hj
      obtain ⟨v, r, e, h1, h2⟩ := d1
      obtain ⟨v2, rfl, h3⟩ := argsD1 h2
      rw [e, show v = _ from h1, show v2 = _ from h3]
      exact ⟨i, j, rfl, ⟨hj.2.2.2, hj.2.2.1, hj.2.1, hj.1⟩, z1 _ F H1 r1 (.refl _) it_range⟩
    · exact False.elim z1
  · exact False.elim z1
/-- enumerate of a list or tuple that is not changed -/
def pairsD (l : List D) : List D := (List.range l.length).zipWith (fun i d => .tup [.int (i : Nat), d]) l
def enumItems (as : List Arg) (δ : DE) : R (List D) := match as with
  | [.val (.lst l)] => .ok (pairsD l) δ
  | [.val (.tup l)] => .ok (pairsD l) δ
  | _ => .stuck
def enumE (fa : DE → R (List Arg)) : DE → R (List D) := fun δ => (fa δ).bind enumItems
omit [Tbl] in
theorem pairs_get {l : List D} {i : Nat} {d : D} (h : (pairsD l)[i]? = some d) : ∃ x, l[i]? = some x ∧ d = .tup [.int (i : Nat), x] := by
  unfold pairsD at h
  rw [List.getElem?_zipWith] at h
  cases e : l[i]? with
  | none => rw [e] at h; split at h <;> simp_all
  | some x =>
    have hl := (List.getElem?_eq_some_iff.mp e).1
    rw [e, List.getElem?_range hl] at h
    cases h
    exact ⟨x, rfl, rfl⟩
omit [Tbl] in
theorem pairs_len {l : List D} : (pairsD l).length = l.length := by
  unfold pairsD
  rw [List.length_zipWith, List.length_range, Nat.min_self]
theorem it_enumL {K : PySem.W.Frag} {F0 : Hp} {a : Addr} {xs : List V} {ds : List D} (h : SqL K F0 a xs) (d : Dens K F0 ds xs) : ItF K F0 (Ite K a) (pairsD ds) := by
  intro c F H σ δ i r s
  have h1 : SqL K H a xs := r.sub.seq (s.seq h)
  refine ⟨fun d0 e => ?_, fun e => ⟨xs, h1, by rw [e, pairs_len, d.length]; exact Nat.le_refl _⟩⟩
  obtain ⟨y, e1, rfl⟩ := pairs_get e
  obtain ⟨v, g1, g2⟩ := d.get e1
  refine ⟨⟨xs, v, h1, g1⟩, fun x H1 y0 => ?_⟩
  obtain ⟨T, w, rfl, hT, rfl, y2⟩ := y0
  have := (y2 xs h1).symm.trans g1
  cases this
  refine ⟨_, r.lay hT, same_new (r.freeF hT), T, _, rfl, upd_same, ?_⟩
  exact Dens.cons rfl (Dens.one (Den.mono (s.trans (same_new (r.freeF hT))) _ _ g2))
theorem it_enumT {K : PySem.W.Frag} {F0 : Hp} {a : Addr} {xs : List V} {ds : List D} (h : SqT K F0 a xs) (d : Dens K F0 ds xs) : ItF K F0 (ItnT K a) (pairsD ds) := by
  intro c F H σ δ i r s
  have h1 : SqT K H a xs := PV.Same.tup r.sub (PV.Same.tup s h)
  refine ⟨fun d0 e => ?_, fun e => ⟨xs, h1, by rw [e, pairs_len, d.length]⟩⟩
  obtain ⟨y, e1, rfl⟩ := pairs_get e
  obtain ⟨v, g1, g2⟩ := d.get e1
  refine ⟨⟨xs, v, h1, g1⟩, fun x H1 y0 => ?_⟩
  obtain ⟨T, w, rfl, hT, rfl, y2⟩ := y0
  have := (y2 xs h1).symm.trans g1
  cases this
  refine ⟨_, r.lay hT, same_new (r.freeF hT), T, _, rfl, upd_same, ?_⟩
  exact Dens.cons rfl (Dens.one (Den.mono (s.trans (same_new (r.freeF hT))) _ _ g2))
theorem vi_enum {a : Expr} {fa : DE → R (List Arg)} {elts : List Expr} {kk : Nat} {tpos : Pos} (hg : Gl X "enumerate") (hm : X.mg "enumerate" = none) (ha : VA X W [a] fa) (hs : starEach [a] X.env = [(false, eval a X.env)] := by rfl) :
    VI X W (.Tuple elts kk tpos) (.Call (.Name "enumerate" p) [a] [] pos) (enumE fa) := PI.to (PI.or (pi_enum hg hm ha hs) (pi_enumT hg hm ha hs)) fun σ H Q z => by
  obtain ⟨c, F, δ, r, z0⟩ := id z
  have z0 : aft X.K W (dnI X.K) c F σ Q ((fa δ).bind _) := z0
  cases q : fa δ with
  | exc x δ1 => rw [q] at z0; exact .inl ⟨c, F, δ, r, by rw [q]; exact z0⟩
  | stuck => rw [q] at z0; exact False.elim z0
  | ok as δ1 =>
    rw [q] at z0
    replace z0 : aft X.K W (dnI X.K) c F σ Q (enumItems as δ1) := z0
    unfold enumItems at z0
    split at z0
    · refine .inl ⟨c, F, δ, r, ?_⟩
      rw [q]
      intro vs F' H' r' s' d'
      obtain ⟨v, rfl, h⟩ := argsD1 d'
      obtain ⟨a, xs, rfl, h1, h2⟩ := h
      exact ⟨a, xs, rfl, .inl (.inl (r'.sub _ _ h1)), z0 _ F' H' r' s' (it_enumL (.inl (.inl h1)) h2)⟩
    · refine .inr ⟨c, F, δ, r, ?_⟩
      rw [q]
      intro vs F' H' r' s' d'
      obtain ⟨v, rfl, h⟩ := argsD1 d'
      obtain ⟨a, xs, rfl, h1, h2⟩ := h
      exact ⟨a, xs, rfl, sqt (r'.sub _ _ h1), z0 _ F' H' r' s' (it_enumT (sqt h1) h2)⟩
    · exact False.elim z0
end

/-! ### repr -/
def shows (d : D) : Option Str := d.py.bind fun p => if p.showable = true ∧ p.canLay0 = true ∧ p.depth ≤ 60 ∧ p.shown.length ≤ LIM then some p.shown else none
def reprD : List D → Option D
  | [d] => (shows d).map .str
  | _ => none
theorem cr_repr {X : Cx} (hu : X.A.units + 64 < cLine) (hg : X.A.guards = some []) : CallR X (.builtin "repr") (fun xs H Q => ∃ v p, xs = [v] ∧ Dp X.K H v p ∧ p.showable = true ∧ p.canLay0 = true ∧ p.depth ≤ 60 ∧ p.shown.length ≤ sizeLine ∧ Q (.str p.shown) H) := by
  intro pins s σ H xs us Q I rv h
  obtain ⟨v, p, rfl, dp, hs, hl, hd, hz, q⟩ := h
  obtain ⟨u, rfl, ru⟩ := Vals.one rv
  have fin : ∀ (h' : Heap) (t tk : Tok), (∀ b o, s.heap.get? b = some o → h'.get? b = some o) → EP X pins σ Q (.str p.shown t) { s with heap := h', toks := tk } := fun h' t tk hk => ⟨.str p.shown, H, I.kept (t' := tk) hk, ⟨t, rfl⟩, q⟩
  cases dp with
  | non => cases (show u = Value.none from ru); exact PySem.P.repr_of_none (fin s.heap _ _ fun _ _ e => e)
  | bl b => cases (show u = Value.bool b from ru); exact PySem.P.repr_of_bool (fin s.heap _ _ fun _ _ e => e)
  | int i =>
    obtain ⟨t, rfl⟩ := (show ∃ t, u = Value.int i t from ru)
    exact PySem.P.repr_of_int (by simpa [PyData.showable] using hs) (fin s.heap _ _ fun _ _ e => e)
  | str x =>
    obtain ⟨t, rfl⟩ := (show ∃ t, u = Value.str x t from ru)
    exact PySem.P.repr_of_str (fin s.heap _ _ fun _ _ e => e) hz
  | @lst a xs ds h1 h2 =>
    obtain ⟨as, rr⟩ := Dp.reads I (.list ds) (.ref a) u (.lst h1 h2) ru
    cases (show u = Value.ref a from ru)
    exact repr_of_reads' rr hs (PyData.noDict_hsm (PyData.hasDict_of_canLay _ hl)) hg (by omega) (fun _ _ e => e) (fun h' t tk hk => fin h' t tk hk) hz
  | @tup a xs ds h1 h2 =>
    obtain ⟨as, rr⟩ := Dp.reads I (.tuple ds) (.ref a) u (.tup h1 h2) ru
    cases (show u = Value.ref a from ru)
    exact repr_of_reads' rr hs (PyData.noDict_hsm (PyData.hasDict_of_canLay _ hl)) hg (by omega) (fun _ _ e => e) (fun h' t tk hk => fin h' t tk hk) hz
theorem dpH {K : PySem.W.Frag} {F H : Hp} (s : Same F H) {d : D} {p : PyData} {v : V} (h : DenH K F H d v) (e : d.py = some p) : Dp K H v p := by
  rcases h with h | ⟨m, a, o, rfl, rfl, h1, h2⟩
  · exact py_dp s e h
  · cases m with
    | lst l =>
      obtain ⟨xs, rfl, h2⟩ := mden_lst h2
      unfold MD.d at e
      unfold D.py at e
      obtain ⟨ps, e1, rfl⟩ := Option.map_eq_some_iff.mp e
      exact .lst (.inl (.inl h1)) (pys_dp s e1 h2)
    | dct l => unfold MD.d D.py at e; cases e
    | dcT l => unfold MD.d D.py at e; cases e
    | ins c l => unfold MD.d D.py at e; cases e
theorem b_repr {X : Cx} (hu : X.A.units + 64 < cLine) (hg : X.A.guards = some []) : Bf X (.builtin "repr") reprD := by
  refine ⟨_, cr_repr hu hg, fun c F H σ δ ds z vs Q r d1 q k => ?_⟩
  unfold reprD at q
  split at q
  · obtain ⟨t, q1, rfl⟩ := Option.map_eq_some_iff.mp q
    obtain ⟨p, q2, q3⟩ := Option.bind_eq_some_iff.mp q1
    split at q3
    · rename_i hh
      cases q3
      obtain ⟨v, rfl, h⟩ := densH1 d1
      exact ⟨v, p, rfl, dpH r.sub h q2, hh.1, hh.2.1, hh.2.2.1, lim_le hh.2.2.2, k _ F H r (.refl _) rfl⟩
    · cases q3
  · cases q

/-! ### the end of a law -/
/-- the law's def, called with the script -/
theorem law_end {P : Program} {w : World} {K : PySem.W.Frag} {mg mb : Str → Option Value} {k : Nat} {fa a : Addr} {tb : List (Addr × Addr)} {fd : FuncData} {x : Str} {φ : List Sl → FR} {s₁ : Shared} {vs : List Value} {ns : List Int}
    (KX : K.In s₁.heap) (hns : s₁.heap.Ns mainGlobals mg) (hb : s₁.heap.Ns builtinsNs mb) (hbb : ∀ x : Str, x ≠ "__name__" → mb x = bootBuiltins x) (hlim : s₁.heap.NoLimit) (hg : s₁.gens = #[])
    (tE : ∀ p ∈ tb, s₁.heap.get? p.2 = some { cls := .none, data := .fields #[] }) (tN : ∀ p ∈ tb, K.lookup p.2 = none) (tC : ∀ p ∈ tb, PySem.W.CodeHd s₁.heap p.1 p.2) (tT : ∀ q ∈ Tbl.T, ∃ p ∈ tb, q.1 = p.2)
    (tM : ∃ (bm : Addr) (ob : Obj), mg "__builtins__" = some (.ref bm) ∧ bm ≠ builtinsNs ∧ s₁.heap.get? bm = some ob ∧ ob.cls = .type "module" ∧ ob.dict = some builtinsNs ∧ ob.data = .plain)
    (ha : s₁.heap.get? a = some { cls := .type "list", data := .seq vs.toArray }) (hi : IntsAre vs ns) (hl : ns.length ≤ sizeLine) (hr : Room k callerA)
    (T : ∀ base : Heap, K.In base → base.Ns mainGlobals mg → (∀ p ∈ tb, LamX.TabB base mg p.1 p.2) → VOk true P w K mg base k fa fd [x] φ) (hbind : ∀ (s : Shared) (u : Value), BindsTo s fd ⟨[u], []⟩ [(x, u)])
    (hφ : ∃ as', φ [.val (.scr ns)] = .ret (.bl true) as') :
    codeAny (model P w) callerA (.call (.ref fa) ⟨[.ref a], []⟩) (fun r s' => r = .ok (.ret (.bool true)) ∧ OldK s₁.heap s'.heap ∧ s'.os = s₁.os ∧ AllBare s'.gens) s₁ := by
  obtain ⟨as', hφ⟩ := hφ
  -- is b one of the tables
  let isTb : Addr → Prop := fun b => ∃ p ∈ tb, p.2 = b
  have tbE : ∀ {b : Addr}, isTb b → s₁.heap.get? b = some { cls := .none, data := .fields #[] } := fun {b} ⟨p, hp, e⟩ => e ▸ tE p hp
  have aNot : ¬ isTb a := fun z => by
    have q := tbE z
    rw [ha] at q
    have q2 := congrArg Obj.data (Option.some.inj q)
    cases q2
  -- a heap that tracks nothing but the script and the tables
  have main : ∀ H : Hp, (∀ b, H b = none ∨ (isTb b ∧ H b = some (.tbl #[])) ∨ (b = a ∧ ∃ o xs, H b = some (.frz o (.lst xs)))) → (∀ b, isTb b → H b = some (.tbl #[])) → SqL K H a (ns.map V.int) → HOk P w H s₁.heap → (H a ≠ none → K.lookup a = none) →
      codeAny (model P w) callerA (.call (.ref fa) ⟨[.ref a], []⟩) (fun r s' => r = .ok (.ret (.bool true)) ∧ OldK s₁.heap s'.heap ∧ s'.os = s₁.os ∧ AllBare s'.gens) s₁ := by
    intro H only allT sq hok hK
    -- what is no list and no empty record is not tracked
    have other : ∀ {b : Addr} {o : Obj}, s₁.heap.get? b = some o → (∀ xs n, o.data ≠ .seq xs n) → o.data ≠ .fields #[] → H b = none := fun {b o} e n1 n2 => by
      rcases only b with q | ⟨q, _⟩ | ⟨q, _⟩
      · exact q
      · rw [tbE q] at e
        cases e
        exact absurd rfl n2
      · subst q
        rw [ha] at e
        cases e
        exact absurd rfl (n1 _ _)
    have dictFree : ∀ {b : Addr} {o : Obj} {es : Array DictEntry} {ep : Nat}, s₁.heap.get? b = some o → o.data = .dict es ep → H b = none := fun {b o es ep} e dd =>
      other e (fun xs n z => by rw [dd] at z; cases z) (fun z => by rw [dd] at z; cases z)
    have nsB : ∀ {b : Addr} {m : Str → Option Value}, s₁.heap.Ns b m → (hidT s₁.heap H).Ns b m := by
      rintro b m ⟨o, es, ep, e, dd, rest⟩
      exact ⟨o, es, ep, hidT_get e (dictFree e dd), dd, rest⟩
    have KB : K.In (hidT s₁.heap H) := fun b o e => by
      refine hidT_get (KX b o e) ?_
      rcases only b with q | ⟨⟨p, hp, q⟩, _⟩ | ⟨q, u, xs, z⟩
      · exact q
      · rw [← q, tN p hp] at e
        cases e
      · subst q
        rw [hK (by rw [z]; exact fun y => nomatch y)] at e
        cases e
    obtain ⟨mc, c1, c2⟩ := hlim
    have M : Mod K mg (hidT s₁.heap H) := ⟨KB, nsB hns, ⟨mb, nsB hb, hbb⟩, ⟨mc, nsB c1, c2⟩⟩
    have en : Env0 P w K mg (hidT s₁.heap H) callerA [] s₁ H := ⟨rfl, M, fun b o e => of_hidT e, Nat.le_of_eq (hidT_size _ _), trivial, fun b z => absurd z (by simp [frs]), hok, .of_eq hg⟩
    have TB : ∀ p ∈ tb, LamX.TabB (hidT s₁.heap H) mg p.1 p.2 := fun p hp => by
      have here := tE p hp
      refine ⟨?_, ?_, fun z => ?_⟩
      · obtain ⟨o, us, f1, f2, f3, f4, f5, f6, f7, g1, g2, g3, rest⟩ := tC p hp
        refine ⟨o, us, f1, f2, f3, f4, f5, f6, f7, hidT_get g1 (other g1 (fun xs n z => ?_) fun z => ?_), g2, g3, rest⟩
        · rw [g3] at z; cases z
        · rw [g3] at z
          cases z
          have := rest.1
          simp at this
      · obtain ⟨bm, ob, m1, m2, m3, m4, m5, m6⟩ := tM
        refine ⟨bm, ob, m1, m2, fun q => ?_, fun q => ?_, hidT_get m3 (other m3 (fun xs n z => ?_) fun z => ?_), m4, m5, m6⟩
        · obtain ⟨o, es, ep, e, dd, _⟩ := hns
          rw [q, e] at m3
          cases m3
          rw [dd] at m6
          cases m6
        · rw [q, here] at m3
          cases m3
          cases m6
        · rw [m6] at z; cases z
        · rw [m6] at z; cases z
      · obtain ⟨o, es, ep, e, dd, _⟩ := hns
        rw [z, here] at e
        cases e
        cases dd
    have sp : spV K φ [V.ref a] H (fun v _ => v = .bl true) (fun _ _ _ => False) := by
      refine ⟨pl H, [.val (.scr ns)], ⟨pl_same, rfl, fun i s v e1 e2 => ?_, fun i j b m n e1 => ?_, fun q hq => ?_, fun b o e => (pl_of e).2⟩, ?_⟩
      · cases i with
        | zero =>
          cases e1
          cases e2
          refine ⟨a, rfl, ?_⟩
          rcases sq with (y | ⟨o, y⟩) | y
          · exact .inl (.inl (pl_to y trivial))
          · exact .inl (.inr ⟨o, pl_to y trivial⟩)
          · exact .inr y
        | succ i => simp at e1
      · cases i with
        | zero => cases e1
        | succ i => simp at e1
      · obtain ⟨p, hp, e⟩ := tT q hq
        rw [e]
        exact .nil (allT _ ⟨p, hp, rfl⟩)
      · rw [hφ]
        exact fun v F' H' _ d => d
    refine codeAny_mono ((T _ KB (nsB hns) TB).run callerA [] s₁ H ⟨[.ref a], []⟩ [.ref a] [.ref a] _ _ hr (fun _ => rfl) en (hbind s₁ (.ref a)) (.cons rfl .nil) sp) fun res s' h => ?_
    cases res with
    | error e =>
      obtain ⟨_, _, _, _, _, _, _, _, _, _, _, _, z⟩ := h
      exact z.elim
    | ok fl =>
      cases fl <;> first | exact False.elim h | skip
      obtain ⟨v, H', os, bare, un, hok', rv, q⟩ := h
      cases (show v = V.bl true from q)
      cases (show _ = Value.bool true from rv)
      have stays : ∀ b o, ¬ isTb b → s₁.heap.get? b = some o → s'.heap.get? b = some o := fun b o n e => by
        rcases only b with q | ⟨q, _⟩ | ⟨_, ob, xs, q⟩
        · exact un.keep b o e q (by simp [frs]) (by simp)
        · exact absurd q n
        · have q' := un.frzs b ob _ q
          obtain ⟨e1, _⟩ := hok b _ q
          obtain ⟨e2, _⟩ := hok' b _ q'
          rw [e] at e1
          cases e1
          exact e2
      have grows : ∀ p ∈ tb, ∃ more : Array Value, s'.heap.get? p.2 = some { cls := .none, data := .fields more } := fun p hp => by
        obtain ⟨_, z⟩ := un.tbls p.2 #[] (allT _ ⟨p, hp, rfl⟩)
        exact ⟨_, hok' p.2 _ z⟩
      refine ⟨rfl, ⟨fun b o e => ?_, fun b o e => ?_⟩, os, bare⟩
      · by_cases n : isTb b
        · obtain ⟨p, hp, rfl⟩ := n
          obtain ⟨more, hm⟩ := grows p hp
          rw [tE p hp] at e
          cases e
          exact .inr (.inl ⟨((tC p hp).tab (tE p hp)).isCodeTable, rfl, #[], more, rfl, by rw [Array.empty_append]; exact hm⟩)
        · exact .inl (stays b o n e)
      · by_cases n : isTb b
        · obtain ⟨p, hp, rfl⟩ := n
          obtain ⟨more, hm⟩ := grows p hp
          exact ⟨_, hm⟩
        · exact ⟨o, stays b o n e⟩
  have rv := vals_ints hi
  open Classical in
  cases hk : K.lookup a with
  | some o =>
    have e := KX a o hk
    rw [ha] at e
    cases e
    refine main (fun b => if isTb b then some (.tbl #[]) else none) (fun b => ?_) (fun b z => if_pos z) (.inr ⟨_, vs.toArray, _, hk, rfl, rfl, rfl, by rw [List.size_toArray, hi.length]; exact hl, by simpa using rv⟩) (fun b u z => ?_) fun z => absurd (if_neg aNot) z
    · by_cases n : isTb b
      · exact .inr (.inl ⟨n, if_pos n⟩)
      · exact .inl (if_neg n)
    · by_cases n : isTb b
      · have z := (if_pos n).symm.trans z
        cases z
        exact tbE n
      · have z := (if_neg n).symm.trans z
        cases z
  | none =>
    refine main (fun b => if b = a then some (.frz { cls := .type "list", data := .seq vs.toArray } (.lst (ns.map V.int))) else if isTb b then some (.tbl #[]) else none) (fun b => ?_) (fun b z => ?_) (.inl (.inr ⟨{ cls := .type "list", data := .seq vs.toArray }, if_pos rfl⟩)) (fun b u z => ?_) fun _ => hk
    · by_cases q : b = a
      · exact .inr (.inr ⟨q, _, _, if_pos q⟩)
      · by_cases n : isTb b
        · exact .inr (.inl ⟨n, (if_neg q).trans (if_pos n)⟩)
        · exact .inl ((if_neg q).trans (if_neg n))
    · have q : ¬ b = a := fun q => aNot (q ▸ z)
      exact (if_neg q).trans (if_pos z)
    · by_cases q : b = a
      · have z := (if_pos q).symm.trans z
        cases z
        subst q
        exact ⟨ha, by rw [List.length_map]; exact hl, vs, _, rv, ha⟩
      · have z := (if_neg q).symm.trans z
        by_cases n : isTb b
        · have z := (if_pos n).symm.trans z
          cases z
          exact tbE n
        · have z := (if_neg n).symm.trans z
          cases z
omit [Tbl] in
/-- what k_head leaves, from the law's worth; tb: the code objects of the defs that make lambdas, and their tables -/
theorem walk_end {l : PySem.W.OpenLaw} {n k : Nat} {q : Program} {loose : List Str} {XP : (Str → Option Value) → Heap → Prop} {YP : World → Heap → Prop} {d : DefRec} {K : Params → PySem.W.Frag} {x : Str}
    (hn : l.most = some n) (hn2 : n ≤ sizeLine) (hdf : d.params.defaults = []) (hr : Room k callerA) (hY : ∀ (w : World) (h : Heap), YP w h → (K w.params).In h)
    (T : ∀ (w : World) (mg : Str → Option Value) (fa : Addr) (h : Heap), (K w.params).In h → h.Ns mainGlobals mg → mg d.name = some (.ref fa) →
      ∃ (tbl : Tbl) (tb : List (Str × Addr × Addr)) (fd : FuncData) (φ : List Sl → FR), (∀ p ∈ tb, PySem.W.tabIn (K w.params) p.1 = some p.2 ∧ (K w.params).lookup p.2.2 = none ∧ ((recsOf q).find? (fun e => e.name == p.1)).isSome = true) ∧ (∀ t ∈ tbl.T, ∃ p ∈ tb, t.1 = p.2.2) ∧
        (∀ (s : Shared) (u : Value), BindsTo s fd ⟨[u], []⟩ [(x, u)]) ∧ (∀ base : Heap, (K w.params).In base → base.Ns mainGlobals mg → (∀ p ∈ tb, LamX.TabB base mg p.2.1 p.2.2) → @VOk tbl true l.prog w (K w.params) mg base k fa fd [x] φ) ∧
        ∀ ns : List Int, ns.length ≤ n → ∃ as', φ [.val (.scr ns)] = .ret (.bl true) as') :
    PySem.W.WalkO q loose XP YP l.row.toRowW d [] (fun f vs => PySem.call f vs) := by
  refine Att.attach_call hn hdf fun w s₀ s₁ mg mb fa o pm cd doc a vs ns G Y ho hd hcd hmg hobj hints hlen hg => ?_
  have KX := hY w _ Y
  obtain ⟨tbl, tb, fd, φ, t1, t4, hb, hF, hφ⟩ := T w mg fa _ KX G.T.g hmg
  have tabs : ∀ p ∈ tb.map (·.2), PySem.W.CodeHd s₁.heap p.1 p.2 ∧ s₁.heap.get? p.2 = some (PySem.W.tabObj #[]) ∧ (K w.params).lookup p.2 = none := fun p hp => by
    obtain ⟨y, hy, rfl⟩ := List.mem_map.mp hp
    obtain ⟨e1, e2, e3⟩ := t1 y hy
    obtain ⟨d', e3⟩ := Option.isSome_iff_exists.mp e3
    obtain ⟨z1, z2⟩ := PySem.W.tab_of G.T KX e3 (c := y.2.1) (P := y.2.2) e1
    exact ⟨z1, z2, e2⟩
  exact @law_end tbl _ _ _ _ _ _ _ _ (tb.map (·.2)) _ _ _ _ _ _ KX G.T.g G.T.b G.T.builtins G.T.nolimit hg (fun p hp => (tabs p hp).2.1) (fun p hp => (tabs p hp).2.2) (fun p hp => (tabs p hp).1) (fun q hq => by
    obtain ⟨p, hp, e⟩ := t4 q hq
    exact ⟨p.2, List.mem_map.mpr ⟨p, hp, rfl⟩, e⟩) G.T.bmain hobj hints (Nat.le_trans hlen hn2) hr (fun base h1 h2 h3 => hF base h1 h2 fun p hp => h3 p.2 (List.mem_map.mpr ⟨p, hp, rfl⟩)) hb (hφ ns hlen)
end PV

/-! PV11: further rules. -/
namespace PV
open PySem PySem.Spec PyProof.Rows L2
variable [Tbl]

/-! ### operators in one -/
def addA (x y : D) : Option D := (iadd x y).or ((sadd x y).or ((ladd x y).or (tadd x y)))
def mulA (x y : D) : Option D := (imul x y).or ((lmul x y).or (tmul x y))
section
variable {X : Cx} {W : WX} {a b e : Expr} {fa fb f : DE → R D} {pos : Pos}
theorem o_add : Op2 X (binaryOp .Add) addA := o_iadd.or (o_sadd.or (o_ladd.or o_tadd))
theorem o_mul : Op2 X (binaryOp .Mult) mulA := o_imul.or (o_lmul.or o_tmul)
def negE (f : DE → R D) : DE → R D := fun δ => (f δ).bind fun x δ => match x with
  | .int i => .ok (.int (-i)) δ
  | _ => .stuck
theorem ve_neg (h : VE X W a fa) : VE X W (.UnaryOp .USub a pos) (negE fa) := PE.to (pe_un un_neg h) fun σ H Q z => by
  refine z.first (DM := dnE X.K) fun c F H1 δ x v r1 d1 z1 => ?_
  cases x <;> first | exact False.elim z1 | skip
  exact ⟨_, d1, z1 _ F H1 r1 (.refl _) rfl⟩
theorem vt_chain {c : Expr} {fc : DE → R D} {op op' : CmpOp} {o o' : D → D → Option D} (h : Op2 X (compareOp op) o) (h' : Op2 X (compareOp op') o') (ha : VE X W a fa) (hb : VE X W b fb) (hc : VE X W c fc)
    (hm : lastMarks [op, op'] [b, c] = false := by with_unfolding_all rfl) : VT X W (.Compare a [op, op'] [b, c] pos) (tst (chn o o' fa fb fc)) := by
  obtain ⟨r, r', h1, h2, h3⟩ := rd_chn (W := W) (fa := fa) (fb := fb) (c := c) (fc := fc) h h'
  exact PT.to (pt_chain h1 h2 ha hb hc hm) fun σ H Q z => h3 σ H _ (rd_tst z)
/-! ### x op= e -/
def augS (i : Nat) (o : D → D → Option D) (f : DE → R D) : DE → O := fun δ => match δ[i]? with
  | some (some (.val x)) => bindS (f δ) fun y δ => match o x y with
    | some z => match setSl i (.val z) δ with
      | some δ => .nx δ
      | none => .stuck
    | none => .stuck
  | _ => .stuck
def Ip2 (X : Cx) (op : Operator) (o : D → D → Option D) : Prop :=
  ∃ r : TIp, PIp X op r ∧ ∀ c F H σ δ d e z v w (Q : VK), Rel X.K c F H σ δ → Den X.K F d v → Den X.K F e w → o d e = some z →
    (∀ u F' H', Rel X.K c F' H' σ δ → Same F F' → Den X.K F' z u → Q u H') → r v w H Q
theorem ip_int {op : Operator} {g : Int → Int → Int} (h : PIp X op (ipI g)) : Ip2 X op (iop fun i j => .int (g i j)) := by
  refine ⟨_, h, fun c F H σ δ d e z v w Q r d1 d2 q k => ?_⟩
  cases d <;> first | cases q | skip
  cases e <;> first | cases q | skip
  exact ⟨_, _, d1, d2, k _ F H r (.refl _) rfl⟩
theorem vs_aug {i : Nat} {x : Str} {op : Operator} {o : D → D → Option D} {pos' : Pos} (hN : X.N.Nodup) (hi : X.N[i]? = some x) (hx : Loc X.env.scope x) (k : VE X W e f) (ho : Ip2 X op o) (hf : X.fn x = true ∨ X.env.scope.names.lookup x = some .local := by first | exact .inl rfl | exact .inr rfl | assumption) :
    VS X W (.AugAssign (.Name x pos') op e pos) (augS i o f) := by
  obtain ⟨r, h1, h2⟩ := ho
  refine PS.to (ps_aug hN hi hx k h1 hf) fun N σ H z => ?_
  obtain ⟨c, F, δ, r0, z⟩ := z
  unfold augS at z
  split at z
  · rename_i xd q
    obtain ⟨v, e1, e2⟩ := r0.val q
    refine ⟨v, e1, ?_⟩
    refine aftS.next (DM := dnE X.K) (f := f) (g := fun y δ => match o xd y with
      | some z => match setSl i (.val z) δ with
        | some δ => .nx δ
        | none => .stuck
      | none => .stuck) r0 z fun F2 H2 δ2 y w r2 s2 d2 z2 => ?_
    split at z2
    · rename_i zd qz
      split at z2
      · rename_i δ3 q3
        obtain ⟨rfl, nb⟩ := setSl_some q3
        exact h2 c F2 H2 σ δ2 xd y zd v w _ r2 (Den.mono s2 _ _ e2) d2 qz fun u F' H' r' s' d' => z2 _ F' H' (r'.set d' nb) s'
      · exact False.elim z2
    · exact False.elim z2
  · exact False.elim z
/-! ### list(range(..)) -/
def lrg1 (f : DE → R D) : DE → R MD := fun δ => (f δ).bind fun x δ => match x with
  | .int j => if j ≤ 10000 ∧ -10000 ≤ j then .ok (.lst ((List.range j.toNat).map fun i => .int ((i : Nat) : Int))) δ else .stuck
  | _ => .stuck
theorem vn_lrg1 {p p2 pos2 : Pos} (hc : X.calm = true) (hg : Gl X "list") (hm : X.mg "list" = none) (hg2 : Gl X "range") (hm2 : X.mg "range" = none) (ha : VE X W a fa) (na : starEach [a] X.env = (false, eval a X.env) :: starEach [] X.env := by rfl)
    (nb : starEach [.Call (.Name "range" p2) [a] [] pos2] X.env = (false, eval (.Call (.Name "range" p2) [a] [] pos2) X.env) :: starEach [] X.env := by rfl) : VN X W (.Call (.Name "list" p) [.Call (.Name "range" p2) [a] [] pos2] [] pos) (lrg1 fa) :=
  PE.to (pe_listRg hc hg hm (prg_1 hg2 hm2 ha na) nb) fun σ H Q z => by
    refine z.first (DM := dnE X.K) fun c F H1 δ x v r1 d1 z1 => ?_
    cases x <;> first | exact False.elim z1 | skip
    rename_i j
    have z1 : aft X.K W (dnN X.K) c F σ Q (if j ≤ 10000 ∧ -10000 ≤ j then .ok (.lst ((List.range j.toNat).map fun i => .int ((i : Nat) : Int))) δ else .stuck) := z1
    split at z1
    · rename_i hj
      refine ⟨j, d1, ⟨by omega, by omega, by omega, by omega, by omega⟩, fun q hq => ?_⟩
      obtain ⟨g1, g2⟩ := r1.fresh (o := .lst (rgV 0 j)) (m := .lst ((List.range j.toNat).map fun i => .int ((i : Nat) : Int))) hq (by
        show Dens X.K F _ (rgV 0 j)
        unfold rgV
        rw [show (j - 0).toNat = j.toNat by omega]
        generalize List.range j.toNat = l
        induction l with
        | nil => exact Dens.nil
        | cons n l ih => exact Dens.cons (by show V.int (0 + (n : Int)) = V.int (n : Int); rw [Int.zero_add]) ih)
      exact z1 _ _ _ g1 (.refl _) g2
    · exact False.elim z1
end

/-! ### an object of a slot, looked at while it stays -/
theorem flats_dens {K : PySem.W.Frag} {F : Hp} : ∀ {ds : List D} {us : List V}, flats ds = some us → Dens K F ds us
  | [], _, h => by cases h; rfl
  | d :: ds, us, h => by
    obtain ⟨u, h1, h2⟩ := Option.bind_eq_some_iff.mp h
    obtain ⟨us', h3, rfl⟩ := Option.map_eq_some_iff.mp h2
    refine Dens.cons ?_ (flats_dens h3)
    cases d <;> first | (cases h1; done) | (cases h1; rfl)
def MD.flat : MD → Bool
  | .lst l => (flats l).isSome
  | _ => false
theorem MD.flat_den {K : PySem.W.Frag} {F F' : Hp} {m : MD} {o : HO} (h : m.flat = true) (d : MDen K F m o) : MDen K F' m o := by
  cases m <;> first | (cases h; done) | skip
  obtain ⟨xs, rfl, d⟩ := mden_lst d
  obtain ⟨us, h⟩ := Option.isSome_iff_exists.mp h
  rw [(flats_v h d).1]
  exact flats_dens h
/-- the other objects hold scalars alone -/
def flatEnv (δ : DE) : Prop := ∀ (i : Nat) (s : Sl) (m : MD), δ[i]? = some (some s) → s.mut = some m → m.flat = true
open Classical in
noncomputable def thawN (j : Nat) (f : DE → R MD) : DE → R MD := fun δ => match δ[j]? with
  | some (some (.own m)) => match f (δ.set j (some (.val m.d))) with
    | .ok m' δ2 => if δ2 = δ.set j (some (.val m.d)) ∧ m'.flat = true ∧ flatEnv δ then .ok m' δ else .stuck
    | _ => .stuck
  | _ => .stuck
section
variable {X : Cx} {W : WX} {e : Expr}
theorem rd_thaw {K : PySem.W.Frag} {j : Nat} {f : DE → R MD} {σ : L2.St} {H : Hp} {Q : VK} (z : rdN K W (thawN j f) σ H Q) : rdN K W f σ H Q := by
  obtain ⟨c, F, δ, r, z⟩ := z
  unfold thawN at z
  split at z
  · rename_i m hj
    obtain ⟨a, o, e1, e2, e3, e4, e5, e6⟩ := r.own hj
    obtain ⟨a', o', g1, g2, g3, g4⟩ := r.still hj
    rw [e1] at g1; cases g1
    have eo : o' = o := by
      have := g4.sub a o' upd_same
      rw [e2] at this; exact (Option.some.inj this).symm
    subst eo
    refine ⟨c, _, _, g4, ?_⟩
    split at z
    · rename_i m' δ2 hf
      split at z
      · rename_i hh
        obtain ⟨rfl, hm', hfl⟩ := hh
        rw [hf]
        intro v F' H' r' s' dn
        obtain ⟨p, op, rfl, p1, p2, p3, p4, p5, p6⟩ := dn
        have hl : j < List.length δ := (List.getElem?_eq_some_iff.mp hj).1
        have sF : Same F (fun b => if b = a then none else F' b) := fun b x y => by
          have hb : b ≠ a := fun q => by subst q; rw [e4] at y; cases y
          show (if b = a then none else F' b) = some x
          rw [if_neg hb]
          exact s' b x (g2 b x y)
        have of_ : ∀ {b : Addr} {x : HO}, (if b = a then none else F' b) = some x → F' b = some x := fun {b x} y => by
          split at y
          · cases y
          · exact y
        have none_ : ∀ {b : Addr}, F' b = none → (if b = a then none else F' b) = none := fun {b} y => by
          split
          · rfl
          · exact y
        have ha' : H' a = some o' := r'.sub a o' (s' a o' upd_same)
        refine z _ (fun b => if b = a then none else F' b) H' ⟨fun b x y => r'.sub b x (of_ y), r'.pres, r.low.trans sF, fun b x y => r'.new b x (of_ y), fun b x y => ⟨(r'.gs b x y).1, none_ (r'.gs b x y).2⟩, r.bor0, r.borD, r.binj, r.len, fun i s es => ?_, r.apart, ⟨r'.tab.tabs, fun b x y => r'.tab.fnt b x (of_ y), r.tab.gnt, r.tab.hnt⟩⟩ sF
          ⟨p, op, rfl, p1, MD.flat_den hm' p2, none_ p3, p4, p5, fun i n es => ?_⟩
        · by_cases hi : j = i
          · subst hi
            rw [hj] at es
            cases es
            exact ⟨a, o', by rw [e1]; rfl, ha', e3.mono sF, if_pos rfl, e5, e6⟩
          · have es' : (δ.set j (some (.val m.d)))[i]? = some (some s) := by rw [List.getElem?_set_ne hi]; exact es
            have y := r'.sl i s es'
            cases s with
            | val d =>
              obtain ⟨v, y1, y2⟩ := r.sl i _ es
              exact ⟨v, y1, Den.mono sF _ _ y2⟩
            | own n =>
              obtain ⟨b, ob, y1, y2, y3, y4, y5⟩ := y
              exact ⟨b, ob, y1, y2, MD.flat_den (hfl i _ n es rfl) y3, none_ y4, y5⟩
            | bor n =>
              obtain ⟨hb, ob, y1, y2, y3, y4, y5⟩ := y
              exact ⟨hb, ob, y1, y2, MD.flat_den (hfl i _ n es rfl) y3, none_ y4, y5⟩
        · intro y
          by_cases hi : j = i
          · subst hi
            rw [e1] at y
            have y : a = p := V.ref.inj (Option.some.inj (Option.some.inj y))
            subst y
            rw [s' a o' upd_same] at p3
            cases p3
          · exact p6 i n (by rw [List.getElem?_set_ne hi]; exact es) y
      · exact False.elim z
    · exact False.elim z
  · exact False.elim z
theorem vn_thaw (j : Nat) {f : DE → R MD} (h : VN X W e f) : VN X W e (thawN j f) := PE.to h fun σ H Q z => rd_thaw z
end

/-! ### a, b = x, y -/
def parVN (i j : Nat) (f : DE → R D) (g : DE → R MD) : DE → O := fun δ => bindS (f δ) fun d δ => bindS (g δ) fun m δ => match setSl i (.val d) δ with
  | some δ => match setSl j (.own m) δ with
    | some δ => .nx δ
    | none => .stuck
  | none => .stuck
def parVV (i j : Nat) (f g : DE → R D) : DE → O := fun δ => bindS (f δ) fun d δ => bindS (g δ) fun d' δ => match setSl i (.val d) δ with
  | some δ => match setSl j (.val d') δ with
    | some δ => .nx δ
    | none => .stuck
  | none => .stuck
section
variable {X : Cx} {W : WX} {a b : Expr} {f f' : DE → R D} {g : DE → R MD} {pos : Pos}
theorem vs_parVN {i j : Nat} {x y : Str} {px py pt : Pos} {kt k2 pt2} (hc : X.calm = true) (hN : X.N.Nodup) (hi : X.N[i]? = some x) (hj : X.N[j]? = some y) (hij : i ≠ j)
    (hx : X.env.scope.names.lookup x = some .local) (hy : X.env.scope.names.lookup y = some .local) (ha : VE X W a f) (hb : VN X W b g)
    (hw : swappedStores [.Tuple [.Name x px, .Name y py] kt pt] (.Tuple [a, b] k2 pt2) X.env = pure (some [x, y]) := by rfl)
    (hs : swapsWithSole [.Tuple [.Name x px, .Name y py] kt pt] (.Tuple [a, b] k2 pt2) pos.line X.env = pure false := by rfl) (n1 : starEach [a, b] X.env = (false, eval a X.env) :: starEach [b] X.env := by rfl) (n2 : starEach [b] X.env = (false, eval b X.env) :: starEach [] X.env := by rfl) :
    VS X W (.Assign [.Tuple [.Name x px, .Name y py] kt pt] (.Tuple [a, b] k2 pt2) pos) (parVN i j f g) := PS.to (ps_par hc hN hi hj hij hx hy (pa_cons ha (pa_cons hb pa_nil n2) n1) hw hs) fun N σ H z => by
  refine z.first (DM := dnE X.K) fun c F H1 δ d v r1 d1 z1 => ?_
  refine aftS.next (DM := dnN X.K) (f := g) (g := fun m δ => match setSl i (.val d) δ with
    | some δ => match setSl j (.own m) δ with
      | some δ => .nx δ
      | none => .stuck
    | none => .stuck) r1 z1 fun F2 H2 δ2 m w r2 s2 d2 z2 => ?_
  split at z2
  · rename_i δ3 q3
    split at z2
    · rename_i δ4 q4
      obtain ⟨rfl, nb⟩ := setSl_some q3
      obtain ⟨rfl, nb2⟩ := setSl_some q4
      obtain ⟨p, o, rfl, h1, h2, h3, h4, h5, h6⟩ := d2
      refine ⟨v, .ref p, rfl, z2 _ F2 H2 (Rel.setOwn (r2.set (Den.mono s2 _ _ d1) nb) h1 h3 h4 h5 h2 (fun k n ek => ?_) nb2) (.refl _)⟩
      by_cases hk : i = k
      · subst hk
        rw [List.getElem?_set] at ek
        simp only [if_true] at ek
        split at ek <;> cases ek
      · rw [List.getElem?_set_ne hk] at ek ⊢
        exact h6 k n ek
    · exact False.elim z2
  · exact False.elim z2
theorem vs_parVV {i j : Nat} {x y : Str} {px py pt : Pos} {kt k2 pt2} (hc : X.calm = true) (hN : X.N.Nodup) (hi : X.N[i]? = some x) (hj : X.N[j]? = some y) (hij : i ≠ j)
    (hx : X.env.scope.names.lookup x = some .local) (hy : X.env.scope.names.lookup y = some .local) (ha : VE X W a f) (hb : VE X W b f')
    (hw : swappedStores [.Tuple [.Name x px, .Name y py] kt pt] (.Tuple [a, b] k2 pt2) X.env = pure (some [x, y]) := by rfl)
    (hs : swapsWithSole [.Tuple [.Name x px, .Name y py] kt pt] (.Tuple [a, b] k2 pt2) pos.line X.env = pure false := by rfl) (n1 : starEach [a, b] X.env = (false, eval a X.env) :: starEach [b] X.env := by rfl) (n2 : starEach [b] X.env = (false, eval b X.env) :: starEach [] X.env := by rfl) :
    VS X W (.Assign [.Tuple [.Name x px, .Name y py] kt pt] (.Tuple [a, b] k2 pt2) pos) (parVV i j f f') := PS.to (ps_par hc hN hi hj hij hx hy (pa_cons ha (pa_cons hb pa_nil n2) n1) hw hs) fun N σ H z => by
  refine z.first (DM := dnE X.K) fun c F H1 δ d v r1 d1 z1 => ?_
  refine aftS.next (DM := dnE X.K) (f := f') (g := fun d' δ => match setSl i (.val d) δ with
    | some δ => match setSl j (.val d') δ with
      | some δ => .nx δ
      | none => .stuck
    | none => .stuck) r1 z1 fun F2 H2 δ2 m w r2 s2 d2 z2 => ?_
  split at z2
  · rename_i δ3 q3
    split at z2
    · rename_i δ4 q4
      obtain ⟨rfl, nb⟩ := setSl_some q3
      obtain ⟨rfl, nb2⟩ := setSl_some q4
      exact ⟨v, w, rfl, z2 _ F2 H2 ((r2.set (Den.mono s2 _ _ d1) nb).set d2 nb2) (.refl _)⟩
    · exact False.elim z2
  · exact False.elim z2
end

/-! ### new lists by * and + -/
def mulN (fa fb : DE → R D) : DE → R MD := fun δ => (fa δ).bind fun x δ => (fb δ).bind fun y δ => match lmul x y with
  | some (.lst l) => .ok (.lst l) δ
  | _ => .stuck
section
variable {X : Cx} {W : WX} {a b : Expr} {fa fb : DE → R D} {pos : Pos}
theorem vn_mul (ha : VE X W a fa) (hb : VE X W b fb) : VN X W (.BinOp a .Mult b pos) (mulN fa fb) := PE.to (pe_op op_rep ha hb) fun σ H Q z => by
  refine z.first (DM := dnE X.K) fun c F H1 δ x v r1 d1 z1 => ?_
  refine z1.next (DM := dnE X.K) r1 fun F2 H2 δ2 y w r2 s2 d2 z2 => ?_
  replace d1 := Den.mono s2 _ _ d1
  cases x <;> first | (exact False.elim z2; done) | skip
  cases y <;> first | (exact False.elim z2; done) | skip
  rename_i la n
  obtain ⟨p, xs, rfl, h1, h2⟩ := d1
  by_cases hl : 0 ≤ n ∧ n ≤ 1000 ∧ la.length ≤ 1000
  · have e : lmul (.lst la) (.int n) = some (.lst (List.replicate n.toNat la).flatten) := by
      show (if _ then _ else _) = _
      rw [if_pos hl]
    rw [e] at z2
    refine ⟨p, n, xs, rfl, d2, r2.sub _ _ h1, by omega, by omega, ?_, fun q hq => ?_⟩
    · rw [h2.length]
      exact lim_le (Nat.le_trans (Nat.mul_le_mul hl.2.2 (show n.toNat ≤ 1000 by omega)) (by decide))
    · obtain ⟨g1, g2⟩ := r2.fresh (o := .lst (List.replicate n.toNat xs).flatten) (m := .lst (List.replicate n.toNat la).flatten) hq (Dens.rep h2 _)
      exact z2 _ _ _ g1 (.refl _) g2
  · have e : lmul (.lst la) (.int n) = none := by
      show (if _ then _ else _) = _
      rw [if_neg hl]
    rw [e] at z2
    exact False.elim z2
end
section
variable {X : Cx} {W : WX} {elt tg iter : Expr} {ifs : List Expr} {scope : Scope} {own : List (Str × Nat)} {pos : Pos} {f : DE → R (List D)} {ts : List Nat} {t : D → DE → Option DE} {cond : DE → R Bool} {fe : DE → R D}
/-- y = [..] over an object of a slot that stays -/
theorem vs_setLcT (jt : Nat) {i : Nat} {y : Str} {py spos : Pos} (hc : X.calm = true) (hN : X.N.Nodup) (hy : X.N[i]? = some y) (hyl : X.env.scope.names.lookup y = some .local)
    (hsw : swapsWith (.ListComp elt [⟨tg, iter, ifs, 0⟩] scope pos) (some (.Name y py)) spos.line X.env = pure true) (hi : VI X W tg iter f) (ok : BlkOk X.N X.env.scope scope own) (hts : ∀ i ∈ ts, i ∈ own.map (·.2))
    (hg : ∀ (s : Shared) (H : Hp) (C : Addr) (cl : List (Str × Addr)) (fp : List Addr), VG (X.blk s H scope (compEnvC scope cl C X.env) fp) ts tg t)
    (ht : ∀ (s : Shared) (H : Hp) (C : Addr) (cl : List (Str × Addr)) (fp : List Addr), PTs (X.blk s H scope (compEnvC scope cl C X.env) fp) ifs (rdT X.K W0 cond))
    (he : ∀ (s : Shared) (H : Hp) (C : Addr) (cl : List (Str × Addr)) (fp : List Addr), VE (X.blk s H scope (compEnvC scope cl C X.env) fp) W0 elt fe) (hs : ∀ x, foldedSetIterable iter X.env x = pure x := by intro _; rfl) :
    VS X W (.Assign [.Name y py] (.ListComp elt [⟨tg, iter, ifs, 0⟩] scope pos) spos) (setS i (ofN (thawN jt (lcN f t cond fe (own.map (·.2)))))) := PS.to (ps_setLc hc hN hy hyl hsw hi ok hg ht he hs) fun N σ H z => by
  have z := rd_set z
  exact rd_lc hts (rd_thaw (rd_ofN z))
end
end PV

/-! PV12: the pens of the laws: a list of lists that a loop hands on one by one, each to be written. -/
namespace PV
open PySem PySem.Spec PyProof.Rows L2
variable [Tbl]

section
variable {P : Program} {w : World} {K : PySem.W.Frag} {mg : Str → Option Value} {base : Heap}
theorem VOk.fn {k : Nat} {f : Addr} {fd : FuncData} {ps : List Str} {φ : List Sl → FR} (V0 : VOk false P w K mg base k f fd ps φ) : FnOk P w K mg base (L2.CX P w) k f fd ps (spV K φ) :=
  ⟨fun vs H Q E h => spV.len V0.len h, fun A outer s H args us vs Q E hr en hb rv h => V0.run A outer s H args us vs Q E hr (fun z => absurd z Bool.false_ne_true) en hb rv h⟩
/-- a def that hands back a new object -/
def spNew (K : PySem.W.Frag) (n N : Nat) (f : DE → R MD) : Sp := fun vs H Q _ => ∃ F as m δ', AOk K F H as vs ∧ as.length = n ∧ f (as.map some ++ List.replicate (N - n) none) = .ok m δ' ∧
  ∀ p o F' H', Done K F H as vs F' H' (back as δ') → H' p = some o → MDen K F' m o → F' p = none → pl H p = none → Q (.ref p) H'
theorem Fun.new {x qual : Str} {st : Stmt} {f : Addr} {fd : FuncData} {N ps : List Str} {k n : Nat} {G : DE → R MD} (T : Fun K x qual st f fd) (S : FnScope N ps (defScope st)) (hn : ps.length = n)
    (body : ∀ (cd : Value) (A : Around) (outer : List Env) (s : Shared) (H : Hp) (E : XK), Room k (A.deeper (envOfC qual (defScope st) s.heap.objs.size f cd)) →
      Takes (cxV P w K mg base N qual (defScope st) f cd A outer s H E) (wE E) → ∃ e pos, defBody st = [.Return (some e) pos] ∧ VN (cxV P w K mg base N qual (defScope st) f cd A outer s H E) (wE E) e G) :
    FnOk P w K mg base (L2.CX P w) (k + 1) f fd ps (spNew K n N.length G) := by
  refine T.okX S (fun vs H Q E h => ?_) (fun cd A outer s H vs Q E hr h => ?_)
  · obtain ⟨F, as, m, δ', A, hl, _⟩ := h
    rw [← A.len, hl, hn]
  · obtain ⟨e, pos, eb, hv⟩ := body cd A outer s H E hr (takes_of rfl rfl rfl rfl)
    rw [eb]
    refine ⟨_, pss_one (ps_ret hv), ?_⟩
    obtain ⟨F, as, m, δ', A, hl, hf, q⟩ := h
    refine ⟨cq0 F H as vs, F, _, A.rel, ?_⟩
    rw [hl, hf]
    intro v F' H' r' s' dn
    obtain ⟨p, o, rfl, h1, h2, h3, h4, h5, h6⟩ := dn
    exact q p o F' H' (A.done r') h1 h2 h3 h5
end

/-! ### the pens -/
def penOf (n : Int) : Int × Int := (if n - 10 ^ 18 > 0 then n - 10 ^ 18 else 0, n % 2147483629 + 1)
def penV (p : Int × Int) : List V := [.int p.1, .int p.2, .int 0]
def penD (p : Int × Int) : List D := [.int p.1, .int p.2, .int 0]
def pensOf (ns : List Int) (m : Nat) : List (Int × Int) := (List.range (max 1 (min ns.length m))).map fun k => penOf (ns.getD k 0)
/-- what _law_pens promises -/
def spPens (K : PySem.W.Frag) : Sp := fun vs H Q _ => ∃ (a : Addr) (ns : List Int) (m : Nat), vs = [.ref a, .int (m : Int)] ∧ SqL K H a (ns.map V.int) ∧ ns.length ≤ 1000 ∧ m ≤ 1000 ∧ LamX.Tabs Tbl.T H ∧
  ∀ (l : Addr) (ps : List Addr) (H' : Hp), pl H l = none → (∀ p ∈ ps, pl H p = none) → ps.Nodup → l ∉ ps → Same (pl H) H' → LamX.Tabs Tbl.T H' → H' l = some (.lst (ps.map V.ref)) → ps.length = (pensOf ns m).length →
    (∀ (j : Nat) (p : Addr) (q : Int × Int), ps[j]? = some p → (pensOf ns m)[j]? = some q → H' p = some (.lst (penV q))) → Q (.ref l) H'

section
variable {K : PySem.W.Frag} {c : Cq} {F H H1 : Hp} {σ : L2.St} {δ : DE}
theorem Rel.freePF (r : Rel K c F H σ δ) {p : Addr} (h : pl H p = none) : F p = none := by
  cases e : F p with
  | none => rfl
  | some o => rw [pl_to (r.sub p o e) (r.tab.fnt p o e)] at h; cases h
theorem Rel.freePG (r : Rel K c F H σ δ) {p : Addr} (h : pl H p = none) : c.G p = none := by
  cases e : c.G p with
  | none => rfl
  | some o => rw [pl_to (r.gs p o e).1 (r.tab.gnt p o e).pl] at h; cases h
theorem Rel.extP (r : Rel K c F H σ δ) (h : Same (pl H) H1) (t : LamX.Tabs Tbl.T H1) : Rel K c F H1 σ δ := by
  have k : ∀ {b : Addr} {o : HO}, H b = some o → Pl o → H1 b = some o := fun {b o} e p => h b o (pl_to e p)
  refine ⟨fun b o e => k (r.sub b o e) (r.tab.fnt b o e), fun b o e q => k (r.pres b o e q) (r.tab.hnt b o e), r.low, r.new, fun b o e => ⟨k (r.gs b o e).1 (r.tab.gnt b o e).pl, (r.gs b o e).2⟩, r.bor0, r.borD, r.binj, r.len, fun i s e => ?_, r.apart, ⟨t, r.tab.fnt, r.tab.gnt, r.tab.hnt⟩⟩
  have z := r.sl i s e
  cases s with
  | val d => exact z
  | own m =>
    obtain ⟨a, o, e1, e2, e3, e4⟩ := z
    exact ⟨a, o, e1, k e2 e3.pl, e3, e4⟩
  | bor m =>
    obtain ⟨hi, o, e1, e2, e3, e4⟩ := z
    exact ⟨hi, o, e1, k e2 e3.pl, e3, e4⟩
theorem Rel.less {G' : Hp} (r : Rel K { c with G := G' } F H σ δ) (h : ∀ b o, c.G b = some o → G' b = some o) : Rel K c F H σ δ := by
  have hn : ∀ {a : Addr}, G' a = none → c.G a = none := fun {a} y => by
    cases q : c.G a with
    | none => rfl
    | some o => rw [h a o q] at y; cases y
  refine ⟨r.sub, r.pres, r.low, r.new, fun b o e => r.gs b o (h b o e), r.bor0, r.borD, r.binj, r.len, fun i s e => ?_, r.apart, r.tab.less h⟩
  have z := r.sl i s e
  cases s with
  | val d => exact z
  | own n =>
    obtain ⟨a, x, e1, e2, e3, e4, e5, e6⟩ := z
    exact ⟨a, x, e1, e2, e3, e4, hn e5, e6⟩
  | bor n =>
    obtain ⟨hi, x, e1, e2, e3, e4, e5⟩ := z
    exact ⟨hi, x, e1, e2, e3, e4, hn e5⟩
/-- several things held -/
def gput (G : Hp) : List (Addr × HO) → Hp
  | [] => G
  | (p, o) :: r => upd (gput G r) p o
theorem gput_out {G : Hp} {b : Addr} : ∀ {l : List (Addr × HO)}, (∀ q ∈ l, q.1 ≠ b) → gput G l b = G b
  | [], _ => rfl
  | (p, o) :: r, h => by
    unfold gput
    rw [upd_ne (Ne.symm (h _ List.mem_cons_self))]
    exact gput_out fun q hq => h q (List.mem_cons_of_mem _ hq)
/-- new things of the heap, held -/
theorem Rel.holdAll (r : Rel K c F H σ δ) (h : Same (pl H) H1) (t : LamX.Tabs Tbl.T H1) : ∀ {l : List (Addr × HO)}, (∀ q ∈ l, pl H q.1 = none ∧ H1 q.1 = some q.2 ∧ PlG q.2) → Rel K { c with G := gput c.G l } F H1 σ δ
  | [], _ => r.extP h t
  | (p, o) :: l, hl => by
    have ih := r.holdAll h t (l := l) fun q hq => hl q (List.mem_cons_of_mem _ hq)
    obtain ⟨h1, h2, h3⟩ := hl _ List.mem_cons_self
    refine Rel.hold (c := { c with G := gput c.G l }) ih h2 (r.freePF h1) (fun j n e z => ?_) (fun i hi z => ?_) h3
    · obtain ⟨a, o', e1, e2, e3, _⟩ := r.own e
      rw [z] at e1; cases e1
      rw [pl_to e2 e3.pl] at h1; cases h1
    · have hi : i ∈ c.bs := hi
      have z : c.adr i = p := z
      obtain ⟨m, o', _, _, e2, e3, _⟩ := r.borAt hi
      rw [z] at e2
      rw [pl_to e2 e3.pl] at h1; cases h1
end

/-- for pen in pens: body -/
def penLoop (i : Nat) (g : DE → O) : List (Int × Int) → DE → O
  | [], δ => .nx δ
  | p :: ps, δ => match setSl i (.own (.lst (penD p))) δ with
    | none => .stuck
    | some δ => match g δ with
      | .nx δ => penLoop i g ps δ
      | .cnt δ => penLoop i g ps δ
      | .brk δ => .nx δ
      | o => o
def forPens (s : Nat) (m : Nat) (i : Nat) (g : DE → O) : DE → O := fun δ => match δ[s]? with
  | some (some (.val (.scr ns))) => if ns.length ≤ 1000 ∧ m ≤ 1000 then penLoop i g (pensOf ns m) δ else .stuck
  | _ => .stuck
theorem pen_den {K : PySem.W.Frag} {F : Hp} (q : Int × Int) : MDen K F (.lst (penD q)) (.lst (penV q)) := Dens.cons rfl (Dens.cons rfl (Dens.one rfl))
theorem rd_pens {K : PySem.W.Frag} {W : WX} {sl m i : Nat} {g : DE → O} {N : Ends} {σ : L2.St} {H : Hp} (z : rdS K W (forPens sl m i g) N σ H) :
    tFor (iList K (tCallS (spPens K) (WE W) (tCons (tVar sl) (tCons (tC (.int (m : Int))) tNil)))) (gName i) (rdS K W g) N σ H := by
  obtain ⟨c, F, δ, r, z⟩ := z
  unfold forPens at z
  split at z
  · rename_i ns hs
    split at z
    · rename_i hb
      obtain ⟨v, e1, a, rfl, e2⟩ := r.val hs
      refine ⟨.ref a, e1, a, ns, m, rfl, r.sub.seq e2, hb.1, hb.2, r.tab.tabs, fun l ps H1 f1 f2 f3 f4 f5 f5t f6 f7 f8 => ?_⟩
      refine ⟨l, rfl, ⟨_, .inl (.inl f6)⟩, ?_⟩
      -- what is held
      have zipIn : ∀ q ∈ (ps.zip (pensOf ns m)).map (fun x => (x.1, HO.lst (penV x.2))), pl H q.1 = none ∧ H1 q.1 = some q.2 ∧ q.1 ∈ ps := fun q hq => by
        obtain ⟨x, hx, rfl⟩ := List.mem_map.mp hq
        obtain ⟨j, hj⟩ := List.getElem?_of_mem hx
        have h1 : ps[j]? = some x.1 ∧ (pensOf ns m)[j]? = some x.2 := by
          rw [List.getElem?_zip_eq_some] at hj
          exact hj
        have hm := List.mem_of_getElem? h1.1
        exact ⟨f2 _ hm, f8 j _ _ h1.1 h1.2, hm⟩
      have rl := r.holdAll f5 f5t (l := [(l, .lst (ps.map V.ref))]) fun q hq => by
        rw [List.mem_singleton.mp hq]; exact ⟨f1, f6, trivial⟩
      have hlen := f7
      let rest : Nat → List (Addr × HO) := fun k => ((ps.zip (pensOf ns m)).map (fun x => (x.1, HO.lst (penV x.2)))).drop k
      let cL : Cq := { c with G := gput c.G [(l, .lst (ps.map V.ref))] }
      have gl0 : ∀ {p : Addr}, p ∈ ps → cL.G p = none := fun {p} hp => by
        show gput c.G [(l, HO.lst (ps.map V.ref))] p = none
        rw [gput_out (by intro q hq; rw [List.mem_singleton.mp hq]; exact fun y => f4 (by rw [show l = p from y]; exact hp))]
        exact r.freePG (f2 p hp)
      have r0 : Rel K { cL with G := gput cL.G (rest 0) } F H1 σ δ := by
        have := r.holdAll f5 f5t (l := rest 0 ++ [(l, .lst (ps.map V.ref))]) fun q hq => by
          rcases List.mem_append.mp hq with y | y
          · obtain ⟨y1, y2, _⟩ := zipIn q (by simpa [rest] using y)
            refine ⟨y1, y2, ?_⟩
            obtain ⟨x, hx, e⟩ := List.mem_map.mp (show q ∈ (ps.zip (pensOf ns m)).map (fun x => (x.1, HO.lst (penV x.2))) by simpa [rest] using y)
            rw [← e]; trivial
          · rw [List.mem_singleton.mp y]; exact ⟨f1, f6, trivial⟩
        have e : ∀ (l1 l2 : List (Addr × HO)) (G : Hp), gput G (l1 ++ l2) = gput (gput G l2) l1 := by
          intro l1
          induction l1 with
          | nil => intro l2 G; rfl
          | cons x l1 ih => intro l2 G; obtain ⟨p, o⟩ := x; show upd (gput G (l1 ++ l2)) p o = upd (gput (gput G l2) l1) p o; rw [ih]
        rw [e] at this
        exact this
      have lessG : ∀ (k : Nat) (b : Addr) (o : HO), c.G b = some o → gput cL.G (rest k) b = some o := fun k b o e => by
        have hb : pl H b = some o := pl_to (r.gs b o e).1 (r.tab.gnt b o e).pl
        rw [gput_out fun q hq y => ?_]
        · show gput c.G [(l, HO.lst (ps.map V.ref))] b = some o
          rw [gput_out (by intro q hq y; rw [List.mem_singleton.mp hq] at y; rw [← show l = b from y, f1] at hb; cases hb)]
          exact e
        · obtain ⟨y1, _, _⟩ := zipIn q (List.mem_of_mem_drop hq)
          rw [y, hb] at y1; cases y1
      have lenz : (ps.zip (pensOf ns m)).length = (pensOf ns m).length := by rw [List.length_zip, hlen, Nat.min_self]
      have h0p : ∀ {p : Addr}, p ∈ ps → c.H0 p = none := fun {p} hp => r.freeP (f2 p hp)
      refine ⟨fun k n σ H => ∃ F' δ, Rel K { cL with G := gput cL.G (rest k) } F' H σ δ ∧ Same F F' ∧ k + n = (pensOf ns m).length ∧ aftS K W N c F' (penLoop i g ((pensOf ns m).drop k) δ), ⟨(pensOf ns m).length, F, δ, r0, .refl _, by omega, z⟩, ?_⟩
      rintro k n σ2 H2 ⟨F2, δ2, r2, s2, en, z2⟩
      -- the list is still there
      have lst2 : H2 l = some (.lst (ps.map V.ref)) := by
        refine (r2.gs l _ ?_).1
        show gput (gput c.G [(l, HO.lst (ps.map V.ref))]) (rest k) l = _
        rw [gput_out fun q hq => fun y => f4 (by
          obtain ⟨_, _, y3⟩ := zipIn q (List.mem_of_mem_drop hq)
          rw [y] at y3; exact y3)]
        exact upd_same
      by_cases hk : k < (pensOf ns m).length
      · have hkp : k < ps.length := by rw [hlen]; exact hk
        have eqk := List.getElem?_eq_getElem hk
        have epk := List.getElem?_eq_getElem hkp
        refine .inr ⟨⟨_, V.ref ps[k], .inl (.inl lst2), by rw [List.getElem?_map, epk]; rfl⟩, fun σ' H' => ∃ F' δ, Rel K { cL with G := gput cL.G (rest (k + 1)) } F' H' σ' δ ∧ Same F F' ∧ aftS K W N c F' (penLoop i g ((pensOf ns m).drop (k + 1)) δ), ?_, fun x H3 hy => ?_⟩
        · rintro σ' H' ⟨F3, δ3, r3, s3, z3⟩
          exact ⟨n - 1, by omega, F3, δ3, r3, s3, by omega, z3⟩
        · obtain ⟨rfl, hy⟩ := hy
          have ex := hy _ (.inl (.inl lst2))
          rw [List.getElem?_map, epk] at ex
          have ex : x = V.ref ps[k] := (Option.some.inj ex).symm
          subst ex
          have er : rest k = (ps[k], HO.lst (penV (pensOf ns m)[k])) :: rest (k + 1) := by
            show ((ps.zip (pensOf ns m)).map _).drop k = _
            have hz : k < ((ps.zip (pensOf ns m)).map (fun x => (x.1, HO.lst (penV x.2)))).length := by rw [List.length_map, lenz]; exact hk
            rw [List.drop_eq_getElem_cons hz, List.getElem_map, List.getElem_zip]
          have r2' : Rel K { ({ cL with G := gput cL.G (rest (k + 1)) } : Cq) with G := upd (gput cL.G (rest (k + 1))) ps[k] (.lst (penV (pensOf ns m)[k])) } F2 H3 σ2 δ2 := by
            have q := r2
            rw [er] at q
            exact q
          have memk : ps[k] ∈ ps := List.getElem_mem hkp
          have gk : gput cL.G (rest (k + 1)) ps[k] = none := by
            rw [gput_out fun q hq y => ?_]
            · exact gl0 memk
            · -- no address twice
              obtain ⟨j, hj, rfl⟩ := List.mem_iff_getElem.mp hq
              rw [List.getElem_drop, List.getElem_map, List.getElem_zip] at y
              have hj' : k + 1 + j < ps.length := by
                have : j < (((ps.zip (pensOf ns m)).map (fun x => (x.1, HO.lst (penV x.2)))).drop (k + 1)).length := hj
                rw [List.length_drop, List.length_map, List.length_zip] at this
                omega
              have e1 := List.getElem?_eq_getElem hj'
              have e2 := List.getElem?_eq_getElem hkp
              rw [← y] at e2
              have := (List.getElem?_inj hj' f3).mp (e1.trans e2.symm)
              omega
          obtain ⟨r3, g1, g2, g3, g4⟩ := Rel.drop (c := { cL with G := gput cL.G (rest (k + 1)) }) r2' gk
          rw [List.drop_eq_getElem_cons hk] at z2
          unfold penLoop at z2
          show rdS K W g _ (σ2.set i (some (V.ref ps[k]))) H3
          split at z2
          · exact False.elim z2
          · rename_i δ4 q4
            obtain ⟨rfl, nb⟩ := setSl_some q4
            have r4 := Rel.setOwn r3 g1 g2 gk (h0p memk) (pen_den _) g3 nb
            refine ⟨_, F2, _, r4, ?_⟩
            cases qg : g (δ2.set i (some (.own (.lst (penD (pensOf ns m)[k]))))) with
            | nx δ5 => rw [qg] at z2; exact fun σ' F' H' r' s' => ⟨F', δ5, r', s2.trans s', z2.up s'⟩
            | cnt δ5 => rw [qg] at z2; exact fun σ' F' H' r' s' => ⟨F', δ5, r', s2.trans s', z2.up s'⟩
            | brk δ5 => rw [qg] at z2; exact fun σ' F' H' r' s' => z2 σ' F' H' (Rel.less r' (lessG (k + 1))) s'
            | ret d δ5 => rw [qg] at z2; exact fun v σ' F' H' r' s' d' => z2 v σ' F' H' (Rel.less r' (lessG (k + 1))) s' d'
            | exc x δ5 => rw [qg] at z2; exact fun cls od σ' F' H' r' s' d' => z2 cls od σ' F' H' (Rel.less r' (lessG (k + 1))) s' d'
            | stuck => rw [qg] at z2; exact z2
      · refine .inl ⟨⟨_, .inl (.inl lst2), by rw [List.length_map, hlen]; omega⟩, ?_⟩
        rw [List.drop_eq_nil_of_le (by omega)] at z2
        exact z2 σ2 F2 H2 (Rel.less r2 (lessG k)) (.refl _)
    · exact False.elim z
  · exact False.elim z
end PV

/-! PV13: the defs that the laws share (rest, pen, cell, draw, pick), as functions on data; what they give. -/
namespace PV
open PySem PySem.Spec PyProof.Rows L2
noncomputable def F_rest : DE → O := (retS (op2 isub (var 0) (op2 mulA (op2 idiv (var 0) (var 1)) (var 1))))
noncomputable def ph_rest : List Sl → FR := fnF 2 2 F_rest
noncomputable def F_pen : DE → R MD := (lstN (valA (callB max2D (valA (cst (.int 0)) (valA (op2 isub (var 0) (op2 ipow (cst (.int 10)) (cst (.int 18)))) noA))) (valA (op2 addA (callF ph_rest (valA (var 0) (valA (cst (.int 2147483629)) noA))) (cst (.int 1))) (valA (cst (.int 0)) noA))))
noncomputable def F_cell_at : DE → O := (thenS (ifS (tst (op2 ilt (var 1) (callB lenD (valA (var 0) noA)))) (retS (op2 ixD (var 0) (var 1))) skipS) (retS (cst (.int 0))))
noncomputable def ph_cell_at : List Sl → FR := fnF 2 2 F_cell_at
noncomputable def F_draw : DE → O := (thenS (ifS (tst (op2 igt (ixSl 0 (cst (.int 0))) (cst (.int 0)))) (thenS (setS 3 (callF ph_rest (valA (ixSl 0 (cst (.int 0))) (valA (var 1) noA)))) (thenS (putS 0 (cst (.int 0)) (op2 idiv (ixSl 0 (cst (.int 0))) (var 1))) (retS (var 3)))) skipS) (thenS (putS 0 (cst (.int 2)) (op2 addA (ixSl 0 (cst (.int 2))) (cst (.int 1)))) (thenS (putS 0 (cst (.int 1)) (callF ph_rest (valA (op2 addA (op2 addA (op2 mulA (ixSl 0 (cst (.int 1))) (cst (.int 48271))) (op2 mulA (cst (.int 1009)) (ixSl 0 (cst (.int 2))))) (cst (.int 7))) (valA (cst (.int 2147483647)) noA)))) (thenS (setS 2 (callF ph_rest (valA (op2 addA (op2 addA (op2 mulA (ixSl 0 (cst (.int 1))) (ixSl 0 (cst (.int 1)))) (op2 mulA (cst (.int 69621)) (ixSl 0 (cst (.int 1))))) (cst (.int 11))) (valA (cst (.int 2147483629)) noA)))) (thenS (setS 2 (callF ph_rest (valA (op2 addA (op2 mulA (var 2) (var 2)) (op2 mulA (cst (.int 40014)) (var 2))) (valA (cst (.int 2147483587)) noA)))) (retS (callF ph_rest (valA (op2 idiv (var 2) (cst (.int 16))) (valA (var 1) noA)))))))))
noncomputable def ph_draw : List Sl → FR := fnF 2 4 F_draw
noncomputable def F_pick : DE → O := (retS (op2 ixD (var 1) (callF ph_draw (slotA 0 (valA (callB lenD (valA (var 1) noA)) noA)))))
noncomputable def ph_pick : List Sl → FR := fnF 2 2 F_pick
/-- a slot that may be set -/
def nb : Option Sl → Bool
  | some (.bor _) => false
  | _ => true
theorem setSl_z {s : Sl} {l : DE} : setSl 0 s (none :: l) = some (some s :: l) := rfl
theorem setSl_v {s : Sl} {l : DE} {d : D} : setSl 0 s (some (.val d) :: l) = some (some s :: l) := rfl
theorem setSl_o {s : Sl} {l : DE} {d : MD} : setSl 0 s (some (.own d) :: l) = some (some s :: l) := rfl
theorem setSl_x {x : Option Sl} {s : Sl} {l : DE} (h : nb x = true) : setSl 0 s (x :: l) = some (some s :: l) := by
  cases x with
  | none => rfl
  | some y => cases y <;> first | rfl | cases h
theorem setSl_s {x : Option Sl} {s : Sl} {l : DE} {n : Nat} : setSl (n + 1) s (x :: l) = (setSl n s l).map (x :: ·) := by
  unfold setSl
  rw [List.getElem?_cons_succ]
  cases l[n]? with
  | none => rfl
  | some y => cases y with
    | none => rfl
    | some z => cases z <;> rfl
theorem addA_int {i j : Int} : addA (.int i) (.int j) = some (.int (i + j)) := rfl
theorem isub_int {i j : Int} : isub (.int i) (.int j) = some (.int (i - j)) := rfl
theorem mulA_l {i j : Int} (h : -(2 ^ 64) < i) (g : i < 2 ^ 64) : mulA (.int i) (.int j) = some (.int (i * j)) := by
  have : imul (.int i) (.int j) = some (.int (i * j)) := if_pos (by unfold mulOk; rw [decide_eq_true h, decide_eq_true g]; rfl)
  unfold mulA; rw [this]; rfl
theorem mulA_r {i j : Int} (h : -(2 ^ 64) < j) (g : j < 2 ^ 64) : mulA (.int i) (.int j) = some (.int (i * j)) := by
  have : imul (.int i) (.int j) = some (.int (i * j)) := if_pos (by unfold mulOk; rw [decide_eq_true h, decide_eq_true g]; simp)
  unfold mulA; rw [this]; rfl
theorem idiv_int {i j : Int} (h : 0 < j) (g : j < 2 ^ 64) : idiv (.int i) (.int j) = some (.int (i / j)) := if_pos (by unfold divOk; rw [decide_eq_true h, decide_eq_true g]; rfl)
theorem imod_int {i j : Int} (h : 0 < j) (g : j < 2 ^ 64) : imod (.int i) (.int j) = some (.int (i % j)) := if_pos (by unfold divOk; rw [decide_eq_true h, decide_eq_true g]; rfl)
theorem ipow_int {i j : Int} (h : 0 ≤ j) (g : j ≤ 1000) (k : i.natAbs < 2 ^ 64) : ipow (.int i) (.int j) = some (.int (i ^ j.toNat)) := if_pos (by unfold powOk; rw [decide_eq_true h, decide_eq_true g, decide_eq_true k]; rfl)
theorem ilt_int {i j : Int} : ilt (.int i) (.int j) = some (.bl (decide (i < j))) := rfl
theorem ile_int {i j : Int} : ile (.int i) (.int j) = some (.bl (decide (i ≤ j))) := rfl
theorem igt_int {i j : Int} : igt (.int i) (.int j) = some (.bl (decide (j < i))) := rfl
theorem ige_int {i j : Int} : ige (.int i) (.int j) = some (.bl (decide (j ≤ i))) := rfl
theorem eqD_int {i j : Int} : eqD (.int i) (.int j) = some (.bl (decide (i = j))) := rfl
theorem eqD_str {i j : Str} : eqD (.str i) (.str j) = some (.bl (decide (i = j))) := rfl
theorem rest_ok {n b : Int} (h0 : 0 < b) (h1 : b < 2 ^ 64) : ph_rest [.val (.int n), .val (.int b)] = .ret (.int (n % b)) [.val (.int n), .val (.int b)] := by
  have e : n - n / b * b = n % b := by have := Int.emod_add_ediv_mul n b; omega
  simp (disch := first | assumption | with_reducible rfl | omega | rfl) [fnF, thenS, skipS, retS, dropS, ifS, setS, ownS, bindS, R.bind, R.of, cst, var, op2, tst, andT, orT, notT, andE, orE, notE, ifE, chn, callB, callN, valA, noA, peeks, peekA, PV.addA_int, PV.mulA_l, PV.mulA_r, PV.isub_int, PV.idiv_int, PV.imod_int, PV.ipow_int, PV.ilt_int, PV.ile_int, PV.igt_int, PV.ige_int, PV.eqD_int, PV.eqD_str, negE, lenD, max2D, min2D, ixSl, putS, mutOf, Sl.mut, Sl.wr, atI, ixN, setSl_z, setSl_v, setSl_o, setSl_x, setSl_s, Option.map_some, ixD, lstN, tupE, valsOf, ofN, MD.d, LIM, back, appS, List.getElem?_cons_zero, List.getElem?_cons_succ, callF, lend, unlend, slots, slotA, nmG, tupG, consG, nilG, listN, tupleD, ph_rest, F_rest, e]
theorem cell_ok (ns : List Int) (i : Nat) : ∃ as', ph_cell_at [.val (.scr ns), .val (.int i)] = .ret (.int (ns.getD i 0)) as' := by
  by_cases h : i < ns.length
  · have e : ixD (.scr ns) (.int i) = some (.int (ns.getD i 0)) := by
      show (atI ns i).map D.int = _
      unfold atI ixN
      simp [h]
    have h' : (i : Int) < (ns.length : Int) := by omega
    exact ⟨_, by simp (disch := first | assumption | with_reducible rfl | omega | rfl) [fnF, thenS, skipS, retS, dropS, ifS, setS, ownS, bindS, R.bind, R.of, cst, var, op2, tst, andT, orT, notT, andE, orE, notE, ifE, chn, callB, callN, valA, noA, peeks, peekA, PV.addA_int, PV.mulA_l, PV.mulA_r, PV.isub_int, PV.idiv_int, PV.imod_int, PV.ipow_int, PV.ilt_int, PV.ile_int, PV.igt_int, PV.ige_int, PV.eqD_int, PV.eqD_str, negE, lenD, max2D, min2D, ixSl, putS, mutOf, Sl.mut, Sl.wr, atI, ixN, setSl_z, setSl_v, setSl_o, setSl_x, setSl_s, Option.map_some, ixD, lstN, tupE, valsOf, ofN, MD.d, LIM, back, appS, List.getElem?_cons_zero, List.getElem?_cons_succ, callF, lend, unlend, slots, slotA, nmG, tupG, consG, nilG, listN, tupleD, ph_cell_at, F_cell_at, h', e]; rfl⟩
  · have h' : ¬ (i : Int) < (ns.length : Int) := by omega
    refine ⟨_, by simp (disch := first | assumption | with_reducible rfl | omega | rfl) [fnF, thenS, skipS, retS, dropS, ifS, setS, ownS, bindS, R.bind, R.of, cst, var, op2, tst, andT, orT, notT, andE, orE, notE, ifE, chn, callB, callN, valA, noA, peeks, peekA, PV.addA_int, PV.mulA_l, PV.mulA_r, PV.isub_int, PV.idiv_int, PV.imod_int, PV.ipow_int, PV.ilt_int, PV.ile_int, PV.igt_int, PV.ige_int, PV.eqD_int, PV.eqD_str, negE, lenD, max2D, min2D, ixSl, putS, mutOf, Sl.mut, Sl.wr, atI, ixN, setSl_z, setSl_v, setSl_o, setSl_x, setSl_s, Option.map_some, ixD, lstN, tupE, valsOf, ofN, MD.d, LIM, back, appS, List.getElem?_cons_zero, List.getElem?_cons_succ, callF, lend, unlend, slots, slotA, nmG, tupG, consG, nilG, listN, tupleD, ph_cell_at, F_cell_at, h', h]; rfl⟩
theorem pen_ok (n : Int) : ∃ δ', F_pen [some (.val (.int n))] = .ok (.lst (penD (penOf n))) δ' := by
  refine ⟨_, by simp (disch := first | assumption | with_reducible rfl | omega | rfl) [fnF, thenS, skipS, retS, dropS, ifS, setS, ownS, bindS, R.bind, R.of, cst, var, op2, tst, andT, orT, notT, andE, orE, notE, ifE, chn, callB, callN, valA, noA, peeks, peekA, PV.addA_int, PV.mulA_l, PV.mulA_r, PV.isub_int, PV.idiv_int, PV.imod_int, PV.ipow_int, PV.ilt_int, PV.ile_int, PV.igt_int, PV.ige_int, PV.eqD_int, PV.eqD_str, negE, lenD, max2D, min2D, ixSl, putS, mutOf, Sl.mut, Sl.wr, atI, ixN, setSl_z, setSl_v, setSl_o, setSl_x, setSl_s, Option.map_some, ixD, lstN, tupE, valsOf, ofN, MD.d, LIM, back, appS, List.getElem?_cons_zero, List.getElem?_cons_succ, callF, lend, unlend, slots, slotA, nmG, tupG, consG, nilG, listN, tupleD, F_pen, rest_ok, penD, penOf]; rfl⟩
/-- a pen in use -/
def IsPen (m : MD) : Prop := ∃ a b c : Int, m = .lst [.int a, .int b, .int c] ∧ 0 ≤ a ∧ 0 ≤ b ∧ b < 2 ^ 31
theorem draw_ok {m : MD} {k : Int} (hp : IsPen m) (h0 : 0 < k) (h1 : k < 2 ^ 64) : ∃ r m', IsPen m' ∧ 0 ≤ r ∧ r < k ∧ ph_draw [.bor m, .val (.int k)] = .ret (.int r) [.bor m', .val (.int k)] := by
  obtain ⟨a, b, c, rfl, ha, hb, hc⟩ := hp
  by_cases h : 0 < a
  · refine ⟨a % k, .lst [.int (a / k), .int b, .int c], ⟨_, _, _, rfl, Int.ediv_nonneg ha (by omega), hb, hc⟩, Int.emod_nonneg _ (by omega), Int.emod_lt_of_pos _ h0, ?_⟩
    simp (disch := first | assumption | with_reducible rfl | omega | rfl) [fnF, thenS, skipS, retS, dropS, ifS, setS, ownS, bindS, R.bind, R.of, cst, var, op2, tst, andT, orT, notT, andE, orE, notE, ifE, chn, callB, callN, valA, noA, peeks, peekA, PV.addA_int, PV.mulA_l, PV.mulA_r, PV.isub_int, PV.idiv_int, PV.imod_int, PV.ipow_int, PV.ilt_int, PV.ile_int, PV.igt_int, PV.ige_int, PV.eqD_int, PV.eqD_str, negE, lenD, max2D, min2D, ixSl, putS, mutOf, Sl.mut, Sl.wr, atI, ixN, setSl_z, setSl_v, setSl_o, setSl_x, setSl_s, Option.map_some, ixD, lstN, tupE, valsOf, ofN, MD.d, LIM, back, appS, List.getElem?_cons_zero, List.getElem?_cons_succ, callF, lend, unlend, slots, slotA, nmG, tupG, consG, nilG, listN, tupleD, ph_draw, F_draw, rest_ok, h]
  · have q0 : 0 ≤ (b * 48271 + 1009 * (c + 1) + 7) % 2147483647 := Int.emod_nonneg _ (by decide)
    have q1 : (b * 48271 + 1009 * (c + 1) + 7) % 2147483647 < 2147483647 := Int.emod_lt_of_pos _ (by decide)
    generalize eq : (b * 48271 + 1009 * (c + 1) + 7) % 2147483647 = b' at q0 q1
    let x1 : Int := (b' * b' + 69621 * b' + 11) % 2147483629
    have y0 : 0 ≤ x1 := Int.emod_nonneg _ (by decide)
    have y1 : x1 < 2147483629 := Int.emod_lt_of_pos _ (by decide)
    have e1 : (b' * b' + 69621 * b' + 11) % 2147483629 = x1 := rfl
    have y2 : 0 ≤ b' := q0
    refine ⟨(x1 * x1 + 40014 * x1) % 2147483587 / 16 % k, .lst [.int a, .int b', .int (c + 1)], ⟨_, _, _, rfl, ha, q0, by omega⟩, Int.emod_nonneg _ (by omega), Int.emod_lt_of_pos _ h0, ?_⟩
    generalize x1 = x at *
    simp (disch := first | assumption | with_reducible rfl | omega | rfl) [fnF, thenS, skipS, retS, dropS, ifS, setS, ownS, bindS, R.bind, R.of, cst, var, op2, tst, andT, orT, notT, andE, orE, notE, ifE, chn, callB, callN, valA, noA, peeks, peekA, PV.addA_int, PV.mulA_l, PV.mulA_r, PV.isub_int, PV.idiv_int, PV.imod_int, PV.ipow_int, PV.ilt_int, PV.ile_int, PV.igt_int, PV.ige_int, PV.eqD_int, PV.eqD_str, negE, lenD, max2D, min2D, ixSl, putS, mutOf, Sl.mut, Sl.wr, atI, ixN, setSl_z, setSl_v, setSl_o, setSl_x, setSl_s, Option.map_some, ixD, lstN, tupE, valsOf, ofN, MD.d, LIM, back, appS, List.getElem?_cons_zero, List.getElem?_cons_succ, callF, lend, unlend, slots, slotA, nmG, tupG, consG, nilG, listN, tupleD, ph_draw, F_draw, rest_ok, h, eq, e1]
/-- at a call -/
theorem draw_at {δ : DE} {i : Nat} {fk : DE → R D} {k : Int} {s : Sl} {m : MD} (hk : fk δ = .ok (.int k) δ) (hs : δ[i]? = some (some s)) (hm : s.mut = some m) (hp : IsPen m) (h0 : 0 < k) (h1 : k < 2 ^ 64) :
    ∃ r m', IsPen m' ∧ 0 ≤ r ∧ r < k ∧ callF ph_draw (slotA i (valA fk noA)) δ = .ok (.int r) (δ.set i (some (s.wr m'))) := by
  obtain ⟨r, m', p', r0, r1, e⟩ := draw_ok hp h0 h1
  refine ⟨r, m', p', r0, r1, ?_⟩
  have hmu : mutOf δ i = some (s, m) := by unfold mutOf; rw [hs]; simp [hm]
  simp [callF, slotA, hmu, valA, noA, hk, R.bind, slots, lend, e, unlend]
/-- pick: one of a list's -/
theorem pick_ok {m : MD} {l : List D} (hp : IsPen m) (h0 : 0 < l.length) (h1 : l.length ≤ LIM) : ∃ d m', IsPen m' ∧ d ∈ l ∧ ph_pick [.bor m, .val (.lst l)] = .ret d [.bor m', .val (.lst l)] := by
  obtain ⟨r, m', p', r0, r1, e⟩ := draw_at (δ := [some (.bor m), some (.val (.lst l))]) (i := 0) (s := .bor m) (m := m) (fk := callB lenD (valA (var 1) noA)) (k := l.length) (by simp (disch := first | assumption | with_reducible rfl | omega | rfl) [fnF, thenS, skipS, retS, dropS, ifS, setS, ownS, bindS, R.bind, R.of, cst, var, op2, tst, andT, orT, notT, andE, orE, notE, ifE, chn, callB, callN, valA, noA, peeks, peekA, PV.addA_int, PV.mulA_l, PV.mulA_r, PV.isub_int, PV.idiv_int, PV.imod_int, PV.ipow_int, PV.ilt_int, PV.ile_int, PV.igt_int, PV.ige_int, PV.eqD_int, PV.eqD_str, negE, lenD, max2D, min2D, ixSl, putS, mutOf, Sl.mut, Sl.wr, atI, ixN, setSl_z, setSl_v, setSl_o, setSl_x, setSl_s, Option.map_some, ixD, lstN, tupE, valsOf, ofN, MD.d, LIM, back, appS, List.getElem?_cons_zero, List.getElem?_cons_succ, callF, lend, unlend, slots, slotA, nmG, tupG, consG, nilG, listN, tupleD]) rfl rfl hp (by omega) (by unfold LIM at h1; omega)
  have hr : r.toNat < l.length := by omega
  have ea : atI l r = some l[r.toNat] := by
    unfold atI ixN
    rw [if_pos r0, if_pos (by omega)]
    show l[r.toNat]? = _
    exact List.getElem?_eq_getElem hr
  refine ⟨l[r.toNat], m', p', List.getElem_mem hr, ?_⟩
  unfold ph_pick F_pick
  have e2 : op2 ixD (var 1) (callF ph_draw (slotA 0 (valA (callB lenD (valA (var 1) noA)) noA))) [some (.bor m), some (.val (.lst l))] = .ok l[r.toNat] [some (.bor m'), some (.val (.lst l))] := by
    unfold op2
    simp [var, R.bind, e, ixD, ea, R.of, Sl.wr]
  simp [fnF, retS, e2, bindS, back]
theorem pick_at {δ : DE} {i : Nat} {fl : DE → R D} {l : List D} {s : Sl} {m : MD} (hk : fl δ = .ok (.lst l) δ) (hs : δ[i]? = some (some s)) (hm : s.mut = some m) (hp : IsPen m) (h0 : 0 < l.length) (h1 : l.length ≤ LIM) :
    ∃ d m', IsPen m' ∧ d ∈ l ∧ callF ph_pick (slotA i (valA fl noA)) δ = .ok d (δ.set i (some (s.wr m'))) := by
  obtain ⟨d, m', p', hd, e⟩ := pick_ok hp h0 h1
  refine ⟨d, m', p', hd, ?_⟩
  have hmu : mutOf δ i = some (s, m) := by unfold mutOf; rw [hs]; simp [hm]
  simp [callF, slotA, hmu, valA, noA, hk, R.bind, slots, lend, e, unlend]

/-! ### the pens' reading -/
variable [Tbl]
theorem pens_read {K : PySem.W.Frag} {W : WX} {fm : DE → R D} {N : List Str} {vs : List V} {H : Hp} {Q : VK} {E : XK} (hN : N.length = 3)
    (hm : ∀ (ns : List Int) (m : Nat), fm [some (.val (.scr ns)), some (.val (.int m)), none] = .ok (.int ((max 1 (min ns.length m) : Nat) : Int)) [some (.val (.scr ns)), some (.val (.int m)), none])
    (h : spPens K vs H Q E) : tLc (iRng1 (tCons (rdE K W fm) tNil)) (gName 2) tYes (tCallS (spNew K 1 1 F_pen) (WE W0) (tCons (tCallS (spV K ph_cell_at) (WE W0) (tCons (tVar 0) (tCons (tVar 2) tNil))) tNil)) [2] (L2.start N vs) H Q := by
  obtain ⟨a, ns, m, rfl, hs, hl, hm', ht, q⟩ := h
  have aok : ∀ (Hx : Hp) (i : Int), Same (pl H) Hx → LamX.Tabs Tbl.T Hx → AOk K (pl Hx) Hx [.val (.scr ns), .val (.int i)] [.ref a, .int i] := fun Hx i sm tx => by
    refine ⟨pl_same, rfl, fun j s v e1 e2 => ?_, fun i j b m n e1 => ?_, tx, fun b o e => (pl_of e).2⟩
    · match j with
      | 0 =>
        cases e1; cases e2
        refine ⟨a, rfl, ?_⟩
        rcases hs with (y | ⟨o, y⟩) | y
        · exact .inl (.inl (pl_to (sm _ _ (pl_to y trivial)) trivial))
        · exact .inl (.inr ⟨o, pl_to (sm _ _ (pl_to y trivial)) trivial⟩)
        · exact .inr y
      | 1 => cases e1; cases e2; rfl
      | j + 2 => simp at e1
    · match i with
      | 0 => cases e1
      | 1 => cases e1
      | j + 2 => simp at e1
  have est : L2.start N [.ref a, .int (m : Int)] = [some (.ref a), some (.int m), none] := by
    unfold L2.start
    rw [hN]
    rfl
  have r0 := (aok H m pl_same ht).rel (N := N)
  rw [hN] at r0
  refine ⟨_, pl H, _, r0, ?_⟩
  have e0 := hm ns m
  rw [show ([Sl.val (D.scr ns), Sl.val (D.int m)].map some ++ List.replicate (3 - [Sl.val (D.scr ns), Sl.val (D.int m)].length) none : DE) = [some (.val (.scr ns)), some (.val (.int m)), none] from rfl, e0]
  intro v F1 H1 r1 s1 d1
  have d1 : v = .int _ := d1
  subst d1
  have sm1 : Same (pl H) H1 := s1.trans r1.sub
  have st1 := r1.tab.tabs
  refine ⟨_, rfl, by omega, by omega, fun D hD => ?_⟩
  have hHD : pl H D = none := by
    cases e : pl H D with
    | none => rfl
    | some o => rw [sm1 _ _ e] at hD; cases hD
  rw [est, Int.toNat_natCast]
  have hlen : (pensOf ns m).length = max 1 (min ns.length m) := by unfold pensOf; rw [List.length_map, List.length_range]
  refine lc_range (lo := 0) (fun i Hx => ∃ ps : List Addr, ps.length = i ∧ Hx D = some (.lst (ps.map V.ref)) ∧ (∀ p ∈ ps, pl H p = none) ∧ ps.Nodup ∧ D ∉ ps ∧ Same (pl H) Hx ∧ LamX.Tabs Tbl.T Hx ∧ ∀ (j : Nat) (p : Addr), ps[j]? = some p → Hx p = some (.lst (penV (penOf (ns.getD j 0))))) ?_ ?_ ?_
  · exact ⟨[], rfl, upd_same, fun p hp => (by cases hp), .nil, by simp, sm1.trans (same_new hD), st1.ext (same_new hD), fun j p e => by simp at e⟩
  · rintro i Hx hi ⟨ps, p1, p2, p3, p4, p5, p6, pt, p7⟩
    refine ⟨rfl, ?_⟩
    simp only [tYes, if_true]
    show tCallS _ _ _ _ Hx _
    refine ⟨.ref a, rfl, .int (0 + (i : Int)), rfl, ?_⟩
    obtain ⟨as', ec⟩ := cell_ok ns i
    refine ⟨pl Hx, [.val (.scr ns), .val (.int (0 + (i : Int)))], aok Hx _ p6 pt, ?_⟩
    rw [Int.zero_add, ec]
    intro v F2 H2 dn d2
    have d2 : v = .int _ := d2
    subst d2
    have sm2 : Same (pl Hx) H2 := fun b o e => dn.pres b o e fun j m' e1 => by
      match j with
      | 0 => cases e1
      | 1 => cases e1
      | j + 2 => simp at e1
    obtain ⟨δ', ep⟩ := pen_ok (ns.getD i 0)
    refine ⟨pl H2, [.val (.int (ns.getD i 0))], _, δ', ⟨pl_same, rfl, fun j s v e1 e2 => ?_, fun i j b m n e1 => ?_, dn.args.tabs, fun b o e => (pl_of e).2⟩, rfl, ep, fun p o F3 H3 dn3 h1 h2 h3 h4 => ?_⟩
    · match j with
      | 0 => cases e1; cases e2; rfl
      | j + 1 => simp at e1
    · match i with
      | 0 => cases e1
      | j + 1 => simp at e1
    · have sm3 : Same (pl H2) H3 := fun b o e => dn3.pres b o e fun j m' e1 => by
        match j with
        | 0 => cases e1
        | j + 1 => simp at e1
      have sm : Same (pl Hx) H3 := fun b o e => sm3 b o (pl_to (sm2 b o e) (pl_of e).2)
      have hxp : pl Hx p = none := by
        cases e : pl Hx p with
        | none => rfl
        | some o => rw [pl_to (sm2 _ _ e) (pl_of e).2] at h4; cases h4
      have hpD : p ≠ D := fun e => by rw [e, pl_to p2 trivial] at hxp; cases hxp
      have hpps : p ∉ ps := fun hp => by
        obtain ⟨j, ej⟩ := List.getElem?_of_mem hp
        rw [pl_to (p7 j p ej) trivial] at hxp; cases hxp
      have ho : o = .lst (penV (penOf (ns.getD i 0))) := by
        obtain ⟨xs, rfl, dx⟩ := mden_lst h2
        obtain ⟨v1, r1, rfl, c1, v2, r2, rfl, c2, v3, r3, rfl, c3, c4⟩ := dx
        rw [show v1 = _ from c1, show v2 = _ from c2, show v3 = _ from c3, show r3 = _ from c4]
        rfl
      have hD3 : H3 D = some (.lst (ps.map V.ref)) := sm _ _ (pl_to p2 trivial)
      refine ⟨_, hD3, ?_, ps ++ [p], by rw [List.length_append, p1]; rfl, ?_, ?_, ?_, ?_, ?_, tabs_upd dn3.args.tabs hD3 trivial, ?_⟩
      · rw [List.length_map, p1]
        have : sizeLine ≥ 2000 := by decide
        omega
      · rw [upd_same, List.map_append]; rfl
      · intro x hx
        rcases List.mem_append.mp hx with y | y
        · exact p3 x y
        · rw [List.mem_singleton.mp y]
          cases e : pl H p with
          | none => rfl
          | some o => rw [pl_to (p6 _ _ e) (pl_of e).2] at hxp; cases hxp
      · rw [List.nodup_append]
        refine ⟨p4, by simp, fun x hx y hy => ?_⟩
        rw [List.mem_singleton.mp hy]
        exact fun e => hpps (e ▸ hx)
      · intro hx
        rcases List.mem_append.mp hx with y | y
        · exact p5 y
        · exact hpD (List.mem_singleton.mp y).symm
      · intro b o e
        have hb : b ≠ D := fun y => by rw [y, hHD] at e; cases e
        rw [upd_ne hb]
        exact sm _ _ (pl_to (p6 _ _ e) (pl_of e).2)
      · intro j x ej
        by_cases hj : j < ps.length
        · rw [List.getElem?_append_left hj] at ej
          have hx : x ≠ D := fun y => p5 (by rw [← y]; exact List.mem_of_getElem? ej)
          rw [upd_ne hx]
          exact sm _ _ (pl_to (p7 j x ej) trivial)
        · rw [List.getElem?_append_right (by omega)] at ej
          have hj0 : j = ps.length := by
            have := (List.getElem?_eq_some_iff.mp ej).1
            simp at this
            omega
          rw [hj0, Nat.sub_self] at ej
          cases ej
          rw [upd_ne hpD, h1, ho, hj0, p1]
  · rintro Hx ⟨ps, p1, p2, p3, p4, p5, p6, pt, p7⟩
    refine q D ps Hx hHD p3 p4 p5 p6 pt p2 (by rw [p1, hlen]) fun j p qq e1 e2 => ?_
    rw [p7 j p e1]
    unfold pensOf at e2
    rw [List.getElem?_map] at e2
    obtain ⟨j', e3, e4⟩ := Option.map_eq_some_iff.mp e2
    have := (List.getElem?_eq_some_iff.mp e3)
    obtain ⟨h5, h6⟩ := this
    rw [List.getElem_range] at h6
    rw [← e4, ← h6]
end PV

/-! PV14: plain rules: loops, comprehensions, what repr can show. -/
namespace PV
open PySem PySem.Spec PyProof.Rows L2

/-! ### loops -/
theorem loop_ok {t : D → DE → Option DE} {g : DE → O} {ds : List D} (I : Nat → DE → Prop)
    (hs : ∀ (k : Nat) (d : D) (δ : DE), ds[k]? = some d → I k δ → ∃ δ1 δ2, t d δ = some δ1 ∧ g δ1 = .nx δ2 ∧ I (k + 1) δ2) :
    ∀ (δ : DE), I 0 δ → ∃ δ', loopF t g ds δ = .nx δ' ∧ I ds.length δ' := by
  have key : ∀ (n k : Nat) (δ : DE), k + n = ds.length → I k δ → ∃ δ', loopF t g (ds.drop k) δ = .nx δ' ∧ I ds.length δ' := by
    intro n
    induction n with
    | zero =>
      intro k δ e i
      rw [List.drop_eq_nil_of_le (by omega)]
      exact ⟨δ, rfl, by rw [← e]; exact i⟩
    | succ n ih =>
      intro k δ e i
      have hk : k < ds.length := by omega
      rw [List.drop_eq_getElem_cons hk]
      obtain ⟨δ1, δ2, e1, e2, e3⟩ := hs k _ δ (List.getElem?_eq_getElem hk) i
      obtain ⟨δ', e4, e5⟩ := ih (k + 1) δ2 (by omega) e3
      refine ⟨δ', ?_, e5⟩
      unfold loopF
      rw [e1]
      show (match g δ1 with | .nx δ => _ | .cnt δ => _ | .brk δ => _ | o => o) = _
      rw [e2]
      exact e4
  intro δ i
  exact key ds.length 0 δ (by omega) i
theorem penLoop_ok {i : Nat} {g : DE → O} {ps : List (Int × Int)} (I : DE → Prop)
    (hs : ∀ (p : Int × Int) (δ : DE), p ∈ ps → I δ → ∃ δ1 δ2, setSl i (.own (.lst (penD p))) δ = some δ1 ∧ g δ1 = .nx δ2 ∧ I δ2) : ∀ (δ : DE), I δ → ∃ δ', penLoop i g ps δ = .nx δ' ∧ I δ' := by
  induction ps with
  | nil => intro δ h; exact ⟨δ, rfl, h⟩
  | cons p ps ih =>
    intro δ h
    obtain ⟨δ1, δ2, e1, e2, e3⟩ := hs p δ List.mem_cons_self h
    obtain ⟨δ', e4, e5⟩ := ih (fun p δ hp => hs p δ (List.mem_cons_of_mem _ hp)) δ2 e3
    refine ⟨δ', ?_, e5⟩
    unfold penLoop
    rw [e1]
    show (match g δ1 with | .nx δ => _ | .cnt δ => _ | .brk δ => _ | o => o) = _
    rw [e2]
    exact e4
theorem pens_are {ns : List Int} {m : Nat} {p : Int × Int} (h : p ∈ pensOf ns m) : IsPen (.lst (penD p)) := by
  unfold pensOf at h
  obtain ⟨k, _, rfl⟩ := List.mem_map.mp h
  refine ⟨_, _, _, rfl, ?_, ?_, ?_⟩
  · unfold penOf; dsimp only; split <;> omega
  · have := Int.emod_nonneg (ns.getD k 0) (show (2147483629 : Int) ≠ 0 by decide)
    unfold penOf; dsimp only; omega
  · have := Int.emod_lt_of_pos (ns.getD k 0) (show (0 : Int) < 2147483629 by decide)
    unfold penOf; dsimp only; omega
/-! ### comprehensions whose parts change nothing -/
theorem lcLoop_map {t : D → DE → Option DE} {elt : DE → R D} {vs : List Nat} {δw : DE} (e : D → D) :
    ∀ (ds : List D) (acc : List D), acc.length + ds.length ≤ LIM → (∀ d ∈ ds, ∃ δ1 δ2, t d δw = some δ1 ∧ elt δ1 = .ok (e d) δ2 ∧ wipeD δ2 vs = some δw) → lcLoop t noCond elt vs ds δw acc = .ok (acc ++ ds.map e) δw
  | [], acc, _, _ => by unfold lcLoop; rw [List.map_nil, List.append_nil]
  | d :: ds, acc, hl, h => by
    obtain ⟨δ1, δ2, e1, e2, e3⟩ := h d List.mem_cons_self
    rw [List.length_cons] at hl
    have ih := lcLoop_map e ds (acc ++ [e d]) (by rw [List.length_append, List.length_singleton]; omega) fun d hd => h d (List.mem_cons_of_mem _ hd)
    unfold lcLoop
    simp [e1, noCond, R.calm, R.bind, e2, show acc.length < LIM by omega, e3, ih]
theorem lc_map {f : DE → R (List D)} {t : D → DE → Option DE} {elt : DE → R D} {vs : List Nat} {δ δ0 δw : DE} {ds : List D} (e : D → D) (hf : f δ = .ok ds δ0) (hw : wipeD δ0 vs = some δw) (hl : ds.length ≤ LIM)
    (h : ∀ d ∈ ds, ∃ δ1 δ2, t d δw = some δ1 ∧ elt δ1 = .ok (e d) δ2 ∧ wipeD δ2 vs = some δw) : lcN f t noCond elt vs δ = .ok (.lst (ds.map e)) (unwipe δ0 δw vs) := by
  unfold lcN
  simp [hf, R.bind, hw, lcLoop_map e ds [] (by simpa using hl) h]
/-! ### what repr can show -/
def ShowOk (n k : Nat) (d : D) : Prop := ∃ p, d.py = some p ∧ p.canLay0 = true ∧ p.intsShort 13 = true ∧ p.showable = true ∧ p.depth ≤ k ∧ p.weight ≤ n
theorem ShowOk.mono {n n' k k' : Nat} {d : D} (h : ShowOk n k d) (a : n ≤ n') (b : k ≤ k') : ShowOk n' k' d := by
  obtain ⟨p, h1, h2, h3, h4, h5, h6⟩ := h
  exact ⟨p, h1, h2, h3, h4, by omega, by omega⟩
theorem ShowOk.int {i : Int} (h : i.natAbs < 10 ^ 12) : ShowOk 41 1 (.int i) := by
  have hl : i.natAbs.log2 < 40 := by
    by_cases h0 : i.natAbs = 0
    · rw [h0]; decide
    · exact (Nat.log2_lt h0).mpr (by have : (10 : Nat) ^ 12 < 2 ^ 40 := by decide
                                     omega)
  refine ⟨.int i, by unfold D.py; rfl, by simp [PyData.canLay0], by simp only [PyData.intsShort, decide_eq_true_eq]; exact PyData.shown_int_le h, by simp only [PyData.showable, decide_eq_true_eq]; omega, by simp [PyData.depth], ?_⟩
  simp only [PyData.weight]
  split <;> omega
theorem ShowOk.str {s : Str} (h : PyData.strOk s = true) : ShowOk s.cps.size 1 (.str s) := ⟨.str s, by unfold D.py; rfl, by simpa [PyData.canLay0] using h, by simp [PyData.intsShort], by simp [PyData.showable], by simp [PyData.depth], by simp [PyData.weight]⟩
theorem ShowOk.non : ShowOk 0 1 .non := ⟨.none, by unfold D.py; rfl, by simp [PyData.canLay0], by simp [PyData.intsShort], by simp [PyData.showable], by simp [PyData.depth], by simp [PyData.weight]⟩
theorem ShowOk.bl {b : Bool} : ShowOk 0 1 (.bl b) := ⟨.bool b, by unfold D.py; rfl, by simp [PyData.canLay0], by simp [PyData.intsShort], by simp [PyData.showable], by simp [PyData.depth], by simp [PyData.weight]⟩
theorem ShowOk.all {n k : Nat} : ∀ {l : List D}, (∀ d ∈ l, ShowOk n k d) → ∃ ps, D.pys l = some ps ∧ PyData.canLayAll0 ps = true ∧ PyData.intsShortAll 13 ps = true ∧ PyData.showableAll ps = true ∧ PyData.depthAll ps ≤ k ∧ PyData.weightAll ps ≤ l.length * (n + 1)
  | [], _ => ⟨[], by unfold D.pys; rfl, by simp [PyData.canLayAll0], by simp [PyData.intsShortAll], by simp [PyData.showableAll], by simp [PyData.depthAll], by simp [PyData.weightAll]⟩
  | d :: l, h => by
    obtain ⟨p, h1, h2, h3, h4, h5, h6⟩ := h d List.mem_cons_self
    obtain ⟨ps, g1, g2, g3, g4, g5, g6⟩ := ShowOk.all (l := l) fun d hd => h d (List.mem_cons_of_mem _ hd)
    refine ⟨p :: ps, by unfold D.pys; rw [h1, g1]; rfl, by simp [PyData.canLayAll0, h2, g2], by simp [PyData.intsShortAll, h3, g3], by simp [PyData.showableAll, h4, g4], by simp only [PyData.depthAll]; omega, ?_⟩
    simp only [PyData.weightAll, List.length_cons, Nat.add_mul]
    omega
theorem ShowOk.lst {n k : Nat} {l : List D} (h : ∀ d ∈ l, ShowOk n k d) : ShowOk (l.length * (n + 1)) (k + 1) (.lst l) := by
  obtain ⟨ps, g1, g2, g3, g4, g5, g6⟩ := ShowOk.all h
  exact ⟨.list ps, by unfold D.py; rw [g1]; rfl, by simpa [PyData.canLay0] using g2, by simpa [PyData.intsShort] using g3, by simpa [PyData.showable] using g4, by simp only [PyData.depth]; omega, by simpa [PyData.weight] using g6⟩
theorem ShowOk.tup {n k : Nat} {l : List D} (h : ∀ d ∈ l, ShowOk n k d) : ShowOk (l.length * (n + 1)) (k + 1) (.tup l) := by
  obtain ⟨ps, g1, g2, g3, g4, g5, g6⟩ := ShowOk.all h
  exact ⟨.tuple ps, by unfold D.py; rw [g1]; rfl, by simpa [PyData.canLay0] using g2, by simpa [PyData.intsShort] using g3, by simpa [PyData.showable] using g4, by simp only [PyData.depth]; omega, by simpa [PyData.weight] using g6⟩
theorem ShowOk.shows {n k : Nat} {d : D} (h : ShowOk n k d) (hn : n ≤ 60000) (hk : k ≤ 60) : ∃ s, shows d = some s := by
  obtain ⟨p, h1, h2, h3, h4, h5, h6⟩ := h
  have z := PyData.shown_le 13 (by decide) p (PyData.leavesShort_of_canLay0 13 p h2 h3)
  refine ⟨p.shown, ?_⟩
  unfold PV.shows
  rw [h1]
  simp only [Option.bind_some]
  rw [if_pos ⟨h4, h2, by omega, by unfold LIM; omega⟩]
noncomputable def F_same : DE → O := (retS (op2 eqD (callB reprD (valA (var 0) noA)) (callB reprD (valA (var 1) noA))))
noncomputable def ph_same : List Sl → FR := fnF 2 2 F_same
theorem same_ok {n k : Nat} {d : D} (h : ShowOk n k d) (hn : n ≤ 60000) (hk : k ≤ 60) : ph_same [.val d, .val d] = .ret (.bl true) [.val d, .val d] := by
  obtain ⟨s, e⟩ := h.shows hn hk
  simp (disch := first | assumption | with_reducible rfl | omega | rfl) [fnF, thenS, skipS, retS, dropS, ifS, setS, ownS, bindS, R.bind, R.of, cst, var, op2, tst, andT, orT, notT, andE, orE, notE, ifE, chn, callB, callN, valA, noA, peeks, peekA, PV.addA_int, PV.mulA_l, PV.mulA_r, PV.isub_int, PV.idiv_int, PV.imod_int, PV.ipow_int, PV.ilt_int, PV.ile_int, PV.igt_int, PV.ige_int, PV.eqD_int, PV.eqD_str, negE, lenD, max2D, min2D, ixSl, putS, mutOf, Sl.mut, Sl.wr, atI, ixN, setSl_z, setSl_v, setSl_o, setSl_x, setSl_s, Option.map_some, ixD, lstN, tupE, valsOf, ofN, MD.d, LIM, back, appS, List.getElem?_cons_zero, List.getElem?_cons_succ, callF, lend, unlend, slots, slotA, nmG, tupG, consG, nilG, listN, tupleD, ph_same, F_same, reprD, e]
end PV

/-! PV15: small steps: what each form gives, from what its parts give. -/
namespace PV
open PySem PySem.Spec PyProof.Rows L2
section
variable {δ δ1 δ2 δ3 : DE} {x y z d : D} {f fa fb fc : DE → R D} {o o' : D → D → Option D} {t t' : DE → R Bool} {g h : DE → O} {r ra : DE → R (List Arg)} {as : List Arg} {i : Nat} {m : MD} {fm : DE → R MD} {b : Bool}
theorem e_op2 (ha : fa δ = .ok x δ1) (hb : fb δ1 = .ok y δ2) (ho : o x y = some z) : op2 o fa fb δ = .ok z δ2 := by unfold op2; rw [ha]; simp only [R.bind]; rw [hb]; simp only [R.bind]; rw [ho]; rfl
theorem e_tst (hf : f δ = .ok (.bl b) δ1) : tst f δ = .ok b δ1 := by unfold tst; rw [hf]; rfl
theorem e_notT (hf : t δ = .ok b δ1) : notT t δ = .ok (!b) δ1 := by unfold notT; rw [hf]; rfl
theorem e_orT_t (hf : t δ = .ok true δ1) : orT t t' δ = .ok true δ1 := by unfold orT; rw [hf]; rfl
theorem e_orT_f (hf : t δ = .ok false δ1) : orT t t' δ = t' δ1 := by unfold orT; rw [hf]; rfl
theorem e_andT_f (hf : t δ = .ok false δ1) : andT t t' δ = .ok false δ1 := by unfold andT; rw [hf]; rfl
theorem e_andT_t (hf : t δ = .ok true δ1) : andT t t' δ = t' δ1 := by unfold andT; rw [hf]; rfl
theorem e_andE_t (hf : fa δ = .ok (.bl true) δ1) : andE fa fb δ = fb δ1 := by unfold andE; rw [hf]; rfl
theorem e_andE_f (hf : fa δ = .ok (.bl false) δ1) : andE fa fb δ = .ok (.bl false) δ1 := by unfold andE; rw [hf]; rfl
theorem e_orE_f (hf : fa δ = .ok (.bl false) δ1) : orE fa fb δ = fb δ1 := by unfold orE; rw [hf]; rfl
theorem e_orE_t (hf : fa δ = .ok (.bl true) δ1) : orE fa fb δ = .ok (.bl true) δ1 := by unfold orE; rw [hf]; rfl
theorem e_notE (hf : f δ = .ok (.bl b) δ1) : notE f δ = .ok (.bl (!b)) δ1 := by unfold notE; rw [hf]; rfl
theorem e_ifE_t (hf : t δ = .ok true δ1) : ifE t fa fb δ = fa δ1 := by unfold ifE; rw [hf]; rfl
theorem e_ifE_f (hf : t δ = .ok false δ1) : ifE t fa fb δ = fb δ1 := by unfold ifE; rw [hf]; rfl
theorem e_chn_t {w : D} (ha : fa δ = .ok x δ1) (hb : fb δ1 = .ok y δ2) (ho : o x y = some (.bl true)) (hc : fc δ2 = .ok w δ3) (ho' : o' y w = some z) : chn o o' fa fb fc δ = .ok z δ3 := by
  unfold chn; rw [ha]; simp only [R.bind]; rw [hb]; simp only [R.bind]; rw [ho]; simp only [R.of]; rw [hc]; simp only; rw [ho']
theorem e_valA (hf : f δ = .ok d δ1) (hr : r δ1 = .ok as δ2) : valA f r δ = .ok (.val d :: as) δ2 := by unfold valA; rw [hf]; simp only [R.bind]; rw [hr]
theorem e_slotA {p : Sl × MD} (hm : mutOf δ i = some p) (hr : r δ = .ok as δ2) : slotA i r δ = .ok (.slot i :: as) δ2 := by unfold slotA; rw [hm]; simp only [R.bind]; rw [hr]
theorem e_callB {ds : List D} {ob : List D → Option D} (ha : ra δ = .ok as δ1) (hp : peeks δ1 as = some ds) (ho : ob ds = some z) : callB ob ra δ = .ok z δ1 := by unfold callB; rw [ha]; simp only [R.bind]; rw [hp]; simp only; rw [ho]; rfl
theorem e_callN {ds : List D} {ob : List D → Option MD} (ha : ra δ = .ok as δ1) (hp : peeks δ1 as = some ds) (ho : ob ds = some m) : callN ob ra δ = .ok m δ1 := by unfold callN; rw [ha]; simp only [R.bind]; rw [hp]; simp only; rw [ho]; rfl
theorem e_callF {φ : List Sl → FR} {ss ss' : List Sl} (ha : ra δ = .ok as δ1) (hn : (slots as).Nodup) (hl : lend δ1 as = some ss) (hφ : φ ss = .ret d ss') (hu : unlend δ1 as ss' = δ2 := by rfl) : callF φ ra δ = .ok d δ2 := by
  subst hu
  unfold callF; rw [ha]; simp only [R.bind]; rw [if_pos hn, hl]; simp only; rw [hφ]
theorem e_tupE {ds : List D} (ha : ra δ = .ok as δ1) (hv : valsOf as = some ds) (hl : ds.length ≤ LIM := by simp [LIM]) : tupE ra δ = .ok (.tup ds) δ1 := by unfold tupE; rw [ha]; simp only [R.bind]; rw [hv]; simp only; rw [if_pos hl]
theorem e_lstN {ds : List D} (ha : ra δ = .ok as δ1) (hv : valsOf as = some ds) (hl : ds.length ≤ LIM := by simp [LIM]) : lstN ra δ = .ok (.lst ds) δ1 := by unfold lstN; rw [ha]; simp only [R.bind]; rw [hv]; simp only; rw [if_pos hl]
theorem e_ofN (hm : fm δ = .ok m δ1) : ofN fm δ = .ok m.d δ1 := by unfold ofN; rw [hm]; rfl
theorem e_then (hg : g δ = .nx δ1) : thenS g h δ = h δ1 := by unfold thenS; rw [hg]
theorem e_ret (hf : f δ = .ok d δ1) : retS f δ = .ret d δ1 := by unfold retS; rw [hf]; rfl
theorem e_drop (hf : f δ = .ok d δ1) : dropS f δ = .nx δ1 := by unfold dropS; rw [hf]; rfl
theorem e_if_t (hf : t δ = .ok true δ1) : ifS t g h δ = g δ1 := by unfold ifS; rw [hf]; rfl
theorem e_if_f (hf : t δ = .ok false δ1) : ifS t g h δ = h δ1 := by unfold ifS; rw [hf]; rfl
theorem e_set (hf : f δ = .ok d δ1) (hs : setSl i (.val d) δ1 = some δ2) : setS i f δ = .nx δ2 := by unfold setS; rw [hf]; simp only [bindS]; rw [hs]
theorem e_own (hf : fm δ = .ok m δ1) (hs : setSl i (.own m) δ1 = some δ2) : ownS i fm δ = .nx δ2 := by unfold ownS; rw [hf]; simp only [bindS]; rw [hs]
theorem e_app {s s' : Sl} {l l' : List D} (h0 : mutOf δ i = some (s', .lst l')) (hf : f δ = .ok d δ1) (h1 : mutOf δ1 i = some (s, .lst l)) (hl : l.length < LIM) : appS i f δ = .nx (δ1.set i (some (s.wr (.lst (l ++ [d]))))) := by
  unfold appS; rw [h0]; simp only; rw [hf]; simp only [bindS]; rw [h1]; simp only; rw [if_pos hl]
theorem e_for {fi : DE → R (List D)} {tg : D → DE → Option DE} {ds : List D} (hf : fi δ = .ok ds δ1) : forS fi tg g δ = loopF tg g ds δ1 := by unfold forS; rw [hf]; rfl
theorem e_seq {l : List D} (hf : f δ = .ok (.lst l) δ1) : seqE f δ = .ok l δ1 := by unfold seqE; rw [hf]; rfl
theorem e_seqT {l : List D} (hf : f δ = .ok (.tup l) δ1) : seqE f δ = .ok l δ1 := by unfold seqE; rw [hf]; rfl
theorem e_rng1 {j : Int} (ha : ra δ = .ok [.val (.int j)] δ1) (h1 : j < 2 ^ 62) (h2 : -(2 ^ 62) ≤ j) : rng1 ra δ = .ok ((List.range j.toNat).map fun i => .int ((0 : Int) + (i : Nat))) δ1 := by
  unfold rng1; rw [ha]; simp only [R.bind]; rw [if_pos ⟨h1, h2⟩]
theorem e_enumT {l : List D} (ha : ra δ = .ok [.val (.tup l)] δ1) : enumE ra δ = .ok (pairsD l) δ1 := by unfold enumE; rw [ha]; rfl
theorem e_enumL {l : List D} (ha : ra δ = .ok [.val (.lst l)] δ1) : enumE ra δ = .ok (pairsD l) δ1 := by unfold enumE; rw [ha]; rfl
theorem e_parVN {j : Nat} (hf : f δ = .ok d δ1) (hm : fm δ1 = .ok m δ2) (h1 : setSl i (.val d) δ2 = some δ3) {δ4 : DE} (h2 : setSl j (.own m) δ3 = some δ4) : parVN i j f fm δ = .nx δ4 := by
  unfold parVN; rw [hf]; simp only [bindS]; rw [hm]; simp only; rw [h1]; simp only; rw [h2]
theorem e_fn {n N : Nat} {as : List Sl} (hl : as.length = n) (hg : g (as.map some ++ List.replicate (N - n) none) = .ret d δ1) : fnF n N g as = .ret d (back as δ1) := by unfold fnF; rw [if_pos hl, hg]
theorem e_fnN {n N : Nat} {as : List Sl} (hl : as.length = n) (hg : g (as.map some ++ List.replicate (N - n) none) = .nx δ1) : fnF n N g as = .ret .non (back as δ1) := by unfold fnF; rw [if_pos hl, hg]
theorem e_put {s : Sl} {l : List D} {k : Int} {j : Nat} {fk : DE → R D} {p : Sl × MD} (hf : f δ = .ok d δ1) (h0 : mutOf δ1 i = some p) (hk : fk δ1 = .ok (.int k) δ2) (h1 : mutOf δ2 i = some (s, .lst l)) (hj : ixN l.length k = some j) : putS i fk f δ = .nx (δ2.set i (some (s.wr (.lst (l.set j d))))) := by
  unfold putS; rw [hf]; simp only [bindS]; rw [h0]; simp only; rw [hk]; simp only; rw [h1]; simp only; rw [hj]
theorem e_ixSl {s : Sl} {l : List D} {k : Int} {p : Sl × MD} (h0 : mutOf δ i = some p) (hk : fb δ = .ok (.int k) δ1) (h1 : mutOf δ1 i = some (s, .lst l)) (ha : L2.atI l k = some d) : ixSl i fb δ = .ok d δ1 := by
  unfold ixSl; rw [h0]; simp only; rw [hk]; simp only [R.bind]; rw [h1]; simp only; rw [ha]; rfl
end
theorem atI_nat {α : Type} {l : List α} {k : Nat} {d : α} (h : l[k]? = some d) : L2.atI l (k : Int) = some d := by
  have hk := (List.getElem?_eq_some_iff.mp h).1
  unfold L2.atI L2.ixN
  rw [if_pos (by omega), if_pos (by omega)]
  exact h
theorem ixN_nat {n k : Nat} (h : k < n) : L2.ixN n (k : Int) = some k := by
  unfold L2.ixN
  rw [if_pos (by omega), if_pos (by omega), Int.toNat_natCast]
end PV

/-! PV16: plain facts on lists of whole numbers, enumerations, comprehensions with a test. -/
namespace PV
open PySem PySem.Spec PyProof.Rows L2
theorem lcLoop_fm {t : D → DE → Option DE} {cond : DE → R Bool} {elt : DE → R D} {vs : List Nat} {δw : DE} (q : D → Option D) :
    ∀ (ds : List D) (acc : List D), acc.length + ds.length ≤ LIM → (∀ d ∈ ds, ∃ δ1, t d δw = some δ1 ∧ ((q d = none ∧ ∃ δ2, cond δ1 = .ok false δ2 ∧ wipeD δ2 vs = some δw) ∨
      ∃ y δ2 δ3, q d = some y ∧ cond δ1 = .ok true δ2 ∧ elt δ2 = .ok y δ3 ∧ wipeD δ3 vs = some δw)) → lcLoop t cond elt vs ds δw acc = .ok (acc ++ ds.filterMap q) δw
  | [], acc, _, _ => by unfold lcLoop; rw [List.filterMap_nil, List.append_nil]
  | d :: ds, acc, hl, h => by
    obtain ⟨δ1, e1, k⟩ := h d List.mem_cons_self
    rw [List.length_cons] at hl
    rcases k with ⟨q1, δ2, e2, e3⟩ | ⟨y, δ2, δ3, q1, e2, e3, e4⟩
    · have ih := lcLoop_fm q ds acc (by omega) fun d hd => h d (List.mem_cons_of_mem _ hd)
      unfold lcLoop
      simp [e1, R.calm, R.bind, e2, e3, ih, q1]
    · have ih := lcLoop_fm q ds (acc ++ [y]) (by rw [List.length_append, List.length_singleton]; omega) fun d hd => h d (List.mem_cons_of_mem _ hd)
      unfold lcLoop
      simp [e1, R.calm, R.bind, e2, e3, show acc.length < LIM by omega, e4, ih, q1]
theorem lc_fm {f : DE → R (List D)} {t : D → DE → Option DE} {cond : DE → R Bool} {elt : DE → R D} {vs : List Nat} {δ δ0 δw : DE} {ds : List D} (q : D → Option D) (hf : f δ = .ok ds δ0) (hw : wipeD δ0 vs = some δw) (hl : ds.length ≤ LIM)
    (h : ∀ d ∈ ds, ∃ δ1, t d δw = some δ1 ∧ ((q d = none ∧ ∃ δ2, cond δ1 = .ok false δ2 ∧ wipeD δ2 vs = some δw) ∨
      ∃ y δ2 δ3, q d = some y ∧ cond δ1 = .ok true δ2 ∧ elt δ2 = .ok y δ3 ∧ wipeD δ3 vs = some δw)) : lcN f t cond elt vs δ = .ok (.lst (ds.filterMap q)) (unwipe δ0 δw vs) := by
  unfold lcN
  simp [hf, R.bind, hw, lcLoop_fm q ds [] (by simpa using hl) h]
theorem pairs_at0 {l : List D} {k : Nat} {d : D} (h : (pairsD l)[k]? = some d) : ∃ x, l[k]? = some x ∧ d = .tup [.int k, x] := by
  unfold pairsD at h
  rw [List.getElem?_zipWith] at h
  have hk : k < l.length := by
    by_cases hk : k < l.length
    · exact hk
    · rw [List.getElem?_eq_none (l := l) (by omega)] at h
      split at h <;> simp_all
  rw [List.getElem?_range hk, List.getElem?_eq_getElem hk] at h
  exact ⟨_, List.getElem?_eq_getElem hk, (Option.some.inj h).symm⟩
theorem pairs_at {l : List D} {k : Nat} {x : D} (h : l[k]? = some x) : (pairsD l)[k]? = some (.tup [.int k, x]) := by
  have hk := (List.getElem?_eq_some_iff.mp h).1
  unfold pairsD
  rw [List.getElem?_zipWith, List.getElem?_range hk, h]
theorem ints_of : ∀ (l : List Int), intsOf (l.map D.int) = some l
  | [] => rfl
  | x :: l => by show (intsOf (l.map D.int)).map _ = _; rw [ints_of l]; rfl
theorem maxLD_ints {l : List Int} (h : l ≠ []) : maxLD [.lst (l.map D.int)] = some (.int (maxI l)) := by
  show (intsOf (l.map D.int)).bind _ = _
  rw [ints_of]
  show (if l = [] then none else some (D.int (maxI l))) = _
  rw [if_neg h]
theorem minLD_ints {l : List Int} (h : l ≠ []) : minLD [.lst (l.map D.int)] = some (.int (minI l)) := by
  show (intsOf (l.map D.int)).bind _ = _
  rw [ints_of]
  show (if l = [] then none else some (D.int (minI l))) = _
  rw [if_neg h]
theorem sumLD_ints {l : List Int} : sumLD [.lst (l.map D.int)] = some (.int l.sum) := by
  show (intsOf (l.map D.int)).map _ = _
  rw [ints_of]; rfl
theorem bls_of : ∀ (l : List Bool), blsOf (l.map D.bl) = some l
  | [] => rfl
  | x :: l => by show (blsOf (l.map D.bl)).map _ = _; rw [bls_of l]; rfl
theorem allD_bls {l : List Bool} : allD [.lst (l.map D.bl)] = some (.bl (l.all id)) := by
  show (blsOf (l.map D.bl)).map _ = _
  rw [bls_of]; rfl
theorem anyD_bls {l : List Bool} : anyD [.lst (l.map D.bl)] = some (.bl (l.any id)) := by
  show (blsOf (l.map D.bl)).map _ = _
  rw [bls_of]; rfl
theorem flats_ints : ∀ (l : List Int), flats (l.map D.int) = some (l.map V.int)
  | [] => rfl
  | x :: l => by show (some (V.int x)).bind _ = _; rw [flats_ints l]; rfl
theorem inV_int {k : Int} : ∀ {l : List Int}, inV (.int k) (l.map V.int) = decide (k ∈ l) := by
  intro l
  unfold inV
  induction l with
  | nil => simp
  | cons x l ih =>
    rw [List.map_cons, List.any_cons, ih]
    show (eqV (V.int x) (V.int k) || _) = _
    unfold eqV
    by_cases h : x = k
    · subst h; simp
    · have h' : ¬ k = x := fun e => h e.symm
      simp [h, h']
theorem inF_int {k : Int} {l : List Int} : inF false (.int k) (.lst (l.map D.int)) = some (.bl (decide (k ∈ l))) := by
  unfold inF
  show (match some (V.int k), flats (l.map D.int) with | some u, some us => _ | _, _ => none) = _
  rw [flats_ints]
  show some (D.bl (if false = true then !inV (V.int k) (l.map V.int) else inV (V.int k) (l.map V.int))) = _
  rw [if_neg Bool.false_ne_true, inV_int]
theorem maxI_le {l : List Int} {b : Int} (hn : l ≠ []) (h : ∀ x ∈ l, x ≤ b) : maxI l ≤ b := h _ (by
  induction l with
  | nil => exact absurd rfl hn
  | cons x l ih => cases l with
    | nil => exact List.mem_cons_self
    | cons y r =>
      show max x (maxI (y :: r)) ∈ _
      rcases Int.le_total x (maxI (y :: r)) with q | q
      · rw [Int.max_eq_right q]; exact List.mem_cons_of_mem _ (ih (by simp) fun z hz => h z (List.mem_cons_of_mem _ hz))
      · rw [Int.max_eq_left q]; exact List.mem_cons_self)
theorem le_maxI {l : List Int} {x : Int} (h : x ∈ l) : x ≤ maxI l := by
  induction l with
  | nil => cases h
  | cons y l ih => cases l with
    | nil => rw [List.mem_singleton.mp h]; exact Int.le_refl _
    | cons z r =>
      show x ≤ max y (maxI (z :: r))
      rcases List.mem_cons.mp h with q | q
      · omega
      · have := ih q; omega
theorem maxI_snoc {l : List Int} {x : Int} (h : l ≠ []) : maxI (l ++ [x]) = max (maxI l) x := by
  induction l with
  | nil => exact absurd rfl h
  | cons y l ih => cases l with
    | nil => rfl
    | cons z r =>
      show max y (maxI (z :: (r ++ [x]))) = max (max y (maxI (z :: r))) x
      have e : maxI (z :: (r ++ [x])) = max (maxI (z :: r)) x := ih (by simp)
      rw [e]; omega
theorem ne_nil_ints (l : List Int) : neD (.lst (l.map D.int)) (.lst []) = some (.bl (decide (l ≠ []))) := by
  have hp : ∀ l : List Int, ∃ ps, D.pys (l.map D.int) = some ps ∧ PyData.canLayAll0 ps = true ∧ PyData.depthAll ps = 0 ∧ ps.length = l.length := by
    intro l
    induction l with
    | nil => exact ⟨[], by unfold D.pys; rfl, by simp [PyData.canLayAll0], by simp [PyData.depthAll], rfl⟩
    | cons x l ih =>
      obtain ⟨ps, h1, h2, h3, h4⟩ := ih
      exact ⟨.int x :: ps, by rw [List.map_cons]; unfold D.pys; rw [h1]; unfold D.py; rfl, by simp [PyData.canLayAll0, PyData.canLay0, h2], by simp [PyData.depthAll, PyData.depth, h3], by simp [h4]⟩
  obtain ⟨ps, h1, h2, h3, h4⟩ := hp l
  have e1 : D.py (.lst (l.map D.int)) = some (.list ps) := by unfold D.py; rw [h1]; rfl
  have e2 : D.py (.lst []) = some (.list []) := by unfold D.py D.pys; rfl
  have s1 : SeqAt.shaped (.list ps) = true := by unfold SeqAt.shaped; simp [PyData.canLay0, h2, PyData.depth, h3]
  have s2 : SeqAt.shaped (.list []) = true := by decide +kernel
  have q : eqP (.lst (l.map D.int)) (.lst []) = some (PyData.eqv (.list ps) (.list [])) := by
    unfold eqP; rw [e1, e2]; simp only; rw [if_pos ⟨s1, s2⟩]
  show ((none : Option Bool).or (eqP (.lst (l.map D.int)) (.lst []))).map _ = _
  rw [q]
  cases l with
  | nil =>
    cases ps with
    | nil => simp [PyData.eqv, PyData.eqvAll]
    | cons p ps => simp at h4
  | cons x l =>
    cases ps with
    | nil => simp at h4
    | cons p ps => simp [PyData.eqv, PyData.eqvAll]
theorem lmul_one {d : D} {c : Nat} (h : c ≤ 1000) : lmul (.lst [d]) (.int c) = some (.lst (List.replicate c d)) := by
  show (if 0 ≤ (c : Int) ∧ (c : Int) ≤ 1000 ∧ [d].length ≤ 1000 then some (D.lst (List.replicate (c : Int).toNat [d]).flatten) else none) = _
  rw [if_pos ⟨by omega, by omega, by simp⟩, Int.toNat_natCast]
  congr 2
  induction c with
  | zero => rfl
  | succ c ih => rw [List.replicate_succ, List.flatten_cons, ih (by omega), List.replicate_succ]; rfl
end PV
namespace PV
open PySem PySem.Spec PyProof.Rows L2
/-- a slot without an object -/
def nv : Option Sl → Bool
  | none => true
  | some (.val _) => true
  | _ => false
theorem nv_nb {x : Option Sl} (h : nv x = true) : nb x = true := by
  cases x with
  | none => rfl
  | some s => cases s <;> first | rfl | cases h
theorem nv_mut {s : Sl} {m : MD} (h : nv (some s) = true) (g : s.mut = some m) : False := by
  cases s <;> first | cases h; done | cases g
theorem flat_ints (l : List Int) : MD.flat (.lst (l.map D.int)) = true := by
  show (flats (l.map D.int)).isSome = true
  rw [flats_ints]; rfl
theorem e_thaw {j : Nat} {f : DE → R MD} {δ : DE} {m m' : MD} (hj : δ[j]? = some (some (.own m))) (hf : f (δ.set j (some (.val m.d))) = .ok m' (δ.set j (some (.val m.d)))) (h1 : m'.flat = true) (h2 : flatEnv δ) : thawN j f δ = .ok m' δ := by
  unfold thawN
  rw [hj]
  simp only
  rw [hf]
  simp only
  rw [if_pos ⟨rfl, h1, h2⟩]
theorem pairs_ints (l : List Int) : pairsD (l.map D.int) = (List.range l.length).map fun k => .tup [.int (k : Nat), .int (l.getD k 0)] := by
  apply List.ext_getElem?
  intro k
  by_cases hk : k < l.length
  · rw [pairs_at (x := .int (l.getD k 0)), List.getElem?_map, List.getElem?_range hk]
    · rfl
    · rw [List.getElem?_map, List.getElem?_eq_getElem hk]; simp [hk]
  · rw [List.getElem?_eq_none (by rw [pairs_len, List.length_map]; omega), List.getElem?_eq_none (by rw [List.length_map, List.length_range]; omega)]
/-- every slot of a list is without an object, or its object is flat -/
theorem flatEnv_of {δ : DE} (h : ∀ x ∈ δ, nv x = true ∨ ∃ (s : Sl) (l : List Int), x = some s ∧ s.mut = some (.lst (l.map D.int))) : flatEnv δ := fun i s m e g => by
  rcases h _ (List.mem_of_getElem? e) with q | ⟨s', l, q, q2⟩
  · exact (nv_mut q g).elim
  · cases q
    rw [q2] at g; cases g
    exact flat_ints l
end PV
theorem PV.ixD_head {x : PV.D} {l : List PV.D} : PV.ixD (.lst (x :: l)) (.int 0) = some x := PV.atI_nat (k := 0) rfl
theorem PV.e_lrg1 {f : PV.DE → PV.R PV.D} {δ δ1 : PV.DE} {n : Nat} (h : f δ = .ok (.int n) δ1) (hn : n ≤ 10000) : PV.lrg1 f δ = .ok (.lst (((List.range n).map fun i => ((i : Nat) : Int)).map PV.D.int)) δ1 := by
  unfold PV.lrg1
  rw [h]
  simp only [PV.R.bind]
  rw [if_pos (by omega), Int.toNat_natCast, List.map_map]
  rfl

/-! PV17: exceptions of own classes: raise, try with clauses. -/
namespace PV
open PySem PySem.Spec PyProof.Rows L2
variable [Tbl]

def raiseS (n : Str) : DE → O := fun δ => .exc ⟨n, []⟩ δ
/-- who catches: em tells whether an exception of the first class is one of the second -/
def catchF (em : Str → Str → Option Bool) (x : XD) (δ : DE) : List (Str × (DE → O)) → O
  | [] => .exc x δ
  | (n, h) :: r => match em x.c n with
    | some true => h δ
    | some false => catchF em x δ r
    | none => .stuck
def tryS (em : Str → Str → Option Bool) (g : DE → O) (hs : List (Str × (DE → O))) : DE → O := fun δ => match g δ with
  | .exc x δ1 => catchF em x δ1 hs
  | o => o
def EmOk (K : PySem.W.Frag) (em : Str → Str → Option Bool) : Prop := ∀ n m b C C', em n m = some b → ClsIs K n C → ClsIs K m C' → PySem.W.exmOne K C C' = some b
inductive VHds (X : Cx) (W : WX) : List ExceptHandler → List (Str × (DE → O)) → List (Value × (Addr → Value → Option Addr → TS)) → Prop
  | nil : VHds X W [] [] []
  | cons {x : Str} {c : Value} {g : DE → O} {b₀ : Stmt} {suite : List Stmt} {np pos' : Pos} {hds : List ExceptHandler} {l : List (Str × (DE → O))} {l' : List (Value × (Addr → Value → Option Addr → TS))} (hc : Names X x c) (hk : ClsIs X.K x c)
      (hsu : ∀ (a : Addr) (pn : List (Addr × Obj)), VSs (X.suite a pn) W (b₀ :: suite) g) (r : VHds X W hds l l') :
      VHds X W (.ExceptHandler (some (.Name x np)) none (b₀ :: suite) pos' :: hds) ((x, g) :: l) ((c, fun _ _ _ => rdS X.K W g) :: l')
theorem VHds.ok {X : Cx} {W : WX} : ∀ {hds : List ExceptHandler} {l : List (Str × (DE → O))} {l' : List (Value × (Addr → Value → Option Addr → TS))}, VHds X W hds l l' → HdsOk X hds l'
  | _, _, _, .nil => .nil
  | _, _, _, .cons hc _ hsu r => .cons hc (fun a oe cls d pn _ _ => hsu a ((a, oe) :: pn)) r.ok
section
variable {X : Cx} {W : WX}
theorem vs_raise {B newId initId : String} {bmB : List Value} {C : Addr} {x m : Str} {j : Nat} {p p2 pos pos' : Pos} (hc : X.calm = true) (tk : Takes X W) (F : ExcBaseFacts B newId initId bmB) (q : PySem.W.excIn X.K C bmB newId = true) (gC : X.mg x = some (.ref C)) (kC : PySem.W.keepIn X.K (.ref C) = true)
    (b : PySem.W.subIn X.K (.ref C) (.type "BaseException") = some true) (t : PySem.W.typeIn X.K (.ref C) = some (.type "type")) (nC : PySem.W.nsIn X.K mainGlobals x = some (some (.ref C))) (hg : Gl X x) (hdb : (x == ("__debug__" : Str)) = false := by decide) :
    VS X W (.Raise (some (.Call (.Name x p) [.Constant (.str m) j p2] [] pos)) none pos') (raiseS x) := PS.to (ps_raise hc tk (pmk_own F q gC kC (raises_own b t) hg hdb)) fun N σ H z => by
  obtain ⟨c, F1, δ, r, z⟩ := z
  exact z (.ref C) none σ F1 H r (.refl _) ⟨.inl nC, rfl⟩
theorem catch_rd {K : PySem.W.Frag} {em : Str → Str → Option Bool} (he : EmOk K em) {x : XD} {N : Ends} {c : Cq} {F' H' : Hp} {σ' : L2.St} {δ1 : DE} {cls : Value} {od : Option Addr} (r' : Rel K c F' H' σ' δ1) (xo : XOk K F' H' x cls od) :
    ∀ {X : Cx} {hds : List ExceptHandler} {l : List (Str × (DE → O))} {l' : List (Value × (Addr → Value → Option Addr → TS))}, X.K = K → VHds X W hds l l' → aftS K W N c F' (catchF em x δ1 l) → wMany K W N l' cls od σ' H'
  | _, _, _, _, _, .nil, z => z cls od σ' F' H' r' (.refl _) xo
  | X, _, _, _, ek, .cons (x := n) (c := cc) (g := g) hc hk hsu rr, z => by
    unfold catchF at z
    cases q : em x.c n with
    | none => rw [q] at z; exact False.elim z
    | some b =>
      rw [q] at z
      refine ⟨b, he _ _ _ _ _ q xo.1 (ek ▸ hk), fun hb a ha => ?_, fun hb => ?_⟩
      · subst hb
        rw [ek]
        exact ⟨c, F', δ1, r', z⟩
      · subst hb
        exact catch_rd he r' xo ek rr z
theorem vs_try {em : Str → Str → Option Bool} {body : List Stmt} {h₀ : ExceptHandler} {hds : List ExceptHandler} {g : DE → O} {l : List (Str × (DE → O))} {l' : List (Value × (Addr → Value → Option Addr → TS))} {pos : Pos} (he : EmOk X.K em) (hs : X.stack = X.env :: X.outer) (hf : X.env.frame = some X.env.locals) (tk : Takes X W)
    (hb : ∀ (W' : WX) (pn : List (Addr × Obj)) (xe : Value → Shared → Prop), Takes (X.tr pn xe) W' → VSs (X.tr pn xe) W' body g) (hh : VHds X W (h₀ :: hds) l l') : VS X W (.Try body (h₀ :: hds) [] [] pos) (tryS em g l) :=
  PS.to (ps_try_many (tb := fun W' => rdS X.K W' g) hs hf tk (fun W' pn xe tk' _ => hb W' pn xe tk') hh.ok) fun N σ H z => by
    obtain ⟨c, F, δ, r, z⟩ := z
    refine ⟨c, F, δ, r, ?_⟩
    unfold tryS at z
    cases q : g δ with
    | nx δ1 => rw [q] at z; exact z
    | ret d δ1 => rw [q] at z; exact z
    | brk δ1 => rw [q] at z; exact z
    | cnt δ1 => rw [q] at z; exact z
    | stuck => rw [q] at z; exact z
    | exc x δ1 =>
      rw [q] at z
      intro cls od σ' F' H' r' s' xo
      exact catch_rd he r' xo rfl hh (z.up s')
end
end PV

/-! PV18: a lambda handed to a def that calls it under try and tells the error's kind. -/
namespace PV
open PySem PySem.Spec PyProof.Rows L2 LamX
variable [Tbl]

/-- said(lambda: f): f's value, or the word of the first clause that takes the error -/
def saidCatch (em : Str → Str → Option Bool) (x : XD) (δ : DE) : List (Str × D) → R D
  | [] => .stuck
  | (n, s) :: r => match em x.c n with
    | some true => .ok s δ
    | some false => saidCatch em x δ r
    | none => .stuck
def saidE (em : Str → Str → Option Bool) (f : DE → R D) (hs : List (Str × D)) : DE → R D := fun δ => match f δ with
  | .exc x δ1 => saidCatch em x δ1 hs
  | o => o
/-- what the clauses make of an error -/
def tellW (K : PySem.W.Frag) (Q : VK) : List (Value × V) → Value → Hp → Prop
  | [], _, _ => False
  | (c, s) :: r, cls, H => ∃ b, PySem.W.exmOne K cls c = some b ∧ (b = true → Q s H) ∧ (b = false → tellW K Q r cls H)
def TTm (K : PySem.W.Frag) (l : List (Value × V)) : (XK → Hp → VK → Prop) → Hp → VK → Prop := fun tl H Q => tl (fun cls _ H' => tellW K Q l cls H') H Q
inductive SaidHds (K : PySem.W.Frag) (sg : Scope) (mg : Str → Option Value) : List ExceptHandler → List (Str × D) → List (Value × V) → Prop
  | nil : SaidHds K sg mg [] [] []
  | cons {e : Str} {s : D} {u : V} {ce : Expr} {c : Value} {p4 p6 p7 : Pos} {hds : List ExceptHandler} {ns : List (Str × D)} {l : List (Value × V)} (hge : sg.names.lookup e = some .globalImplicit) (hme : mg e = some c) (hkc : ClsIs K e c) (hde : (e == ("__debug__" : Str)) = false) (hpe : ∀ Z : Cx, PE Z ce (tC u)) (hden : ∀ F, Den K F s u) (r : SaidHds K sg mg hds ns l) :
      SaidHds K sg mg (.ExceptHandler (some (.Name e p4)) none [.Return (some ce) p6] p7 :: hds) ((e, s) :: ns) ((c, u) :: l)
theorem SaidHds.ok {Z : Cx} : ∀ {hds : List ExceptHandler} {ns : List (Str × D)} {l : List (Value × V)}, SaidHds Z.K Z.env.scope Z.mg hds ns l → HdsOk Z hds (l.map fun q => (q.1, fun _ _ _ => tRet (tC q.2)))
  | _, _, _, .nil => .nil
  | _, _, _, .cons hge hme hkc hde hpe hden r => .cons ⟨hge, hde, .inl hme⟩ (fun a oe cls d pn _ _ => pss_one (ps_ret (hpe _))) r.ok
theorem tell_many {K : PySem.W.Frag} {D : Ends} {cls : Value} {d : Option Addr} {σ : L2.St} {H : Hp} : ∀ {l : List (Value × V)}, tellW K D.rt l cls H → wMany K (fun _ _ _ _ => False) D (l.map fun q => (q.1, fun _ _ _ => tRet (tC q.2))) cls d σ H
  | [], h => h.elim
  | (c, s) :: r, ⟨b, e1, e2, e3⟩ => ⟨b, e1, fun hb a _ => e2 hb, fun hb => tell_many (e3 hb)⟩
theorem many_gives {X : Cx} {Ng : List Str} {x a q : Str} {sg : Scope} {g : Addr} {cdg : Value} {p1 p2 p3 p8 : Pos} {h₀ : ExceptHandler} {hds : List ExceptHandler} {ns : List (Str × D)} {l : List (Value × V)} (hh : SaidHds X.K sg X.mg (h₀ :: hds) ns l) (h0 : ∀ f : Addr, (L2.start Ng [V.ref f])[0]? = some (some (V.ref f))) :
    GivesTo X Ng x sg g cdg [.Try [.Return (some (.Call (.Name a p1) [] [] p2)) p3] (h₀ :: hds) [] [] p8] a q (TTm X.K l) := by
  intro f c' s H Q tl act hc h
  refine ⟨_, pss_one (ps_try_many (X := (cxOf C8.CX0 X.prog X.w X.K X.mg X.base Ng x sg g cdg X.A X.stack s H C8.E0).nox)
      (tb := fun W D σ H => ∃ Ech : XK, (∀ cls d σ' H', Ech cls d H' → W cls d σ' H') ∧ σ[0]? = some (some (.ref f)) ∧ H c' = some (CodeO c' q) ∧ tl Ech H D.rt)
      rfl rfl LamX.takes0 (fun W pn xe tk _ => ?_) (SaidHds.ok hh)), ?_⟩
  · refine ⟨fun pins s' σ H' D I h' => ?_⟩
    obtain ⟨Ech, hW, h1, h2, h3⟩ := h'
    have hp := pss_one (ps_ret (pos := p3) (act W pn xe Ech p1 p2 tk hW))
    exact hp.run pins s' σ H' D I ⟨h1, h2, h3⟩
  · exact ⟨fun cls _ H' => tellW X.K Q l cls H', fun cls d σ' H' z => tell_many z, h0 f, hc, h⟩
theorem tell_rd {K : PySem.W.Frag} {em : Str → Str → Option Bool} (he : EmOk K em) {sg : Scope} {mg : Str → Option Value} {x : XD} {cls : Value} {od : Option Addr} {F H : Hp} {W : WX} {c : Cq} {σ : L2.St} {δ : DE} {Q : VK} (r : Rel K c F H σ δ) (xo : XOk K F H x cls od) :
    ∀ {hds : List ExceptHandler} {ns : List (Str × D)} {l : List (Value × V)}, SaidHds K sg mg hds ns l → aft K W (dnE K) c F σ Q (saidCatch em x δ ns) → tellW K Q l cls H
  | _, _, _, .nil, z => z.elim
  | _, _, _, .cons (e := e) (s := s) (u := u) (c := cc) hge hme hkc hde hpe hden rr, z => by
    unfold saidCatch at z
    cases q : em x.c e with
    | none => rw [q] at z; exact z.elim
    | some b =>
      rw [q] at z
      refine ⟨b, he _ _ _ _ _ q xo.1 hkc, fun hb => ?_, fun hb => ?_⟩
      · subst hb
        exact z u F H r (.refl _) (hden F)
      · subst hb
        exact tell_rd he r xo rr z
section
variable {X : Cx} {W : WX}
theorem rd_said {em : Str → Str → Option Bool} (he : EmOk X.K em) {sg : Scope} {f : DE → R D} {hds : List ExceptHandler} {ns : List (Str × D)} {l : List (Value × V)} (hh : SaidHds X.K sg X.mg hds ns l) {σ : L2.St} {H : Hp} {Q : VK}
    (z : rdE X.K W (saidE em f ns) σ H Q) : tLam Tbl.T (TTm X.K l) (fun E => rdE X.K (wE E) f) σ H Q := by
  obtain ⟨c, F, δ, r, z⟩ := z
  refine ⟨r.tab.tabs, fun H1 e1 t1 => ?_⟩
  have r1 := r.extN e1 t1
  refine ⟨c, F, δ, r1, ?_⟩
  unfold saidE at z
  cases q : f δ with
  | ok d δ1 => rw [q] at z; exact z
  | stuck => rw [q] at z; exact z
  | exc x δ1 =>
    rw [q] at z
    intro cls od F' H' r' s' xo
    exact tell_rd he r' xo hh (aft.mono z s' fun _ _ h => h)
theorem ve_said {x a : Str} {g c P : Addr} {fd : FuncData} {st : Stmt} {k : Nat} {Ng : List Str} {em : Str → Str → Option Bool} {params : Arguments} {body : Expr} {scope : Scope} {f : DE → R D} {p lpos pos p1 p2 p3 p8 : Pos} {h₀ : ExceptHandler} {hds : List ExceptHandler} {ns : List (Str × D)} {l : List (Value × V)}
    (he : EmOk X.K em) (F : Fun X.K x x st g fd) (hbg : defBody st = [.Try [.Return (some (.Call (.Name a p1) [] [] p2)) p3] (h₀ :: hds) [] [] p8]) (hh : SaidHds X.K (defScope st) X.mg (h₀ :: hds) ns l) (h0 : ∀ f : Addr, (L2.start Ng [V.ref f])[0]? = some (some (V.ref f)))
    (hg : Gl X x) (hm : X.mg x = some (.ref g)) (hb : L2.Binds X.K fd [a] []) (Sg : FnScope Ng [a] (defScope st)) (hNg : Ng[0]? = some a) (hva : Vis (defScope st) a)
    (TB : TabB X.base X.mg c P) (hcode : X.env.code = .ref c) (hmT : (P, X.env.qual ++ "<lambda>") ∈ Tbl.T) (hu : ∀ p ∈ Tbl.T, p.1 = P → p.2 = X.env.qual ++ "<lambda>") (hr : Room (k + 2) X.A) (L : LamS X.env.scope scope) (hdef : defaultsOf params X.env = ([], []))
    (hbind : ∀ (q : Str) (cl : List (Str × Addr)) (pm cv ctv : Value), bindArgs (PySem.W.kla_fn "<lambda>" q params body scope cl pm cv ctv) ⟨[], []⟩ = pure [])
    (hbody : ∀ (A : Around) (outer : List Env) (s : Shared) (H : Hp) (E : XK) (f' c' : Addr), Room k (A.deeper (lamEnv X scope s.heap.objs.size f' c')) → VE (lamCx X A outer s H E scope f' c') (wE E) body f)
    (hdb : (x == ("__debug__" : Str)) = false := by decide) (hd : (a == ("__debug__" : Str)) = false := by decide) (hcd : (a == ("__classdict__" : Str)) = false := by decide) :
    VE X W (.Call (.Name x p) [.Lambda params body scope lpos] [] pos) (saidE em f ns) := by
  have hk := F.kp
  obtain ⟨oc, od, kV, doc, pm, an, cd, ct, osl, rfl, lk, hc⟩ := F.ex
  exact PE.to (pe_lamcall (T := Tbl.T) (TT := TTm X.K l) (t := fun E => rdE X.K (wE E) f) hg hm hk lk hc hb Sg hNg hva (by rw [hbg]; exact many_gives hh h0) TB hcode hmT hu hr L hdef hbind (fun A outer s H E f' c' hr' => hbody A outer s H E f' c' hr') hdb hd hcd) fun σ H Q z => rd_said he hh z
end
end PV
namespace PV
open PySem PySem.Spec PyProof.Rows L2 LamX
theorem tab_code {K : PySem.W.Frag} {x : Str} {f c P : Addr} {oc : Value} {od : Option Addr} {fd : FuncData} {sl : Array (Option Value)} (a : PySem.W.nsIn K mainGlobals x = some (some (.ref f))) (l : K.lookup f = some ⟨oc, od, .func fd, sl⟩) (t : PySem.W.tabIn K x = some (c, P)) : fd.code = .ref c := by
  unfold PySem.W.tabIn at t
  rw [a] at t
  simp only at t
  rw [l] at t
  simp only at t
  split at t
  · rename_i c' hc
    split at t
    · split at t
      · cases t; exact hc
      · cases t
    · cases t
  · cases t
end PV

/-! PV19: names from a tuple, sorted. -/
namespace PV
open PySem PySem.Spec PyProof.Rows L2
variable [Tbl]
/-- targets = e -/
def asgS (t : D → DE → Option DE) (f : DE → R D) : DE → O := fun δ => bindS (f δ) fun d δ => match t d δ with
  | some δ => .nx δ
  | none => .stuck
section
variable {X : Cx} {W : WX}
theorem vs_asg {ts : List Nat} {tg e : Expr} {t : D → DE → Option DE} {f : DE → R D} {pos : Pos} (he : VE X W e f) (hg : VG X ts tg t) (hs : swapsWithSole [tg] e pos.line X.env = pure false := by rfl) (hw : swappedStores [tg] e X.env = pure none := by rfl)
    (h1 : (assignEach [tg] X.env).map (·.2) = [assign tg X.env] := by rfl) : VS X W (.Assign [tg] e pos) (asgS t f) := PS.to (ps_asg he hg hs hw h1) fun N σ H z => by
  refine z.first (DM := dnE X.K) fun c F H1 δ x v r1 d1 z1 => ?_
  refine ⟨c, F, δ, x, r1, d1, ?_⟩
  cases q : t x δ with
  | none => rw [q] at z1; exact False.elim z1
  | some δ' =>
    rw [q] at z1
    exact fun σ' r' _ _ => z1 σ' F H1 r' (.refl _)
end
def sortI (l : List Int) : List Int := l.mergeSort fun a b => decide (a ≤ b)
omit [Tbl] in
theorem sortI_eq {l l' : List Int} (h : l'.Perm l) (s : l'.Pairwise (· ≤ ·)) : l' = sortI l := by
  have p := List.mergeSort_perm l fun a b => decide (a ≤ b)
  have q := List.pairwise_mergeSort (le := fun a b : Int => decide (a ≤ b)) (fun a b c h1 h2 => decide_eq_true (Int.le_trans (of_decide_eq_true h1) (of_decide_eq_true h2))) (fun a b => by
    rcases Int.le_total a b with z | z
    · rw [decide_eq_true z]; rfl
    · rw [decide_eq_true z, Bool.or_true]) l
  exact List.Perm.eq_of_pairwise (le := (· ≤ ·)) (fun a b _ _ h1 h2 => Int.le_antisymm h1 h2) s (q.imp fun z => of_decide_eq_true z) (h.trans p.symm)
def sortedN : List D → Option MD
  | [.lst l] => (intsOf l).map fun ns => .lst ((sortI ns).map D.int)
  | _ => none
section
variable {X : Cx}
theorem b_sorted : Bn X (.builtin "sorted") sortedN := by
  refine ⟨_, cr_sortedI, fun c F H σ δ ds z vs Q r d1 q k => ?_⟩
  unfold sortedN at q
  split at q
  · obtain ⟨v, rfl, h⟩ := densH1 d1
    obtain ⟨a, xs, rfl, h1, h2⟩ := h.lst r.sub
    obtain ⟨ns, e1, e2⟩ := Option.map_eq_some_iff.mp q
    have e3 := ints_den e1 h2
    rw [e3] at h1
    refine ⟨a, ns, rfl, .inl (.inl h1), fun ns' p hp hs hn => ?_⟩
    rw [sortI_eq hp hs] at *
    rw [← e2] at k
    obtain ⟨g1, g2⟩ := r.fresh (o := .lst ((sortI ns).map V.int)) (m := .lst ((sortI ns).map D.int)) hn (dens_ints _)
    exact k _ _ _ g1 (.refl _) g2
  · cases q
end
end PV

/-! PV20: dicts of a slot, with keys that are ints or strs. -/
namespace PV
open PySem PySem.Spec PyProof.Rows L2
variable [Tbl]
def keyD : D → Option Key
  | .int i => some (.inl i)
  | .str s => some (.inr s)
  | _ => none
omit [Tbl] in
theorem key_den {K : PySem.W.Frag} {F : Hp} {d : D} {v : V} {k : Key} (h : keyD d = some k) (g : Den K F d v) : v = kV k := by
  cases d <;> first | (cases h; done) | skip
  · cases h; exact g
  · cases h; exact g
def valD (l : List (Key × D)) (k : Key) : Option D := (l.find? fun kv => decide (kv.1 = k)).map (·.2)
def putD (l : List (Key × D)) (k : Key) (d : D) : List (Key × D) := if (l.any fun kv => decide (kv.1 = k)) = true then l.map (fun kv => if kv.1 = k then (kv.1, d) else kv) else l ++ [(k, d)]
section
omit [Tbl]
variable {K : PySem.W.Frag} {F : Hp}
theorem DenK.len : ∀ {l : List (Key × D)} {kvs : List (Key × V)}, DenK K F l kvs → kvs.length = l.length
  | [], _, h => by rw [show _ = _ from h]; rfl
  | _ :: _, _, ⟨v, r, e, _, h⟩ => by rw [e, List.length_cons, List.length_cons, h.len]
theorem DenK.val {k : Key} : ∀ {l : List (Key × D)} {kvs : List (Key × V)}, DenK K F l kvs → (valD l k = none ∧ valV kvs k = none) ∨ ∃ d v, valD l k = some d ∧ valV kvs k = some v ∧ Den K F d v
  | [], _, h => by rw [show _ = _ from h]; exact .inl ⟨rfl, rfl⟩
  | (k', d) :: l, _, ⟨v, r, e, h1, h2⟩ => by
    subst e
    by_cases q : k' = k
    · exact .inr ⟨d, v, by unfold valD; rw [List.find?_cons_of_pos (by simpa using q)]; rfl, by unfold valV; rw [List.find?_cons_of_pos (by simpa using q)]; rfl, h1⟩
    · have e1 : valD ((k', d) :: l) k = valD l k := by unfold valD; rw [List.find?_cons_of_neg (by simpa using q)]
      have e2 : valV ((k', v) :: r) k = valV r k := by unfold valV; rw [List.find?_cons_of_neg (by simpa using q)]
      rw [e1, e2]
      exact h2.val
theorem DenK.any {k : Key} : ∀ {l : List (Key × D)} {kvs : List (Key × V)}, DenK K F l kvs → (kvs.any fun kv => decide (kv.1 = k)) = (l.any fun kv => decide (kv.1 = k))
  | [], _, h => by rw [show _ = _ from h]; rfl
  | (k', d) :: l, _, ⟨v, r, e, _, h⟩ => by subst e; rw [List.any_cons, List.any_cons, h.any]
theorem DenK.repl {k : Key} {d : D} {v : V} (hd : Den K F d v) : ∀ {l : List (Key × D)} {kvs : List (Key × V)}, DenK K F l kvs → DenK K F (l.map fun kv => if kv.1 = k then (kv.1, d) else kv) (kvs.map fun kv => if kv.1 = k then (kv.1, v) else kv)
  | [], _, h => by rw [show _ = _ from h]; rfl
  | (k', d') :: l, _, ⟨v', r, e, h1, h2⟩ => by
    subst e
    rw [List.map_cons, List.map_cons]
    by_cases q : k' = k
    · simp only [if_pos q]
      exact ⟨v, _, rfl, hd, h2.repl hd⟩
    · simp only [if_neg q]
      exact ⟨v', _, rfl, h1, h2.repl hd⟩
theorem DenK.snoc {k : Key} {d : D} {v : V} (hd : Den K F d v) : ∀ {l : List (Key × D)} {kvs : List (Key × V)}, DenK K F l kvs → DenK K F (l ++ [(k, d)]) (kvs ++ [(k, v)])
  | [], _, h => by rw [show _ = _ from h]; exact ⟨v, [], rfl, hd, rfl⟩
  | (k', d') :: l, _, ⟨v', r, e, h1, h2⟩ => by subst e; exact ⟨v', _, rfl, h1, h2.snoc hd⟩
theorem DenK.put {k : Key} {d : D} {v : V} (hd : Den K F d v) {l : List (Key × D)} {kvs : List (Key × V)} (h : DenK K F l kvs) : DenK K F (putD l k d) (putK kvs k v) := by
  unfold putD putK
  rw [h.any]
  split
  · exact h.repl hd
  · exact h.snoc hd
theorem mden_dct {l : List (Key × D)} {o : HO} (h : MDen K F (.dct l) o) : ∃ kvs, o = .dK kvs ∧ DenK K F l kvs := by
  cases o <;> first | exact False.elim h | exact ⟨_, rfl, h⟩
end
def dNew : DE → R MD := fun δ => .ok (.dct []) δ
def dIn (neg : Bool) (i : Nat) (fk : DE → R D) : DE → R D := fun δ => (fk δ).bind fun k δ => match mutOf δ i, keyD k with
  | some (_, .dct l), some kk => .ok (.bl (if neg = true then !(valD l kk).isSome else (valD l kk).isSome)) δ
  | _, _ => .stuck
def dPut (i : Nat) (fk f : DE → R D) : DE → O := fun δ => bindS (f δ) fun d δ => match mutOf δ i with
  | some _ => bindS (fk δ) fun k δ => match mutOf δ i, keyD k with
    | some (s, .dct l), some kk => if l.length < LIM then .nx (δ.set i (some (s.wr (.dct (putD l kk d))))) else .stuck
    | _, _ => .stuck
  | none => .stuck
section
variable {X : Cx} {W : WX} {pos : Pos}
theorem vn_dnew : VN X W (.Dict [] [] pos) dNew := PE.to pe_dnewK fun σ H Q z p hp => by
  obtain ⟨c, F, δ, r, z⟩ := z
  obtain ⟨g1, g2⟩ := r.fresh (o := .dK []) (m := .dct []) hp rfl
  exact z _ _ _ g1 (.refl _) g2
theorem dget_of {c : Cq} {F H : Hp} {σ : L2.St} {δ : DE} {i : Nat} {s : Sl} {l : List (Key × D)} {k : Key} (r : Rel X.K c F H σ δ) (q : mutOf δ i = some (s, .dct l)) :
    ∃ a kvs, σ[i]? = some (some (.ref a)) ∧ H a = some (.dK kvs) ∧ DenK X.K F l kvs ∧ DGet H a (kV k) (valV kvs k) ∧ (valV kvs k).isSome = (valD l k).isSome := by
  obtain ⟨g1, g2⟩ := mutOf_some q
  obtain ⟨a, o, y1, y2, y3, y4⟩ := r.mutAt g1 g2
  obtain ⟨kvs, rfl, y3⟩ := mden_dct y3
  refine ⟨a, kvs, y1, y2, y3, .k y2, ?_⟩
  rcases y3.val (k := k) with ⟨e1, e2⟩ | ⟨d, v, e1, e2, _⟩ <;> rw [e1, e2] <;> rfl
theorem vc_din (hu : X.A.units + 1 < cLine) (i : Nat) {x : Str} {px : Pos} {a : Expr} {fk : DE → R D} (hk : VE X W a fk) (hN : X.N[i]? = some x := by rfl) (hv : Vis X.env.scope x := by first | exact Or.inl rfl | exact Or.inr (Or.inl rfl) | exact Or.inr (Or.inr rfl)) (hd : (x == ("__debug__" : Str)) = false := by decide)
    (hcd : (x == ("__classdict__" : Str)) = false := by decide) : VE X W (.Compare a [.In] [.Name x px] pos) (dIn false i fk) := PE.to (pe_cmp (pc_din hu hk (pe_var hN hv hd hcd)) rfl) fun σ H Q z => by
  refine z.first (DM := dnE X.K) fun c F H1 δ k v r1 d1 z1 => ?_
  split at z1
  · rename_i s l kk q1 q2
    obtain ⟨a, kvs, e1, e2, e3, e4, e5⟩ := dget_of (k := kk) r1 q1
    refine ⟨.ref a, e1, a, valV kvs kk, rfl, ?_, ?_⟩
    · rw [key_den q2 d1]; exact e4
    · rw [e5]; exact z1 _ F H1 r1 (.refl _) rfl
  · exact False.elim z1
theorem vc_dnotin (hu : X.A.units + 1 < cLine) (i : Nat) {x : Str} {px : Pos} {a : Expr} {fk : DE → R D} (hk : VE X W a fk) (hN : X.N[i]? = some x := by rfl) (hv : Vis X.env.scope x := by first | exact Or.inl rfl | exact Or.inr (Or.inl rfl) | exact Or.inr (Or.inr rfl)) (hd : (x == ("__debug__" : Str)) = false := by decide)
    (hcd : (x == ("__classdict__" : Str)) = false := by decide) : VE X W (.Compare a [.NotIn] [.Name x px] pos) (dIn true i fk) := PE.to (pe_cmp (pc_dnotin hu hk (pe_var hN hv hd hcd)) rfl) fun σ H Q z => by
  refine z.first (DM := dnE X.K) fun c F H1 δ k v r1 d1 z1 => ?_
  split at z1
  · rename_i s l kk q1 q2
    obtain ⟨a, kvs, e1, e2, e3, e4, e5⟩ := dget_of (k := kk) r1 q1
    refine ⟨.ref a, e1, a, valV kvs kk, rfl, ?_, ?_⟩
    · rw [key_den q2 d1]; exact e4
    · rw [e5]; exact z1 _ F H1 r1 (.refl _) rfl
  · exact False.elim z1
theorem vs_dput (hu : X.A.units + 1 < cLine) (i : Nat) {x : Str} {px pos' : Pos} {ik e : Expr} {fk f : DE → R D} (k : VE X W e f) (kk : VE X W ik fk) (hN : X.N[i]? = some x := by rfl) (hv : Vis X.env.scope x := by first | exact Or.inl rfl | exact Or.inr (Or.inl rfl) | exact Or.inr (Or.inr rfl)) (hd : (x == ("__debug__" : Str)) = false := by decide)
    (hcd : (x == ("__classdict__" : Str)) = false := by decide) (hs : swapsWith e (some (.Subscript (.Name x px) ik pos')) pos.line X.env = pure false := by rfl) :
    VS X W (.Assign [.Subscript (.Name x px) ik pos'] e pos) (dPut i fk f) := PS.to (ps_dput hu (pe_var hN hv hd hcd) kk k hs) fun N σ H z => by
  refine z.first (DM := dnE X.K) fun c F H1 δ d v r1 d1 z1 => ?_
  split at z1
  · rename_i p q0
    obtain ⟨s0, m0⟩ := p
    obtain ⟨q1, q2⟩ := mutOf_some q0
    obtain ⟨a, o, h1, _⟩ := r1.mutAt q1 q2
    refine ⟨.ref a, h1, ?_⟩
    refine aftS.next (DM := dnE X.K) (f := fk) (g := fun k δ => match mutOf δ i, keyD k with
      | some (s, .dct l), some kk => if l.length < LIM then .nx (δ.set i (some (s.wr (.dct (putD l kk d))))) else .stuck
      | _, _ => .stuck) r1 z1 fun F2 H2 δ2 kd kv r2 s2 d2 z2 => ?_
    split at z2
    · rename_i s l kk q q'
      obtain ⟨g1, g2⟩ := mutOf_some q
      obtain ⟨b, o, y1, y2, y3, y4⟩ := r2.mutAt g1 g2
      rw [h1] at y1; cases y1
      obtain ⟨kvs, rfl, y3⟩ := mden_dct y3
      split at z2
      · rename_i hl
        refine ⟨a, _, rfl, ?_, z2 σ F2 _ (r2.write (m' := .dct (putD l kk d)) (o' := .dK (putK kvs kk v)) g1 g2 h1 (DenK.put (Den.mono s2 _ _ d1) y3)) (.refl _)⟩
        rw [key_den q' d2]
        exact .k y2 (by rw [y3.len]; exact Nat.lt_of_lt_of_le hl (by decide))
      · exact False.elim z2
    · exact False.elim z2
  · exact False.elim z1
end
end PV
theorem PV.u1 {n : Nat} (h : n + 64 < PySem.cLine) : n + 1 < PySem.cLine := by omega

/-! PV21: tuple(range(a, b)). -/
namespace PV
open PySem PySem.Spec PyProof.Rows L2
variable [Tbl]
noncomputable def tupRg2 (fa fb : DE → R D) : DE → R D := fun δ => (fa δ).bind fun x δ => (fb δ).bind fun y δ => match x, y with
  | .int i, .int j => @ite _ (i ≤ 10000 ∧ -10000 ≤ i ∧ j ≤ 10000 ∧ -10000 ≤ j) (Classical.propDecidable _) (.ok (.tup ((List.range (j - i).toNat).map fun k => .int (i + (k : Nat)))) δ) .stuck
  | _, _ => .stuck
section
variable {X : Cx} {W : WX} {pos : Pos}
theorem ve_tupRg2 {a b : Expr} {fa fb : DE → R D} {p p2 pos2 : Pos} (hc : X.calm = true) (hg : Gl X "tuple") (hm : X.mg "tuple" = none) (hg2 : Gl X "range") (hm2 : X.mg "range" = none) (ha : VE X W a fa) (hb : VE X W b fb)
    (na : starEach [a, b] X.env = (false, eval a X.env) :: starEach [b] X.env := by rfl) (nb : starEach [b] X.env = (false, eval b X.env) :: starEach [] X.env := by rfl) (hp : (backTo pos2 (starEach [b] X.env)).any (·.1) = false := by rfl)
    (nc : starEach [.Call (.Name "range" p2) [a, b] [] pos2] X.env = (false, eval (.Call (.Name "range" p2) [a, b] [] pos2) X.env) :: starEach [] X.env := by rfl) :
    VE X W (.Call (.Name "tuple" p) [.Call (.Name "range" p2) [a, b] [] pos2] [] pos) (tupRg2 fa fb) :=
  PE.to (pe_tupRg hc hg hm (prg_2 hg2 hm2 ha hb na nb hp) nc) fun σ H Q z => by
    refine z.first (DM := dnE X.K) fun c F H1 δ x v r1 d1 z1 => ?_
    refine z1.next (DM := dnE X.K) r1 fun F2 H2 δ2 y w r2 s2 d2 z2 => ?_
    split at z2
    · rename_i i j
      split at z2
      · rename_i hj
        refine ⟨i, j, d1, d2, ⟨by omega, by omega, by omega, by omega, by omega⟩, fun q hq => ?_⟩
        have r3 := r2.lay (o := .tup (rgV i j)) hq
        refine z2 _ _ _ r3 (same_new (r2.freeF hq)) ⟨q, rgV i j, rfl, upd_same, ?_⟩
        generalize upd F2 q (.tup (rgV i j)) = F3
        unfold rgV
        generalize List.range (j - i).toNat = l
        induction l with
        | nil => exact Dens.nil
        | cons n l ih => exact Dens.cons rfl ih
      · exact False.elim z2
    · exact False.elim z2
end
end PV

/-! PV22: slots that are not read any more are forgotten; loops by a step on a state. -/
namespace PV
open PySem PySem.Spec PyProof.Rows L2
def dropB : Option Sl → Option Sl
  | some (.bor m) => some (.bor m)
  | _ => none
def killM : List Bool → DE → DE
  | true :: ms, x :: δ => dropB x :: killM ms δ
  | false :: ms, x :: δ => x :: killM ms δ
  | _, δ => δ
def bors : DE → DE
  | [] => []
  | x :: δ => dropB x :: bors δ
/-- fewer slots are told -/
structure Less (δ δ' : DE) : Prop where
  len : δ'.length = δ.length
  sl : ∀ (i : Nat) (s : Sl), δ'[i]? = some (some s) → δ[i]? = some (some s)
  bor : ∀ (i : Nat) (m : MD), δ[i]? = some (some (.bor m)) → δ'[i]? = some (some (.bor m))
theorem Less.refl (δ : DE) : Less δ δ := ⟨rfl, fun _ _ h => h, fun _ _ h => h⟩
theorem Less.cons {x y : Option Sl} {δ δ' : DE} (h : Less δ δ') (h1 : ∀ s, y = some s → x = some s) (h2 : ∀ m, x = some (.bor m) → y = some (.bor m)) : Less (x :: δ) (y :: δ') := by
  refine ⟨by simp [h.len], fun i s e => ?_, fun i m e => ?_⟩
  · cases i with
    | zero => simp at e ⊢; exact h1 s e
    | succ i => simp at e ⊢; exact h.sl i s e
  · cases i with
    | zero => simp at e ⊢; exact h2 m e
    | succ i => simp at e ⊢; exact h.bor i m e
theorem dropB_s {x : Option Sl} {s : Sl} (h : dropB x = some s) : x = some s := by
  unfold dropB at h
  split at h
  · exact h
  · cases h
theorem less_bors : ∀ (δ : DE), Less δ (bors δ)
  | [] => .refl _
  | x :: δ => (less_bors δ).cons (fun s h => dropB_s h) fun m h => by rw [h]; rfl
theorem less_kill : ∀ (ms : List Bool) (δ : DE), Less δ (killM ms δ)
  | [], δ => by unfold killM; exact .refl _
  | true :: ms, [] => by unfold killM; exact .refl _
  | false :: ms, [] => by unfold killM; exact .refl _
  | true :: ms, x :: δ => by unfold killM; exact (less_kill ms δ).cons (fun s h => dropB_s h) fun m h => by rw [h]; rfl
  | false :: ms, x :: δ => by unfold killM; exact (less_kill ms δ).cons (fun s h => h) fun m h => h
/-- e: what an exception leaves is cut, too -/
def killS (e : Bool) (ms : List Bool) (g : DE → O) : DE → O := fun δ => match g δ with
  | .nx δ => .nx (killM ms δ)
  | .cnt δ => .cnt (killM ms δ)
  | .brk δ => .brk (killM ms δ)
  | .ret d δ => .ret d (bors δ)
  | .exc x δ => .exc x (if e then bors δ else killM ms δ)
  | .stuck => .stuck
/-- forgotten ahead -/
def preS (ms : List Bool) (g : DE → O) : DE → O := fun δ => g (killM ms δ)
section
variable [Tbl]
theorem Rel.lessD {K : PySem.W.Frag} {c : Cq} {F H : Hp} {σ : L2.St} {δ δ' : DE} (r : Rel K c F H σ δ) (l : Less δ δ') : Rel K c F H σ δ' :=
  ⟨r.sub, r.pres, r.low, r.new, r.gs, r.bor0, fun i hi => let ⟨m, e⟩ := r.borD i hi; ⟨m, l.bor i m e⟩, r.binj, by rw [l.len]; exact r.len, fun i s e => r.sl i s (l.sl i s e), fun i j a m n e1 e2 => r.apart i j a m n (l.sl _ _ e1) (l.sl _ _ e2), r.tab⟩
theorem rd_kill {K : PySem.W.Frag} {W : WX} {e : Bool} {ms : List Bool} {g : DE → O} {N : Ends} {σ : L2.St} {H : Hp} (z : rdS K W (killS e ms g) N σ H) : rdS K W g N σ H := by
  obtain ⟨c, F, δ, r, a⟩ := z
  refine ⟨c, F, δ, r, ?_⟩
  unfold killS at a
  cases q : g δ with
  | nx δ1 => rw [q] at a; exact fun σ' F' H' r' => a σ' F' H' (r'.lessD (less_kill _ _))
  | cnt δ1 => rw [q] at a; exact fun σ' F' H' r' => a σ' F' H' (r'.lessD (less_kill _ _))
  | brk δ1 => rw [q] at a; exact fun σ' F' H' r' => a σ' F' H' (r'.lessD (less_kill _ _))
  | ret d δ1 => rw [q] at a; exact fun v σ' F' H' r' => a v σ' F' H' (r'.lessD (less_bors _))
  | exc x δ1 =>
    rw [q] at a
    refine fun cls od σ' F' H' r' => a cls od σ' F' H' (r'.lessD ?_)
    cases e
    · exact less_kill _ _
    · exact less_bors _
  | stuck => rw [q] at a; exact a
theorem rd_pre {K : PySem.W.Frag} {W : WX} {ms : List Bool} {g : DE → O} {N : Ends} {σ : L2.St} {H : Hp} (z : rdS K W (preS ms g) N σ H) : rdS K W g N σ H := by
  obtain ⟨c, F, δ, r, a⟩ := z
  exact ⟨c, F, _, r.lessD (less_kill ms δ), a⟩
variable {X : Cx} {W : WX} {st : Stmt} {sts : List Stmt} {g : DE → O}
theorem vss_kill (e : Bool) (ms : List Bool) (h : VSs X W sts g) : VSs X W sts (killS e ms g) := PSs.to h fun _ _ _ z => rd_kill z
theorem vs_pre (ms : List Bool) (h : VS X W st g) : VS X W st (preS ms g) := PS.to h fun _ _ _ z => rd_pre z
end
/-! ### loops by a step on a state -/
inductive LR (S : Type) where
  | go (s : S)
  | brk (s : S)
  | ret (d : D) (s : S)
  | exc (x : XD) (s : S)
def runL {S α : Type} (step : S → α → LR S) : List α → S → LR S
  | [], s => .go s
  | a :: as, s => match step s a with
    | .go s => runL step as s
    | .brk s => .go s
    | r => r
def LR.o {S : Type} (mk mr : S → DE) : LR S → O
  | .go s => .nx (mk s)
  | .brk s => .nx (mk s)
  | .ret d s => .ret d (mr s)
  | .exc x s => .exc x (mr s)
/-- one turn -/
def Turn {S α : Type} (mk mr : S → DE) (t : D → DE → Option DE) (g : DE → O) (I : S → Prop) (s : S) (d : D) (r : LR S) : Prop :=
  ∃ δ1, t d (mk s) = some δ1 ∧ match r with
    | .go s' => I s' ∧ (g δ1 = .nx (mk s') ∨ g δ1 = .cnt (mk s'))
    | .brk s' => g δ1 = .brk (mk s')
    | .ret d s' => g δ1 = .ret d (mr s')
    | .exc x s' => g δ1 = .exc x (mr s')
theorem loop_run {S α : Type} {t : D → DE → Option DE} {g : DE → O} (enc : α → D) (mk mr : S → DE) (step : S → α → LR S) (I : S → Prop) :
    ∀ (as : List α), (∀ s a, a ∈ as → I s → Turn (α := α) mk mr t g I s (enc a) (step s a)) → ∀ s, I s → loopF t g (as.map enc) (mk s) = (runL step as s).o mk mr
  | [], _, s, _ => rfl
  | a :: as, h, s, hs => by
    obtain ⟨δ1, e1, q⟩ := h s a List.mem_cons_self hs
    have ih := loop_run enc mk mr step I as fun s a ha => h s a (List.mem_cons_of_mem _ ha)
    rw [List.map_cons]
    unfold loopF runL
    rw [e1]
    cases e : step s a with
    | go s' =>
      rw [e] at q
      rcases q with ⟨i, q | q⟩
      · simp only [q]; exact ih s' i
      · simp only [q]; exact ih s' i
    | brk s' => rw [e] at q; simp only [q]; rfl
    | ret d s' => rw [e] at q; simp only [q]; rfl
    | exc x s' => rw [e] at q; simp only [q]; rfl
/-- a loop that runs through -/
theorem loop_fold {S α : Type} {t : D → DE → Option DE} {g : DE → O} (enc : α → D) (mk : S → DE) (step : S → α → S) (I : S → Prop) :
    ∀ (as : List α), (∀ s a, a ∈ as → I s → I (step s a) ∧ ∃ δ1, t (enc a) (mk s) = some δ1 ∧ (g δ1 = .nx (mk (step s a)) ∨ g δ1 = .cnt (mk (step s a)))) → ∀ s, I s → loopF t g (as.map enc) (mk s) = .nx (mk (as.foldl step s)) ∧ I (as.foldl step s)
  | [], _, s, i => ⟨rfl, i⟩
  | a :: as, h, s, hs => by
    obtain ⟨i, δ1, e1, q⟩ := h s a List.mem_cons_self hs
    have ih := loop_fold enc mk step I as (fun s a ha => h s a (List.mem_cons_of_mem _ ha)) (step s a) i
    rw [List.map_cons, List.foldl_cons]
    unfold loopF
    rw [e1]
    rcases q with q | q
    · simp only [q]; exact ih
    · simp only [q]; exact ih
end PV

/-! PV23: instances of own classes: fields, making, methods, isinstance. -/
namespace PV
open PySem PySem.Spec PyProof.Rows L2
/-- what of the text a class must have -/
structure ClsT (K : PySem.W.Frag) (c : Str) (C : Addr) : Prop where
  ns : PySem.W.nsIn K mainGlobals c = some (some (.ref C))
  cls : Cls K C
  cc : PySem.W.findIn K (.ref C) "__class__" = some (some (.builtin "object.__class__"))
  mo : PySem.W.mroIn K C (.type "object") = some true
theorem ns_uniq {K : PySem.W.Frag} {c : Str} {C C' : Addr} (h : PySem.W.nsIn K mainGlobals c = some (some (.ref C))) (g : PySem.W.nsIn K mainGlobals c = some (some (.ref C'))) : C = C' := by
  rw [h] at g; cases g; rfl
/-! ### fields of data -/
def lkF : List (Str × D) → Str → Option D
  | [], _ => none
  | (g, d) :: r, f => if g = f then some d else lkF r f
def ptF (f : Str) (d : D) : List (Str × D) → List (Str × D)
  | [] => [(f, d)]
  | (g, x) :: r => if g = f then (g, d) :: r else (g, x) :: ptF f d r
section
variable {K : PySem.W.Frag} {F : Hp}
theorem denF_lk {f : Str} {d : D} : ∀ {l : List (Str × D)} {fs : List (Str × V)}, DenF K F l fs → lkF l f = some d → ∃ v, fs.lookup f = some v ∧ Den K F d v
  | [], _, _, h => by cases h
  | (g, x) :: r, _, ⟨v, r', e, h1, h2⟩, h => by
    subst e
    unfold lkF at h
    by_cases q : g = f
    · rw [if_pos q] at h; cases h
      exact ⟨v, by subst q; simp [List.lookup], h1⟩
    · rw [if_neg q] at h
      obtain ⟨w, e1, e2⟩ := denF_lk h2 h
      have hb : (f == g) = false := beq_eq_false_iff_ne.mpr fun z => q z.symm
      exact ⟨w, by simp only [List.lookup, hb]; exact e1, e2⟩
theorem denF_no {f : Str} : ∀ {l : List (Str × D)} {fs : List (Str × V)}, DenF K F l fs → lkF l f = none → fs.lookup f = none
  | [], _, h, _ => by rw [show _ = _ from h]; rfl
  | (g, x) :: r, _, ⟨v, r', e, h1, h2⟩, h => by
    subst e
    unfold lkF at h
    by_cases q : g = f
    · rw [if_pos q] at h; cases h
    · rw [if_neg q] at h
      have hb : (f == g) = false := beq_eq_false_iff_ne.mpr fun z => q z.symm
      simp only [List.lookup, hb]
      exact denF_no h2 h
theorem denF_pt {f : Str} {d : D} {y : V} (hy : Den K F d y) : ∀ {l : List (Str × D)} {fs : List (Str × V)}, DenF K F l fs → DenF K F (ptF f d l) (putF f y fs)
  | [], _, h => by rw [show _ = _ from h]; exact ⟨y, [], rfl, hy, rfl⟩
  | (g, x) :: r, _, ⟨v, r', e, h1, h2⟩ => by
    subst e
    unfold ptF putF
    by_cases q : g = f
    · rw [if_pos q, if_pos q]; exact ⟨y, r', rfl, hy, h2⟩
    · rw [if_neg q, if_neg q]; exact ⟨v, _, rfl, h1, denF_pt hy h2⟩
theorem denF_len : ∀ {l : List (Str × D)} {fs : List (Str × V)}, DenF K F l fs → fs.length = l.length
  | [], _, h => by rw [show _ = _ from h]; rfl
  | (g, x) :: r, _, ⟨v, r', e, h1, h2⟩ => by subst e; simp [denF_len h2]
end
variable [Tbl]
section
variable {X : Cx} {W : WX} {e o : Expr} {fa f : DE → R D} {pos : Pos} {g : Str}
/-- e.g of a frozen instance of one of the classes cs -/
def fldD (cs : List Str) (g : Str) : D → Option D
  | .ins c l => if c ∈ cs then lkF l g else none
  | _ => none
def fldE (cs : List Str) (g : Str) (fa : DE → R D) : DE → R D := fun δ => (fa δ).bind fun x δ => R.of (fldD cs g x) δ
/-- that the classes have no attribute g of their own -/
def NoA (K : PySem.W.Frag) (cs : List Str) (g : Str) : Prop := ∀ c ∈ cs, ∃ C, ClsT K c C ∧ NoAttr K C g
theorem ve_fld (cs : List Str) (hn : NoA X.K cs g) (h : VE X W e fa) (hb : attributeBase e g X.env (eval e X.env) = eval e X.env := by rfl) : VE X W (.Attribute e g pos) (fldE cs g fa) := by
  refine PE.to (pe_fld h hb) fun σ H Q z => z.first (DM := dnE X.K) fun c F H1 δ a v r d1 z1 => ?_
  cases q : fldD cs g a with
  | none => rw [q] at z1; exact False.elim z1
  | some x =>
    rw [q] at z1
    unfold fldD at q
    split at q
    · rename_i cn l
      split at q
      · rename_i hc
        obtain ⟨C, t, na⟩ := hn cn hc
        obtain ⟨C', a', dx, fs, rfl, e0, e1, e2⟩ := d1
        have := ns_uniq t.ns e0
        subst this
        obtain ⟨w, e3, e4⟩ := denF_lk e2 q
        exact ⟨a', C, dx, fs, w, rfl, r.sub _ _ e1, t.cls, na, e3, z1 w F H1 r (.refl _) e4⟩
      · cases q
    · cases q
/-- x.g of an instance that is still written, in slot i -/
def fldSl (cs : List Str) (i : Nat) (g : Str) : DE → R D := fun δ => match mutOf δ i with
  | some (_, .ins c l) => if c ∈ cs then R.of (lkF l g) δ else .stuck
  | _ => .stuck
theorem mden_ins {K : PySem.W.Frag} {F : Hp} {c : Str} {l : List (Str × D)} {o : HO} (h : MDen K F (.ins c l) o) : ∃ C dx fs, o = .ins C dx fs ∧ PySem.W.nsIn K mainGlobals c = some (some (.ref C)) ∧ DenF K F l fs := by
  cases o <;> first | exact False.elim h | exact ⟨_, _, _, rfl, h.1, h.2⟩
theorem ve_fldSl (cs : List Str) (hn : NoA X.K cs g) (i : Nat) {x : Str} {px : Pos} (hN : X.N[i]? = some x := by rfl) (hv : Vis X.env.scope x := by first | exact Or.inl rfl | exact Or.inr (Or.inl rfl) | exact Or.inr (Or.inr rfl)) (hd : (x == ("__debug__" : Str)) = false := by decide) (hcd : (x == ("__classdict__" : Str)) = false := by decide)
    (hb : attributeBase (.Name x px) g X.env (eval (.Name x px) X.env) = eval (.Name x px) X.env := by rfl) : VE X W (.Attribute (.Name x px) g pos) (fldSl cs i g) := by
  refine PE.to (pe_fld (pe_var hN hv hd hcd) hb) fun σ H Q ⟨c, F, δ, r, z⟩ => ?_
  unfold fldSl at z
  split at z
  · rename_i s cn l hm
    split at z
    · rename_i hc
      cases q : lkF l g with
      | none => rw [q] at z; exact False.elim z
      | some y =>
        rw [q] at z
        obtain ⟨h1, h2⟩ := mutOf_some hm
        obtain ⟨a, o, e1, e2, e3, e4⟩ := r.mutAt h1 h2
        obtain ⟨C', dx, fs, rfl, e0, e5⟩ := mden_ins e3
        obtain ⟨C, t, na⟩ := hn cn hc
        have := ns_uniq t.ns e0
        subst this
        obtain ⟨w, e6, e7⟩ := denF_lk e5 q
        exact ⟨.ref a, e1, a, C, dx, fs, w, rfl, e2, t.cls, na, e6, z w F H r (.refl _) e7⟩
    · exact False.elim z
  · exact False.elim z
/-- x.g = e of an instance in slot i -/
def fldS (cs : List Str) (i : Nat) (g : Str) (f : DE → R D) : DE → O := fun δ => bindS (f δ) fun d δ => match mutOf δ i with
  | some (s, .ins c l) => if c ∈ cs ∧ l.length < 900 then .nx (δ.set i (some (s.wr (.ins c (ptF g d l))))) else .stuck
  | _ => .stuck
theorem vs_fld (cs : List Str) (hn : NoA X.K cs g) (i : Nat) {x : Str} {px tpos : Pos} (k : VE X W e f) (hN : X.N[i]? = some x := by rfl) (hv : Vis X.env.scope x := by first | exact Or.inl rfl | exact Or.inr (Or.inl rfl) | exact Or.inr (Or.inr rfl)) (hd : (x == ("__debug__" : Str)) = false := by decide) (hcd : (x == ("__classdict__" : Str)) = false := by decide)
    (hs : swapsWith e (some (.Attribute (.Name x px) g tpos)) pos.line X.env = pure false := by rfl) : VS X W (.Assign [.Attribute (.Name x px) g tpos] e pos) (fldS cs i g f) := by
  refine PS.to (ps_fld (pe_var hN hv hd hcd) k hs) fun N σ H z => z.first (DM := dnE X.K) fun c F H1 δ d v r d1 z1 => ?_
  split at z1
  · rename_i s cn l hm
    split at z1
    · rename_i hc
      obtain ⟨h1, h2⟩ := mutOf_some hm
      obtain ⟨a, o, e1, e2, e3, e4⟩ := r.mutAt h1 h2
      obtain ⟨C', dx, fs, rfl, e0, e5⟩ := mden_ins e3
      obtain ⟨C, t, na⟩ := hn cn hc.1
      have := ns_uniq t.ns e0
      subst this
      refine ⟨.ref a, e1, a, C, dx, fs, rfl, e2, t.cls, na, by rw [denF_len e5]; omega, ?_⟩
      exact z1 σ F _ (r.write (m' := .ins cn (ptF g d l)) (o' := .ins C dx (putF g v fs)) h1 h2 e1 ⟨e0, denF_pt d1 e5⟩) (.refl _)
    · exact False.elim z1
  · exact False.elim z1
end
end PV

/-! PV24: C(..) by __init__, o.m(..), isinstance of own classes. -/
namespace PV
open PySem PySem.Spec PyProof.Rows L2
variable [Tbl]
section
variable {K : PySem.W.Frag} {c : Cq} {F H : Hp} {σ : L2.St} {δ : DE}
theorem snoc_get {α : Type} {l : List (Option α)} {i : Nat} {s : α} (h : (l ++ [none])[i]? = some (some s)) : l[i]? = some (some s) := by
  by_cases q : i < l.length
  · rwa [List.getElem?_append_left q] at h
  · rw [List.getElem?_append_right (by omega)] at h
    cases j : i - l.length with
    | zero => rw [j] at h; cases h
    | succ n => rw [j] at h; simp at h
theorem snoc_of {α : Type} {l : List (Option α)} {i : Nat} {s y : Option α} (h : l[i]? = some s) : (l ++ [y])[i]? = some s := by
  have := (List.getElem?_eq_some_iff.mp h).1
  rw [List.getElem?_append_left this]; exact h
/-- one more place, not yet assigned -/
theorem Rel.snoc (r : Rel K c F H σ δ) : Rel K c F H (σ ++ [none]) (δ ++ [none]) := by
  refine ⟨r.sub, r.pres, r.low, r.new, r.gs, r.bor0, fun i hi => let ⟨m, e⟩ := r.borD i hi; ⟨m, snoc_of e⟩, r.binj, by rw [List.length_append, List.length_append, r.len]; rfl, fun i s e => ?_, fun i j a m n e1 e2 e3 e4 => r.apart i j a m n (snoc_get e1) (snoc_get e2) (snoc_get e3) (snoc_get e4), r.tab⟩
  have e' := snoc_get e
  have hl : i < σ.length := by rw [r.len]; exact (List.getElem?_eq_some_iff.mp e').1
  rw [List.getElem?_append_left hl]
  exact r.sl i s e'
theorem Rel.unsnoc {x : Option V} {y : Option Sl} (r : Rel K c F H (σ ++ [x]) (δ ++ [y])) (hy : ∀ m, y ≠ some (.bor m)) : Rel K c F H σ δ := by
  have hlen : σ.length = δ.length := by have := r.len; simpa using this
  refine ⟨r.sub, r.pres, r.low, r.new, r.gs, r.bor0, fun i hi => ?_, r.binj, hlen, fun i s e => ?_, fun i j a m n e1 e2 e3 e4 => r.apart i j a m n (snoc_of e1) (snoc_of e2) (snoc_of e3) (snoc_of e4), r.tab⟩
  · obtain ⟨m, e⟩ := r.borD i hi
    by_cases q : i < δ.length
    · rw [List.getElem?_append_left q] at e; exact ⟨m, e⟩
    · rw [List.getElem?_append_right (by omega)] at e
      cases j : i - δ.length with
      | zero => rw [j] at e; exact absurd (Option.some.inj e) (hy m)
      | succ n => rw [j] at e; simp at e
  · have z := r.sl i s (snoc_of e)
    have hl : i < σ.length := by rw [hlen]; exact (List.getElem?_eq_some_iff.mp e).1
    rw [List.getElem?_append_left hl] at z
    exact z
theorem unlend_vals : ∀ {as : List Arg} {ds : List D} {ss : List Sl}, valsOf as = some ds → unlend δ as ss = δ
  | [], _, _, _ => by unfold unlend; rfl
  | .val d :: as, _, [], h => by unfold unlend; rfl
  | .val d :: as, _, s :: ss, h => by
    obtain ⟨t, e1, e2⟩ := Option.map_eq_some_iff.mp h
    unfold unlend; exact unlend_vals e1
  | .slot i :: as, _, _, h => by cases h
theorem lend_vals : ∀ {as : List Arg} {ds : List D}, valsOf as = some ds → lend δ as = some (ds.map .val)
  | [], _, h => by cases h; rfl
  | .val d :: as, _, h => by
    obtain ⟨t, e1, e2⟩ := Option.map_eq_some_iff.mp h
    subst e2
    unfold lend; rw [lend_vals e1]; rfl
  | .slot i :: as, _, h => by cases h
theorem slots_vals : ∀ {as : List Arg} {ds : List D}, valsOf as = some ds → slots as = []
  | [], _, _ => rfl
  | .val d :: as, _, h => by
    obtain ⟨t, e1, e2⟩ := Option.map_eq_some_iff.mp h
    exact slots_vals (as := as) e1
  | .slot i :: as, _, h => by cases h
theorem args_snoc {x : Option V} : ∀ {as : List Arg} {ds : List D} {vs : List V}, valsOf as = some ds → ArgsD K F σ as vs → ArgsD K F (σ ++ [x]) as vs
  | [], _, _, _, g => g
  | .val d :: as, _, vs, h, ⟨v, r, e, g1, g2⟩ => by
    obtain ⟨t, e1, e2⟩ := Option.map_eq_some_iff.mp h
    exact ⟨v, r, e, g1, args_snoc e1 g2⟩
  | .slot i :: as, _, _, h, _ => by cases h
end
/-- C(..): a new instance, then __init__ -/
def makeN (c : Str) (φ : List Sl → FR) (fa : DE → R (List Arg)) : DE → R MD := fun δ => (fa δ).bind fun as δ => match valsOf as with
  | some ds => match φ (.bor (.ins c []) :: ds.map .val) with
    | .ret .non (.bor m :: _) => .ok m δ
    | .exc x _ => .exc x δ
    | _ => .stuck
  | none => .stuck
section
variable {K : PySem.W.Frag} {cq : Cq} {F H : Hp} {σ : L2.St} {δ : DE} {c : Str} {C x dx : Addr}
theorem Rel.made (r : Rel K cq F H σ δ) (ns : PySem.W.nsIn K mainGlobals c = some (some (.ref C))) (hx : H x = none) (hdx : H dx = none) (ne : dx ≠ x) :
    Rel K cq F (upd (upd H dx (.own x)) x (.ins C dx [])) (σ ++ [some (.ref x)]) (δ ++ [some (.own (.ins c []))]) := by
  have r1 := r.tmp (o := .own x) hdx
  have hx1 : upd H dx (.own x) x = none := by rw [upd_ne (fun z => ne z.symm)]; exact hx
  have r2 := (r1.tmp (o := .ins C dx []) hx1).snoc
  have hl : σ.length = δ.length := r.len
  have r3 := r2.setOwn (i := δ.length) (p := x) (o := .ins C dx []) (m := .ins c []) upd_same (r1.freeF hx1) (r1.freeG hx1) (r1.free hx1) ⟨ns, rfl⟩ (fun j n e z => ?_) (fun m e => ?_)
  · have e1 : (σ ++ [none]).set δ.length (some (V.ref x)) = σ ++ [some (.ref x)] := by rw [← hl]; simp
    have e2 : (δ ++ [none]).set δ.length (some (Sl.own (.ins c []))) = δ ++ [some (.own (.ins c []))] := by simp
    rw [e1, e2] at r3
    exact r3
  · obtain ⟨a, o, g1, g2, _⟩ := r1.own (snoc_get e)
    rw [snoc_get z] at g1
    cases g1
    rw [hx1] at g2; cases g2
  · simp at e
theorem made_called {as : List Arg} {ds : List D} {vs : List V} {ss' : List Sl} {F' H' : Hp} (r : Rel K cq F H σ δ) (ns : PySem.W.nsIn K mainGlobals c = some (some (.ref C))) (hx : H x = none) (hdx : H dx = none) (ne : dx ≠ x)
    (hv : valsOf as = some ds) (ha : ArgsD K F σ as vs) :
    AOk K F (upd (upd H dx (.own x)) x (.ins C dx [])) (.bor (.ins c []) :: ds.map .val) (.ref x :: vs) ∧
    ∀ {ss' : List Sl} {F' H' : Hp}, Done K F (upd (upd H dx (.own x)) x (.ins C dx [])) (.bor (.ins c []) :: ds.map .val) (.ref x :: vs) F' H' ss' →
      Rel K cq F' H' σ δ ∧ ∀ (m : MD) (q : List Sl), ss' = .bor m :: q → dnN K cq F' H' σ δ m (.ref x) := by
  have r3 := r.made ns hx hdx ne
  have hn : mutOf (δ ++ [some (Sl.own (.ins c []))]) δ.length = some (.own (.ins c []), .ins c []) := by
    unfold mutOf
    rw [List.getElem?_append_right (Nat.le_refl _), Nat.sub_self]
    rfl
  have nd : (slots (Arg.slot δ.length :: as)).Nodup := by
    show (δ.length :: slots as).Nodup
    rw [slots_vals hv]; simp
  have hl : lend (δ ++ [some (Sl.own (.ins c []))]) (Arg.slot δ.length :: as) = some (.bor (.ins c []) :: ds.map .val) := by
    unfold lend
    rw [hn]
    simp only
    rw [lend_vals hv]; rfl
  have hA : ArgsD K F (σ ++ [some (.ref x)]) (Arg.slot δ.length :: as) (.ref x :: vs) := by
    refine ⟨.ref x, vs, rfl, ?_, args_snoc hv ha⟩
    show (σ ++ [some (V.ref x)])[δ.length]? = _
    rw [← r.len]; simp
  refine ⟨r3.lent nd hl hA, fun {ss' F' H'} z => ?_⟩
  have r4 := r3.called nd hl hA z
  obtain ⟨m', hm'⟩ := z.keep 0 (.ins c []) rfl
  cases ss' with
  | nil => simp at hm'
  | cons s0 q0 =>
    have hm' : s0 = .bor m' := by simpa using hm'
    subst hm'
    have eu : unlend (δ ++ [some (Sl.own (.ins c []))]) (Arg.slot δ.length :: as) (.bor m' :: q0) = δ ++ [some (.own m')] := by
      unfold unlend
      rw [hn]
      simp only
      rw [unlend_vals hv]
      simp [Sl.wr]
    rw [eu] at r4
    refine ⟨r4.unsnoc (fun m e => nomatch e), fun m q e => ?_⟩
    cases e
    have hi : (δ ++ [some (Sl.own m')])[δ.length]? = some (some (.own m')) := by simp
    obtain ⟨a, o, g1, g2, g3, g4, g5, g6⟩ := r4.own hi
    have ea : a = x := by
      rw [← r.len] at g1
      simp at g1
      exact g1.symm
    subst ea
    refine ⟨a, o, rfl, g2, g3, g4, g5, g6, fun j n e1 e2 => ?_⟩
    have j1 := snoc_of (y := some (Sl.own m')) e1
    have j2 := snoc_of (y := some (V.ref a)) e2
    have := r4.apart j δ.length a n m' j1 hi j2 (by rw [← r.len]; simp)
    have hj := (List.getElem?_eq_some_iff.mp e1).1
    omega
end
section
variable {X : Cx} {W : WX} {k : Nat} {f C : Addr} {fd : FuncData} {ps : List Str} {φ : List Sl → FR} {x c : Str} {p pos : Pos} {e : Expr} {es : List Expr} {fa : DE → R (List Arg)} {g : Bool}
theorem run_makeV {pins : List (Addr × Obj)} {σ : L2.St} {H : Hp} {s : Shared} {Q : VK} {us : List Value} {vs : List V} (M : Mk X.K C f) (V0 : VOk g X.prog X.w X.K X.mg X.base k f fd ps φ) (room : Room (k + 1) X.A) (gd : g = true → X.A.guards = some []) (hb : Binds X.K fd ps []) (tk : Takes X W)
    (I : L2.Inv X pins σ H s) (rv : Vals vs us)
    (h : ∀ x dx, H x = none → H dx = none → dx ≠ x → spV X.K φ (.ref x :: vs) (upd (upd H dx (.own x)) x (.ins C dx [])) (fun v H2 => v = .non ∧ Q (.ref x) H2) (WE W σ)) :
    wpAny (model X.prog X.w) X.A (call (.ref C) us) (EP X pins σ Q) X.xe s := by
  have hq := h (s.heap.objs.size + 1) s.heap.objs.size (I.hok.fresh (Nat.le_succ _)) (I.hok.fresh (Nat.le_refl _)) (Nat.ne_of_lt (Nat.lt_succ_self _))
  have I2 := Inv.made (C := C) I
  have r2 : Vals (V.ref (s.heap.objs.size + 1) :: vs) (Value.ref (s.heap.objs.size + 1) :: us) := .cons rfl rv
  have hl : (Value.ref (s.heap.objs.size + 1) :: us ++ []).length = ps.length := by
    have e := spV.len V0.len hq
    rw [List.append_nil]
    rw [← e, r2.length]
  have bd := hb _ (Value.ref (s.heap.objs.size + 1) :: us) I2.kIn hl
  rw [List.append_nil] at bd
  refine wpAny_call (make_map (f := f) I.kIn M.makes M.init (beq_iff_eq.mp M.fn) (codeAny_mono (V0.run _ X.stack _ _ ⟨Value.ref (s.heap.objs.size + 1) :: us, []⟩ (Value.ref (s.heap.objs.size + 1) :: us) _ _ (WE W σ) (room.make C us [])
    (fun z => by first | exact gd z | simpa [Around.under] using gd z) (I2.env0.make C us []) bd r2 hq) fun r s' hq' => ?_))
  cases r with
  | error e => exact passAt tk σ pins _ _ e s' I2 hq'
  | ok fl =>
    cases fl with
    | ret u =>
      obtain ⟨v, H', I3, rv, ev, q3⟩ := I2.after hq'
      subst ev
      exact ⟨rv, ⟨V.ref (s.heap.objs.size + 1), H', I3, rfl, q3⟩⟩
    | next => exact False.elim hq'
    | brk => exact False.elim hq'
    | cont => exact False.elim hq'
theorem rd_make {σ : L2.St} {H : Hp} {Q : VK} (ns : PySem.W.nsIn X.K mainGlobals c = some (some (.ref C))) (h : rdN X.K W (makeN c φ fa) σ H Q) : rdA X.K W fa σ H fun vs H1 => ∀ x dx, H1 x = none → H1 dx = none → dx ≠ x → spV X.K φ (.ref x :: vs) (upd (upd H1 dx (.own x)) x (.ins C dx [])) (fun v H2 => v = .non ∧ Q (.ref x) H2) (WE W σ) := by
  refine h.first (DM := dnA X.K) fun cq F H1 δ as vs r d1 z1 x dx hx hdx ne => ?_
  cases hv : valsOf as with
  | none => simp only [hv] at z1; exact False.elim z1
  | some ds =>
    simp only [hv] at z1
    obtain ⟨A, k⟩ := made_called (ss' := []) (F' := F) (H' := H1) r ns hx hdx ne hv d1
    refine ⟨F, _, A, ?_⟩
    split at z1
    · rename_i m q e
      rw [e]
      intro v F' H' dn dv
      obtain ⟨r', dm⟩ := k dn
      exact ⟨dv, z1 _ F' H' r' dn.low (dm m q rfl)⟩
    · rename_i xd q e
      rw [e]
      intro cls od F' H' dn xo
      exact z1 cls od F' H' (k dn).1 dn.low xo
    · exact False.elim z1
theorem vn_make (M : Mk X.K C f) (V0 : VOk g X.prog X.w X.K X.mg X.base k f fd ps φ) (room : Room (k + 1) X.A) (gd : g = true → X.A.guards = some []) (tk : Takes X W) (hg : Gl X x) (hm : X.mg x = some (.ref C)) (ns : PySem.W.nsIn X.K mainGlobals x = some (some (.ref C))) (hb : Binds X.K fd ps [])
    (ha : VA X W (e :: es) fa) (hdb : (x == ("__debug__" : Str)) = false := by decide) (he : starEach (e :: es) X.env = (false, eval e X.env) :: starEach es X.env := by rfl) (hpl : (backTo pos (starEach es X.env)).any (·.1) = false := by rfl) :
    VN X W (.Call (.Name x p) (e :: es) [] pos) (makeN x φ fa) := by
  refine ⟨fun pins s σ H Q I h => wpAny_Call_Name_kw (ld_glob I hg hm ?_ hdb)⟩
  exact PySem.W.callWith_K (h₀ := X.base) I.ok.mod.kin M.kp (thn (ha.run pos pins s σ H _ I (rd_make ns h)) fun us s1 ⟨vs, H1, I1, rv, q⟩ => ⟨I1.kIn, run_makeV M V0 room gd hb tk I1 rv q⟩) he hpl
theorem vn_make0 (M : Mk X.K C f) (V0 : VOk g X.prog X.w X.K X.mg X.base k f fd ps φ) (room : Room (k + 1) X.A) (gd : g = true → X.A.guards = some []) (tk : Takes X W) (hg : Gl X x) (hm : X.mg x = some (.ref C)) (ns : PySem.W.nsIn X.K mainGlobals x = some (some (.ref C))) (hb : Binds X.K fd ps [])
    (hdb : (x == ("__debug__" : Str)) = false := by decide) : VN X W (.Call (.Name x p) [] [] pos) (makeN x φ noA) := by
  refine ⟨fun pins s σ H Q I h => wpAny_Call_Name_kw (ld_glob I hg hm ?_ hdb)⟩
  have h := rd_make ns h
  obtain ⟨cq, F, δ, r, z⟩ := h
  exact PySem.W.callWith_K0 I.kIn M.kp (run_makeV (us := []) M V0 room gd hb tk I .nil (z [] F H r (.refl _) rfl))
end
end PV

/-! PV25: methods, defs held by a name, classes as values, isinstance. -/
namespace PV
open PySem PySem.Spec PyProof.Rows L2
abbrev FT := List (Str × (List Sl → FR))
def lkT : FT → Str → Option (List Sl → FR)
  | [], _ => none
  | (c, φ) :: r, n => if c = n then some φ else lkT r n
variable [Tbl]
section
variable {X : Cx} {W : WX} {k : Nat} {m x : Str} {p pos apos : Pos} {e o : Expr} {es : List Expr} {fo : DE → R D} {fa : DE → R (List Arg)} {g : Bool} {tb : FT}
theorem bind_assoc {α β γ : Type} {r : R α} {f : α → DE → R β} {h : β → DE → R γ} : (r.bind f).bind h = r.bind fun a δ => (f a δ).bind h := by cases r <;> rfl
/-- a call whose first argument is a datum -/
theorem rd_first {φ : List Sl → FR} {c : Cq} {F H : Hp} {σ : L2.St} {δ : DE} {d : D} {v : V} {Q : VK} (r : Rel X.K c F H σ δ) (hd : Den X.K F d v) (z : aft X.K W (dnE X.K) c F σ Q (callF φ (valA (cst d) fa) δ)) :
    rdA X.K W fa σ H fun vs H1 => spV X.K φ (v :: vs) H1 Q (WE W σ) := by
  have z' : aft X.K W (dnE X.K) c F σ Q ((fa δ).bind fun as δ => callF φ (fun δ => .ok (.val d :: as) δ) δ) := by
    have e : callF φ (valA (cst d) fa) δ = (fa δ).bind fun as δ => callF φ (fun δ => .ok (.val d :: as) δ) δ := by
      unfold callF valA
      rw [bind_assoc]
      show (fun x δ => _) d δ = _
      simp only [bind_assoc]
      rfl
    rw [← e]; exact z
  refine z'.next (DM := dnA X.K) r fun F1 H1 δ1 as vs r1 s1 d1 z1 => ?_
  have d2 : ArgsD X.K F1 σ (.val d :: as) (v :: vs) := ⟨v, vs, rfl, Den.mono s1 _ _ hd, d1⟩
  unfold callF at z1
  rw [R.bind_ok] at z1
  by_cases nd : (slots (Arg.val d :: as)).Nodup
  · rw [if_pos nd] at z1
    cases hl : lend δ1 (Arg.val d :: as) with
    | none => rw [hl] at z1; exact False.elim z1
    | some ss =>
      rw [hl] at z1
      refine ⟨F1, ss, r1.lent nd hl d2, ?_⟩
      have z1 : aft X.K W (dnE X.K) c F1 σ Q (match φ ss with
        | .ret d' ss' => .ok d' (unlend δ1 (Arg.val d :: as) ss')
        | .exc x ss' => .exc x (unlend δ1 (Arg.val d :: as) ss')
        | .stuck => .stuck) := z1
      cases hq : φ ss with
      | ret d' ss' => rw [hq] at z1; exact fun v F' H' dn dd => z1 v F' H' (r1.called nd hl d2 dn) dn.low dd
      | exc x ss' => rw [hq] at z1; exact fun cls od F' H' dn dd => z1 cls od F' H' (r1.called nd hl d2 dn) dn.low dd
      | stuck => rw [hq] at z1; exact z1
  · rw [if_neg nd] at z1; exact False.elim z1
/-- o.m(..) of a frozen instance, by its class -/
def callM (m : Str) (tb : FT) (fo : DE → R D) (fa : DE → R (List Arg)) : DE → R D := fun δ => (fo δ).bind fun o δ => match o with
  | .ins c l => match lkT tb c with
    | some φ => if lkF l m = none then callF φ (valA (cst (.ins c l)) fa) δ else .stuck
    | none => .stuck
  | _ => .stuck
/-- the classes' method m -/
def MethV (X : Cx) (k : Nat) (g : Bool) (m : Str) (tb : FT) : Prop := ∀ c φ, lkT tb c = some φ → ∃ C f fd ps, ClsT X.K c C ∧ Meth X.K C m f ∧ VOk g X.prog X.w X.K X.mg X.base k f fd ps φ ∧ Binds X.K fd ps []
theorem MethV.nil : MethV X k g m [] := fun c φ h => by cases h
theorem MethV.cons {c : Str} {φ : List Sl → FR} {C f : Addr} {fd : FuncData} {ps : List Str} {j : Nat} (t : ClsT X.K c C) (hm : Meth X.K C m f) (v : VOk g X.prog X.w X.K X.mg X.base j f fd ps φ) (hj : j ≤ k) (b : Binds X.K fd ps []) (r : MethV X k g m tb) : MethV X k g m ((c, φ) :: tb) := fun c' φ' h => by
  unfold lkT at h
  split at h
  · rename_i q; cases h; subst q; exact ⟨C, f, fd, ps, t, hm, v.mono hj, b⟩
  · exact r c' φ' h
/-- what a method call's object gives -/
def MethR (X : Cx) (W : WX) (m : Str) (tb : FT) (fa : DE → R (List Arg)) (σ : L2.St) (Q : VK) (v : V) (H1 : Hp) : Prop := ∃ c φ C a dx fs, lkT tb c = some φ ∧ PySem.W.nsIn X.K mainGlobals c = some (some (.ref C)) ∧ v = .ref a ∧ H1 a = some (.ins C dx fs) ∧ fs.lookup m = none ∧ rdA X.K W fa σ H1 fun vs H2 => spV X.K φ (v :: vs) H2 Q (WE W σ)
theorem rd_meth {σ : L2.St} {H : Hp} {Q : VK} (h : rdE X.K W (callM m tb fo fa) σ H Q) : rdE X.K W fo σ H (MethR X W m tb fa σ Q) := by
  refine h.first (DM := dnE X.K) fun c F H1 δ d v r d1 z1 => ?_
  split at z1
  · rename_i cn l
    split at z1
    · rename_i φ hφ
      split at z1
      · rename_i hl
        have d0 := d1
        obtain ⟨C, a, dx, fs, rfl, e0, e1, e2⟩ := d1
        exact ⟨cn, φ, C, a, dx, fs, hφ, e0, rfl, r.sub _ _ e1, denF_no e2 hl, rd_first r d0 z1⟩
      · exact False.elim z1
    · exact False.elim z1
  · exact False.elim z1
theorem ve_meth {pl : Sem Bool} (he : VE X W o fo) (tm : MethV X k g m tb) (room : Room k X.A) (gd : g = true → X.A.guards = some []) (tk : Takes X W) (ha : VA X W (e :: es) fa)
    (hst : starEach (e :: es) X.env = (false, eval e X.env) :: starEach es X.env := by rfl) (hpl : (backTo pos (starEach es X.env)).any (·.1) = false := by rfl)
    (ht : eval (.Call (.Attribute o m apos) (e :: es) [] pos) X.env = (do
      let ov ← eval o X.env
      standAt apos.atName
      let (f, first) ← holding [ov] (getMethod ov m pl)
      callWith pos f first (backTo pos (starEach (e :: es) X.env)) (backToKw pos (keywordEach [] X.env))) := by rfl) :
    VE X W (.Call (.Attribute o m apos) (e :: es) [] pos) (callM m tb fo fa) := by
  refine ⟨fun pins s σ H Q I h => ?_⟩
  refine PySem.W.methodCall_KW (pl := pl) (thn (he.run pins s σ H _ I (rd_meth h)) fun u s1 ⟨v, H1, I1, rx, c, φ, C, a, dx, fs, hφ, ns, ex, ea, l, q⟩ => ?_) ht
  subst ex
  obtain rfl : u = Value.ref a := rx
  obtain ⟨C', f, fd, ps, t, hm, V0, hb⟩ := tm c φ hφ
  have := ns_uniq t.ns ns
  subst this
  refine getmeth_ok I1 ea t.cls hm l ?_
  refine PySem.W.callWith_K (first := [.ref a]) (h₀ := X.base) I.ok.mod.kin hm.kp (thn (ha.run pos pins s1 σ H1 _ I1 q) fun us s2 ⟨vs, H2, I2, r, q2⟩ => ⟨I2.kIn, ?_⟩) hst hpl
  exact run_V (us := .ref a :: us) (vs := .ref a :: vs) V0 room gd hb tk I2 (.cons rfl r) q2
theorem ve_meth0 {pl : Sem Bool} (he : VE X W o fo) (tm : MethV X k g m tb) (room : Room k X.A) (gd : g = true → X.A.guards = some []) (tk : Takes X W)
    (ht : eval (.Call (.Attribute o m apos) [] [] pos) X.env = (do
      let ov ← eval o X.env
      standAt apos.atName
      let (f, first) ← holding [ov] (getMethod ov m pl)
      callWith pos f first (backTo pos (starEach [] X.env)) (backToKw pos (keywordEach [] X.env))) := by rfl) :
    VE X W (.Call (.Attribute o m apos) [] [] pos) (callM m tb fo noA) := by
  refine ⟨fun pins s σ H Q I h => ?_⟩
  refine PySem.W.methodCall_KW (pl := pl) (thn (he.run pins s σ H _ I (rd_meth h)) fun u s1 ⟨v, H1, I1, rx, c, φ, C, a, dx, fs, hφ, ns, ex, ea, l, q⟩ => ?_) ht
  subst ex
  obtain rfl : u = Value.ref a := rx
  obtain ⟨C', f, fd, ps, t, hm, V0, hb⟩ := tm c φ hφ
  have := ns_uniq t.ns ns
  subst this
  refine getmeth_ok I1 ea t.cls hm l ?_
  obtain ⟨cq, F, δ, r, z⟩ := q
  exact PySem.W.callWith_K0 (first := [.ref a]) I1.kIn hm.kp (run_V (us := [.ref a]) (vs := [.ref a]) V0 room gd hb tk I1 (.cons rfl .nil) (z [] F H1 r (.refl _) rfl))
/-- a def or an own class as a value -/
theorem ve_fn {a : Addr} (hg : Gl X x) (hm : X.mg x = some (.ref a)) (ns : PySem.W.nsIn X.K mainGlobals x = some (some (.ref a))) (hdb : (x == ("__debug__" : Str)) = false := by decide) : VE X W (.Name x pos) (cst (.fn x)) :=
  ve_glob (v := .ref a) hg hm rfl (fun F => ⟨a, rfl, ns⟩) hdb
/-- f(..) of a def that a name holds -/
def callL (i : Nat) (tb : FT) (fa : DE → R (List Arg)) : DE → R D := fun δ => match δ[i]? with
  | some (some (.val (.fn n))) => match lkT tb n with
    | some φ => callF φ fa δ
    | none => .stuck
  | _ => .stuck
def FnV (X : Cx) (k : Nat) (g : Bool) (tb : FT) : Prop := ∀ n φ, lkT tb n = some φ → ∃ f fd ps, PySem.W.nsIn X.K mainGlobals n = some (some (.ref f)) ∧ VOk g X.prog X.w X.K X.mg X.base k f fd ps φ ∧ PySem.W.keepIn X.K (.ref f) = true ∧ Binds X.K fd ps []
theorem FnV.nil : FnV X k g [] := fun c φ h => by cases h
theorem FnV.cons {c : Str} {φ : List Sl → FR} {f : Addr} {fd : FuncData} {ps : List Str} {j : Nat} (ns : PySem.W.nsIn X.K mainGlobals c = some (some (.ref f))) (v : VOk g X.prog X.w X.K X.mg X.base j f fd ps φ) (hj : j ≤ k) (hk : PySem.W.keepIn X.K (.ref f) = true) (b : Binds X.K fd ps []) (r : FnV X k g tb) : FnV X k g ((c, φ) :: tb) := fun c' φ' h => by
  unfold lkT at h
  split at h
  · rename_i q; cases h; subst q; exact ⟨f, fd, ps, ns, v.mono hj, hk, b⟩
  · exact r c' φ' h
theorem ve_callL (i : Nat) (tf : FnV X k g tb) (room : Room k X.A) (gd : g = true → X.A.guards = some []) (tk : Takes X W) (ha : VA X W (e :: es) fa) (hN : X.N[i]? = some x := by rfl) (hv : Vis X.env.scope x := by first | exact Or.inl rfl | exact Or.inr (Or.inl rfl) | exact Or.inr (Or.inr rfl))
    (hdb : (x == ("__debug__" : Str)) = false := by decide) (hcd : (x == ("__classdict__" : Str)) = false := by decide)
    (he : starEach (e :: es) X.env = (false, eval e X.env) :: starEach es X.env := by rfl) (hpl : (backTo pos (starEach es X.env)).any (·.1) = false := by rfl) : VE X W (.Call (.Name x p) (e :: es) [] pos) (callL i tb fa) := by
  refine ⟨fun pins s σ H Q I h => ?_⟩
  obtain ⟨c, F, δ, r, z⟩ := h
  unfold callL at z
  split at z
  · rename_i n e1
    split at z
    · rename_i φ e2
      obtain ⟨f, fd, ps, ns, V0, hk, hb⟩ := tf n φ e2
      obtain ⟨v, e3, a, rfl, e4⟩ := r.val e1
      have := ns_uniq ns e4
      subst this
      refine wpAny_Call_Name_kw (thn ((pe_var (pos := p) hN hv hdb hcd).run pins s σ H (fun v H1 => v = .ref f ∧ H1 = H) I ⟨.ref f, e3, rfl, rfl⟩) fun u s1 ⟨v, H1, I1, r1, q1⟩ => ?_)
      obtain ⟨rfl, rfl⟩ := q1
      cases r1
      exact PySem.W.callWith_K (h₀ := X.base) I.ok.mod.kin hk (thn (ha.run pos pins s1 σ _ _ I1 (rd_call ⟨c, F, δ, r, z⟩)) fun us s2 ⟨vs, H2, I2, r, q⟩ => ⟨I2.kIn, run_V V0 room gd hb tk I2 r q⟩) he hpl
    · exact False.elim z
  · exact False.elim z
/-! ### isinstance of own classes -/
def D.cnN : D → Option (Bool × Str)
  | .ins c _ => some (true, c)
  | d => d.tyN.map fun (t : String) => (false, Str.ofString t)
/-- im own t c: an instance of t (own: of an own class) is one of c -/
def isiC (im : Bool → Str → Str → Option Bool) : List D → Option D
  | [x, .fn c] => x.cnN.bind fun t => (im t.1 t.2 c).map .bl
  | _ => none
/-- the type of a name -/
def TyIs (K : PySem.W.Frag) : Bool → Str → Value → Prop
  | true, n, v => ∃ C, v = .ref C ∧ ClsT K n C
  | false, n, v => ∃ t : String, n = Str.ofString t ∧ v = .type t
structure ImOk (K : PySem.W.Frag) (im : Bool → Str → Str → Option Bool) : Prop where
  ok : ∀ o n m b T C, im o n m = some b → TyIs K o n T → PySem.W.nsIn K mainGlobals m = some (some (.ref C)) → PySem.W.kitOne K T (.ref C) = some b
  cls : ∀ n m b, im true n m = some b → ∃ C, ClsT K n C
  hn : PySem.W.specialIn K (.builtin "object.__class__") "__get__" = some (some (.builtin "getset_descriptor.__get__"))
  tk : PySem.W.takesIn K (.builtin "object.__class__") = some true
theorem b_isiC {im : Bool → Str → Str → Option Bool} (M : ImOk X.K im) : Bf X (.builtin "isinstance") (isiC im) := by
  refine ⟨_, call_isi, fun c F H σ δ ds z vs Q r d1 q k => ?_⟩
  unfold isiC at q
  split at q
  · rename_i x cn
    obtain ⟨t, q1, q2⟩ := Option.bind_eq_some_iff.mp q
    obtain ⟨b, q3, rfl⟩ := Option.map_eq_some_iff.mp q2
    obtain ⟨v, v', rfl, h1, h2⟩ := densH2 d1
    have h2 := h2.low (fun _ z => nomatch z) (fun _ z => nomatch z) (fun _ z => nomatch z) fun _ _ z => nomatch z
    obtain ⟨C, rfl, nc⟩ := h2
    unfold D.cnN at q1
    split at q1
    · rename_i cn' l
      cases q1
      obtain ⟨C1, t1⟩ := M.cls _ _ _ q3
      have key : ∀ {a dx fs}, H a = some (.ins C1 dx fs) → rIsi X.K [.ref a, .ref C] H Q := fun {a dx fs} ha =>
        ⟨_, _, _, _, b, rfl, .own C, .base (.ins ha t1.cls t1.cc M.hn M.tk t1.mo), M.ok true _ _ b _ C q3 ⟨C1, rfl, t1⟩ nc, k _ F H r (.refl _) rfl⟩
      rcases h1 with ⟨C', a, dx, fs, rfl, e0, e1, e2⟩ | ⟨m, a, o, e', rfl, e1, e2⟩
      · have := ns_uniq t1.ns e0
        subst this
        exact key (r.sub _ _ e1)
      · cases m with
        | lst l => cases e'
        | dct l => cases e'
        | dcT l => cases e'
        | ins c' l' =>
          cases e'
          obtain ⟨C', dx, fs, rfl, e0, e5⟩ := mden_ins e2
          have := ns_uniq t1.ns e0
          subst this
          exact key e1
    · obtain ⟨ty, q4, rfl⟩ := Option.map_eq_some_iff.mp q1
      exact ⟨v, _, _, _, b, rfl, .own C, tyN_x r.sub h1 q4, M.ok false _ _ b _ C q3 ⟨ty, rfl, rfl⟩ nc, k _ F H r (.refl _) rfl⟩
  · cases q
end
end PV

/-! PV26: a def of a class that says super().__init__(..). -/
namespace PV
open PySem PySem.Spec PyProof.Rows L2
structure FnScopeS (N P : List Str) (sc : Scope) : Prop where
  kind : sc.kind = .function
  co : sc.isCoroutine = false
  gen : sc.isGenerator = false
  nd : N.Nodup
  pre : N.take P.length = P
  par : ∀ x ∈ P, sc.names.lookup x = some .local
  nocell : ∀ y ∈ sc.names, y.2 ≠ .cell
  free : ∀ y ∈ sc.names, y.2 = .free → y.1 = "__class__"
  hk : sc.names.lookup ("__class__" : Str) = some .free
  hs : sc.names.lookup ("super" : Str) = some .globalImplicit
structure FunS (K : PySem.W.Frag) (x qual : Str) (st : Stmt) (f : Addr) (fd : FuncData) (cc Dc cda : Addr) (file : Str) : Prop where
  ex : ∃ (oc : Value) (od : Option Addr) (kV doc pm : Value) (an : Option Addr) (ct : Value) (osl : Array (Option Value)),
    fd = PySem.W.fnX x qual (defArgs st) (defBody st) (defScope st) [("__class__", cc)] .none kV doc pm an (.ref cda) ct ∧ K.lookup f = some ⟨oc, od, .func fd, osl⟩
  code : PySem.W.codeIn K (.ref cda) qual = true
  kp : PySem.W.keepIn K (.ref f) = true
  cell : ∃ cl cld csl, K.lookup cc = some ⟨cl, cld, .cell (some (.ref Dc)), csl⟩
  file : ∃ ccl cdd vs ccs tf, K.lookup cda = some ⟨ccl, cdd, .fields vs, ccs⟩ ∧ vs[2]? = some (.str file tf)
theorem FunS.binds {K : PySem.W.Frag} {x qual : Str} {st : Stmt} {f : Addr} {fd : FuncData} {cc Dc cda : Addr} {file : Str} {ps : List Str} (F : FunS K x qual st f fd cc Dc cda file)
    (h : ∀ (kV doc pm : Value) (an : Option Addr) (ct : Value) (us : List Value), us.length = ps.length → bindArgs (PySem.W.fnX x qual (defArgs st) (defBody st) (defScope st) [("__class__", cc)] .none kV doc pm an (.ref cda) ct) ⟨us, []⟩ = pure (ps.zip us)) : Binds K fd ps [] := by
  obtain ⟨oc, od, kV, doc, pm, an, ct, osl, rfl, lk⟩ := F.ex
  exact .all (h kV doc pm an ct)
abbrev envS (qual : Str) (scope : Scope) (L f cda cc : Addr) : Env := PySem.W.envX qual scope L f (.ref cda) [("__class__", cc)]
abbrev cxS (P : Program) (w : World) (K : PySem.W.Frag) (mg : Str → Option Value) (base : Heap) (N : List Str) (qual : Str) (scope : Scope) (f cda cc : Addr) (A : Around) (outer : List Env) (s : Shared) (H : Hp) (E : XK) : Cx where
  prog := P
  w := w
  K := K
  mg := mg
  base := base
  A := A.deeper (envS qual scope s.heap.objs.size f cda cc)
  N := N
  s_0 := s
  H_0 := H
  env := envS qual scope s.heap.objs.size f cda cc
  outer := outer
  stack := envS qual scope s.heap.objs.size f cda cc :: outer
  ex := []
  calm := true
  fn := fun x => !(x == ("__class__" : Str))
  pn := []
  xe := fun e s' => wpAny (model P w) (A.deeper (envS qual scope s.heap.objs.size f cda cc)) (leaving (envS qual scope s.heap.objs.size f cda cc) e) (fun _ s'' => L2.CX P w outer H s E e s'') (fun e' s'' => L2.CX P w outer H s E e' s'') s'
theorem cl1 {x : Str} {cc c : Addr} (h : ([("__class__", cc)] : List (Str × Addr)).lookup x = some c) : x = "__class__" ∧ c = cc := by
  unfold List.lookup at h
  split at h
  · rename_i e; exact ⟨beq_iff_eq.mp e, (Option.some.inj h).symm⟩
  · cases h
theorem zip_lk : ∀ {ps : List Str} {us : List Value} {i : Nat} {y : Str} {u : Value}, ps.Nodup → ps[i]? = some y → us[i]? = some u → (ps.zip us).reverse.lookup y = some u := by
  intro ps us i y u nd h1 h2
  have key : ∀ (l : List (Str × Value)), (l.map (·.1)).Nodup → (y, u) ∈ l → l.lookup y = some u := by
    intro l
    induction l with
    | nil => intro _ h; cases h
    | cons p r ih =>
      intro nd h
      rcases List.mem_cons.mp h with q | q
      · rw [← q]; simp [List.lookup]
      · have nd' := List.nodup_cons.mp (show ((p.1 :: r.map (·.1)) : List Str).Nodup from nd)
        have hb : (y == p.1) = false := beq_eq_false_iff_ne.mpr fun z => nd'.1 (by rw [← z]; exact List.mem_map_of_mem (f := (·.1)) q)
        obtain ⟨p1, p2⟩ := p
        simp only [List.lookup, hb]
        exact ih nd'.2 q
  refine key _ ?_ ?_
  · rw [List.map_reverse]
    have sub : ∀ (ps : List Str) (us : List Value), ((ps.zip us).map (·.1)).Sublist ps := by
      intro ps
      induction ps with
      | nil => intro us; simp
      | cons p ps ih =>
        intro us
        cases us with
        | nil => simp
        | cons u us => simp only [List.zip_cons_cons, List.map_cons]; exact (ih us).cons_cons p
    have : ((ps.zip us).map (·.1)).Nodup := nd.sublist (sub ps us)
    exact (List.reverse_perm _).nodup_iff.mpr this
  · rw [List.mem_reverse]
    have h3 : (ps.zip us)[i]? = some (y, u) := List.getElem?_zip_eq_some.mpr ⟨h1, h2⟩
    exact List.mem_of_getElem? h3
theorem inv_startS {P : Program} {w : World} {K : PySem.W.Frag} {mg : Str → Option Value} {base : Heap} {N ps : List Str} {qual : Str} {scope : Scope} {f cda cc Dc : Addr} {A : Around} {outer : List Env} {s : Shared} {H : Hp} {E : XK} {us : List Value} {vs : List V} {h1 : Heap} {tk : Nat}
    (S : FnScopeS N ps scope) (hd : A.handled = none) (e0 : Env0 P w K mg base A outer s H) (hl : vs.length = ps.length) (r : Vals vs us) (hc : ∃ cl cld csl, K.lookup cc = some ⟨cl, cld, .cell (some (.ref Dc)), csl⟩)
    (hns : h1.Ns s.heap.objs.size (fun x => (ps.zip us).reverse.lookup x)) (hk : ∀ b o, s.heap.get? b = some o → h1.get? b = some o) :
    Inv (cxS P w K mg base N qual scope f cda cc A outer s H E) [] (L2.start N vs) H { s with heap := h1, toks := tk } := by
  have hpl : ps.length ≤ N.length := by have := congrArg List.length S.pre; rw [List.length_take] at this; omega
  have noA : ∀ b : Addr, b ∉ (cxS P w K mg base N qual scope f cda cc A outer s H E).ex := fun b z => absurd (show b ∈ ([] : List Addr) from z) (by simp)
  obtain ⟨cl, cld, csl, hcc⟩ := hc
  have hb := e0.mod.kin _ _ hcc
  refine ⟨⟨e0.mod, S.kind, rfl, rfl, Nat.le_refl _, fun y z c h1 h2 => (cl1 h1).1.trans (cl1 h2).1.symm, fun y hy => ?_, fun y c h3 h => ?_, fun _ => hd, Around.frames_deeper e0.frames, .inr ⟨rfl, rfl⟩, fun b z => absurd z (noA b), e0.bs, e0.bsz, fun b _ _ => noA b, fun b z => absurd z (noA b), e0.funs, e0.frf⟩,
    rfl, e0.bare, Un.kept hk, ⟨_, hns, fun i y v h1 h2 h3 => ?_⟩, fun y c h => ?_, e0.hok.fresh (Nat.le_refl _), fun y c h => ?_, fun p hp => absurd (show p ∈ ([] : List (Addr × Obj)) from hp) (by simp), e0.hok.kept hk, ?_⟩
  · have hy : scope.names.lookup y = some .cell ∨ scope.names.lookup y = some .free := hy
    rcases hy with hy | hy
    · exact absurd rfl (S.nocell _ (PySem.mem_of_lookup hy))
    · have := S.free _ (PySem.mem_of_lookup hy) rfl
      exact ⟨cc, by rw [show y = _ from this]; rfl⟩
  · obtain ⟨rfl, rfl⟩ := cl1 h
    exact absurd h3 (by show ¬ (!(("__class__" : Str) == ("__class__" : Str))) = true; decide)
  · have hi : i < vs.length := by
      unfold L2.start at h2
      by_cases hi : i < vs.length
      · exact hi
      · rw [List.getElem?_append_right (by simpa using hi)] at h2
        rw [List.getElem?_replicate] at h2
        split at h2 <;> cases h2
    have ha : vs[i]? = some v := by
      unfold L2.start at h2
      rw [List.getElem?_append_left (by simpa using hi), List.getElem?_map] at h2
      cases e : vs[i]? with
      | none => rw [e] at h2; cases h2
      | some a => rw [e] at h2; cases h2; rfl
    obtain ⟨u, hu, rv⟩ := r.get ha
    have hp : ps[i]? = some y := by
      rw [← S.pre, List.getElem?_take_of_lt (by omega)]; exact h1
    have ndP : ps.Nodup := by rw [← S.pre]; exact S.nd.sublist (List.take_sublist _ _)
    exact ⟨u, rv, .inl ⟨S.par y (List.mem_of_getElem? hp), zip_lk ndP hp hu⟩⟩
  · obtain ⟨rfl, rfl⟩ := cl1 h
    exact ⟨_, _, hk _ _ (e0.bs _ _ hb).1, rfl⟩
  · obtain ⟨rfl, rfl⟩ := cl1 h
    exact (e0.bs _ _ hb).2
  · unfold L2.start
    show _ = N.length
    rw [List.length_append, List.length_map, List.length_replicate]
    omega
variable [Tbl]
/-- a block, where the code that runs is known -/
def VSA (X : Cx) (W : WX) (c : Code) (sts : List Stmt) (g : DE → O) : Prop := ∀ (pins : List (Addr × Obj)) (s : Shared) (σ : L2.St) (H : Hp) (D : Ends), L2.Inv X pins σ H s → rdS X.K W g D σ H → PySem.wpAt (model X.prog X.w) X.A c (execs sts X.env) (SP X pins D) X.xe s
def VSA1 (X : Cx) (W : WX) (c : Code) (st : Stmt) (g : DE → O) : Prop := ∀ (pins : List (Addr × Obj)) (s : Shared) (σ : L2.St) (H : Hp) (D : Ends), L2.Inv X pins σ H s → rdS X.K W g D σ H → PySem.wpAt (model X.prog X.w) X.A c (exec st X.env) (SP X pins D) X.xe s
section
variable {X : Cx} {W : WX} {c : Code} {st : Stmt} {rest sts : List Stmt} {g h : DE → O}
theorem vsa_of (k : VSs X W sts g) : VSA X W c sts g := fun pins s σ H D I z => PySem.wpAt_of_wpAny (k.run pins s σ H D I z)
theorem vsa1_of (k : VS X W st g) : VSA1 X W c st g := fun pins s σ H D I z => PySem.wpAt_of_wpAny (k.run pins s σ H D I z)
theorem vsa_cons (k : VSA1 X W c st g) (l : VSA X W c rest h) : VSA X W c (st :: rest) (thenS g h) := fun pins s σ H D I z => by
  refine ks_wpAt_execs_cons (PySem.wpAt_mono (k pins s σ H { D with nx := rdS X.K W h D } I (rd_then z)) (fun f s1 q => ?_) fun _ _ x => x)
  cases f with
  | next =>
    obtain ⟨σ', H', I', q⟩ := q
    exact l pins s1 σ' H' D I' q
  | ret v => exact q
  | brk => exact q
  | cont => exact q
theorem vsa_one (k : VSA1 X W c st g) : VSA X W c [st] g := fun pins s σ H D I z => by
  refine ks_wpAt_execs_cons (PySem.wpAt_mono (k pins s σ H D I z) (fun f s1 q => ?_) fun _ _ x => x)
  cases f with
  | next =>
    obtain ⟨σ', H', I', q⟩ := q
    exact PySem.wpAt_of_wpAny (wpAny_execs_nil ⟨σ', H', I', q⟩)
  | ret v => exact q
  | brk => exact q
  | cont => exact q
end
end PV

/-! PV27: super().__init__(..), and the worth of a def that says it. -/
namespace PV
open PySem PySem.Spec PyProof.Rows L2
/-- what the text has for super().__init__ of an instance of the class c, in a def of the class at D -/
structure SupC (K : PySem.W.Frag) (c : Str) (D f2 : Addr) : Prop where
  ex : ∃ C cd, PySem.W.nsIn K mainGlobals c = some (some (.ref C)) ∧ PySem.W.clsIn K C = some cd ∧ PySem.W.mroIn K C (.ref D) = some true ∧ PySem.W.ks_superIn K C D "__init__" = some (some (.ref f2))
structure SupG (X : Cx) (D f2 : Addr) (file : Str) : Prop where
  clsD : ∃ cd, PySem.W.clsIn X.K D = some cd
  sup : X.mg "super" = none
  any : PySem.W.nsIn X.K cStatics "thirdparty.any" = some none
  ty : PySem.W.typeIn X.K (.ref f2) = some (.type "function")
  fn : PySem.W.fnIn X.K f2 = true
  file : ((X.prog.main.file : Str) == file) = true
  top : (X.prog.main.scope.names.lookup ("super" : Str)).isSome = false
variable [Tbl]
def supE (cs : List Str) (φ : List Sl → FR) (fa : DE → R (List Arg)) : DE → R D := fun δ => match mutOf δ 0 with
  | some (_, .ins c _) => if c ∈ cs then callF φ (slotA 0 fa) δ else .stuck
  | _ => .stuck
/-- a call whose first argument is slot 0 -/
theorem rd_slot0 {X : Cx} {W : WX} {fa : DE → R (List Arg)} {φ : List Sl → FR} {c : Cq} {F H : Hp} {σ : L2.St} {δ : DE} {v : V} {Q : VK} {p : Sl × MD} (r : Rel X.K c F H σ δ) (hm : mutOf δ 0 = some p) (hv : σ[0]? = some (some v)) (z : aft X.K W (dnE X.K) c F σ Q (callF φ (slotA 0 fa) δ)) :
    rdA X.K W fa σ H fun vs H1 => spV X.K φ (v :: vs) H1 Q (WE W σ) := by
  have z' : aft X.K W (dnE X.K) c F σ Q ((fa δ).bind fun as δ => callF φ (fun δ => .ok (.slot 0 :: as) δ) δ) := by
    have e : callF φ (slotA 0 fa) δ = (fa δ).bind fun as δ => callF φ (fun δ => .ok (.slot 0 :: as) δ) δ := by
      unfold callF slotA
      rw [hm]
      simp only [bind_assoc]
    rw [← e]; exact z
  refine z'.next (DM := dnA X.K) r fun F1 H1 δ1 as vs r1 s1 d1 z1 => ?_
  have d2 : ArgsD X.K F1 σ (.slot 0 :: as) (v :: vs) := ⟨v, vs, rfl, hv, d1⟩
  unfold callF at z1
  rw [R.bind_ok] at z1
  by_cases nd : (slots (Arg.slot 0 :: as)).Nodup
  · rw [if_pos nd] at z1
    cases hl : lend δ1 (Arg.slot 0 :: as) with
    | none => rw [hl] at z1; exact False.elim z1
    | some ss =>
      rw [hl] at z1
      refine ⟨F1, ss, r1.lent nd hl d2, ?_⟩
      have z1 : aft X.K W (dnE X.K) c F1 σ Q (match φ ss with
        | .ret d' ss' => .ok d' (unlend δ1 (Arg.slot 0 :: as) ss')
        | .exc x ss' => .exc x (unlend δ1 (Arg.slot 0 :: as) ss')
        | .stuck => .stuck) := z1
      cases hq : φ ss with
      | ret d' ss' => rw [hq] at z1; exact fun v F' H' dn dd => z1 v F' H' (r1.called nd hl d2 dn) dn.low dd
      | exc x ss' => rw [hq] at z1; exact fun cls od F' H' dn dd => z1 cls od F' H' (r1.called nd hl d2 dn) dn.low dd
      | stuck => rw [hq] at z1; exact z1
  · rw [if_neg nd] at z1; exact False.elim z1
section
variable {P : Program} {w : World} {K : PySem.W.Frag} {mg : Str → Option Value} {base : Heap}
theorem vsa_super {x qual : Str} {st : Stmt} {f f2 : Addr} {fd fd2 : FuncData} {cc Dc cda : Addr} {file : Str} {N ps ps2 : List Str} {A : Around} {outer : List Env} {s0 : Shared} {H0 : Hp} {E : XK} {W : WX} {bd : List Stmt} {self : Str} {ar : PySem.Arg} {p0 p1 apos pos epos : Pos} {e : Expr} {es : List Expr} {fa : DE → R (List Arg)} {φ : List Sl → FR} {cs : List Str} {k : Nat} {g : Bool} {pl : Sem Bool}
    (T : FunS K x qual st f fd cc Dc cda file) (S : FnScopeS N ps (defScope st)) (hs0 : N[0]? = some self) (hsl : (defScope st).names.lookup self = some .local)
    (hp : ((defArgs st).posonlyargs ++ (defArgs st).args).head? = some ar) (har : ar.arg = self)
    (G : SupG (cxS P w K mg base N qual (defScope st) f cda cc A outer s0 H0 E) Dc f2 file) (sc : ∀ c ∈ cs, SupC K c Dc f2)
    (V0 : VOk g P w K mg base k f2 fd2 ps2 φ) (room : Room k (A.deeper (envS qual (defScope st) s0.heap.objs.size f cda cc))) (gd : g = true → (A.deeper (envS qual (defScope st) s0.heap.objs.size f cda cc)).guards = some []) (hb : Binds K fd2 ps2 [])
    (tk : Takes (cxS P w K mg base N qual (defScope st) f cda cc A outer s0 H0 E) W) (ha : VA (cxS P w K mg base N qual (defScope st) f cda cc A outer s0 H0 E) W (e :: es) fa)
    (hst : starEach (e :: es) (envS qual (defScope st) s0.heap.objs.size f cda cc) = (false, eval e (envS qual (defScope st) s0.heap.objs.size f cda cc)) :: starEach es (envS qual (defScope st) s0.heap.objs.size f cda cc) := by rfl) (hpl : (backTo pos (starEach es (envS qual (defScope st) s0.heap.objs.size f cda cc))).any (·.1) = false := by rfl)
    (hsw : swapsWith (.Call (.Attribute (.Call (.Name "super" p0) [] [] p1) "__init__" apos) (e :: es) [] pos) none epos.line (envS qual (defScope st) s0.heap.objs.size f cda cc) = pure false := by rfl)
    (ht : eval (.Call (.Attribute (.Call (.Name "super" p0) [] [] p1) "__init__" apos) (e :: es) [] pos) (envS qual (defScope st) s0.heap.objs.size f cda cc) = (do
      let ov ← attributeBase (.Call (.Name "super" p0) [] [] p1) "__init__" (envS qual (defScope st) s0.heap.objs.size f cda cc) (eval (.Call (.Name "super" p0) [] [] p1) (envS qual (defScope st) s0.heap.objs.size f cda cc))
      standAt apos.atName
      let (fv, first) ← holding [ov] (getMethod ov "__init__" pl)
      callWith pos fv first (backTo pos (starEach (e :: es) (envS qual (defScope st) s0.heap.objs.size f cda cc))) []) := by rfl) :
    VSA1 (cxS P w K mg base N qual (defScope st) f cda cc A outer s0 H0 E) W (.func bd (envS qual (defScope st) s0.heap.objs.size f cda cc)) (.Expr (.Call (.Attribute (.Call (.Name "super" p0) [] [] p1) "__init__" apos) (e :: es) [] pos) epos) (dropS (supE cs φ fa)) := by
  intro pins s σ H D I z
  have z1 : rdE K W (supE cs φ fa) σ H (fun _ H1 => D.nx σ H1) := z.first (DM := dnE K) (fun c F H1 δ a v r d zz => zz σ F H1 r (.refl _))
  obtain ⟨cq, F, δ, r, z2⟩ := z1
  unfold supE at z2
  split at z2
  rotate_left
  · exact False.elim z2
  rename_i sl cn l hm
  split at z2
  rotate_left
  · exact False.elim z2
  rename_i hcn
  obtain ⟨g1, g2⟩ := mutOf_some hm
  obtain ⟨xa, o, e1, e2, e3, e4⟩ := r.mutAt g1 g2
  obtain ⟨C, dx, fs, rfl, ns, _⟩ := mden_ins e3
  obtain ⟨C', cd, ns', hcd, hmro, hsu⟩ := (sc cn hcn).ex
  have := ns_uniq ns' ns
  subst this
  have za := rd_slot0 (X := cxS P w K mg base N qual (defScope st) f cda cc A outer s0 H0 E) r hm e1 z2
  obtain ⟨mA, O, _, _, _, _⟩ := ins_get I.hok e2
  have hx := O.obj
  obtain ⟨oc, od, kV, doc, pm, an, ct, osl, rfl, lk⟩ := T.ex
  obtain ⟨cl, cld, csl, hcell⟩ := T.cell
  obtain ⟨ccl, cdd, vs, ccs, tf, hcode, hvs⟩ := T.file
  obtain ⟨cdD, hD⟩ := G.clsD
  have kin : K.In s.heap := I.kIn
  obtain ⟨oD, hD1, hD2⟩ : ∃ oD, s.heap.get? Dc = some oD ∧ oD.data = .cls cdD := by
    unfold PySem.W.clsIn at hD
    split at hD
    · rename_i c d cd' sl ho
      cases hD
      exact ⟨_, kin _ _ ho, rfl⟩
    · cases hD
  obtain ⟨off, hof, hofc⟩ : ∃ off, K.lookup f2 = some off ∧ off.cls = .type "function" := by
    have ht' : (K.lookup f2).map (·.cls) = some (.type "function") := G.ty
    cases z : K.lookup f2 with
    | none => rw [z] at ht'; cases ht'
    | some of => rw [z] at ht'; exact ⟨of, rfl, Option.some.inj ht'⟩
  obtain ⟨m0, hns, hloc⟩ := I.loc
  obtain ⟨u0, ru0, lo0⟩ := hloc 0 self (.ref xa) hs0 e1 (.inl hsl)
  obtain rfl : u0 = Value.ref xa := ru0
  have hself : m0 self = some (.ref xa) := by
    rcases lo0 with ⟨_, q⟩ | ⟨q, _⟩
    · exact q
    · have hsl' : (envS qual (defScope st) s0.heap.objs.size f cda cc).kindOf self = some .local := hsl
      rcases q with q | q
      · rw [hsl'] at q; cases q
      · rw [hsl'] at q; cases q
  obtain ⟨mb, hb1, hb2⟩ := I.mod.blt
  refine PySem.wpAt_mono (Q := fun fl s' => fl = .next ∧ ∃ u, EP (cxS P w K mg base N qual (defScope st) f cda cc A outer s0 H0 E) pins σ (fun _ H1 => D.nx σ H1) u s') (ks_wpAt_Expr_any (ks_wpAt_MethodCall (pl := pl) ?_ ht) I.quiet hsw) (fun fl s' q => ?_) fun _ _ x => x
  rotate_left
  · obtain ⟨rfl, u, v, H', I', rv, q⟩ := q
    exact ⟨σ, H', I', q⟩
  refine ks_wpAt_super_base (env := envS qual (defScope st) s0.heap.objs.size f cda cc) S.hs S.hk (by decide) rfl (kin _ _ lk) rfl hp rfl (kin _ _ hcode) rfl hvs G.file G.top ?_
  refine PySem.W.ks_loadName_global S.kind S.hs (Calls.loadGlobal_builtin (env := envS qual (defScope st) s0.heap.objs.size f cda cc) (I.mod.glob.keeps I.bk) G.sup (hb1.keeps I.bk) ((hb2 "super" (by decide)).trans (show bootBuiltins "super" = some (.type "super") by decide +kernel)) ⟨rfl, ?_⟩)
  refine wpAny_loadName_free S.kind S.hk rfl ⟨_, kin _ _ hcell, rfl⟩ ?_
  rw [har]
  refine wpAny_loadName_local S.kind hsl hns hself ?_
  refine ks_wpAny_isType_cls hD1 hD2 ⟨rfl, ?_⟩
  refine ks_wpAny_call_super hD1 hD2 hx rfl (fun c e => nomatch e) (PySem.W.looks_mroIn kin hmro) (fun h' hso kp => ?_)
  have I1 := ClX.pin_new (t' := s.toks) I kp (Nat.le_refl _) hso (fun v z => nomatch z)
  have kin1 : K.In h' := I1.kIn
  have hx1 := kp _ _ hx
  have hne : xa ≠ C' := by
    intro q
    subst q
    unfold PySem.W.clsIn at hcd
    split at hcd
    · rename_i ho
      have e := kin _ _ ho
      rw [hx] at e
      cases e
    · cases hcd
  unfold PySem.W.ks_superIn at hsu
  rw [hcd] at hsu
  refine ks_wpAny_getMethod_super (l₀ := cd.mro) hso (PySem.W.looks_opaque kin1 G.any) (fun A Q E s k q => wpAny_bind ((PySem.W.looks_clsIn kin1 hcd) A _ E s k (wpAny_pure q))) rfl kin1 hsu (kin1 _ _ hof) hofc hne (by decide) ?_
  have I2 := ClX.met_new (g := f2) (C := xa) I1
  refine ClX.callwith_cm I2 (ClX.base_none I1 (Nat.le_refl _)) G.fn ?_ hst hpl
  refine thn (ha.run pos _ _ σ H _ I2 za) fun us s3 ⟨vs', H3, I3, rv, q3⟩ => ⟨⟨ClX.pin_at I3, I3.kIn⟩, ?_⟩
  have lu : (Value.ref xa :: us ++ []).length = ps2.length := by
    have := spV.len V0.len q3
    rw [List.append_nil, List.length_cons, ← rv.length, ← this, List.length_cons]
  have bd2 := hb s3 (Value.ref xa :: us) I3.kIn lu
  rw [List.append_nil] at bd2
  refine wpAny_call (PySem.W.method_call (ClX.pin_at I3) (codeAny_mono (V0.run _ _ s3 H3 ⟨Value.ref xa :: us, []⟩ (Value.ref xa :: us) (.ref xa :: vs') _ (WE W σ) room gd I3.env0 bd2 (.cons rfl rv) q3) fun res s' hq => ?_))
  cases res with
  | error e => exact passAt tk σ _ H3 s3 e s' I3 hq
  | ok fl => cases fl <;> first | exact ⟨rfl, _, ClX.unpinE (ClX.unpinE (I3.after hq))⟩ | exact False.elim hq
/-- THE RULE for a def with super() -/
theorem FunS.val {x qual : Str} {st : Stmt} {f : Addr} {fd : FuncData} {cc Dc cda : Addr} {file : Str} {N ps : List Str} {k n : Nat} {g : Bool} {G : DE → O} (T : FunS K x qual st f fd cc Dc cda file) (S : FnScopeS N ps (defScope st)) (hn : ps.length = n)
    (body : ∀ (A : Around) (outer : List Env) (s : Shared) (H : Hp) (E : XK), Room k (A.deeper (envS qual (defScope st) s.heap.objs.size f cda cc)) → (g = true → (A.deeper (envS qual (defScope st) s.heap.objs.size f cda cc)).guards = some []) →
      Takes (cxS P w K mg base N qual (defScope st) f cda cc A outer s H E) (wE E) → VSA (cxS P w K mg base N qual (defScope st) f cda cc A outer s H E) (wE E) (.func (defBody st) (envS qual (defScope st) s.heap.objs.size f cda cc)) (defBody st) G) :
    VOk g P w K mg base (k + 1) f fd ps (fnF n N.length G) := by
  have hcell := T.cell
  obtain ⟨oc, od, kV, doc, pm, an, ct, osl, rfl, lk⟩ := T.ex
  refine ⟨fun as h => by rw [hn]; exact fnF_len as h, fun A outer s H args us vs Q E room gd en hb rv sp => ?_⟩
  have stays : ∀ b o, base.get? b = some o → s.heap.get? b = some o := fun b o e => (en.bs b o e).1
  have hl : vs.length = ps.length := by rw [hn]; exact spV.len fnF_len sp
  refine ks_codeAny_call_defAt (fd := PySem.W.fnX x qual (defArgs st) (defBody st) (defScope st) [("__class__", cc)] .none kV doc pm an (.ref cda) ct) (body := defBody st) (binds := ps.zip us) room.depth ((en.mod.kin.keeps stays) _ _ lk) rfl (en.mod.nolimit.keeps stays) (PySem.W.codeRec_of (en.mod.kin.keeps stays) T.code) rfl hb S.nocell
    (fun y hy => S.par y.1 (List.of_mem_zip (show (y.1, y.2) ∈ ps.zip us from hy)).1) (fun h1 hns hk => ?_) S.co S.gen S.kind
  have tk : Takes (cxS P w K mg base N qual (defScope st) f cda cc A outer s H E) (wE E) := takes_of rfl rfl rfl rfl
  have J := inv_startS (P := P) (w := w) (qual := qual) (f := f) (cda := cda) (E := E) (tk := s.toks + (ps.zip us).length) S room.hd en hl rv hcell hns hk
  refine PySem.wpAt_mono (body A outer s H E (room.deeper _) (guards_in gd) tk [] _ (L2.start N vs) H _ J (sp_body sp)) (fun fl s' hs => ?_) fun e s' hs => hs
  cases fl with
  | ret u =>
    obtain ⟨v, σ', H', J', rv', q⟩ := hs
    exact ⟨v, H', J'.os, J'.bare, J'.base, J'.hok, rv', q⟩
  | next =>
    obtain ⟨σ', H', J', q⟩ := hs
    exact ⟨V.non, H', J'.os, J'.bare, J'.base, J'.hok, rfl, q⟩
  | brk =>
    obtain ⟨_, _, _, q⟩ := hs
    exact q.elim
  | cont =>
    obtain ⟨_, _, _, q⟩ := hs
    exact q.elim
end
end PV

/-! PV28: zip of two lists or two tuples. -/
namespace PV
open PySem PySem.Spec PyProof.Rows L2
def zipD (l m : List D) : List D := l.zipWith (fun a b => .tup [a, b]) m
def zipItems (as : List Arg) (δ : DE) : R (List D) := match as with
  | [.val (.lst l), .val (.lst m)] => .ok (zipD l m) δ
  | [.val (.tup l), .val (.tup m)] => .ok (zipD l m) δ
  | _ => .stuck
def zipE (fa : DE → R (List Arg)) : DE → R (List D) := fun δ => (fa δ).bind zipItems
theorem zip_get : ∀ {l m : List D} {i : Nat} {d : D}, (zipD l m)[i]? = some d → ∃ a b, l[i]? = some a ∧ m[i]? = some b ∧ d = .tup [a, b] := by
  intro l m i d h
  unfold zipD at h
  rw [List.getElem?_zipWith] at h
  cases e1 : l[i]? with
  | none => rw [e1] at h; cases h
  | some a =>
    cases e2 : m[i]? with
    | none => rw [e1, e2] at h; cases h
    | some b => rw [e1, e2] at h; cases h; exact ⟨a, b, rfl, rfl, rfl⟩
theorem zip_len {l m : List D} : (zipD l m).length = min l.length m.length := by unfold zipD; rw [List.length_zipWith]
variable [Tbl]
theorem it_zipL {K : PySem.W.Frag} {F0 : Hp} {a b : Addr} {xs ys : List V} {ds es : List D} (h : SqL K F0 a xs) (d : Dens K F0 ds xs) (h' : SqL K F0 b ys) (d' : Dens K F0 es ys) : ItF K F0 (Itz K a b) (zipD ds es) := by
  intro c F H σ δ i r s
  have h1 : SqL K H a xs := r.sub.seq (s.seq h)
  have h2 : SqL K H b ys := r.sub.seq (s.seq h')
  refine ⟨fun d0 e => ?_, fun e => ⟨xs, ys, h1, h2, by rw [e, zip_len, d.length, d'.length]; omega⟩⟩
  obtain ⟨x, y, e1, e2, rfl⟩ := zip_get e
  obtain ⟨v, g1, g2⟩ := d.get e1
  obtain ⟨v', g1', g2'⟩ := d'.get e2
  refine ⟨⟨xs, ys, v, v', h1, h2, g1, g1'⟩, fun z H1 y0 => ?_⟩
  obtain ⟨T, w, w', rfl, hT, rfl, y2, y3⟩ := y0
  have := (y2 xs h1).symm.trans g1
  cases this
  have := (y3 ys h2).symm.trans g1'
  cases this
  refine ⟨_, r.lay hT, same_new (r.freeF hT), T, _, rfl, upd_same, ?_⟩
  exact Dens.cons (Den.mono (s.trans (same_new (r.freeF hT))) _ _ g2) (Dens.one (Den.mono (s.trans (same_new (r.freeF hT))) _ _ g2'))
theorem it_zipT {K : PySem.W.Frag} {F0 : Hp} {a b : Addr} {xs ys : List V} {ds es : List D} (h : SqT K F0 a xs) (d : Dens K F0 ds xs) (h' : SqT K F0 b ys) (d' : Dens K F0 es ys) : ItF K F0 (RZ.ItzT K a b) (zipD ds es) := by
  intro c F H σ δ i r s
  have h1 : SqT K H a xs := PV.Same.tup r.sub (PV.Same.tup s h)
  have h2 : SqT K H b ys := PV.Same.tup r.sub (PV.Same.tup s h')
  refine ⟨fun d0 e => ?_, fun e => ⟨xs, ys, h1, h2, by rw [e, zip_len, d.length, d'.length]; omega⟩⟩
  obtain ⟨x, y, e1, e2, rfl⟩ := zip_get e
  obtain ⟨v, g1, g2⟩ := d.get e1
  obtain ⟨v', g1', g2'⟩ := d'.get e2
  refine ⟨⟨xs, ys, v, v', h1, h2, g1, g1'⟩, fun z H1 y0 => ?_⟩
  obtain ⟨T, w, w', rfl, hT, rfl, y2, y3⟩ := y0
  have := (y2 xs h1).symm.trans g1
  cases this
  have := (y3 ys h2).symm.trans g1'
  cases this
  refine ⟨_, r.lay hT, same_new (r.freeF hT), T, _, rfl, upd_same, ?_⟩
  exact Dens.cons (Den.mono (s.trans (same_new (r.freeF hT))) _ _ g2) (Dens.one (Den.mono (s.trans (same_new (r.freeF hT))) _ _ g2'))
theorem argsD2 {K : PySem.W.Frag} {F : Hp} {σ : L2.St} {d e : D} {vs : List V} (h : ArgsD K F σ [.val d, .val e] vs) : ∃ v w, vs = [v, w] ∧ Den K F d v ∧ Den K F e w := by
  obtain ⟨v, r, rfl, h1, w, r', rfl, h2, h3⟩ := h
  rw [show r' = [] from h3]
  exact ⟨v, w, rfl, h1, h2⟩
theorem vi_zip {X : Cx} {W : WX} {a b : Expr} {fa : DE → R (List Arg)} {elts : List Expr} {kk : Nat} {p pos tpos : Pos} (hg : Gl X "zip") (hm : X.mg "zip" = none) (ha : VA X W [a, b] fa)
    (hs : starEach [a, b] X.env = (false, eval a X.env) :: starEach [b] X.env := by rfl) (hpl : (backTo pos (starEach [b] X.env)).any (·.1) = false := by rfl) :
    VI X W (.Tuple elts kk tpos) (.Call (.Name "zip" p) [a, b] [] pos) (zipE fa) := PI.to (RZ.pi_zipA hg hm ha hs hpl) fun σ H Q z => by
  refine z.first (DM := dnA X.K) fun c F H1 δ as vs r d1 z1 => ?_
  unfold zipItems at z1
  split at z1
  · obtain ⟨v, w, rfl, h, h'⟩ := argsD2 d1
    obtain ⟨a, xs, rfl, h1, h2⟩ := h
    obtain ⟨b, ys, rfl, h1', h2'⟩ := h'
    exact ⟨a, b, xs, ys, rfl, .inl ⟨.inl (.inl (r.sub _ _ h1)), .inl (.inl (r.sub _ _ h1')), z1 _ F H1 r (.refl _) (it_zipL (.inl (.inl h1)) h2 (.inl (.inl h1')) h2')⟩⟩
  · obtain ⟨v, w, rfl, h, h'⟩ := argsD2 d1
    obtain ⟨a, xs, rfl, h1, h2⟩ := h
    obtain ⟨b, ys, rfl, h1', h2'⟩ := h'
    exact ⟨a, b, xs, ys, rfl, .inr ⟨sqt (r.sub _ _ h1), sqt (r.sub _ _ h1'), z1 _ F H1 r (.refl _) (it_zipT (sqt h1) h2 (sqt h1') h2')⟩⟩
  · exact False.elim z1
end PV

/-! PV29: several names at once, own objects among the values; lists joined to a new list of one's own. -/
namespace PV
open PySem PySem.Spec PyProof.Rows L2
def catN (fa fb : DE → R D) : DE → R MD := fun δ => (fa δ).bind fun x δ => (fb δ).bind fun y δ => match ladd x y with
  | some (.lst l) => .ok (.lst l) δ
  | _ => .stuck
variable [Tbl]
section
variable {X : Cx} {W : WX} {a b : Expr} {fa fb : DE → R D} {pos : Pos}
theorem vn_cat (ha : VE X W a fa) (hb : VE X W b fb) : VN X W (.BinOp a .Add b pos) (catN fa fb) := PE.to (pe_op op_cat ha hb) fun σ H Q z => by
  refine z.first (DM := dnE X.K) fun c F H1 δ x v r1 d1 z1 => ?_
  refine z1.next (DM := dnE X.K) r1 fun F2 H2 δ2 y w r2 s2 d2 z2 => ?_
  replace d1 := Den.mono s2 _ _ d1
  cases x <;> first | (exact False.elim z2; done) | skip
  cases y <;> first | (exact False.elim z2; done) | skip
  rename_i la lb
  obtain ⟨p, xs, rfl, h1, h2⟩ := d1
  obtain ⟨q, ys, rfl, h1', h2'⟩ := d2
  by_cases hl : la.length + lb.length ≤ LIM
  · have e : ladd (.lst la) (.lst lb) = some (.lst (la ++ lb)) := by
      show (if _ then _ else _) = _
      rw [if_pos hl]
    rw [e] at z2
    refine ⟨p, q, xs, ys, rfl, rfl, r2.sub _ _ h1, r2.sub _ _ h1', by rw [h2.length, h2'.length]; exact lim_le hl, fun t ht => ?_⟩
    obtain ⟨g1, g2⟩ := r2.fresh (o := .lst (xs ++ ys)) (m := .lst (la ++ lb)) ht (Dens.append h2 h2')
    exact z2 _ _ _ g1 (.refl _) g2
  · have e : ladd (.lst la) (.lst lb) = none := by
      show (if _ then _ else _) = _
      rw [if_neg hl]
    rw [e] at z2
    exact False.elim z2
end
/-! ### values, own objects among them -/
def ItD (K : PySem.W.Frag) (c : Cq) (F H : Hp) (σ : L2.St) (δ : DE) : Sl → V → Prop
  | .val d, v => Den K F d v
  | .own m, v => dnN K c F H σ δ m v
  | .bor _, _ => False
def dnL (K : PySem.W.Frag) (c : Cq) (F H : Hp) (σ : L2.St) (δ : DE) : List Sl → List V → Prop
  | [], vs => vs = []
  | s :: ss, vs => ∃ v r, vs = v :: r ∧ ItD K c F H σ δ s v ∧ dnL K c F H σ δ ss r ∧ ∀ m, s = .own m → ∀ (k : Nat) (n : MD), ss[k]? = some (.own n) → r[k]? ≠ some v
abbrev rdL (K : PySem.W.Frag) (W : WX) (f : DE → R (List Sl)) : TA := rd K W (dnL K) f
def noI : DE → R (List Sl) := fun δ => .ok [] δ
def valI (f : DE → R D) (r : DE → R (List Sl)) : DE → R (List Sl) := fun δ => (f δ).bind fun d δ => (r δ).bind fun ss δ => .ok (.val d :: ss) δ
def ownI (f : DE → R MD) (r : DE → R (List Sl)) : DE → R (List Sl) := fun δ => (f δ).bind fun m δ => (r δ).bind fun ss δ => .ok (.own m :: ss) δ
abbrev VL (X : Cx) (W : WX) (es : List Expr) (f : DE → R (List Sl)) : Prop := PA X es (rdL X.K W f)
section
variable {X : Cx} {W : WX} {e : Expr} {es : List Expr} {f : DE → R D} {fm : DE → R MD} {r : DE → R (List Sl)}
theorem vl_nil : VL X W [] noI := PA.to pa_nil fun σ H Q z => by
  obtain ⟨c, F, δ, r, z⟩ := z
  exact z [] F H r (.refl _) rfl
theorem vl_val (h : VE X W e f) (k : VL X W es r) (hs : starEach (e :: es) X.env = (false, eval e X.env) :: starEach es X.env := by rfl) : VL X W (e :: es) (valI f r) := PA.to (pa_cons h k hs) fun σ H Q z => by
  refine z.first (DM := dnE X.K) fun c F H1 δ x v r1 d1 z1 => ?_
  refine z1.next (DM := dnL X.K) r1 fun F2 H2 δ2 as vs r2 s2 d2 z2 => ?_
  exact z2 _ F2 H2 r2 (.refl _) ⟨v, vs, rfl, Den.mono s2 _ _ d1, d2, fun m e => nomatch e⟩
theorem dnN_hold {K : PySem.W.Frag} {c : Cq} {F H : Hp} {σ : L2.St} {δ : DE} {m : MD} {v : V} {p : Addr} {o : HO} (h : dnN K { c with G := upd c.G p o } F H σ δ m v) : dnN K c F H σ δ m v ∧ v ≠ .ref p := by
  obtain ⟨q, o', rfl, h1, h2, h3, h4, h5, h6⟩ := h
  have h4 : upd c.G p o q = none := h4
  have ne : q ≠ p := fun z => by rw [z, upd_same] at h4; cases h4
  rw [upd_ne ne] at h4
  exact ⟨⟨q, o', rfl, h1, h2, h3, h4, h5, h6⟩, fun z => ne (V.ref.inj z)⟩
theorem dnL_hold {K : PySem.W.Frag} {c : Cq} {F H : Hp} {σ : L2.St} {δ : DE} {p : Addr} {o : HO} : ∀ {ss : List Sl} {vs : List V}, dnL K { c with G := upd c.G p o } F H σ δ ss vs → dnL K c F H σ δ ss vs ∧ ∀ (k : Nat) (n : MD), ss[k]? = some (.own n) → vs[k]? ≠ some (.ref p)
  | [], _, h => ⟨h, fun k n e => by simp at e⟩
  | s :: ss, _, ⟨v, r, e, h1, h2, h3⟩ => by
    subst e
    obtain ⟨i1, i2⟩ := dnL_hold h2
    have g : ItD K c F H σ δ s v ∧ ∀ m, s = .own m → v ≠ .ref p := by
      cases s with
      | val d => exact ⟨h1, fun m e => nomatch e⟩
      | own m => exact ⟨(dnN_hold h1).1, fun _ _ => (dnN_hold h1).2⟩
      | bor m => exact False.elim h1
    refine ⟨⟨v, r, rfl, g.1, i1, h3⟩, fun k n e => ?_⟩
    cases k with
    | zero =>
      have e : s = .own n := by simpa using e
      have := g.2 n e
      simpa using this
    | succ k => simpa using i2 k n (by simpa using e)
theorem vl_own (h : VN X W e fm) (k : VL X W es r) (hs : starEach (e :: es) X.env = (false, eval e X.env) :: starEach es X.env := by rfl) : VL X W (e :: es) (ownI fm r) := PA.to (pa_cons h k hs) fun σ H Q z => by
  refine z.first (DM := dnN X.K) fun c F H1 δ m v r1 d1 z1 => ?_
  obtain ⟨p, o, rfl, h1, h2, h3, h4, h5, h6⟩ := d1
  have hb : ∀ i ∈ c.bs, c.adr i ≠ p := fun i hi q => r1.bor0 i hi (by rw [q]; exact h5)
  have rh := r1.hold h1 h3 h6 hb h2.plg
  refine ⟨_, F, δ, rh, ?_⟩
  cases q : r δ with
  | stuck => rw [q] at z1; exact z1
  | exc x δ2 =>
    rw [q] at z1
    intro cls od F' H' r' s' xo
    exact z1 cls od F' H' (r'.drop h4).1 s' xo
  | ok ss δ2 =>
    rw [q] at z1
    intro vs F' H' r' s' dl
    obtain ⟨r2, g1, g2, g3, g4⟩ := r'.drop h4
    obtain ⟨j1, j2⟩ := dnL_hold dl
    exact z1 _ F' H' r2 s' ⟨.ref p, vs, rfl, ⟨p, o, rfl, g1, h2.mono s', g2, h4, h5, g3⟩, j1, fun _ _ => j2⟩
end
/-- the slots take them -/
def setAll : List Nat → List Sl → DE → Option DE
  | [], [], δ => some δ
  | i :: is, s :: ss, δ => (setSl i s δ).bind (setAll is ss)
  | _, _, _ => none
def setV : List Nat → List V → L2.St → L2.St
  | i :: is, v :: vs, σ => setV is vs (σ.set i (some v))
  | _, _, σ => σ
def parS (is : List Nat) (f : DE → R (List Sl)) : DE → O := fun δ => bindS (f δ) fun ss δ => match setAll is ss δ with
  | some δ => .nx δ
  | none => .stuck
section
variable {K : PySem.W.Frag} {c : Cq} {F H : Hp} {σ : L2.St} {δ : DE}
theorem Rel.setIt (r : Rel K c F H σ δ) {i : Nat} {s : Sl} {v : V} (h : ItD K c F H σ δ s v) (nb : ∀ m, δ[i]? ≠ some (some (.bor m))) : Rel K c F H (σ.set i (some v)) (δ.set i (some s)) := by
  cases s with
  | val d => exact r.set h nb
  | own m =>
    obtain ⟨p, o, rfl, h1, h2, h3, h4, h5, h6⟩ := h
    exact r.setOwn h1 h3 h4 h5 h2 h6 nb
  | bor m => exact False.elim h
theorem dnL_set {i : Nat} {s : Sl} {v : V} : ∀ {ss : List Sl} {vs : List V}, dnL K c F H σ δ ss vs → (∀ m, s = .own m → ∀ (k : Nat) (n : MD), ss[k]? = some (.own n) → vs[k]? ≠ some v) → dnL K c F H (σ.set i (some v)) (δ.set i (some s)) ss vs
  | [], _, h, _ => h
  | t :: ss, _, ⟨w, r, e, h1, h2, h3⟩, g => by
    subst e
    refine ⟨w, r, rfl, ?_, dnL_set h2 (fun m e k n q => by simpa using g m e (k + 1) n (by simpa using q)), h3⟩
    cases t with
    | val d => exact h1
    | bor m => exact False.elim h1
    | own m =>
      obtain ⟨p, o, rfl, q1, q2, q3, q4, q5, q6⟩ := h1
      refine ⟨p, o, rfl, q1, q2, q3, q4, q5, fun j n e1 e2 => ?_⟩
      by_cases hj : i = j
      · subst hj
        rw [List.getElem?_set] at e1 e2
        simp only [if_true] at e1 e2
        split at e1
        · split at e2
          · cases e2
            cases e1
            exact g n rfl 0 m rfl rfl
          · cases e2
        · cases e1
      · rw [List.getElem?_set_ne hj] at e1 e2
        exact q6 j n e1 e2
theorem Rel.setAll : ∀ {is : List Nat} {ss : List Sl} {vs : List V} {σ : L2.St} {δ δ' : DE}, Rel K c F H σ δ → dnL K c F H σ δ ss vs → PV.setAll is ss δ = some δ' → Rel K c F H (setV is vs σ) δ'
  | [], [], _, _, _, _, r, h, e => by cases e; rw [show _ = _ from h]; exact r
  | [], _ :: _, _, _, _, _, _, _, e => by cases e
  | _ :: _, [], _, _, _, _, _, _, e => by cases e
  | i :: is, s :: ss, _, σ, δ, δ', r, ⟨v, q, e1, h1, h2, h3⟩, e => by
    subst e1
    unfold PV.setAll at e
    obtain ⟨δ1, g1, g2⟩ := Option.bind_eq_some_iff.mp e
    obtain ⟨rfl, nb⟩ := setSl_some g1
    unfold setV
    exact Rel.setAll (r.setIt h1 nb) (dnL_set h2 h3) g2
end
section
variable {X : Cx} {W : WX} {a b d : Expr} {f : DE → R (List Sl)} {pos : Pos}
theorem dnL_len {K : PySem.W.Frag} {c : Cq} {F H : Hp} {σ : L2.St} {δ : DE} : ∀ {ss : List Sl} {vs : List V}, dnL K c F H σ δ ss vs → vs.length = ss.length
  | [], _, h => by rw [show _ = _ from h]; rfl
  | s :: ss, _, ⟨v, r, e, _, h2, _⟩ => by subst e; simp [dnL_len h2]
theorem setAll_len : ∀ {is : List Nat} {ss : List Sl} {δ δ' : DE}, setAll is ss δ = some δ' → ss.length = is.length
  | [], [], _, _, _ => rfl
  | [], _ :: _, _, _, e => by cases e
  | _ :: _, [], _, _, e => by cases e
  | i :: is, s :: ss, δ, δ', e => by
    unfold setAll at e
    obtain ⟨δ1, g1, g2⟩ := Option.bind_eq_some_iff.mp e
    simp [setAll_len g2]
theorem vs_par2 {i j : Nat} {x y : Str} {px py pt : Pos} {kt k2 pt2} (hc : X.calm = true) (hN : X.N.Nodup) (hi : X.N[i]? = some x) (hj : X.N[j]? = some y) (hij : i ≠ j)
    (hx : X.env.scope.names.lookup x = some .local) (hy : X.env.scope.names.lookup y = some .local) (ha : VL X W [a, b] f)
    (hw : swappedStores [.Tuple [.Name x px, .Name y py] kt pt] (.Tuple [a, b] k2 pt2) X.env = pure (some [x, y]) := by rfl)
    (hs : swapsWithSole [.Tuple [.Name x px, .Name y py] kt pt] (.Tuple [a, b] k2 pt2) pos.line X.env = pure false := by rfl) :
    VS X W (.Assign [.Tuple [.Name x px, .Name y py] kt pt] (.Tuple [a, b] k2 pt2) pos) (parS [i, j] f) := PS.to (ps_par hc hN hi hj hij hx hy ha hw hs) fun N σ H z => by
  refine z.first (DM := dnL X.K) fun c F H1 δ ss vs r1 d1 z1 => ?_
  split at z1
  · rename_i δ' e
    have hl := (dnL_len d1).trans (setAll_len e)
    match vs, hl with
    | [v, w], _ => exact ⟨v, w, rfl, z1 _ F H1 (r1.setAll d1 e) (.refl _)⟩
  · exact False.elim z1
theorem vs_par3 {i j l : Nat} {x y z : Str} {px py pz pt : Pos} {kt k2 pt2} (hc : X.calm = true) (hN : X.N.Nodup) (hi : X.N[i]? = some x) (hj : X.N[j]? = some y) (hl : X.N[l]? = some z) (hij : i ≠ j) (hil : i ≠ l) (hjl : j ≠ l)
    (hx : X.env.scope.names.lookup x = some .local) (hy : X.env.scope.names.lookup y = some .local) (hz : X.env.scope.names.lookup z = some .local) (ha : VL X W [a, b, d] f)
    (hw : swappedStores [.Tuple [.Name x px, .Name y py, .Name z pz] kt pt] (.Tuple [a, b, d] k2 pt2) X.env = pure (some [x, y, z]) := by rfl)
    (hs : swapsWithSole [.Tuple [.Name x px, .Name y py, .Name z pz] kt pt] (.Tuple [a, b, d] k2 pt2) pos.line X.env = pure false := by rfl) :
    VS X W (.Assign [.Tuple [.Name x px, .Name y py, .Name z pz] kt pt] (.Tuple [a, b, d] k2 pt2) pos) (parS [i, j, l] f) := PS.to (ps_par3 hc hN hi hj hl hij hil hjl hx hy hz ha hw hs) fun N σ H z => by
  refine z.first (DM := dnL X.K) fun c F H1 δ ss vs r1 d1 z1 => ?_
  split at z1
  · rename_i δ' e
    have hl := (dnL_len d1).trans (setAll_len e)
    match vs, hl with
    | [v, w, u], _ => exact ⟨v, w, u, rfl, z1 _ F H1 (r1.setAll d1 e) (.refl _)⟩
  · exact False.elim z1
def gNames (is : List Nat) : TGs := fun vs σ H Q => vs.length = is.length ∧ Q (setV is vs σ) H
theorem gn_nil : PGs X [] (gNames []) := PGs.to pgs_nil fun v σ H Q z => by
  obtain ⟨h1, h2⟩ := z
  have e : v = [] := List.eq_nil_of_length_eq_zero h1
  subst e
  exact ⟨rfl, h2⟩
theorem gn_cons {i : Nat} {x : Str} {p : Pos} {es : List Expr} {is : List Nat} (hN : X.N.Nodup) (hi : X.N[i]? = some x) (hx : Loc X.env.scope x) (k : PGs X es (gNames is)) (hf : X.fn x = true ∨ X.env.scope.names.lookup x = some .local := by first | exact .inl rfl | exact .inr rfl | assumption)
    (hs : (assignEach (.Name x p :: es) X.env).map (·.2) = assign (.Name x p) X.env :: (assignEach es X.env).map (·.2) := by rfl) : PGs X (.Name x p :: es) (gNames (i :: is)) := PGs.to (pgs_cons (pg_name hN hi hx hf) k hs) fun v σ H Q z => by
  obtain ⟨h1, h2⟩ := z
  cases v with
  | nil => cases h1
  | cons v vs => exact ⟨v, vs, rfl, by simpa using h1, h2⟩
theorem dnL_tmp {K : PySem.W.Frag} {c : Cq} {F H : Hp} {σ : L2.St} {δ : DE} {p : Addr} {o : HO} (hp : H p = none) : ∀ {ss : List Sl} {vs : List V}, dnL K c F H σ δ ss vs → dnL K c F (upd H p o) σ δ ss vs
  | [], _, h => h
  | s :: ss, _, ⟨v, r, e, h1, h2, h3⟩ => by
    subst e
    refine ⟨v, r, rfl, ?_, dnL_tmp hp h2, h3⟩
    cases s with
    | val d => exact h1
    | bor m => exact False.elim h1
    | own m =>
      obtain ⟨q, o', rfl, q1, q2⟩ := h1
      exact ⟨q, o', rfl, by rw [upd_ne (ne_of_none q1 hp)]; exact q1, q2⟩
theorem vs_parT {es vs : List Expr} {is : List Nat} {kt k2 : Nat} {pt pt2 : Pos} {n : Nat} (hc : X.calm = true) (hg : PGs X es (gNames is)) (ha : VL X W vs f) (hn : (assignEach es X.env).length = n := by rfl) (hst : (assignEach es X.env).findIdx? (·.1) = none := by rfl) (hni : is.length = n := by rfl) (hsm : n ≤ 1000 := by decide)
    (hs : swapsWithSole [.Tuple es kt pt] (.Tuple vs k2 pt2) pos.line X.env = pure false := by rfl) (hw : swappedStores [.Tuple es kt pt] (.Tuple vs k2 pt2) X.env = pure none := by rfl) (h1 : (assignEach [.Tuple es kt pt] X.env).map (·.2) = [assign (.Tuple es kt pt) X.env] := by rfl) :
    VS X W (.Assign [.Tuple es kt pt] (.Tuple vs k2 pt2) pos) (parS is f) := PS.to (ps_asg (pe_tup ha) (pg_tup hc hg hn hst) hs hw h1) fun N σ H z => by
  refine z.first (DM := dnL X.K) fun c F H1 δ ss us r1 d1 z1 => ?_
  split at z1
  · rename_i δ' e
    have hl := (dnL_len d1).trans (setAll_len e)
    refine ⟨by rw [hl, hni]; exact Nat.le_trans hsm (by decide), fun p hp => ⟨p, us, rfl, .inl (.inl upd_same), by rw [hl, hni], hl, ?_⟩⟩
    exact z1 _ F _ (Rel.setAll (r1.tmp hp) (dnL_tmp hp d1) e) (.refl _)
  · exact False.elim z1
end
end PV

/-! PV30: readings on data evaluated by simp. Only what is reached is looked at (the congr rows). -/
namespace PV
open PySem PySem.Spec PyProof.Rows L2
section
variable {α β : Type} {δ δ1 : DE} {x : XD} {c : Prop} [Decidable c]
@[simp] theorem bind_ok {a : α} {g : α → DE → R β} : (R.ok a δ).bind g = g a δ := rfl
@[simp] theorem bind_exc {g : α → DE → R β} : (R.exc x δ : R α).bind g = .exc x δ := rfl
@[simp] theorem bind_stuck {g : α → DE → R β} : (R.stuck : R α).bind g = .stuck := rfl
@[simp] theorem bind_ite {r s : R α} {g : α → DE → R β} : (if c then r else s).bind g = if c then r.bind g else s.bind g := by split <;> rfl
@[simp] theorem bindS_ok {a : α} {g : α → DE → O} : bindS (R.ok a δ) g = g a δ := rfl
@[simp] theorem bindS_exc {g : α → DE → O} : bindS (R.exc x δ : R α) g = .exc x δ := rfl
@[simp] theorem bindS_stuck {g : α → DE → O} : bindS (R.stuck : R α) g = .stuck := rfl
@[simp] theorem bindS_ite {r s : R α} {g : α → DE → O} : bindS (if c then r else s) g = if c then bindS r g else bindS s g := by split <;> rfl
@[simp] theorem of_some {a : α} : R.of (some a) δ = .ok a δ := rfl
@[simp] theorem of_none : (R.of none δ : R α) = .stuck := rfl
@[simp] theorem of_ite {a b : Option α} : R.of (if c then a else b) δ = if c then R.of a δ else R.of b δ := by split <;> rfl
@[simp] theorem calm_ok {a : α} : (R.ok a δ).calm = .ok a δ := rfl
@[simp] theorem calm_exc : (R.exc x δ : R α).calm = .stuck := rfl
@[simp] theorem calm_stuck : (R.stuck : R α).calm = .stuck := rfl
@[simp] theorem calm_ite {r s : R α} : (if c then r else s).calm = if c then r.calm else s.calm := by split <;> rfl
end
/-! ### expressions -/
def varR (o : Option (Option Sl)) (i : Nat) (δ : DE) : R D := match o with
  | some (some (.val d)) => .ok d δ
  | some (some (.own m)) => .ok m.d (δ.set i (some (.val m.d)))
  | _ => .stuck
section
variable {δ : DE} {i : Nat} {d e : D} {m : MD} {f g h fa fb fc : DE → R D} {t u : DE → R Bool} {o o' : D → D → Option D} {ra : DE → R (List Arg)} {k : DE → O} {l : DE → O}
@[simp] theorem ev_cst : cst d δ = .ok d δ := rfl
@[simp] theorem ev_var : var i δ = varR δ[i]? i δ := rfl
@[simp] theorem varR_val : varR (some (some (.val d))) i δ = .ok d δ := rfl
@[simp] theorem varR_own : varR (some (some (.own m))) i δ = .ok m.d (δ.set i (some (.val m.d))) := rfl
def k_op1 (o : D → D → Option D) (x y : D) (δ : DE) : R D := R.of (o x y) δ
def k_op2 (o : D → D → Option D) (fb : DE → R D) (x : D) (δ : DE) : R D := (fb δ).bind (k_op1 o x)
@[simp] theorem ev_op2 : op2 o fa fb δ = (fa δ).bind (k_op2 o fb) := rfl
@[simp] theorem ev_kop2 : k_op2 o fb d δ = (fb δ).bind (k_op1 o d) := rfl
@[simp] theorem ev_kop1 {x y : D} : k_op1 o x y δ = R.of (o x y) δ := rfl
def tstK (x : D) (δ : DE) : R Bool := match x with
  | .bl b => .ok b δ
  | _ => .stuck
@[simp] theorem ev_tst : tst f δ = (f δ).bind tstK := rfl
@[simp] theorem tstK_bl {b : Bool} : tstK (.bl b) δ = .ok b δ := rfl
@[simp] theorem tstK_ite {c : Prop} [Decidable c] : tstK (if c then d else e) δ = if c then tstK d δ else tstK e δ := by split <;> rfl
def k_andT (u : DE → R Bool) (b : Bool) (δ : DE) : R Bool := if b = true then u δ else .ok false δ
def k_orT (u : DE → R Bool) (b : Bool) (δ : DE) : R Bool := if b = true then .ok true δ else u δ
def k_notT (b : Bool) (δ : DE) : R Bool := .ok (!b) δ
@[simp] theorem ev_andT : andT t u δ = (t δ).bind (k_andT u) := rfl
@[simp] theorem ev_kandT {b : Bool} : k_andT u b δ = if b = true then u δ else .ok false δ := rfl
@[simp] theorem ev_korT {b : Bool} : k_orT u b δ = if b = true then .ok true δ else u δ := rfl
@[simp] theorem ev_knotT {b : Bool} : k_notT b δ = .ok (!b) δ := rfl
@[simp] theorem ev_orT : orT t u δ = (t δ).bind (k_orT u) := rfl
@[simp] theorem ev_notT : notT t δ = (t δ).bind k_notT := rfl
def andK (g : DE → R D) (b : D) (δ : DE) : R D := match b with
  | .bl true => g δ
  | .bl false => .ok (.bl false) δ
  | _ => .stuck
@[simp] theorem ev_andE : andE f g δ = (f δ).bind (andK g) := rfl
@[simp] theorem andK_t : andK g (.bl true) δ = g δ := rfl
@[simp] theorem andK_f : andK g (.bl false) δ = .ok (.bl false) δ := rfl
theorem andK_b {b : Bool} : andK g (.bl b) δ = if b = true then g δ else .ok (.bl false) δ := by cases b <;> rfl
@[simp] theorem andK_dec {p : Prop} [Decidable p] : andK g (.bl (decide p)) δ = if p then g δ else .ok (.bl false) δ := by by_cases h : p <;> simp [h]
def orK (g : DE → R D) (b : D) (δ : DE) : R D := match b with
  | .bl true => .ok (.bl true) δ
  | .bl false => g δ
  | _ => .stuck
@[simp] theorem ev_orE : orE f g δ = (f δ).bind (orK g) := rfl
@[simp] theorem orK_t : orK g (.bl true) δ = .ok (.bl true) δ := rfl
@[simp] theorem orK_f : orK g (.bl false) δ = g δ := rfl
theorem orK_b {b : Bool} : orK g (.bl b) δ = if b = true then .ok (.bl true) δ else g δ := by cases b <;> rfl
@[simp] theorem orK_dec {p : Prop} [Decidable p] : orK g (.bl (decide p)) δ = if p then .ok (.bl true) δ else g δ := by by_cases h : p <;> simp [h]
def notK (b : D) (δ : DE) : R D := match b with
  | .bl b => .ok (.bl (!b)) δ
  | _ => .stuck
@[simp] theorem ev_notE : notE f δ = (f δ).bind notK := rfl
@[simp] theorem notK_bl {b : Bool} : notK (.bl b) δ = .ok (.bl (!b)) δ := rfl
def k_ifE (f g : DE → R D) (b : Bool) (δ : DE) : R D := if b = true then f δ else g δ
@[simp] theorem ev_ifE : ifE t f g δ = (t δ).bind (k_ifE f g) := rfl
@[simp] theorem ev_kifE {b : Bool} : k_ifE f g b δ = if b = true then f δ else g δ := rfl
def chnK (o' : D → D → Option D) (y : D) (fc : DE → R D) (z : D) (δ : DE) : R D := match z with
  | .bl true => (fc δ).bind fun w δ => R.of (o' y w) δ
  | .bl false => .ok (.bl false) δ
  | _ => .stuck
def k_ch1 (o o' : D → D → Option D) (fc : DE → R D) (x y : D) (δ : DE) : R D := (R.of (o x y) δ).bind (chnK o' y fc)
def k_ch2 (o o' : D → D → Option D) (fb fc : DE → R D) (x : D) (δ : DE) : R D := (fb δ).bind (k_ch1 o o' fc x)
@[simp] theorem ev_chn : chn o o' fa fb fc δ = (fa δ).bind (k_ch2 o o' fb fc) := rfl
@[simp] theorem ev_kch2 : k_ch2 o o' fb fc d δ = (fb δ).bind (k_ch1 o o' fc d) := rfl
@[simp] theorem ev_kch1 {x y : D} : k_ch1 o o' fc x y δ = (R.of (o x y) δ).bind (chnK o' y fc) := rfl
@[simp] theorem chnK_dec {p : Prop} [Decidable p] : chnK o' d fc (.bl (decide p)) δ = if p then (fc δ).bind (k_op1 o' d) else .ok (.bl false) δ := by
  by_cases h : p
  · rw [if_pos h, decide_eq_true h]; rfl
  · rw [if_neg h, decide_eq_false h]; rfl
@[simp] theorem chnK_t : chnK o' d fc (.bl true) δ = (fc δ).bind (k_op1 o' d) := rfl
@[simp] theorem chnK_f : chnK o' d fc (.bl false) δ = .ok (.bl false) δ := rfl
def negK (x : D) (δ : DE) : R D := match x with
  | .int i => .ok (.int (-i)) δ
  | _ => .stuck
@[simp] theorem ev_negE : negE f δ = (f δ).bind negK := rfl
@[simp] theorem negK_int {i : Int} : negK (.int i) δ = .ok (.int (-i)) δ := rfl
@[simp] theorem ev_noA : noA δ = .ok [] δ := rfl
def k_va1 (a : Arg) (as : List Arg) (δ : DE) : R (List Arg) := .ok (a :: as) δ
def k_va2 (ra : DE → R (List Arg)) (d : D) (δ : DE) : R (List Arg) := (ra δ).bind (k_va1 (.val d))
@[simp] theorem ev_valA : valA f ra δ = (f δ).bind (k_va2 ra) := rfl
@[simp] theorem ev_kva2 : k_va2 ra d δ = (ra δ).bind (k_va1 (.val d)) := rfl
@[simp] theorem ev_kva1 {a : Arg} {as : List Arg} : k_va1 a as δ = .ok (a :: as) δ := rfl
def slotK (o : Option (Sl × MD)) (i : Nat) (r : DE → R (List Arg)) (δ : DE) : R (List Arg) := match o with
  | some _ => (r δ).bind fun as δ => .ok (.slot i :: as) δ
  | none => .stuck
@[simp] theorem ev_slotA : slotA i ra δ = slotK (mutOf δ i) i ra δ := rfl
@[simp] theorem slotK_some {p : Sl × MD} : slotK (some p) i ra δ = (ra δ).bind (k_va1 (.slot i)) := rfl
def mutK (o : Option (Option Sl)) : Option (Sl × MD) := match o with
  | some (some s) => s.mut.map fun m => (s, m)
  | _ => none
@[simp] theorem mutOf_eq : mutOf δ i = mutK δ[i]? := rfl
@[simp] theorem mutK_own : mutK (some (some (.own m))) = some (.own m, m) := rfl
@[simp] theorem mutK_bor : mutK (some (some (.bor m))) = some (.bor m, m) := rfl
@[simp] theorem mutK_val : mutK (some (some (.val d))) = none := rfl
@[simp] theorem mutK_non : mutK (some none) = none := rfl
@[simp] theorem wr_own {n : MD} : Sl.wr (.own m) n = .own n := rfl
@[simp] theorem wr_bor {n : MD} : Sl.wr (.bor m) n = .bor n := rfl
@[simp] theorem md_lst {l : List D} : MD.d (.lst l) = .lst l := rfl
@[simp] theorem md_dct {l : List (Key × D)} : MD.d (.dct l) = .dct l := rfl
@[simp] theorem md_dcT {l : List (List Key × D)} : MD.d (.dcT l) = .dcT l := rfl
@[simp] theorem md_ins {c : Str} {l : List (Str × D)} : MD.d (.ins c l) = .ins c l := rfl
@[simp] theorem peekA_val : peekA δ (.val d) = some d := rfl
@[simp] theorem peekA_slot : peekA δ (.slot i) = (mutOf δ i).map fun p => p.2.d := rfl
@[simp] theorem peeks_nil : peeks δ [] = some [] := rfl
@[simp] theorem peeks_cons {a : Arg} {as : List Arg} : peeks δ (a :: as) = (peekA δ a).bind fun d => (peeks δ as).map fun r => d :: r := rfl
def cbK {α : Type} (o : List D → Option α) (p : Option (List D)) (δ : DE) : R α := match p with
  | some ds => R.of (o ds) δ
  | none => .stuck
def k_cb {α : Type} (o : List D → Option α) (as : List Arg) (δ : DE) : R α := cbK o (peeks δ as) δ
@[simp] theorem ev_callB {ob : List D → Option D} : callB ob ra δ = (ra δ).bind (k_cb ob) := rfl
@[simp] theorem ev_callN {ob : List D → Option MD} : callN ob ra δ = (ra δ).bind (k_cb ob) := rfl
@[simp] theorem ev_kcb {α : Type} {ob : List D → Option α} {as : List Arg} : k_cb ob as δ = cbK ob (peeks δ as) δ := rfl
@[simp] theorem cbK_some {α : Type} {ob : List D → Option α} {ds : List D} : cbK ob (some ds) δ = R.of (ob ds) δ := rfl
@[simp] theorem valsOf_nil : valsOf [] = some [] := rfl
@[simp] theorem valsOf_cons {as : List Arg} : valsOf (.val d :: as) = (valsOf as).map fun r => d :: r := rfl
def tupK (p : Option (List D)) (δ : DE) : R D := match p with
  | some ds => if ds.length ≤ LIM then .ok (.tup ds) δ else .stuck
  | none => .stuck
def k_tup (as : List Arg) (δ : DE) : R D := tupK (valsOf as) δ
@[simp] theorem ev_tupE : tupE ra δ = (ra δ).bind k_tup := rfl
@[simp] theorem ev_ktup {as : List Arg} : k_tup as δ = tupK (valsOf as) δ := rfl
@[simp] theorem tupK_some {ds : List D} : tupK (some ds) δ = if ds.length ≤ LIM then .ok (.tup ds) δ else .stuck := rfl
def lstK (p : Option (List D)) (δ : DE) : R MD := match p with
  | some ds => if ds.length ≤ LIM then .ok (.lst ds) δ else .stuck
  | none => .stuck
def k_lst (as : List Arg) (δ : DE) : R MD := lstK (valsOf as) δ
@[simp] theorem ev_lstN : lstN ra δ = (ra δ).bind k_lst := rfl
@[simp] theorem ev_klst {as : List Arg} : k_lst as δ = lstK (valsOf as) δ := rfl
@[simp] theorem lstK_some {ds : List D} : lstK (some ds) δ = if ds.length ≤ LIM then .ok (.lst ds) δ else .stuck := rfl
def k_ofN (m : MD) (δ : DE) : R D := .ok m.d δ
@[simp] theorem ev_ofN {fm : DE → R MD} : ofN fm δ = (fm δ).bind k_ofN := rfl
@[simp] theorem ev_kofN : k_ofN m δ = .ok m.d δ := rfl
@[simp] theorem lim_eq : LIM = 1000000 := rfl
/-! ### calls -/
def frK (o : FR) (as : List Arg) (δ : DE) : R D := match o with
  | .ret d ss' => .ok d (unlend δ as ss')
  | .exc x ss' => .exc x (unlend δ as ss')
  | .stuck => .stuck
def leK (φ : List Sl → FR) (o : Option (List Sl)) (as : List Arg) (δ : DE) : R D := match o with
  | none => .stuck
  | some ss => frK (φ ss) as δ
def k_cf (φ : List Sl → FR) (as : List Arg) (δ : DE) : R D := if (slots as).Nodup then leK φ (lend δ as) as δ else .stuck
@[simp] theorem ev_callF {φ : List Sl → FR} : callF φ ra δ = (ra δ).bind (k_cf φ) := rfl
@[simp] theorem ev_kcf {φ : List Sl → FR} {as : List Arg} : k_cf φ as δ = if (slots as).Nodup then leK φ (lend δ as) as δ else .stuck := rfl
@[simp] theorem leK_some {φ : List Sl → FR} {ss : List Sl} {as : List Arg} : leK φ (some ss) as δ = frK (φ ss) as δ := rfl
@[simp] theorem frK_ret {ss : List Sl} {as : List Arg} : frK (.ret d ss) as δ = .ok d (unlend δ as ss) := rfl
@[simp] theorem frK_exc {x : XD} {ss : List Sl} {as : List Arg} : frK (.exc x ss) as δ = .exc x (unlend δ as ss) := rfl
@[simp] theorem frK_ite {c : Prop} [Decidable c] {a b : FR} {as : List Arg} : frK (if c then a else b) as δ = if c then frK a as δ else frK b as δ := by split <;> rfl
@[simp] theorem slots_nil : slots [] = [] := rfl
@[simp] theorem slots_val {as : List Arg} : slots (.val d :: as) = slots as := rfl
@[simp] theorem slots_slot {as : List Arg} : slots (.slot i :: as) = i :: slots as := rfl
@[simp] theorem lend_nil : lend δ [] = some [] := rfl
@[simp] theorem lend_val {as : List Arg} : lend δ (.val d :: as) = (lend δ as).map fun r => .val d :: r := rfl
def lendK (o : Option (Sl × MD)) (r : Option (List Sl)) : Option (List Sl) := match o with
  | some (_, m) => r.map fun r => .bor m :: r
  | none => none
@[simp] theorem lend_slot {as : List Arg} : lend δ (.slot i :: as) = lendK (mutOf δ i) (lend δ as) := rfl
@[simp] theorem lendK_some {s : Sl} {r : Option (List Sl)} : lendK (some (s, m)) r = r.map fun r => .bor m :: r := rfl
@[simp] theorem unlend_nil {ss : List Sl} : unlend δ [] ss = δ := by unfold unlend; rfl
@[simp] theorem unlend_val {as : List Arg} {s : Sl} {ss : List Sl} : unlend δ (.val d :: as) (s :: ss) = unlend δ as ss := by conv => lhs; unfold unlend
def unK (o : Option (Sl × MD)) (m : MD) (i : Nat) (δ : DE) : DE := match o with
  | some (s, _) => δ.set i (some (s.wr m))
  | none => δ
@[simp] theorem unlend_bor {as : List Arg} {ss : List Sl} : unlend δ (.slot i :: as) (.bor m :: ss) = unK (mutOf δ i) m i (unlend δ as ss) := by
  conv => lhs; unfold unlend
  cases mutOf δ i <;> rfl
@[simp] theorem unK_some {s : Sl} {n : MD} : unK (some (s, n)) m i δ = δ.set i (some (s.wr m)) := rfl
def mkK (o : FR) (δ : DE) : R MD := match o with
  | .ret .non (.bor m :: _) => .ok m δ
  | .exc x _ => .exc x δ
  | _ => .stuck
def mkV (c : Str) (φ : List Sl → FR) (p : Option (List D)) (δ : DE) : R MD := match p with
  | some ds => mkK (φ (.bor (.ins c []) :: ds.map .val)) δ
  | none => .stuck
def k_mk (c : Str) (φ : List Sl → FR) (as : List Arg) (δ : DE) : R MD := mkV c φ (valsOf as) δ
@[simp] theorem ev_makeN {c : Str} {φ : List Sl → FR} : makeN c φ ra δ = (ra δ).bind (k_mk c φ) := rfl
@[simp] theorem ev_kmk {c : Str} {φ : List Sl → FR} {as : List Arg} : k_mk c φ as δ = mkV c φ (valsOf as) δ := rfl
@[simp] theorem mkV_some {c : Str} {φ : List Sl → FR} {ds : List D} : mkV c φ (some ds) δ = mkK (φ (.bor (.ins c []) :: ds.map .val)) δ := rfl
@[simp] theorem mkK_ret {ss : List Sl} : mkK (.ret .non (.bor m :: ss)) δ = .ok m δ := rfl
@[simp] theorem mkK_exc {x : XD} {ss : List Sl} : mkK (.exc x ss) δ = .exc x δ := rfl
@[simp] theorem mkK_ite {c : Prop} [Decidable c] {a b : FR} : mkK (if c then a else b) δ = if c then mkK a δ else mkK b δ := by split <;> rfl
def k_fld (cs : List Str) (n : Str) (x : D) (δ : DE) : R D := R.of (fldD cs n x) δ
@[simp] theorem ev_fldE {cs : List Str} {n : Str} : fldE cs n f δ = (f δ).bind (k_fld cs n) := rfl
@[simp] theorem ev_kfld {cs : List Str} {n : Str} : k_fld cs n d δ = R.of (fldD cs n d) δ := rfl
@[simp] theorem fldD_ins {cs : List Str} {n c : Str} {l : List (Str × D)} : fldD cs n (.ins c l) = if c ∈ cs then lkF l n else none := rfl
def meK (m : Str) (tb : FT) (fa : DE → R (List Arg)) (o : D) (δ : DE) : R D := match o with
  | .ins c l => match lkT tb c with
    | some φ => if lkF l m = none then callF φ (valA (cst (.ins c l)) fa) δ else .stuck
    | none => .stuck
  | _ => .stuck
@[simp] theorem ev_callM {n : Str} {tb : FT} : callM n tb f ra δ = (f δ).bind (meK n tb ra) := rfl
/-! ### statements -/
def O.seq (o : O) (h : DE → O) : O := match o with
  | .nx δ => h δ
  | o => o
@[simp] theorem ev_then : thenS k l δ = (k δ).seq l := rfl
@[simp] theorem seq_nx : (O.nx δ).seq l = l δ := rfl
@[simp] theorem seq_ret : (O.ret d δ).seq l = .ret d δ := rfl
@[simp] theorem seq_exc {x : XD} : (O.exc x δ).seq l = .exc x δ := rfl
@[simp] theorem seq_brk : (O.brk δ).seq l = .brk δ := rfl
@[simp] theorem seq_cnt : (O.cnt δ).seq l = .cnt δ := rfl
@[simp] theorem seq_stuck : (O.stuck).seq l = .stuck := rfl
@[simp] theorem seq_ite {c : Prop} [Decidable c] {a b : O} : (if c then a else b).seq l = if c then a.seq l else b.seq l := by split <;> rfl
@[simp] theorem ev_skip : skipS δ = .nx δ := rfl
@[simp] theorem ev_ret : retS f δ = bindS (f δ) O.ret := rfl
def k_drop (_ : D) (δ : DE) : O := .nx δ
@[simp] theorem ev_drop : dropS f δ = bindS (f δ) k_drop := rfl
@[simp] theorem ev_kdrop : k_drop d δ = .nx δ := rfl
def k_if (k l : DE → O) (b : Bool) (δ : DE) : O := if b = true then k δ else l δ
@[simp] theorem ev_if : ifS t k l δ = bindS (t δ) (k_if k l) := rfl
@[simp] theorem ev_kif {b : Bool} : k_if k l b δ = if b = true then k δ else l δ := rfl
@[simp] theorem ev_raise {n : Str} : raiseS n δ = .exc ⟨n, []⟩ δ := rfl
def stK (o : Option DE) : O := match o with
  | some δ => .nx δ
  | none => .stuck
@[simp] theorem stK_some : stK (some δ) = .nx δ := rfl
def k_set (i : Nat) (d : D) (δ : DE) : O := stK (setSl i (.val d) δ)
def k_own (i : Nat) (m : MD) (δ : DE) : O := stK (setSl i (.own m) δ)
@[simp] theorem ev_set : setS i f δ = bindS (f δ) (k_set i) := by
  unfold setS
  congr 1
@[simp] theorem ev_own {fm : DE → R MD} : ownS i fm δ = bindS (fm δ) (k_own i) := by
  unfold ownS
  congr 1
@[simp] theorem ev_kset : k_set i d δ = stK (setSl i (.val d) δ) := rfl
@[simp] theorem ev_kown : k_own i m δ = stK (setSl i (.own m) δ) := rfl
def slK (o : Option (Option Sl)) (s : Sl) (i : Nat) (δ : DE) : Option DE := match o with
  | some (some (.bor _)) => none
  | some _ => some (δ.set i (some s))
  | none => none
@[simp] theorem setSl_eq {s : Sl} : setSl i s δ = slK δ[i]? s i δ := rfl
@[simp] theorem slK_non {s : Sl} : slK (some none) s i δ = some (δ.set i (some s)) := rfl
@[simp] theorem slK_val {s : Sl} : slK (some (some (.val d))) s i δ = some (δ.set i (some s)) := rfl
@[simp] theorem slK_own {s : Sl} : slK (some (some (.own m))) s i δ = some (δ.set i (some s)) := rfl
def k_asg (tg : D → DE → Option DE) (d : D) (δ : DE) : O := stK (tg d δ)
@[simp] theorem ev_asg {tg : D → DE → Option DE} : asgS tg f δ = bindS (f δ) (k_asg tg) := by unfold asgS; congr 1
@[simp] theorem ev_kasg {tg : D → DE → Option DE} : k_asg tg d δ = stK (tg d δ) := rfl
@[simp] theorem ev_nmG : nmG i d δ = setSl i (.val d) δ := rfl
@[simp] theorem ev_nilG : nilG [] δ = some δ := rfl
@[simp] theorem ev_consG {tg : D → DE → Option DE} {r : List D → DE → Option DE} {ds : List D} : consG tg r (d :: ds) δ = (tg d δ).bind (r ds) := rfl
@[simp] theorem ev_tupG {n : Nat} {r : List D → DE → Option DE} {ds : List D} : tupG n r (.tup ds) δ = if ds.length = n then r ds δ else none := rfl
def k_par (is : List Nat) (ss : List Sl) (δ : DE) : O := stK (setAll is ss δ)
@[simp] theorem ev_parS {is : List Nat} {fl : DE → R (List Sl)} : parS is fl δ = bindS (fl δ) (k_par is) := by unfold parS; congr 1
@[simp] theorem ev_kpar {is : List Nat} {ss : List Sl} : k_par is ss δ = stK (setAll is ss δ) := rfl
def k_it (s : Sl) (ss : List Sl) (δ : DE) : R (List Sl) := .ok (s :: ss) δ
def k_vI (fl : DE → R (List Sl)) (d : D) (δ : DE) : R (List Sl) := (fl δ).bind (k_it (.val d))
def k_oI (fl : DE → R (List Sl)) (d : MD) (δ : DE) : R (List Sl) := (fl δ).bind (k_it (.own d))
@[simp] theorem ev_kit {s : Sl} {ss : List Sl} : k_it s ss δ = .ok (s :: ss) δ := rfl
@[simp] theorem ev_kvI {fl : DE → R (List Sl)} : k_vI fl d δ = (fl δ).bind (k_it (.val d)) := rfl
@[simp] theorem ev_koI {fl : DE → R (List Sl)} : k_oI fl m δ = (fl δ).bind (k_it (.own m)) := rfl
@[simp] theorem ev_noI : noI δ = .ok [] δ := rfl
@[simp] theorem ev_valI {fl : DE → R (List Sl)} : valI f fl δ = (f δ).bind (k_vI fl) := rfl
@[simp] theorem ev_ownI {fm : DE → R MD} {fl : DE → R (List Sl)} : ownI fm fl δ = (fm δ).bind (k_oI fl) := rfl
@[simp] theorem setAll_nil : setAll [] [] δ = some δ := rfl
@[simp] theorem setAll_cons {is : List Nat} {s : Sl} {ss : List Sl} : setAll (i :: is) (s :: ss) δ = (setSl i s δ).bind (setAll is ss) := rfl
def apK (o : Option (Sl × MD)) (i : Nat) (d : D) (δ : DE) : O := match o with
  | some (s, .lst l) => if l.length < LIM then .nx (δ.set i (some (s.wr (.lst (l ++ [d]))))) else .stuck
  | _ => .stuck
def k_ap (i : Nat) (d : D) (δ : DE) : O := apK (mutOf δ i) i d δ
def apA (o : Option (Sl × MD)) (i : Nat) (f : DE → R D) (δ : DE) : O := match o with
  | some (_, .lst _) => bindS (f δ) (k_ap i)
  | _ => .stuck
@[simp] theorem ev_app : appS i f δ = apA (mutOf δ i) i f δ := by
  unfold appS apA
  cases mutOf δ i with
  | none => rfl
  | some p => obtain ⟨s, m⟩ := p; cases m <;> rfl
@[simp] theorem apA_lst {s : Sl} {l : List D} : apA (some (s, .lst l)) i f δ = bindS (f δ) (k_ap i) := rfl
@[simp] theorem ev_kap : k_ap i d δ = apK (mutOf δ i) i d δ := rfl
@[simp] theorem apK_lst {s : Sl} {l : List D} : apK (some (s, .lst l)) i d δ = if l.length < LIM then .nx (δ.set i (some (s.wr (.lst (l ++ [d]))))) else .stuck := rfl
@[simp] theorem ev_for {fi : DE → R (List D)} {tg : D → DE → Option DE} : forS fi tg k δ = bindS (fi δ) (loopF tg k) := rfl
def O.kill (e : Bool) (ms : List Bool) : O → O
  | .nx δ => .nx (killM ms δ)
  | .cnt δ => .cnt (killM ms δ)
  | .brk δ => .brk (killM ms δ)
  | .ret d δ => .ret d (bors δ)
  | .exc x δ => .exc x (if e then bors δ else killM ms δ)
  | .stuck => .stuck
variable {e : Bool} {ms : List Bool}
@[simp] theorem ev_kill : killS e ms k δ = (k δ).kill e ms := by
  unfold killS O.kill
  cases k δ <;> rfl
@[simp] theorem kill_nx : (O.nx δ).kill e ms = .nx (killM ms δ) := rfl
@[simp] theorem kill_cnt : (O.cnt δ).kill e ms = .cnt (killM ms δ) := rfl
@[simp] theorem kill_brk : (O.brk δ).kill e ms = .brk (killM ms δ) := rfl
@[simp] theorem kill_ret : (O.ret d δ).kill e ms = .ret d (bors δ) := rfl
@[simp] theorem kill_exc {x : XD} : (O.exc x δ).kill true ms = .exc x (bors δ) := rfl
@[simp] theorem kill_excf {x : XD} : (O.exc x δ).kill false ms = .exc x (killM ms δ) := rfl
@[simp] theorem kill_stuck : (O.stuck).kill e ms = .stuck := rfl
@[simp] theorem kill_ite {c : Prop} [Decidable c] {a b : O} : (if c then a else b).kill e ms = if c then a.kill e ms else b.kill e ms := by split <;> rfl
@[simp] theorem bors_nil : bors [] = [] := rfl
@[simp] theorem bors_cons {x : Option Sl} : bors (x :: δ) = dropB x :: bors δ := rfl
@[simp] theorem dropB_non : dropB none = none := rfl
@[simp] theorem dropB_val : dropB (some (.val d)) = none := rfl
@[simp] theorem dropB_own : dropB (some (.own m)) = none := rfl
@[simp] theorem dropB_bor : dropB (some (.bor m)) = some (.bor m) := rfl
@[simp] theorem killM_nil : killM [] δ = δ := by unfold killM; rfl
@[simp] theorem killM_t {x : Option Sl} : killM (true :: ms) (x :: δ) = dropB x :: killM ms δ := rfl
@[simp] theorem killM_f {x : Option Sl} : killM (false :: ms) (x :: δ) = x :: killM ms δ := rfl
def O.fin (as : List Sl) : O → FR
  | .ret d δ => .ret d (back as δ)
  | .nx δ => .ret .non (back as δ)
  | .exc x δ => .exc x (back as δ)
  | _ => .stuck
theorem ev_fn {n N : Nat} {as : List Sl} : fnF n N k as = if as.length = n then (k (as.map some ++ List.replicate (N - n) none)).fin as else .stuck := by
  unfold fnF O.fin
  split
  · cases k (as.map some ++ List.replicate (N - n) none) <;> rfl
  · rfl
@[simp] theorem fin_ret {as : List Sl} : (O.ret d δ).fin as = .ret d (back as δ) := rfl
@[simp] theorem fin_nx {as : List Sl} : (O.nx δ).fin as = .ret .non (back as δ) := rfl
@[simp] theorem fin_exc {x : XD} {as : List Sl} : (O.exc x δ).fin as = .exc x (back as δ) := rfl
@[simp] theorem fin_ite {c : Prop} [Decidable c] {a b : O} {as : List Sl} : (if c then a else b).fin as = if c then a.fin as else b.fin as := by split <;> rfl
@[simp] theorem back_nil : back [] δ = [] := by unfold back; rfl
@[simp] theorem back_vc {x : Option Sl} {as : List Sl} : back (.val d :: as) (x :: δ) = .val d :: back as δ := by cases x <;> rfl
@[simp] theorem back_bc {n : MD} {as : List Sl} : back (.bor m :: as) (some (.bor n) :: δ) = .bor n :: back as δ := rfl
end
/-! ### operations on data -/
section
variable {i j : Int} {s t : Str} {a b : Bool} {d : D}
@[simp] theorem op_add : addA (.int i) (.int j) = some (.int (i + j)) := rfl
@[simp] theorem op_sub : isub (.int i) (.int j) = some (.int (i - j)) := rfl
@[simp] theorem op_lt : ilt (.int i) (.int j) = some (.bl (decide (i < j))) := rfl
@[simp] theorem op_le : ile (.int i) (.int j) = some (.bl (decide (i ≤ j))) := rfl
@[simp] theorem op_gt : igt (.int i) (.int j) = some (.bl (decide (j < i))) := rfl
@[simp] theorem op_ge : ige (.int i) (.int j) = some (.bl (decide (j ≤ i))) := rfl
@[simp] theorem op_eqI : eqD (.int i) (.int j) = some (.bl (decide (i = j))) := rfl
@[simp] theorem op_neI : neD (.int i) (.int j) = some (.bl (!decide (i = j))) := rfl
@[simp] theorem op_eqS : eqD (.str s) (.str t) = some (.bl (decide (s = t))) := rfl
@[simp] theorem op_neS : neD (.str s) (.str t) = some (.bl (!decide (s = t))) := rfl
@[simp] theorem op_addT {l m : List D} : addA (.tup l) (.tup m) = if l.length + m.length ≤ LIM then some (.tup (l ++ m)) else none := rfl
@[simp] theorem op_addL {l m : List D} : addA (.lst l) (.lst m) = if l.length + m.length ≤ LIM then some (.lst (l ++ m)) else none := by
  show (none : Option D).or ((none : Option D).or ((ladd (.lst l) (.lst m)).or (tadd (.lst l) (.lst m)))) = _
  show ((if l.length + m.length ≤ LIM then some (D.lst (l ++ m)) else none).or none) = _
  split <;> rfl
@[simp] theorem op_lenT {l : List D} : lenD [.tup l] = some (.int l.length) := rfl
@[simp] theorem op_lenL {l : List D} : lenD [.lst l] = some (.int l.length) := rfl
@[simp] theorem op_tupL {l : List D} : tupleD [.lst l] = some (.tup l) := rfl
@[simp] theorem op_tupT {l : List D} : tupleD [.tup l] = some (.tup l) := rfl
@[simp] theorem op_lstL {l : List D} : listN [.lst l] = some (.lst l) := rfl
@[simp] theorem op_lstT {l : List D} : listN [.tup l] = some (.lst l) := rfl
@[simp] theorem op_isN : isNo d .non = some (.bl d.isN) := rfl
@[simp] theorem op_notN : notNo d .non = some (.bl (!d.isN)) := rfl
@[simp] theorem op_ixT {l : List D} : ixD (.tup l) (.int i) = atI l i := rfl
@[simp] theorem op_ixL {l : List D} : ixD (.lst l) (.int i) = atI l i := rfl
def D.bInt : D → Bool
  | .int _ => true
  | .bl _ => true
  | _ => false
def D.bBl : D → Bool
  | .bl _ => true
  | _ => false
def D.bStr : D → Bool
  | .str _ => true
  | _ => false
def D.bTup : D → Bool
  | .tup _ => true
  | _ => false
def D.bLst : D → Bool
  | .lst _ => true
  | _ => false
def D.bDct : D → Bool
  | .dct _ => true
  | _ => false
/-- what isinstance can tell of -/
def D.kn (d : D) : Bool := d.tyN.isSome
theorem kn_cases {p : D → Prop} (h : d.kn = true) (h1 : p .non) (h2 : ∀ b, p (.bl b)) (h3 : ∀ b, p (.int b)) (h4 : ∀ b, p (.str b)) (h5 : ∀ b, p (.byt b)) (h6 : ∀ b, p (.tup b)) (h7 : ∀ b, p (.lst b)) (h8 : ∀ b, p (.dct b)) : p d := by
  cases d with
  | non => exact h1
  | bl b => exact h2 b
  | int b => exact h3 b
  | str b => exact h4 b
  | byt b => exact h5 b
  | tup b => exact h6 b
  | lst b => exact h7 b
  | dct b => exact h8 b
  | ty n => cases h
  | fn n => cases h
  | adr n => cases h
  | scr n => cases h
  | dcT n => cases h
  | dcF n => cases h
  | ctp n => cases h
  | ins c n => cases h
theorem isi_int (h : d.kn = true) : isiD [d, .ty "int"] = some (.bl d.bInt) := by
  refine kn_cases (p := fun d => isiD [d, .ty "int"] = some (.bl d.bInt)) h ?_ ?_ ?_ ?_ ?_ ?_ ?_ ?_ <;> intros <;> rfl
theorem isi_bl (h : d.kn = true) : isiD [d, .ty "bool"] = some (.bl d.bBl) := by
  refine kn_cases (p := fun d => isiD [d, .ty "bool"] = some (.bl d.bBl)) h ?_ ?_ ?_ ?_ ?_ ?_ ?_ ?_ <;> intros <;> rfl
theorem isi_str (h : d.kn = true) : isiD [d, .ty "str"] = some (.bl d.bStr) := by
  refine kn_cases (p := fun d => isiD [d, .ty "str"] = some (.bl d.bStr)) h ?_ ?_ ?_ ?_ ?_ ?_ ?_ ?_ <;> intros <;> rfl
theorem isi_tup (h : d.kn = true) : isiD [d, .ty "tuple"] = some (.bl d.bTup) := by
  refine kn_cases (p := fun d => isiD [d, .ty "tuple"] = some (.bl d.bTup)) h ?_ ?_ ?_ ?_ ?_ ?_ ?_ ?_ <;> intros <;> rfl
@[simp] theorem kn_non : D.kn .non = true := id rfl
@[simp] theorem kn_bl : D.kn (.bl a) = true := id rfl
@[simp] theorem kn_int : D.kn (.int i) = true := id rfl
@[simp] theorem kn_byt {b : Array UInt8} : D.kn (.byt b) = true := id rfl
@[simp] theorem kn_str : D.kn (.str s) = true := id rfl
@[simp] theorem kn_tup {l : List D} : D.kn (.tup l) = true := id rfl
@[simp] theorem kn_lst {l : List D} : D.kn (.lst l) = true := id rfl
@[simp] theorem kn_dct {l : List (Key × D)} : D.kn (.dct l) = true := id rfl
@[simp] theorem bTup_tup {l : List D} : D.bTup (.tup l) = true := rfl
@[simp] theorem bInt_int : D.bInt (.int i) = true := rfl
@[simp] theorem bBl_int : D.bBl (.int i) = false := rfl
@[simp] theorem bInt_bl : D.bInt (.bl a) = true := rfl
@[simp] theorem bBl_bl : D.bBl (.bl a) = true := rfl
@[simp] theorem bStr_str : D.bStr (.str s) = true := rfl
theorem inV_str {k : Str} : ∀ {l : List Str}, inV (.str k) (l.map V.str) = decide (k ∈ l) := by
  intro l
  unfold inV
  induction l with
  | nil => simp
  | cons x l ih =>
    rw [List.map_cons, List.any_cons, ih]
    show (eqV (V.str x) (V.str k) || _) = _
    unfold eqV
    by_cases h : x = k
    · subst h; simp
    · have h' : ¬ k = x := fun e => h e.symm
      simp [h, h']
theorem flats_strs : ∀ (l : List Str), flats (l.map D.str) = some (l.map V.str)
  | [] => rfl
  | x :: l => by show (some (V.str x)).bind _ = _; rw [flats_strs l]; rfl
theorem inF_strT {k : Str} {l : List Str} : inF false (.str k) (.tup (l.map D.str)) = some (.bl (decide (k ∈ l))) := by
  unfold inF
  show (match some (V.str k), flats (l.map D.str) with | some u, some us => _ | _, _ => none) = _
  rw [flats_strs]
  show some (D.bl (if false = true then !inV (V.str k) (l.map V.str) else inV (V.str k) (l.map V.str))) = _
  rw [if_neg Bool.false_ne_true, inV_str]
theorem inF_strL {k : Str} {l : List Str} : inF false (.str k) (.lst (l.map D.str)) = some (.bl (decide (k ∈ l))) := by
  unfold inF
  show (match some (V.str k), flats (l.map D.str) with | some u, some us => _ | _, _ => none) = _
  rw [flats_strs]
  show some (D.bl (if false = true then !inV (V.str k) (l.map V.str) else inV (V.str k) (l.map V.str))) = _
  rw [if_neg Bool.false_ne_true, inV_str]
/-! ### loops with a test -/
theorem runL_all {α : Type} {p : α → Bool} {d : D} : ∀ {as : List α}, runL (S := Unit) (fun _ a => if p a = true then .go () else .ret d ()) as () = if as.all p = true then .go () else .ret d ()
  | [] => rfl
  | a :: as => by
    unfold runL
    by_cases h : p a = true
    · simp only [h, if_true, runL_all (as := as), List.all_cons, Bool.true_and]
    · simp [h]
/-- a comprehension whose parts change nothing: items a of a list, kept or not -/
theorem lcE_fm {α : Type} {f : DE → R (List D)} {t : D → DE → Option DE} {cond : DE → R Bool} {elt : DE → R D} {vs : List Nat} {δ δ0 δw : DE} {as : List α} (enc : α → D) (q : α → Option D) (hf : f δ = .ok (as.map enc) δ0) (hw : wipeD δ0 vs = some δw) (hl : as.length ≤ LIM)
    (h : ∀ a ∈ as, ∃ δ1, t (enc a) δw = some δ1 ∧ ((q a = none ∧ ∃ δ2, cond δ1 = .ok false δ2 ∧ wipeD δ2 vs = some δw) ∨
      ∃ y δ2 δ3, q a = some y ∧ cond δ1 = .ok true δ2 ∧ elt δ2 = .ok y δ3 ∧ wipeD δ3 vs = some δw)) : lcN f t cond elt vs δ = .ok (.lst (as.filterMap q)) (unwipe δ0 δw vs) := by
  have key : ∀ (as : List α) (acc : List D), acc.length + as.length ≤ LIM → (∀ a ∈ as, ∃ δ1, t (enc a) δw = some δ1 ∧ ((q a = none ∧ ∃ δ2, cond δ1 = .ok false δ2 ∧ wipeD δ2 vs = some δw) ∨
      ∃ y δ2 δ3, q a = some y ∧ cond δ1 = .ok true δ2 ∧ elt δ2 = .ok y δ3 ∧ wipeD δ3 vs = some δw)) → lcLoop t cond elt vs (as.map enc) δw acc = .ok (acc ++ as.filterMap q) δw := by
    intro as
    induction as with
    | nil => intro acc _ _; unfold lcLoop; simp
    | cons a as ih =>
      intro acc hl h
      obtain ⟨δ1, e1, k⟩ := h a List.mem_cons_self
      rw [List.length_cons] at hl
      rw [List.map_cons]
      rcases k with ⟨q1, δ2, e2, e3⟩ | ⟨y, δ2, δ3, q1, e2, e3, e4⟩
      · have ih := ih acc (by omega) fun d hd => h d (List.mem_cons_of_mem _ hd)
        unfold lcLoop
        simp [e1, e2, e3, ih, q1]
      · have ih := ih (acc ++ [y]) (by rw [List.length_append, List.length_singleton]; omega) fun d hd => h d (List.mem_cons_of_mem _ hd)
        unfold lcLoop
        rw [lim_eq] at hl
        simp [e1, e2, e3, show acc.length < 1000000 by omega, e4, ih, q1]
  unfold lcN
  simp [hf, hw, key as [] (by simpa using hl) h]
theorem lcE_map {α : Type} {f : DE → R (List D)} {t : D → DE → Option DE} {elt : DE → R D} {vs : List Nat} {δ δ0 δw : DE} {as : List α} (enc : α → D) (q : α → D) (hf : f δ = .ok (as.map enc) δ0) (hw : wipeD δ0 vs = some δw) (hl : as.length ≤ LIM)
    (h : ∀ a ∈ as, ∃ δ1 δ3, t (enc a) δw = some δ1 ∧ elt δ1 = .ok (q a) δ3 ∧ wipeD δ3 vs = some δw) : lcN f t noCond elt vs δ = .ok (.lst (as.map q)) (unwipe δ0 δw vs) := by
  have := lcE_fm (cond := noCond) enc (fun a => some (q a)) hf hw hl fun a ha => by
    obtain ⟨δ1, δ3, h1, h2, h3⟩ := h a ha
    exact ⟨δ1, h1, .inr ⟨_, δ1, δ3, rfl, rfl, h2, h3⟩⟩
  rw [this]
  simp
def k_seq (x : D) (δ : DE) : R (List D) := match x with
  | .lst l => .ok l δ
  | .tup l => .ok l δ
  | .scr l => .ok (l.map .int) δ
  | .str s => .ok (s.cps.toList.map fun c => .str ⟨#[c]⟩) δ
  | _ => .stuck
@[simp] theorem ev_seqE_t {f : DE → R D} {δ : DE} : seqE f δ = (f δ).bind k_seq := rfl
@[simp] theorem ev_kseqL {l : List D} {δ : DE} : k_seq (.lst l) δ = .ok l δ := rfl
@[simp] theorem ev_kseqT {l : List D} {δ : DE} : k_seq (.tup l) δ = .ok l δ := rfl
@[simp] theorem unwipe_nil {δ0 δ : DE} : unwipe δ0 δ [] = δ := rfl
@[simp] theorem unwipe_cons {δ0 δ : DE} {v : Nat} {vs : List Nat} : unwipe δ0 δ (v :: vs) = (unwipe δ0 δ vs).set v (δ0[v]?.getD none) := rfl
theorem allD_b {l : List Bool} : allD [.lst (l.map D.bl)] = some (.bl (l.all id)) := allD_bls
/-! ### slices, zip, ranges -/
@[simp] theorem ev_oNo {δ : DE} : oNo δ = .ok none δ := rfl
def oK (x : D) (δ : DE) : R (Option Int) := match x with
  | .int i => .ok (some i) δ
  | _ => .stuck
@[simp] theorem ev_oSome {f : DE → R D} {δ : DE} : oSome f δ = (f δ).bind oK := rfl
@[simp] theorem oK_int {i : Int} {δ : DE} : oK (.int i) δ = .ok (some i) δ := rfl
def k_sl1 (x : D) (lo hi : Option Int) (δ : DE) : R D := R.of (slD x lo hi) δ
def k_sl2 (fh : DE → R (Option Int)) (x : D) (lo : Option Int) (δ : DE) : R D := (fh δ).bind (k_sl1 x lo)
def k_sl3 (fl fh : DE → R (Option Int)) (x : D) (δ : DE) : R D := (fl δ).bind (k_sl2 fh x)
@[simp] theorem ev_slE {fa : DE → R D} {fl fh : DE → R (Option Int)} {δ : DE} : slE fa fl fh δ = (fa δ).bind (k_sl3 fl fh) := rfl
@[simp] theorem ev_ksl3 {fl fh : DE → R (Option Int)} {x : D} {δ : DE} : k_sl3 fl fh x δ = (fl δ).bind (k_sl2 fh x) := rfl
@[simp] theorem ev_ksl2 {fh : DE → R (Option Int)} {x : D} {lo : Option Int} {δ : DE} : k_sl2 fh x lo δ = (fh δ).bind (k_sl1 x lo) := rfl
@[simp] theorem ev_ksl1 {x : D} {lo hi : Option Int} {δ : DE} : k_sl1 x lo hi δ = R.of (slD x lo hi) δ := rfl
@[simp] theorem slD_tup {l : List D} {lo hi : Option Int} : slD (.tup l) lo hi = some (.tup (cutD l lo hi)) := rfl
@[simp] theorem slD_lst {l : List D} {lo hi : Option Int} : slD (.lst l) lo hi = some (.lst (cutD l lo hi)) := rfl
theorem cut_from {α : Type} {l : List α} (k : Nat) : cutD l (some (k : Int)) none = l.drop k := by
  unfold cutD
  rw [HT.sIx_nat, HT.sIx_none]
  by_cases h : k ≤ l.length
  · rw [Nat.min_eq_left h, List.take_of_length_le (by rw [List.length_drop]; exact Nat.le_refl _)]
  · rw [Nat.min_eq_right (by omega), List.drop_eq_nil_of_le (show l.length ≤ k by omega), List.drop_eq_nil_of_le (Nat.le_refl _), List.take_nil]
theorem cut_to {α : Type} {l : List α} (k : Nat) : cutD l none (some (k : Int)) = l.take k := by
  unfold cutD
  rw [HT.sIx_nat, HT.sIx_none, List.drop_zero, Nat.sub_zero]
  by_cases h : k ≤ l.length
  · rw [Nat.min_eq_left h]
  · rw [Nat.min_eq_right (by omega), List.take_of_length_le (show l.length ≤ k by omega), List.take_of_length_le (Nat.le_refl _)]
@[simp] theorem ev_zipE {fa : DE → R (List Arg)} {δ : DE} : zipE fa δ = (fa δ).bind zipItems := rfl
@[simp] theorem zipI_tup {l m : List D} {δ : DE} : zipItems [.val (.tup l), .val (.tup m)] δ = .ok (zipD l m) δ := rfl
@[simp] theorem zipI_lst {l m : List D} {δ : DE} : zipItems [.val (.lst l), .val (.lst m)] δ = .ok (zipD l m) δ := rfl
noncomputable def rgK (as : List Arg) (δ : DE) : R (List D) := match as with
  | [.val (.int j)] => @ite _ (j < 2 ^ 62 ∧ -(2 ^ 62) ≤ j) (Classical.propDecidable _) (.ok ((List.range j.toNat).map fun i => .int ((0 : Int) + (i : Nat))) δ) .stuck
  | _ => .stuck
@[simp] theorem ev_rng1 {fa : DE → R (List Arg)} {δ : DE} : rng1 fa δ = (fa δ).bind rgK := id rfl
theorem rgK_nat {n : Nat} {δ : DE} (h : n ≤ 1000000) : rgK [.val (.int n)] δ = .ok ((List.range n).map fun i => .int (i : Nat)) δ := by
  unfold rgK
  simp only
  rw [if_pos ⟨by omega, by omega⟩]
  simp
@[simp] theorem ev_enumE {fa : DE → R (List Arg)} {δ : DE} : enumE fa δ = (fa δ).bind enumItems := rfl
@[simp] theorem enumI_tup {l : List D} {δ : DE} : enumItems [.val (.tup l)] δ = .ok (pairsD l) δ := rfl
@[simp] theorem enumI_lst {l : List D} {δ : DE} : enumItems [.val (.lst l)] δ = .ok (pairsD l) δ := rfl
/-! ### comprehensions that draw -/
theorem lcLoop_st {α S : Type} {t : D → DE → Option DE} {cond : DE → R Bool} {elt : DE → R D} {vs : List Nat} (enc : α → D) (mk : S → DE) (P : S → Prop) (Q : α → D → Prop) :
    ∀ (as : List α), (∀ s a, a ∈ as → P s → ∃ δ1 b δ2, t (enc a) (mk s) = some δ1 ∧ cond δ1 = .ok b δ2 ∧ (b = false → ∃ s', P s' ∧ wipeD δ2 vs = some (mk s')) ∧ (b = true → ∃ y δ3 s', elt δ2 = .ok y δ3 ∧ P s' ∧ wipeD δ3 vs = some (mk s') ∧ Q a y)) →
      ∀ s acc, P s → acc.length + as.length ≤ LIM → ∃ (ps : List (α × D)) (s' : S), lcLoop t cond elt vs (as.map enc) (mk s) acc = .ok (acc ++ ps.map (·.2)) (mk s') ∧ P s' ∧ (ps.map (·.1)).Sublist as ∧ ∀ p ∈ ps, Q p.1 p.2
  | [], _, s, acc, hs, _ => ⟨[], s, by unfold lcLoop; simp, hs, List.Sublist.slnil, fun p hp => by cases hp⟩
  | a :: as, h, s, acc, hs, hl => by
    obtain ⟨δ1, b, δ2, e1, e2, hf, ht⟩ := h s a List.mem_cons_self hs
    rw [List.length_cons] at hl
    rw [List.map_cons]
    cases b with
    | false =>
      obtain ⟨s1, p1, w1⟩ := hf rfl
      obtain ⟨ps, s', i1, i2, i3, i4⟩ := lcLoop_st enc mk P Q as (fun s a ha => h s a (List.mem_cons_of_mem _ ha)) s1 acc p1 (by omega)
      refine ⟨ps, s', ?_, i2, i3.cons _, i4⟩
      unfold lcLoop
      simp [e1, e2, w1, i1]
    | true =>
      obtain ⟨y, δ3, s1, e3, p1, w1, q1⟩ := ht rfl
      obtain ⟨ps, s', i1, i2, i3, i4⟩ := lcLoop_st enc mk P Q as (fun s a ha => h s a (List.mem_cons_of_mem _ ha)) s1 (acc ++ [y]) p1 (by rw [List.length_append, List.length_singleton]; omega)
      refine ⟨(a, y) :: ps, s', ?_, i2, by rw [List.map_cons]; exact i3.cons_cons _, fun p hp => ?_⟩
      · unfold lcLoop
        rw [lim_eq] at hl
        simp [e1, e2, e3, show acc.length < 1000000 by omega, w1, i1]
      · rcases List.mem_cons.mp hp with rfl | hp
        · exact q1
        · exact i4 p hp
theorem lcN_st {α S : Type} {f : DE → R (List D)} {t : D → DE → Option DE} {cond : DE → R Bool} {elt : DE → R D} {vs : List Nat} {δ δ0 : DE} {as : List α} (enc : α → D) (mk : S → DE) (P : S → Prop) (Q : α → D → Prop) {s : S} (hf : f δ = .ok (as.map enc) δ0) (hw : wipeD δ0 vs = some (mk s)) (hs : P s) (hl : as.length ≤ LIM)
    (h : ∀ s a, a ∈ as → P s → ∃ δ1 b δ2, t (enc a) (mk s) = some δ1 ∧ cond δ1 = .ok b δ2 ∧ (b = false → ∃ s', P s' ∧ wipeD δ2 vs = some (mk s')) ∧ (b = true → ∃ y δ3 s', elt δ2 = .ok y δ3 ∧ P s' ∧ wipeD δ3 vs = some (mk s') ∧ Q a y)) :
    ∃ (ps : List (α × D)) (s' : S), lcN f t cond elt vs δ = .ok (.lst (ps.map (·.2))) (unwipe δ0 (mk s') vs) ∧ P s' ∧ (ps.map (·.1)).Sublist as ∧ ∀ p ∈ ps, Q p.1 p.2 := by
  obtain ⟨ps, s', i1, i2, i3, i4⟩ := lcLoop_st enc mk P Q as h s [] hs (by simpa using hl)
  refine ⟨ps, s', ?_, i2, i3, i4⟩
  unfold lcN
  simp [hf, hw, i1]
end
/-! ### repr, for longer ints -/
def ShowW (n k : Nat) (d : D) : Prop := ∃ p, d.py = some p ∧ p.canLay0 = true ∧ p.intsShort 43 = true ∧ p.showable = true ∧ p.depth ≤ k ∧ p.weight ≤ n
theorem ShowW.mono {n n' k k' : Nat} {d : D} (h : ShowW n k d) (a : n ≤ n') (b : k ≤ k') : ShowW n' k' d := by
  obtain ⟨p, h1, h2, h3, h4, h5, h6⟩ := h
  exact ⟨p, h1, h2, h3, h4, by omega, by omega⟩
theorem ShowW.int {i : Int} (h : i.natAbs < 10 ^ 42) : ShowW 141 1 (.int i) := by
  have hl : i.natAbs.log2 < 140 := by
    by_cases h0 : i.natAbs = 0
    · rw [h0]; decide
    · exact (Nat.log2_lt h0).mpr (by have : (10 : Nat) ^ 42 < 2 ^ 140 := by decide
                                     omega)
  have e : (PyData.shown (.int i)).length ≤ 43 := by
    have e := int_text_length_le10 (k := 42) (by decide) h
    show (Str.ofString (toString i)).length ≤ 43
    rw [PySem.ofString_length]; exact e
  refine ⟨.int i, by unfold D.py; rfl, by simp [PyData.canLay0], by simp only [PyData.intsShort, decide_eq_true_eq]; exact e, by simp only [PyData.showable, decide_eq_true_eq]; omega, by simp [PyData.depth], ?_⟩
  simp only [PyData.weight]
  split <;> omega
theorem ShowW.str {s : Str} (h : PyData.strOk s = true) : ShowW s.cps.size 1 (.str s) := ⟨.str s, by unfold D.py; rfl, by simpa [PyData.canLay0] using h, by simp [PyData.intsShort], by simp [PyData.showable], by simp [PyData.depth], by simp [PyData.weight]⟩
theorem ShowW.non : ShowW 0 1 .non := ⟨.none, by unfold D.py; rfl, by simp [PyData.canLay0], by simp [PyData.intsShort], by simp [PyData.showable], by simp [PyData.depth], by simp [PyData.weight]⟩
theorem ShowW.bl {b : Bool} : ShowW 0 1 (.bl b) := ⟨.bool b, by unfold D.py; rfl, by simp [PyData.canLay0], by simp [PyData.intsShort], by simp [PyData.showable], by simp [PyData.depth], by simp [PyData.weight]⟩
theorem ShowW.all {n k : Nat} : ∀ {l : List D}, (∀ d ∈ l, ShowW n k d) → ∃ ps, D.pys l = some ps ∧ PyData.canLayAll0 ps = true ∧ PyData.intsShortAll 43 ps = true ∧ PyData.showableAll ps = true ∧ PyData.depthAll ps ≤ k ∧ PyData.weightAll ps ≤ l.length * (n + 1)
  | [], _ => ⟨[], by unfold D.pys; rfl, by simp [PyData.canLayAll0], by simp [PyData.intsShortAll], by simp [PyData.showableAll], by simp [PyData.depthAll], by simp [PyData.weightAll]⟩
  | d :: l, h => by
    obtain ⟨p, h1, h2, h3, h4, h5, h6⟩ := h d List.mem_cons_self
    obtain ⟨ps, g1, g2, g3, g4, g5, g6⟩ := ShowW.all (l := l) fun d hd => h d (List.mem_cons_of_mem _ hd)
    refine ⟨p :: ps, by unfold D.pys; rw [h1, g1]; rfl, by simp [PyData.canLayAll0, h2, g2], by simp [PyData.intsShortAll, h3, g3], by simp [PyData.showableAll, h4, g4], by simp only [PyData.depthAll]; omega, ?_⟩
    simp only [PyData.weightAll, List.length_cons, Nat.add_mul]
    omega
theorem ShowW.lst {n k : Nat} {l : List D} (h : ∀ d ∈ l, ShowW n k d) : ShowW (l.length * (n + 1)) (k + 1) (.lst l) := by
  obtain ⟨ps, g1, g2, g3, g4, g5, g6⟩ := ShowW.all h
  exact ⟨.list ps, by unfold D.py; rw [g1]; rfl, by simpa [PyData.canLay0] using g2, by simpa [PyData.intsShort] using g3, by simpa [PyData.showable] using g4, by simp only [PyData.depth]; omega, by simpa [PyData.weight] using g6⟩
theorem ShowW.tup {n k : Nat} {l : List D} (h : ∀ d ∈ l, ShowW n k d) : ShowW (l.length * (n + 1)) (k + 1) (.tup l) := by
  obtain ⟨ps, g1, g2, g3, g4, g5, g6⟩ := ShowW.all h
  exact ⟨.tuple ps, by unfold D.py; rw [g1]; rfl, by simpa [PyData.canLay0] using g2, by simpa [PyData.intsShort] using g3, by simpa [PyData.showable] using g4, by simp only [PyData.depth]; omega, by simpa [PyData.weight] using g6⟩
theorem ShowW.shows {n k : Nat} {d : D} (h : ShowW n k d) (hn : n ≤ 20000) (hk : k ≤ 60) : ∃ s, shows d = some s := by
  obtain ⟨p, h1, h2, h3, h4, h5, h6⟩ := h
  have z := PyData.shown_le 43 (by decide) p (PyData.leavesShort_of_canLay0 43 p h2 h3)
  refine ⟨p.shown, ?_⟩
  unfold PV.shows
  rw [h1]
  simp only [Option.bind_some]
  rw [if_pos ⟨h4, h2, by omega, by unfold LIM; omega⟩]

theorem same_w {n k : Nat} {d : D} (h : ShowW n k d) (hn : n ≤ 20000) (hk : k ≤ 60) : ph_same [.val d, .val d] = .ret (.bl true) [.val d, .val d] := by
  obtain ⟨s, e⟩ := h.shows hn hk
  unfold ph_same F_same
  simp [ev_fn, reprD, e]
/-! ### loops whose state speaks of what is left -/
theorem loop_runI {S α : Type} {t : D → DE → Option DE} {g : DE → O} (enc : α → D) (mk mr : S → DE) (step : S → α → LR S) (I : List α → S → Prop)
    (h : ∀ s a as, I (a :: as) s → ∃ δ1, t (enc a) (mk s) = some δ1 ∧ match step s a with
      | .go s' => I as s' ∧ (g δ1 = .nx (mk s') ∨ g δ1 = .cnt (mk s'))
      | .brk s' => g δ1 = .brk (mk s')
      | .ret d s' => g δ1 = .ret d (mr s')
      | .exc x s' => g δ1 = .exc x (mr s')) :
    ∀ (as : List α) s, I as s → loopF t g (as.map enc) (mk s) = (runL step as s).o mk mr
  | [], s, _ => rfl
  | a :: as, s, hs => by
    obtain ⟨δ1, e1, q⟩ := h s a as hs
    have ih := loop_runI enc mk mr step I h as
    rw [List.map_cons]
    unfold loopF runL
    rw [e1]
    cases e : step s a with
    | go s' =>
      rw [e] at q
      rcases q with ⟨i, q | q⟩
      · simp only [q]; exact ih s' i
      · simp only [q]; exact ih s' i
    | brk s' => rw [e] at q; simp only [q]; rfl
    | ret d s' => rw [e] at q; simp only [q]; rfl
    | exc x s' => rw [e] at q; simp only [q]; rfl
section
end
end PV

/-! PV31: a lambda handed to a def that calls it under try and looks at what it gave. -/
namespace PV
open PySem PySem.Spec PyProof.Rows L2 LamX
variable [Tbl]

/-- said(lambda: f) where said is «try: made = call(); rest / except ...» -/
def saidR (em : Str → Str → Option Bool) (f : DE → R D) (g : DE → O) (hs : List (Str × D)) : DE → R D := fun δ => match f δ with
  | .exc x δ1 => saidCatch em x δ1 hs
  | .ok d δ1 => match g [none, some (.val d)] with
    | .ret d' _ => .ok d' δ1
    | _ => .stuck
  | .stuck => .stuck
def restW (K : PySem.W.Frag) (g : DE → O) (Q : VK) : VK := fun v H => ∃ F d, AOk K F H [.val d] [v] ∧ match g [none, some (.val d)] with
  | .ret d' _ => ∀ v' F' H', Done K F H [.val d] [v] F' H' [.val d] → Den K F' d' v' → Q v' H'
  | _ => False
def TTr (K : PySem.W.Frag) (l : List (Value × V)) (g : DE → O) : (XK → Hp → VK → Prop) → Hp → VK → Prop := fun tl H Q => tl (fun cls _ H' => tellW K Q l cls H') H (restW K g Q)
theorem PE.weak {X : Cx} {e : Expr} {t : TE} (h : PE X e t) : PE X e (fun σ H Q => ∃ Q1, t σ H Q1 ∧ ∀ v H', Q1 v H' → Q v H') := ⟨fun pins s σ H Q I ⟨Q1, z, hq⟩ => thn (h.run pins s σ H Q1 I z) fun u s1 ⟨v, H1, I1, rv, q⟩ => ⟨v, H1, I1, rv, hq _ _ q⟩⟩
theorem rest_rel {K : PySem.W.Frag} {F H : Hp} {d : D} {v : V} {x : Option V} (A : AOk K F H [.val d] [v]) : Rel K (cq0 F H [.val d] [v]) F H [x, some v] [none, some (.val d)] := by
  have r := A.rel (N := ["a"])
  refine ⟨r.sub, r.pres, r.low, r.new, r.gs, r.bor0, fun i hi => ?_, r.binj, rfl, fun i s e => ?_, fun i j a m n e => ?_, r.tab⟩
  · obtain ⟨m, e⟩ := mem_bIx.mp hi
    cases i with
    | zero => cases e
    | succ i => cases e
  · match i, e with
    | 0, e => cases e
    | 1, e => cases e; exact ⟨v, rfl, A.ok 0 _ _ rfl rfl⟩
    | i + 2, e => cases e
  · match i, e with
    | 0, e => cases e
    | 1, e => cases e
    | i + 2, e => cases e
theorem rest_gives {X : Cx} {x a m q : Str} {sg : Scope} {g : Addr} {cdg : Value} {p1 p2 p3 p8 pa : Pos} {rest : List Stmt} {G : DE → O} {h₀ : ExceptHandler} {hds : List ExceptHandler} {ns : List (Str × D)} {l : List (Value × V)} (hh : SaidHds X.K sg X.mg (h₀ :: hds) ns l) (hnd : [a, m].Nodup) (hm : Loc sg m) (hl : sg.names.lookup m = some .local)
    (hr : ∀ (s : Shared) (H : Hp) (W : WX) (pn : List (Addr × Obj)) (xe : Value → Shared → Prop), Takes ((cxOf C8.CX0 X.prog X.w X.K X.mg X.base [a, m] x sg g cdg X.A X.stack s H C8.E0).tr pn xe) W → VSs ((cxOf C8.CX0 X.prog X.w X.K X.mg X.base [a, m] x sg g cdg X.A X.stack s H C8.E0).tr pn xe) W rest G) :
    GivesTo X [a, m] x sg g cdg [.Try (.Assign [.Name m pa] (.Call (.Name a p1) [] [] p2) p3 :: rest) (h₀ :: hds) [] [] p8] a q (TTr X.K l G) := by
  intro f c' s H Q tl act hc h
  refine ⟨_, pss_one (ps_try_many (X := (cxOf C8.CX0 X.prog X.w X.K X.mg X.base [a, m] x sg g cdg X.A X.stack s H C8.E0).nox)
      (tb := fun W D σ H => ∃ (Ech : XK) , (∀ cls d σ' H', Ech cls d H' → W cls d σ' H') ∧ σ = [some (.ref f), none] ∧ H c' = some (CodeO c' q) ∧ tl Ech H (restW X.K G D.rt))
      rfl rfl LamX.takes0 (fun W pn xe tk _ => ?_) (SaidHds.ok hh)), ?_⟩
  · refine ⟨fun pins s' σ H' D I h' => ?_⟩
    obtain ⟨Ech, hW, h1, h2, h3⟩ := h'
    have hp := pss_cons (ps_set (i := 1) (pos := p3) (pos' := pa) hnd rfl hm (PE.weak (act W pn xe Ech p1 p2 tk hW)) rfl (.inr hl)) (hr s H W pn xe tk)
    refine hp.run pins s' σ H' D I ⟨restW X.K G D.rt, ⟨?_, h2, h3⟩, fun v H1 z => ?_⟩
    · rw [h1]; rfl
    · obtain ⟨F, d, A, z⟩ := z
      rw [h1]
      refine ⟨_, F, _, rest_rel A, ?_⟩
      cases qg : G [none, some (.val d)] with
      | ret d' δ' =>
        rw [qg] at z
        intro v' σ' F' H'' r' s'' dd
        exact z v' F' H'' (by have := A.done r'; cases δ' <;> exact this) dd
      | nx _ => rw [qg] at z; exact z.elim
      | brk _ => rw [qg] at z; exact z.elim
      | cnt _ => rw [qg] at z; exact z.elim
      | exc _ _ => rw [qg] at z; exact z.elim
      | stuck => rw [qg] at z; exact z.elim
  · exact ⟨fun cls _ H' => tellW X.K Q l cls H', fun cls d σ' H' z => tell_many z, rfl, hc, h⟩
section
variable {X : Cx} {W : WX}
theorem rd_saidR {em : Str → Str → Option Bool} (he : EmOk X.K em) {sg : Scope} {f : DE → R D} {G : DE → O} {hds : List ExceptHandler} {ns : List (Str × D)} {l : List (Value × V)} (hh : SaidHds X.K sg X.mg hds ns l) {σ : L2.St} {H : Hp} {Q : VK}
    (z : rdE X.K W (saidR em f G ns) σ H Q) : tLam Tbl.T (TTr X.K l G) (fun E => rdE X.K (wE E) f) σ H Q := by
  obtain ⟨c, F, δ, r, z⟩ := z
  refine ⟨r.tab.tabs, fun H1 e1 t1 => ?_⟩
  have r1 := r.extN e1 t1
  refine ⟨c, F, δ, r1, ?_⟩
  unfold saidR at z
  cases q : f δ with
  | ok d δ1 =>
    rw [q] at z
    intro v F1 H2 r2 s2 dd
    have ha : ArgsD X.K F1 σ [.val d] [v] := ⟨v, [], rfl, dd, rfl⟩
    have A : AOk X.K F1 H2 [.val d] [v] := r2.lent (as := [.val d]) (ss := [.val d]) (show ([] : List Nat).Nodup from .nil) rfl ha
    refine ⟨F1, d, A, ?_⟩
    cases qg : G [none, some (.val d)] with
    | ret d' δ' =>
      simp only [qg] at z ⊢
      intro v' F' H' dn dd'
      exact z v' F' H' (r2.called (as := [.val d]) (show ([] : List Nat).Nodup from .nil) rfl ha dn) (s2.trans dn.low) dd'
    | nx _ => simp only [qg] at z; exact z.elim
    | brk _ => simp only [qg] at z; exact z.elim
    | cnt _ => simp only [qg] at z; exact z.elim
    | exc _ _ => simp only [qg] at z; exact z.elim
    | stuck => simp only [qg] at z; exact z.elim
  | stuck => rw [q] at z; exact z
  | exc x δ1 =>
    rw [q] at z
    intro cls od F' H' r' s' xo
    exact tell_rd he r' xo hh (aft.mono z s' fun _ _ h => h)
theorem ve_saidR {x a m : Str} {g c P : Addr} {fd : FuncData} {st : Stmt} {k : Nat} {em : Str → Str → Option Bool} {params : Arguments} {body : Expr} {scope : Scope} {f : DE → R D} {G : DE → O} {p lpos pos p1 p2 p3 p8 pa : Pos} {rest : List Stmt} {h₀ : ExceptHandler} {hds : List ExceptHandler} {ns : List (Str × D)} {l : List (Value × V)}
    (he : EmOk X.K em) (F : Fun X.K x x st g fd) (hbg : defBody st = [.Try (.Assign [.Name m pa] (.Call (.Name a p1) [] [] p2) p3 :: rest) (h₀ :: hds) [] [] p8]) (hh : SaidHds X.K (defScope st) X.mg (h₀ :: hds) ns l) (hnd : [a, m].Nodup) (hlm : Loc (defScope st) m) (hll : (defScope st).names.lookup m = some .local)
    (hrest : ∀ (cd : Value) (s : Shared) (H : Hp) (W : WX) (pn : List (Addr × Obj)) (xe : Value → Shared → Prop), Takes ((cxOf C8.CX0 X.prog X.w X.K X.mg X.base [a, m] x (defScope st) g cd X.A X.stack s H C8.E0).tr pn xe) W → VSs ((cxOf C8.CX0 X.prog X.w X.K X.mg X.base [a, m] x (defScope st) g cd X.A X.stack s H C8.E0).tr pn xe) W rest G)
    (hg : Gl X x) (hm : X.mg x = some (.ref g)) (hb : L2.Binds X.K fd [a] []) (Sg : FnScope [a, m] [a] (defScope st)) (hva : Vis (defScope st) a)
    (TB : TabB X.base X.mg c P) (hcode : X.env.code = .ref c) (hmT : (P, X.env.qual ++ "<lambda>") ∈ Tbl.T) (hu : ∀ p ∈ Tbl.T, p.1 = P → p.2 = X.env.qual ++ "<lambda>") (hr : Room (k + 2) X.A) (L : LamS X.env.scope scope) (hdef : defaultsOf params X.env = ([], []))
    (hbind : ∀ (q : Str) (cl : List (Str × Addr)) (pm cv ctv : Value), bindArgs (PySem.W.kla_fn "<lambda>" q params body scope cl pm cv ctv) ⟨[], []⟩ = pure [])
    (hbody : ∀ (A : Around) (outer : List Env) (s : Shared) (H : Hp) (E : XK) (f' c' : Addr), Room k (A.deeper (lamEnv X scope s.heap.objs.size f' c')) → VE (lamCx X A outer s H E scope f' c') (wE E) body f)
    (hdb : (x == ("__debug__" : Str)) = false := by decide) (hd : (a == ("__debug__" : Str)) = false := by decide) (hcd : (a == ("__classdict__" : Str)) = false := by decide) :
    VE X W (.Call (.Name x p) [.Lambda params body scope lpos] [] pos) (saidR em f G ns) := by
  have hk := F.kp
  obtain ⟨oc, od, kV, doc, pm, an, cd, ct, osl, rfl, lk, hc⟩ := F.ex
  exact PE.to (pe_lamcall (T := Tbl.T) (TT := TTr X.K l G) (t := fun E => rdE X.K (wE E) f) hg hm hk lk hc hb Sg rfl hva (by rw [hbg]; exact rest_gives hh hnd hlm hll (hrest cd)) TB hcode hmT hu hr L hdef hbind (fun A outer s H E f' c' hr' => hbody A outer s H E f' c' hr') hdb hd hcd) fun σ H Q z => rd_saidR he hh z
end
end PV

/-! PV32: repr of tuples with dicts in them; dict displays of constants. -/
namespace PV
open PySem PySem.Spec PyProof.Rows L2
def keyPy : Key → PyData
  | .inl i => .int i
  | .inr s => .str s
mutual
def D.pyX : D → Option PyData
  | .non => some .none
  | .bl b => some (.bool b)
  | .int i => some (.int i)
  | .str s => some (.str s)
  | .tup l => (D.pyXs l).map .tuple
  | .dct l => (D.pyXk l).map .dict
  | _ => none
def D.pyXs : List D → Option (List PyData)
  | [] => some []
  | d :: ds => (D.pyX d).bind fun p => (D.pyXs ds).map fun ps => p :: ps
def D.pyXk : List (Key × D) → Option (List (PyData × PyData))
  | [] => some []
  | (k, d) :: ds => (D.pyX d).bind fun p => (D.pyXk ds).map fun ps => (keyPy k, p) :: ps
end
section
variable {X : Cx} {pins : List (Addr × Obj)} {σ : L2.St} {F H : Hp} {s : Shared}
mutual
theorem readsX (I : Inv X pins σ H s) (e : Same F H) : ∀ {d : D} {p : PyData} {v : V} {u : Value}, d.pyX = some p → Den X.K F d v → RelV v u → ∃ as, Reads s.heap u p as ∧ sysModules ∉ as
  | .non, _, _, _, h, g, r => by unfold D.pyX at h; cases h; cases g; cases r; exact ⟨_, Reads.none, by simp⟩
  | .bl b, _, _, _, h, g, r => by unfold D.pyX at h; cases h; cases g; cases r; exact ⟨_, Reads.bool b, by simp⟩
  | .int b, _, _, _, h, g, r => by unfold D.pyX at h; cases h; cases g; obtain ⟨t, rfl⟩ := r; exact ⟨_, Reads.int b t, by simp⟩
  | .str b, _, _, _, h, g, r => by unfold D.pyX at h; cases h; cases g; obtain ⟨t, rfl⟩ := r; exact ⟨_, Reads.str b t, by simp⟩
  | .byt _, _, _, _, h, _, _ => by unfold D.pyX at h; cases h
  | .ty _, _, _, _, h, _, _ => by unfold D.pyX at h; cases h
  | .fn _, _, _, _, h, _, _ => by unfold D.pyX at h; cases h
  | .adr _, _, _, _, h, _, _ => by unfold D.pyX at h; cases h
  | .scr _, _, _, _, h, _, _ => by unfold D.pyX at h; cases h
  | .lst _, _, _, _, h, _, _ => by unfold D.pyX at h; cases h
  | .dcT _, _, _, _, h, _, _ => by unfold D.pyX at h; cases h
  | .dcF _, _, _, _, h, _, _ => by unfold D.pyX at h; cases h
  | .ctp _, _, _, _, h, _, _ => by unfold D.pyX at h; cases h
  | .ins _ _, _, _, _, h, _, _ => by unfold D.pyX at h; cases h
  | .tup l, _, _, _, h, g, r => by
    unfold D.pyX at h
    obtain ⟨ps, h1, rfl⟩ := Option.map_eq_some_iff.mp h
    obtain ⟨a, xs, rfl, g1, g2⟩ := g
    cases r
    obtain ⟨its, rv, ⟨o, ho, hc, n, hd⟩, _⟩ := I.tuple (sqt (e _ _ g1))
    obtain ⟨as, hr, hn⟩ := readsXs I e h1 g2 rv
    exact ⟨_, Reads.tuple ho hc hd hr, hn⟩
  | .dct l, _, _, _, h, g, r => by
    unfold D.pyX at h
    obtain ⟨ps, h1, rfl⟩ := Option.map_eq_some_iff.mp h
    obtain ⟨a, kvs, rfl, g1, g2⟩ := g
    cases r
    obtain ⟨_, hm, vs, kv, o, es, ep, ho, hx, hd, _, hp, _⟩ := I.hok a _ (e _ _ g1)
    obtain ⟨as, bs, r1, r2, n1, n2⟩ := readsXk I e h1 g2 kv hp
    refine ⟨_, Reads.dict ho hx.1 hd r1 r2, ?_⟩
    simp only [List.cons_append, List.mem_cons, List.mem_append, not_or]
    exact ⟨fun q => by rw [← q] at hm; simp at hm, n1, n2⟩
theorem readsXs (I : Inv X pins σ H s) (e : Same F H) : ∀ {l : List D} {ps : List PyData} {vs : List V} {us : List Value}, D.pyXs l = some ps → Dens X.K F l vs → Vals vs us → ∃ as, ReadsAll s.heap us ps as ∧ sysModules ∉ as
  | [], _, _, _, h, g, r => by
    unfold D.pyXs at h; cases h; rw [show _ = _ from g] at r; cases r; exact ⟨_, .nil, by simp⟩
  | d :: ds, _, _, _, h, ⟨v, rr, e1, g1, g2⟩, r => by
    unfold D.pyXs at h
    obtain ⟨p, h1, h2⟩ := Option.bind_eq_some_iff.mp h
    obtain ⟨ps, h3, rfl⟩ := Option.map_eq_some_iff.mp h2
    subst e1
    cases r with
    | cons r1 r2 =>
      obtain ⟨as, q1, n1⟩ := readsX I e h1 g1 r1
      obtain ⟨bs, q2, n2⟩ := readsXs I e h3 g2 r2
      exact ⟨_, .cons q1 q2, by simp only [List.mem_append, not_or]; exact ⟨n1, n2⟩⟩
theorem readsXk (I : Inv X pins σ H s) (e : Same F H) : ∀ {l : List (Key × D)} {ps : List (PyData × PyData)} {kvs : List (Key × V)} {vs : List (Key × Value)} {es : List DictEntry}, D.pyXk l = some ps → DenK X.K F l kvs → KV kvs vs → Pairs (mixKind X.prog X.w) es vs →
    ∃ as bs, ReadsAll s.heap (es.map (·.key)) (ps.map (·.1)) as ∧ ReadsAll s.heap (es.map (·.val)) (ps.map (·.2)) bs ∧ sysModules ∉ as ∧ sysModules ∉ bs
  | [], _, _, _, _, h, g, r, q => by
    unfold D.pyXk at h; cases h; rw [show _ = _ from g] at r; cases r; cases q; exact ⟨_, _, .nil, .nil, by simp, by simp⟩
  | (k, d) :: ds, _, _, _, _, h, ⟨v, rr, e1, g1, g2⟩, r, q => by
    unfold D.pyXk at h
    obtain ⟨p, h1, h2⟩ := Option.bind_eq_some_iff.mp h
    obtain ⟨ps, h3, rfl⟩ := Option.map_eq_some_iff.mp h2
    subst e1
    cases r with
    | cons r1 r2 =>
      cases q with
      | @cons ee _ _ _ q1 q2 q3 =>
        obtain ⟨as, bs, z1, z2, n1, n2⟩ := readsXk I e h3 g2 r2 q3
        obtain ⟨cs, y, n3⟩ := readsX I e h1 g1 r1.2
        rw [← q2] at y
        have q1 := q1
        rw [← r1.1] at q1
        have hk : Reads s.heap ee.key (keyPy k) [] := by
          rcases keyIs_shape q1 with ⟨i, t, e1, e2⟩ | ⟨i, t, e1, e2⟩
          · cases e1; rw [e2]; exact .int i t
          · cases e1; rw [e2]; exact .str i t
        exact ⟨_, _, .cons hk z1, .cons y z2, by simpa using n1, by simp only [List.mem_append, not_or]; exact ⟨n3, n2⟩⟩
end
end
variable [Tbl]
def showsX (d : D) : Option Str := match shows d with
  | some s => some s
  | none => d.pyX.bind fun p => if p.showable = true ∧ p.depth ≤ 60 ∧ p.shown.length ≤ LIM then some p.shown else none
def reprX : List D → Option D
  | [.tup l] => (showsX (.tup l)).map .str
  | [d] => (shows d).map .str
  | _ => none
theorem b_reprX {X : Cx} (hu : X.A.units + 64 < cLine) (hg : X.A.guards = some []) : Bf X (.builtin "repr") reprX := by
  have hcr : CallR X (.builtin "repr") (fun xs H Q => (∃ v p, xs = [v] ∧ Dp X.K H v p ∧ p.showable = true ∧ p.canLay0 = true ∧ p.depth ≤ 60 ∧ p.shown.length ≤ sizeLine ∧ Q (.str p.shown) H) ∨
      ∃ l v F p, xs = [v] ∧ Den X.K F (.tup l) v ∧ Same F H ∧ (D.tup l).pyX = some p ∧ p.showable = true ∧ p.depth ≤ 60 ∧ p.shown.length ≤ sizeLine ∧ Q (.str p.shown) H) := by
    intro pins s σ H xs us Q I rv h
    rcases h with h | ⟨l, v, F, p, rfl, dn, sm, py, hs, hd, hz, q⟩
    · exact cr_repr hu hg pins s σ H xs us Q I rv h
    obtain ⟨u, rfl, ru⟩ := Vals.one rv
    have fin : ∀ (h' : Heap) (t tk : Tok), (∀ b o, s.heap.get? b = some o → h'.get? b = some o) → EP X pins σ Q (.str p.shown t) { s with heap := h', toks := tk } := fun h' t tk hk => ⟨.str p.shown, H, I.kept (t' := tk) hk, ⟨t, rfl⟩, q⟩
    obtain ⟨as, rr, hn⟩ := readsX I sm py dn ru
    obtain ⟨a, xs, rfl, _⟩ := dn
    cases (show u = Value.ref a from ru)
    exact repr_of_reads' rr hs (fun _ => hn) hg (by omega) (fun _ _ e => e) (fun h' t tk hk => fin h' t tk hk) hz
  refine ⟨_, hcr, fun c F H σ δ ds z vs Q r d1 q k => ?_⟩
  have old : ∀ {d : D}, ds = [d] → (shows d).map .str = some z → ∃ v p, vs = [v] ∧ Dp X.K H v p ∧ p.showable = true ∧ p.canLay0 = true ∧ p.depth ≤ 60 ∧ p.shown.length ≤ sizeLine ∧ Q (.str p.shown) H := by
    intro d ed q'
    subst ed
    obtain ⟨t, q1, rfl⟩ := Option.map_eq_some_iff.mp q'
    obtain ⟨p, q2, q3⟩ := Option.bind_eq_some_iff.mp q1
    split at q3
    · rename_i hh
      cases q3
      obtain ⟨v, rfl, h⟩ := densH1 d1
      exact ⟨v, p, rfl, dpH r.sub h q2, hh.1, hh.2.1, hh.2.2.1, lim_le hh.2.2.2, k _ F H r (.refl _) rfl⟩
    · cases q3
  unfold reprX at q
  split at q
  · rename_i l
    unfold showsX at q
    split at q
    · rename_i t ht
      exact .inl (old rfl (by rw [ht]; exact q))
    · obtain ⟨t, q1, rfl⟩ := Option.map_eq_some_iff.mp q
      obtain ⟨p, q2, q3⟩ := Option.bind_eq_some_iff.mp q1
      split at q3
      · rename_i hh
        cases q3
        obtain ⟨v, rfl, h⟩ := densH1 d1
        rcases h with h | ⟨m, a, o, e, _⟩
        · exact .inr ⟨l, v, F, p, rfl, h, r.sub, q2, hh.1, hh.2.1, lim_le hh.2.2, k _ F H r (.refl _) rfl⟩
        · cases m <;> (unfold MD.d at e; cases e)
      · cases q3
  · exact .inl (old rfl q)
  · cases q
/-- {k: v} of constants -/
def dOne (k v : Int) : DE → R MD := fun δ => .ok (.dct [(.inl k, .int v)]) δ
theorem vn_dOne {X : Cx} {W : WX} {k v : Int} {j1 j2} {p1 p2 pos : Pos} : VN X W (.Dict [some (.Constant (.int k) j1 p1)] [.Constant (.int v) j2 p2] pos) (dOne k v) := PE.to (pe_disp (pps_cons pe_int pe_int pps_nil) rfl rfl (by simp) (by simp)) fun σ H Q z p hp => by
  obtain ⟨c, F, δ, r, z⟩ := z
  refine ⟨upd_same, [(.inl k, .int v)], rfl, by simp, ?_⟩
  rw [upd_upd]
  obtain ⟨g1, g2⟩ := r.fresh (o := .dK [(.inl k, .int v)]) (m := .dct [(.inl k, .int v)]) hp ⟨_, _, rfl, rfl, rfl⟩
  exact z _ _ _ g1 (.refl _) g2
noncomputable def tupRg1 (fa : DE → R D) : DE → R D := fun δ => (fa δ).bind fun x δ => match x with
  | .int j => @ite _ (j ≤ 10000 ∧ -10000 ≤ j) (Classical.propDecidable _) (.ok (.tup ((List.range j.toNat).map fun k => .int ((k : Nat) : Int))) δ) .stuck
  | _ => .stuck
theorem ve_tupRg1 {X : Cx} {W : WX} {pos : Pos} {a : Expr} {fa : DE → R D} {p p2 pos2 : Pos} (hc : X.calm = true) (hg : Gl X "tuple") (hm : X.mg "tuple" = none) (hg2 : Gl X "range") (hm2 : X.mg "range" = none) (ha : VE X W a fa)
    (na : starEach [a] X.env = (false, eval a X.env) :: starEach [] X.env := by rfl)
    (nc : starEach [.Call (.Name "range" p2) [a] [] pos2] X.env = (false, eval (.Call (.Name "range" p2) [a] [] pos2) X.env) :: starEach [] X.env := by rfl) :
    VE X W (.Call (.Name "tuple" p) [.Call (.Name "range" p2) [a] [] pos2] [] pos) (tupRg1 fa) :=
  PE.to (pe_tupRg hc hg hm (prg_1 hg2 hm2 ha na) nc) fun σ H Q z => by
    refine z.first (DM := dnE X.K) fun c F H1 δ x v r1 d1 z1 => ?_
    split at z1
    · rename_i j
      split at z1
      · rename_i hj
        refine ⟨j, d1, ⟨by omega, by omega, by omega, by omega, by omega⟩, fun q hq => ?_⟩
        have r3 := r1.lay (o := .tup (rgV 0 j)) hq
        refine z1 _ _ _ r3 (same_new (r1.freeF hq)) ⟨q, rgV 0 j, rfl, upd_same, ?_⟩
        generalize upd F q (.tup (rgV 0 j)) = F3
        unfold rgV
        rw [show (j - 0).toNat = j.toNat from by rw [Int.sub_zero]]
        generalize List.range j.toNat = l
        induction l with
        | nil => exact Dens.nil
        | cons n l ih => exact Dens.cons (by show V.int _ = _; rw [Int.zero_add]) ih
      · exact False.elim z1
    · exact False.elim z1
theorem kit_refl {K : PySem.W.Frag} {t : Value} : PySem.W.kitOne K t t = some true := if_pos (beq_self_eq_true _)
theorem kit_sub {K : PySem.W.Frag} {t : Value} {C : Addr} {cd : ClassData} (h1 : PySem.W.clsIn K C = some cd) (h2 : PySem.W.typeIn K (.ref C) = some (.type "type")) (h3 : PySem.W.subIn K t (.ref C) = some true) : PySem.W.kitOne K t (.ref C) = some true := by
  unfold PySem.W.kitOne
  split
  · rfl
  · unfold PySem.W.kitCls
    simp only
    rw [h1, h2, if_pos (by simp)]
    exact h3
end PV

/-! PV33: while. -/
namespace PV
open PySem PySem.Spec PyProof.Rows L2
def whileF (f : DE → R Bool) (g : DE → O) : Nat → DE → O
  | 0, _ => .stuck
  | n + 1, δ => bindS (f δ) fun b δ => if b = true then (match g δ with
      | .nx δ => whileF f g n δ
      | .cnt δ => whileF f g n δ
      | .brk δ => .nx δ
      | o => o) else .nx δ
/-- n: more turns than there are -/
def whileS (n : Nat) (f : DE → R Bool) (g : DE → O) : DE → O := fun δ => whileF f g n δ
section
variable [Tbl]
theorem vs_while {X : Cx} {W : WX} {e : Expr} {body : List Stmt} {f : DE → R Bool} {g : DE → O} {pos : Pos} (n : Nat) (hp : PassesOwn (model X.prog X.w) X.A X.env X.xe) (hc : VT X W e f) (hb : VSs X W body g) : VS X W (.While e body [] pos) (whileS n f g) :=
  PS.to (ps_while hp hc hb) fun N σ H z => by
    obtain ⟨c, F, δ, r, z⟩ := z
    refine ⟨fun m σ H => ∃ F' δ, Rel X.K c F' H σ δ ∧ aftS X.K W N c F' (whileF f g m δ), ⟨n, F, δ, r, z⟩, ?_⟩
    rintro m σ H ⟨F1, δ1, r1, z1⟩
    cases m with
    | zero => exact False.elim z1
    | succ m =>
      have z1 : rdS X.K W (fun δ => bindS (f δ) fun b δ => if b = true then (match g δ with
        | .nx δ => whileF f g m δ
        | .cnt δ => whileF f g m δ
        | .brk δ => .nx δ
        | o => o) else .nx δ) N σ H := by
          refine ⟨c, F1, δ1, r1, ?_⟩
          unfold whileF at z1
          exact z1
      -- the same frame throughout
      have key : aft X.K W dnB c F1 σ (fun b H1 => if b = true then ∃ M : L2.St → Hp → Prop, (∀ σ' H', M σ' H' → ∃ m', m' < m + 1 ∧ ∃ F' δ, Rel X.K c F' H' σ' δ ∧ aftS X.K W N c F' (whileF f g m' δ)) ∧ rdS X.K W g { N with nx := M, ct := M, bk := N.nx } σ H1 else N.nx σ H1) (f δ1) := by
        rename_i z0
        unfold whileF at z0
        cases q : f δ1 with
        | stuck => rw [q] at z0; exact False.elim z0
        | exc x δ2 => rw [q] at z0; exact fun cls od F' H' r' s' xo => z0 cls od σ F' H' r' s' xo
        | ok b δ2 =>
          rw [q] at z0
          intro v F2 H2 r2 s2 dd
          cases (show v = b from dd)
          cases b with
          | false => exact z0 σ F2 H2 r2 s2
          | true =>
            rw [if_pos rfl]
            refine ⟨fun σ' H' => ∃ F' δ, Rel X.K c F' H' σ' δ ∧ aftS X.K W N c F' (whileF f g m δ), fun σ' H' hM => ⟨m, by omega, hM⟩, c, F2, δ2, r2, ?_⟩
            have z2 : aftS X.K W N c F1 (match g δ2 with
              | .nx δ => whileF f g m δ
              | .cnt δ => whileF f g m δ
              | .brk δ => .nx δ
              | o => o) := z0
            have z2 := z2.up s2
            cases q2 : g δ2 with
            | nx δ5 => rw [q2] at z2; exact fun σ' F' H' r' s' => ⟨F', δ5, r', z2.up s'⟩
            | cnt δ5 => rw [q2] at z2; exact fun σ' F' H' r' s' => ⟨F', δ5, r', z2.up s'⟩
            | brk δ5 => rw [q2] at z2; exact z2
            | ret d δ5 => rw [q2] at z2; exact z2
            | exc x δ5 => rw [q2] at z2; exact z2
            | stuck => rw [q2] at z2; exact z2
      exact ⟨c, F1, δ1, r1, key⟩
end
/-- one turn, as a rule -/
theorem while_go {f : DE → R Bool} {g : DE → O} {n : Nat} {δ δ1 δ2 : DE} (h1 : f δ = .ok true δ1) (h2 : g δ1 = .nx δ2) : whileF f g (n + 1) δ = whileF f g n δ2 := by
  conv => lhs; unfold whileF
  simp only [h1, bindS, h2, if_true]
theorem while_end {f : DE → R Bool} {g : DE → O} {n : Nat} {δ δ1 : DE} (h1 : f δ = .ok false δ1) : whileF f g (n + 1) δ = .nx δ1 := by
  conv => lhs; unfold whileF
  simp only [h1, bindS]
  rfl
end PV

/-! PV34: max of a tuple of ints, () * n. -/
namespace PV
open PySem PySem.Spec PyProof.Rows L2
section
variable {prog : Program} {w : World} {A : Around} {E : Value → Shared → Prop} {s : Shared} {l : Addr}
theorem max_intTup {xs : Array (Int × Tok)} {Q : Value → Shared → Prop} (hh : A.handled = none) (hl : s.heap.IsTuple l (intItems xs)) (hne : 0 < xs.size)
    (h : ∀ v h' tk, (intItems xs)[argBest (fun i j => decide (numAt xs i > numAt xs j)) (xs.size - 1)]? = some v → (∀ b o, s.heap.get? b = some o → h'.get? b = some o) → Q v { s with heap := h', toks := tk }) :
    wpAny (model prog w) A (call (.builtin "max") [.ref l]) Q E s := by
  have hlt : l < s.heap.objs.size := by obtain ⟨_, e, _⟩ := hl; exact Heap.lt_size e
  refine call_max_walk (wpAny_pyIter_tuple hl ?_)
  refine ⟨_, [_, l], [_], _, _, _, _, rfl, Walks.tuple (A := A.in1) hh _ l (Nat.ne_of_lt hlt) (intItems xs), ⟨⟨_, Heap.get?_push_size _ rfl, rfl, rfl⟩, hl.push _⟩, fun c hc => ?_, by simpa [intItems] using hne, CmpOf.ints_gt (numAt xs) (fun _ _ => intItems_at), fun v h' tk hP hk => ?_⟩
  · show c < (s.heap.push _).objs.size
    rw [Heap.size_push]
    rcases List.mem_cons.mp hc with rfl | hc
    · exact Nat.lt_succ_self _
    · rcases List.mem_cons.mp hc with rfl | hc
      · exact Nat.lt_succ_of_lt hlt
      · cases hc
  · refine h v h' tk (by simpa [intItems] using hP) fun b o e => ?_
    refine hk b o (fun hm => ?_) (Heap.get?_push_of_some _ e)
    rcases List.mem_cons.mp hm with e1 | hm
    · exact absurd (e1 ▸ Heap.lt_size e) (Nat.lt_irrefl _)
    · cases hm
theorem max_rawT {its : List Value} {ns : List Int} {Q : Value → Shared → Prop} (hh : A.handled = none) (hl : s.heap.IsTuple l its.toArray) (hi : IntsAre its ns) (hne : 0 < ns.length)
    (h : ∀ h' tk M t', (∀ b o, s.heap.get? b = some o → h'.get? b = some o) → M ∈ ns → (∀ a, a ∈ ns → a ≤ M) → Q (.int M t') { s with heap := h', toks := tk }) : wpAny (model prog w) A (call (.builtin "max") [.ref l]) Q E s := by
  obtain ⟨xs, e⟩ := hi.allInts.items
  have hn : numsOf (intItems xs).toList = ns := by rw [← e]; exact hi.numsOf
  rw [nums_intItems] at hn
  subst hn
  rw [e] at hl
  have hsz : 0 < xs.size := by simpa using hne
  refine max_intTup hh hl hsz fun v h' tk hv hk => ?_
  obtain ⟨t, rfl⟩ := intItems_at hv
  obtain ⟨h1, h2⟩ := argBest_gt (numAt xs) (xs.size - 1)
  refine h h' tk _ t hk ?_ fun a ha => ?_
  · rw [numAt_eq]; exact PySem.getD_mem (by rw [List.length_map, Array.length_toList]; omega)
  · obtain ⟨j, hj, rfl⟩ := mem_getD ha
    rw [List.length_map, Array.length_toList] at hj
    rw [← numAt_eq]; exact h2 j (by omega)
end
def rMaxT (K : PySem.W.Frag) : List V → Hp → VK → Prop := fun vs H Q => ∃ (a : Addr) (ns : List Int), vs = [V.ref a] ∧ SqT K H a (ns.map V.int) ∧ 0 < ns.length ∧ ∀ m, m ∈ ns → (∀ y, y ∈ ns → y ≤ m) → Q (.int m) H
theorem cr_maxT {X : Cx} (hc : X.calm = true) : CallR X (.builtin "max") (rMaxT X.K) := by
  intro pins s σ H vs us Q I r h
  obtain ⟨a, ns, rfl, hs, hne, q⟩ := h
  obtain ⟨its, rv, hl, _⟩ := I.tuple hs
  rw [Vals.ref1 r]
  exact max_rawT (I.ok.hd hc) hl rv.ints hne fun h' tk m t' hk h1 h2 => ⟨.int _, H, I.kept hk, ⟨_, rfl⟩, q m h1 h2⟩
variable [Tbl]
def maxTD : List D → Option D
  | [.tup l] => (intsOf l).bind fun ns => if ns = [] then none else some (.int (maxI ns))
  | _ => none
theorem b_maxT {X : Cx} (hc : X.calm = true) : Bf X (.builtin "max") maxTD := by
  refine ⟨_, cr_maxT hc, fun c F H σ δ ds z vs Q r d1 q k => ?_⟩
  unfold maxTD at q
  split at q
  · obtain ⟨ns, q1, q2⟩ := Option.bind_eq_some_iff.mp q
    split at q2
    · cases q2
    · rename_i hne
      cases q2
      obtain ⟨v, rfl, h⟩ := densH1 d1
      rcases h with ⟨a, xs, rfl, h1, h2⟩ | ⟨m, a, o, e, _⟩
      · rw [ints_den q1 h2] at h1
        refine ⟨a, ns, rfl, sqt (r.sub _ _ h1), List.length_pos_iff.mpr hne, fun m hm hy => ?_⟩
        obtain ⟨g1, g2⟩ := maxI_mem hne
        have : m = maxI ns := Int.le_antisymm (g2 m hm) (hy _ g1)
        rw [this]
        exact k _ F H r (.refl _) rfl
      · cases m <;> (unfold MD.d at e; cases e)
  · cases q
/-! ### () * n -/
omit [Tbl] in
theorem tuple_mul0 (l : Addr) (n : Nat) (dd : Option Addr) (sl : Array (Option Value)) (x : Int) (u : Tok) (c0 : (decide (x < -(2 ^ 63)) || decide (x ≥ 2 ^ 63)) = false) :
    Meets (Builtin.«tuple.__mul__» ⟨[.ref l, .int x u], []⟩) (fun _ R s => s.heap.get? l = some { cls := .type "tuple", dict := dd, data := .seq #[] n, slots := sl } ∧ R (.ok (.ret (Value.ref l))) s) :=
  .of_wp fun prog w A R s h => by
    obtain ⟨hp, g, d, tk, os⟩ := s
    obtain ⟨hl, h⟩ := h
    have f1 := AutoSeq1.idx_int
    wp_walk using wpAny_loadPart' hl
    repeat (first
      | (refine wpAny_ite_false (decide_eq_false (by rw [c0]; exact Bool.false_ne_true)) ?_; wp_walk using wpAny_loadPart' hl)
      | (refine wpAny_ite_true (decide_eq_true (by rfl)) ?_; wp_walk using wpAny_loadPart' hl))
    exact ⟨_, rfl, h⟩
omit [Tbl] in
theorem op_rep0 {X : Cx} : OpR X (binaryOp .Mult) (fun x y H Q => ∃ l k, x = .ref l ∧ y = .int k ∧ SqT X.K H l [] ∧ 0 ≤ k ∧ k ≤ 1000 ∧ Q (.ref l) H) := by
  intro pins s σ H x y v u Q I rx ry h
  obtain ⟨l, k, rfl, rfl, hT, h1, h2, q⟩ := h
  cases rx
  obtain ⟨t, rfl⟩ := ry
  obtain ⟨its, r, ⟨⟨cls, dd, data, sl⟩, ho, hc, n, hd⟩, hs⟩ := I.tuple hT
  simp only at hc hd
  subst hc hd
  cases r
  have c0 : (decide (k < -(2 ^ 63)) || decide (k ≥ 2 ^ 63)) = false := by
    rw [decide_eq_false (by omega), decide_eq_false (by omega)] <;> rfl
  exact wpAny_binaryOp_repeat_ref (T := "tuple") (U := "int") (by decide) ⟨_, ho, rfl⟩ (fun s' => typeIs_int s' k t) noFill_tuple_mul F.fills_int_mul F.slot_int_rmul repeat_tuple F.slot_int_index.lookup
    (call_meets F.slot_int_rmul (typeIs_int s k t) F.entry_int_rmul (F.args_int_rmul_2 _ _) (int_rmul_tuple k t l #[] n dd sl)
      ⟨ho, rfl, ⟨_, ho, rfl⟩, call_meets F.slot_tuple_mul ⟨_, ho, rfl⟩ F.entry_tuple_mul (F.args_tuple_mul_2 _ _) (tuple_mul0 l n dd sl k t c0) ⟨ho, ⟨.ref l, H, I, rfl, q⟩⟩⟩)
def tmul0 : D → D → Option D
  | .tup [], .int k => if 0 ≤ k ∧ k ≤ 1000 then some (.tup []) else none
  | _, _ => none
theorem o_tmul0 {X : Cx} : Op2 X (binaryOp .Mult) tmul0 := by
  refine ⟨_, op_rep0, fun c F H σ δ d e z v w Q r d1 d2 q k => ?_⟩
  unfold tmul0 at q
  split at q
  · rename_i n
    split at q
    · rename_i hl
      cases q
      obtain ⟨a, xs, rfl, h1, h2⟩ := d1
      cases (show xs = [] from h2)
      exact ⟨a, n, rfl, d2, sqt (r.sub _ _ h1), hl.1, hl.2, k _ F H r (.refl _) ⟨a, [], rfl, h1, rfl⟩⟩
    · cases q
  · cases q
def mulX (x y : D) : Option D := (mulA x y).or (tmul0 x y)
theorem o_mulX {X : Cx} : Op2 X (binaryOp .Mult) mulX := o_mul.or o_tmul0
end PV

/-! PV35: defs called within an except suite with the caught error; isinstance of it; list.count, list.index. -/
namespace PV
open PySem PySem.Spec PyProof.Rows L2 LamX
variable [Tbl]

/-- the pinned error a is of class C and has no fields -/
def ExP (pn : List (Addr × Obj)) (a C : Addr) : Prop := ∃ oe : Obj, (a, oe) ∈ pn ∧ Zc (.ref C) none oe ∧ ∃ vs, oe.data = .fields vs
theorem call_isP {X : Cx} {a C : Addr} (E : ExcC X.K C) (hp : ExP X.pn a C) : CallR X (.builtin "isinstance") (rIsE X.K C a) := by
  intro pins s σ H xs us Q I r h
  obtain ⟨c, cv, b, rfl, hcv, e, q⟩ := h
  obtain ⟨oe, hm, hz, vs, hv⟩ := hp
  cases r with
  | cons rx rr =>
    cases rr with
    | cons rt rr =>
      cases rr
      cases rx
      cases (hcv _ rt)
      have hget := (I.pin (a, oe) (List.mem_append.mpr (.inl hm))).1
      have J : PySem.W.InstAt s.heap a oe C none := by
        cases oe with
        | mk oc od oda osl =>
          obtain ⟨h1, h2⟩ := hz
          dsimp only at h1 h2 hv
          subst h1 h2 hv
          exact ⟨hget, rfl, rfl, trivial⟩
      exact PySem.W.kia_one (PySem.W.handS_kitx_exc E.hg E.hk E.hs E.hd E.ha E.hn E.ht E.hm) I.kIn J e (fun z => nomatch z) fun tk => ⟨.bl b, H, I.kept (t' := tk) fun _ _ z => z, rfl, q⟩
/-- isinstance(e, c) of the caught error: o tells (own class, name) -/
def isE (a : Addr) (o : Str → Option Bool) : List D → Option D
  | [.adr b, .fn c] => if b = a then (o c).map .bl else none
  | [.adr b, .ty n] => if b = a ∧ n = "ValueError" then some (.bl true) else none
  | _ => none
structure IeOk (K : PySem.W.Frag) (C : Addr) (o : Str → Option Bool) : Prop where
  own : ∀ c b C', o c = some b → PySem.W.nsIn K mainGlobals c = some (some (.ref C')) → PySem.W.kitOne K (.ref C) (.ref C') = some b
  ty : PySem.W.kitOne K (.ref C) (.type "ValueError") = some true
theorem b_isE {X : Cx} {a C : Addr} {o : Str → Option Bool} (E : ExcC X.K C) (hp : ExP X.pn a C) (M : IeOk X.K C o) : Bf X (.builtin "isinstance") (isE a o) := by
  refine ⟨_, call_isP E hp, fun c F H σ δ ds z vs Q r d1 q k => ?_⟩
  unfold isE at q
  split at q
  · rename_i b cn
    split at q
    · rename_i hb
      subst hb
      obtain ⟨t, q3, rfl⟩ := Option.map_eq_some_iff.mp q
      obtain ⟨v, v', rfl, h1, h2⟩ := densH2 d1
      have h1 := h1.low (fun _ z => nomatch z) (fun _ z => nomatch z) (fun _ z => nomatch z) fun _ _ z => nomatch z
      have h2 := h2.low (fun _ z => nomatch z) (fun _ z => nomatch z) (fun _ z => nomatch z) fun _ _ z => nomatch z
      cases h1
      obtain ⟨C', rfl, nc⟩ := h2
      exact ⟨_, .ref C', t, rfl, fun u hu => hu, M.own _ _ _ q3 nc, k _ F H r (.refl _) rfl⟩
    · cases q
  · rename_i b n
    split at q
    · rename_i hb
      obtain ⟨hb, hn⟩ := hb
      subst hb hn
      cases q
      obtain ⟨v, v', rfl, h1, h2⟩ := densH2 d1
      have h1 := h1.low (fun _ z => nomatch z) (fun _ z => nomatch z) (fun _ z => nomatch z) fun _ _ z => nomatch z
      have h2 := h2.low (fun _ z => nomatch z) (fun _ z => nomatch z) (fun _ z => nomatch z) fun _ _ z => nomatch z
      cases h1
      cases h2
      exact ⟨_, .type "ValueError", true, rfl, fun u hu => hu, M.ty, k _ F H r (.refl _) rfl⟩
    · cases q
  · cases q

/-! ### a def that is called with the caught error -/
abbrev cxW (P : Program) (w : World) (K : PySem.W.Frag) (mg : Str → Option Value) (base : Heap) (N : List Str) (qual : Str) (scope : Scope) (f : Addr) (cd : Value) (A : Around) (outer : List Env) (s : Shared) (H : Hp) (E : XK) (p : Addr × Obj) : Cx :=
  { cxOf (L2.CX P w) P w K mg base N qual scope f cd A outer s H E with calm := false, pn := [p] }
structure VOkH (g : Bool) (P : Program) (w : World) (K : PySem.W.Frag) (mg : Str → Option Value) (base : Heap) (k : Nat) (f : Addr) (fd : FuncData) (ps : List Str) (a C : Addr) (φ : List Sl → FR) : Prop where
  len : ∀ as, φ as ≠ .stuck → as.length = ps.length
  run : ∀ (A : Around) (outer : List Env) (s : Shared) (H : Hp) (args : Args) (us : List Value) (vs : List V) (Q : VK) (E : XK) (p : Addr × Obj), L2H.RoomH k A → (g = true → A.guards = some []) → ExP [p] a C → L2H.PinOk outer H s p → Env0 P w K mg base A outer s H → BindsTo s fd args (ps.zip us) →
    Vals vs us → spV K φ vs H Q E → codeAny (model P w) A (.call (.ref f) args) (CR (L2.CX P w) outer P w H s Q E) s
section
variable {P : Program} {w : World} {K : PySem.W.Frag} {mg : Str → Option Value} {base : Heap}
theorem Fun.valH {x qual : Str} {st : Stmt} {f : Addr} {fd : FuncData} {N ps : List Str} {k n : Nat} {g : Bool} {a C : Addr} {G : DE → O} (T : Fun K x qual st f fd) (S : FnScope N ps (defScope st)) (hn : ps.length = n)
    (body : ∀ (cd : Value) (A : Around) (outer : List Env) (s : Shared) (H : Hp) (E : XK) (p : Addr × Obj), fd.code = cd → L2H.RoomH k (A.deeper (envOfC qual (defScope st) s.heap.objs.size f cd)) → (g = true → (A.deeper (envOfC qual (defScope st) s.heap.objs.size f cd)).guards = some []) → ExP [p] a C →
      Takes (cxW P w K mg base N qual (defScope st) f cd A outer s H E p) (wE E) → VSs (cxW P w K mg base N qual (defScope st) f cd A outer s H E p) (wE E) (defBody st) G) :
    VOkH g P w K mg base (k + 1) f fd ps a C (fnF n N.length G) := by
  obtain ⟨oc, od, kV, doc, pm, an, cd, ct, osl, rfl, lk, hc⟩ := T.ex
  refine ⟨fun as h => by rw [hn]; exact fnF_len as h, fun A outer s H args us vs Q E p room gd ep pin en hb rv sp => ?_⟩
  have stays : ∀ b o, base.get? b = some o → s.heap.get? b = some o := fun b o e => (en.bs b o e).1
  have hl : vs.length = ps.length := by rw [hn]; exact spV.len fnF_len sp
  have kinds : ∀ y ∈ ps.zip us, (defScope st).names.lookup y.1 = some .local ∨ ((defScope st).names.lookup y.1 = some .cell ∧ ((cellsFrom (s.heap.objs.size + 1) (defScope st).names []).lookup y.1).isSome = true) := by
    rintro ⟨nm, vl⟩ hy
    rcases S.par nm (List.of_mem_zip hy).1 with q | q
    · left; exact q
    · right; exact ⟨q, PySem.W.cellsFrom_some _ _ _ (Or.inl q)⟩
  refine codeAny_call_function room.depth ((en.mod.kin.keeps stays) _ _ lk) rfl S.co S.gen rfl (PySem.W.codeRec_of (en.mod.kin.keeps stays) hc) (hb _ _ _ _ ?_)
  refine wpAny_newFunctionEnv_cells S.kind kinds fun env he s1 inC => ?_
  subst he
  refine ⟨(en.mod.nolimit.keeps stays).keeps inC.toInCall.keep, codeAny_func ?_⟩
  have tk : Takes (cxW P w K mg base N qual (defScope st) f cd A outer s H E p) (wE E) := takes_of rfl rfl rfl rfl
  have J : Inv (cxW P w K mg base N qual (defScope st) f cd A outer s H E p) [] (L2.start N vs) H s1 := L2H.inv_startH (CX := L2.CX P w) (E := E) S pin en hl rv inC
  refine wpAny_mono ((body cd A outer s H E p rfl (room.deeper _) (guards_in gd) ep tk).run [] s1 (L2.start N vs) H _ J (sp_body sp)) (fun fl s' hs => ?_) fun e s' hs => hs
  cases fl with
  | ret u =>
    obtain ⟨v, σ', H', J', rv', q⟩ := hs
    exact ⟨v, H', J'.os, J'.bare, J'.base, J'.hok, rv', q⟩
  | next =>
    obtain ⟨σ', H', J', q⟩ := hs
    exact ⟨.non, H', J'.os, J'.bare, J'.base, J'.hok, rfl, q⟩
  | brk =>
    obtain ⟨_, _, _, q⟩ := hs
    exact False.elim q
  | cont =>
    obtain ⟨_, _, _, q⟩ := hs
    exact False.elim q
end

/-! ### list.count, list.index of flat things -/
def D.fv : D → Option V
  | .non => some .non
  | .bl b => some (.bl b)
  | .int i => some (.int i)
  | .str s => some (.str s)
  | _ => none
def fvs : List D → Option (List V)
  | [] => some []
  | d :: l => d.fv.bind fun v => (fvs l).map (v :: ·)
theorem fv_den {K : PySem.W.Frag} {F : Hp} {d : D} {v v' : V} (h : d.fv = some v') (g : Den K F d v) : v = v' ∧ flatV v = true := by
  cases d <;> first | (cases h; cases g; exact ⟨rfl, rfl⟩) | cases h
theorem fvs_dens {K : PySem.W.Frag} {F : Hp} : ∀ {l : List D} {xs ys : List V}, fvs l = some ys → Dens K F l xs → xs = ys ∧ xs.all flatV = true
  | [], xs, ys, h, g => by cases h; cases g; exact ⟨rfl, rfl⟩
  | d :: l, xs, ys, h, g => by
    obtain ⟨v, r, rfl, g1, g2⟩ := g
    obtain ⟨v', h1, h2⟩ := Option.bind_eq_some_iff.mp h
    obtain ⟨zs, h3, rfl⟩ := Option.map_eq_some_iff.mp h2
    obtain ⟨rfl, f1⟩ := fv_den h1 g1
    obtain ⟨rfl, f2⟩ := fvs_dens h3 g2
    exact ⟨rfl, by rw [List.all_cons, f1, f2]; rfl⟩
def cntL (l : List D) (y : D) : Option D := (fvs l).bind fun xs => y.fv.map fun y' => .int ((xs.countP fun z => eqV z y' : Nat) : Int)
def ixV (y : V) : List V → Option Nat
  | [] => none
  | z :: l => if eqV z y = true then some 0 else (ixV y l).map (· + 1)
theorem ixV_at {y : V} : ∀ {l : List V} {j : Nat}, ixV y l = some j → ∃ z, l[j]? = some z ∧ eqV z y = true ∧ ∀ (m : Nat) (z' : V), m < j → l[m]? = some z' → eqV z' y = false
  | [], _, h => by cases h
  | z :: l, j, h => by
    unfold ixV at h
    split at h
    · rename_i hz
      cases h
      exact ⟨z, rfl, hz, fun m _ hm => absurd hm (Nat.not_lt_zero _)⟩
    · rename_i hz
      obtain ⟨i, h1, rfl⟩ := Option.map_eq_some_iff.mp h
      obtain ⟨w, g1, g2, g3⟩ := ixV_at h1
      refine ⟨w, g1, g2, fun m z' hm e => ?_⟩
      cases m with
      | zero => cases e; exact Bool.eq_false_iff.mpr hz
      | succ m => exact g3 m z' (by omega) e
def idxL (l : List D) (y : D) : Option D := (fvs l).bind fun xs => y.fv.bind fun y' => (ixV y' xs).map fun j => .int (j : Nat)
/-- x.m(e) of a list that stays -/
def mtL (o : List D → D → Option D) (f g : DE → R D) : DE → R D := fun δ => (f δ).bind fun d δ => match d with
  | .lst l => (g δ).bind fun e δ => R.of (o l e) δ
  | _ => .stuck
def rCntV (K : PySem.W.Frag) : V → List V → Hp → VK → Prop := fun x xs H Q => ∃ (a : Addr) (ys : List V) (y : V), x = V.ref a ∧ xs = [y] ∧ SqL K H a ys ∧ flatV y = true ∧ ys.all flatV = true ∧ Q (.int ((ys.countP fun z => eqV z y : Nat) : Int)) H
theorem countP_vals {y : V} : ∀ {ys : List V} {us : List Value}, Vals ys us → ys.all flatV = true → us.countP (eqU y) = ys.countP fun z => eqV z y
  | _, _, .nil, _ => rfl
  | z :: ys, u :: us, .cons r t, f => by
    rw [List.all_cons, Bool.and_eq_true] at f
    rw [List.countP_cons, List.countP_cons, countP_vals t f.2, eqU_of r f.1]
theorem mt_countV {X : Cx} : MtR X "list.count" (rCntV X.K) := by
  intro pins s σ H x xs v us Q I rx rxs h
  obtain ⟨a, ys, y, rfl, rfl, hs, fy, fys, q⟩ := h
  cases rx
  obtain ⟨u, rfl, ru⟩ := rxs.one
  obtain ⟨its, rv, ⟨⟨cls, dd, data, sl⟩, n, ho, hc, hdn, hd⟩, hlen⟩ := I.list hs
  simp only at hc hd
  subst hc hd
  refine call_meets PySem.F.slot_list_count ⟨_, ho, rfl⟩ PySem.F.entry_list_count (PySem.F.args_list_count_2 _ _)
    (SeqAt.list_countAt a its.toArray n dd sl u (eqU y)) ⟨ho, fun u' hu' => mem_eqAt ru fy rv fys u' (by simpa using hu'), ?_⟩
  have ec : its.toArray.toList.countP (eqU y) = ys.countP fun z => eqV z y := countP_vals rv fys
  refine ⟨.int ((ys.countP fun z => eqV z y : Nat) : Int), H, I.tok _, ⟨s.toks, ?_⟩, q⟩
  show Value.int ((its.toArray.toList.countP (eqU y) : Nat) : Int) s.toks = Value.int _ s.toks
  rw [ec]
section
variable {X : Cx} {W : WX} {o e : Expr} {f g : DE → R D} {apos cpos : Pos}
theorem rd_mtL {op : List D → D → Option D} {r : V → List V → Hp → VK → Prop}
    (h : ∀ c F H σ δ a l y z xs v (Q : VK), Rel X.K c F H σ δ → F a = some (.lst xs) → Dens X.K F l xs → Den X.K F y v → op l y = some z → (∀ u, Den X.K F z u → Q u H) → r (.ref a) [v] H Q) {σ : L2.St} {H : Hp} {Q : VK}
    (z : rdE X.K W (mtL op f g) σ H Q) : tBM X.K "list" r (rdE X.K W f) (rdA X.K W (valA g noA)) σ H Q := by
  refine z.first fun c F H1 δ d v r1 d1 z1 => ?_
  cases d with
  | lst l =>
    obtain ⟨a, xs, rfl, e1, e2⟩ := d1
    refine ⟨.inl ⟨rfl, xs, .inl (.inl (r1.sub _ _ e1))⟩, ?_⟩
    have z1 : aft X.K W (dnE X.K) c F σ Q ((g δ).bind fun e δ => R.of (op l e) δ) := z1
    refine ⟨c, F, δ, r1, ?_⟩
    unfold valA
    cases qg : g δ with
    | ok y δ1 =>
      rw [qg] at z1
      have z1 : aft X.K W (dnE X.K) c F σ Q (R.of (op l y) δ1) := z1
      intro vs F2 H2 r2 s2 d2
      obtain ⟨w, rfl, dw⟩ : ∃ w, vs = [w] ∧ Den X.K F2 y w := by
        obtain ⟨w, r, e1, h1, h2⟩ := d2
        cases (show r = [] from h2)
        exact ⟨w, e1, h1⟩
      cases q2 : op l y with
      | none => rw [q2] at z1; exact False.elim z1
      | some q =>
        rw [q2] at z1
        exact h c F2 H2 σ δ1 a l y q xs w Q r2 (s2 _ _ e1) (Dens.mono s2 _ _ e2) dw q2 fun u hu => z1 u F2 H2 r2 s2 hu
    | exc x δ1 => rw [qg] at z1; exact z1
    | stuck => rw [qg] at z1; exact z1
  | _ => exact False.elim z1
theorem ve_count (ho : VE X W o f) (he : VE X W e g) (hbase : attributeBase o "count" X.env (eval o X.env) = eval o X.env := by rfl)
    (hfew : ((backTo cpos (starEach [e] X.env)).all (fun x => !x.1) && (backToKw cpos (keywordEach [] X.env)).all (fun x => x.1.isSome)
      && decide (([e] : List Expr).length + ([] : List Keyword).length + (if ([] : List Keyword).isEmpty then 0 else 1) < 30)) = true := by rfl)
    (hline : (apos.endLine == cpos.line) = true := by rfl) (hs : starEach [e] X.env = (false, eval e X.env) :: starEach [] X.env := by rfl) :
    VE X W (.Call (.Attribute o "count" apos) [e] [] cpos) (mtL cntL f g) :=
  PE.to (pe_bm PySem.F.plainAttrs_list PySem.F.slot_list_count PySem.F.type_list_count mt_countV ho (va_val he va_nil hs) hbase hfew hline hs rfl) fun σ H Q z => rd_mtL (fun c F H σ δ a l y z xs v Q r e1 e2 d q k => by
    unfold cntL at q
    obtain ⟨xs', q1, q2⟩ := Option.bind_eq_some_iff.mp q
    obtain ⟨y', q3, rfl⟩ := Option.map_eq_some_iff.mp q2
    obtain ⟨rfl, f1⟩ := fvs_dens q1 e2
    obtain ⟨rfl, f2⟩ := fv_den q3 d
    exact ⟨a, xs, v, rfl, rfl, .inl (.inl (r.sub _ _ e1)), f2, f1, k _ rfl⟩) z
theorem ve_index (ho : VE X W o f) (he : VE X W e g) (hbase : attributeBase o "index" X.env (eval o X.env) = eval o X.env := by rfl)
    (hfew : ((backTo cpos (starEach [e] X.env)).all (fun x => !x.1) && (backToKw cpos (keywordEach [] X.env)).all (fun x => x.1.isSome)
      && decide (([e] : List Expr).length + ([] : List Keyword).length + (if ([] : List Keyword).isEmpty then 0 else 1) < 30)) = true := by rfl)
    (hline : (apos.endLine == cpos.line) = true := by rfl) (hs : starEach [e] X.env = (false, eval e X.env) :: starEach [] X.env := by rfl) :
    VE X W (.Call (.Attribute o "index" apos) [e] [] cpos) (mtL idxL f g) :=
  PE.to (pe_bm PySem.F.plainAttrs_list PySem.F.slot_list_index PySem.F.type_list_index mt_index ho (va_val he va_nil hs) hbase hfew hline hs rfl) fun σ H Q z => rd_mtL (fun c F H σ δ a l y z xs v Q r e1 e2 d q k => by
    unfold idxL at q
    obtain ⟨xs', q1, q2⟩ := Option.bind_eq_some_iff.mp q
    obtain ⟨y', q3, q4⟩ := Option.bind_eq_some_iff.mp q2
    obtain ⟨j, q5, rfl⟩ := Option.map_eq_some_iff.mp q4
    obtain ⟨rfl, f1⟩ := fvs_dens q1 e2
    obtain ⟨rfl, f2⟩ := fv_den q3 d
    obtain ⟨z, g1, g2, g3⟩ := ixV_at q5
    exact ⟨a, xs, v, j, z, rfl, rfl, .inl (.inl (r.sub _ _ e1)), f2, f1, g1, g2, g3, k _ rfl⟩) z
end
end PV

/-! PV36: a lambda handed to «try: return repr(call()) / except X as e: return '! ' + kind(e)»; recursion. -/
namespace PV
open PySem PySem.Spec PyProof.Rows L2 LamX
variable [Tbl]

def neverE : DE → R D := fun _ => .stuck
theorem ve_neverE {X : Cx} {W : WX} {e : Expr} : VE X W e neverE := ⟨fun pins s σ H Q I h => by
  obtain ⟨c, F, δ, r, z⟩ := h
  exact False.elim z⟩
/-- a def that is never called -/
theorem vok_stuck {g : Bool} {P : Program} {w : World} {K : PySem.W.Frag} {mg : Str → Option Value} {base : Heap} {k : Nat} {f : Addr} {fd : FuncData} {ps : List Str} : VOk g P w K mg base k f fd ps (fun _ => .stuck) :=
  ⟨fun as h => absurd rfl h, fun A outer s H args us vs Q E _ _ _ _ _ sp => by
    obtain ⟨F, as, A, z⟩ := sp
    exact False.elim z⟩
section
variable {X : Cx} {W : WX} {x : Str} {p pos : Pos} {e : Expr} {es : List Expr} {fa : DE → R (List Arg)} {k : Nat} {f : Addr} {fd : FuncData} {ps : List Str} {φ : List Sl → FR} {g : Bool} {a C : Addr}
theorem run_VH {pins : List (Addr × Obj)} {σ : L2.St} {H : Hp} {s : Shared} {Q : VK} {us : List Value} {vs : List V} (V0 : VOkH g X.prog X.w X.K X.mg X.base k f fd ps a C φ) (room : L2H.RoomH k X.A) (gd : g = true → X.A.guards = some []) (hp : ExP X.pn a C) (hb : Binds X.K fd ps []) (tk : Takes X W)
    (I : L2.Inv X pins σ H s) (rv : Vals vs us) (h : spV X.K φ vs H Q (WE W σ)) : wpAny (model X.prog X.w) X.A (call (.ref f) us) (EP X pins σ Q) X.xe s := by
  have lu : (us ++ []).length = ps.length := by rw [List.append_nil, ← rv.length]; exact spV.len V0.len h
  have bd := hb s us I.kIn lu
  rw [List.append_nil] at bd
  obtain ⟨oe, hm, hz⟩ := hp
  have P1 := I.pin (a, oe) (List.mem_append_left _ hm)
  have hpin : L2H.PinOk X.stack H s (a, oe) := ⟨P1.1, P1.2.1, fun hm => (List.mem_cons.mp (I.stkSub a hm)).elim P1.2.2.1 P1.2.2.2.1, P1.2.2.2.2⟩
  refine wpAny_call (codeAny_mono (V0.run X.A X.stack s H ⟨us, []⟩ us vs Q (WE W σ) (a, oe) room gd ⟨oe, List.mem_cons_self, hz⟩ hpin I.env0 bd rv h) fun res s' hq => ?_)
  cases res with
  | error e => exact passAt tk σ pins H s e s' I hq
  | ok fl => cases fl <;> first | exact I.after hq | exact False.elim hq
theorem ve_callH (V0 : VOkH g X.prog X.w X.K X.mg X.base k f fd ps a C φ) (room : L2H.RoomH k X.A) (gd : g = true → X.A.guards = some []) (hp : ExP X.pn a C) (tk : Takes X W) (hg : Gl X x) (hm : X.mg x = some (.ref f)) (hk : PySem.W.keepIn X.K (.ref f) = true) (hb : Binds X.K fd ps [])
    (ha : VA X W (e :: es) fa) (hdb : (x == ("__debug__" : Str)) = false := by decide) (he : starEach (e :: es) X.env = (false, eval e X.env) :: starEach es X.env := by rfl) (hpl : (backTo pos (starEach es X.env)).any (·.1) = false := by rfl) :
    VE X W (.Call (.Name x p) (e :: es) [] pos) (callF φ fa) := by
  refine ⟨fun pins s σ H Q I h => wpAny_Call_Name_kw (ld_glob I hg hm ?_ hdb)⟩
  exact PySem.W.callWith_K (h₀ := X.base) I.ok.mod.kin hk (thn (ha.run pos pins s σ H _ I (rd_call h)) fun us s1 ⟨vs, H1, I1, rv, q⟩ => ⟨I1.kIn, run_VH V0 room gd hp hb tk I1 rv q⟩) he hpl
end

/-! ### said -/
/-- said(lambda: f): the repr of what it gives, or «! » and the word of the error's class -/
def saidX (em : Str → Str → Option Bool) (nm : Str) (kw : Str → Option Str) (f : DE → R D) : DE → R D := fun δ => match f δ with
  | .exc x δ1 => match em x.c nm, x.fs, kw x.c with
    | some true, [], some w => .ok (.str (("! " : Str) ++ w)) δ1
    | _, _, _ => .stuck
  | .ok d δ1 => match reprD [d] with
    | some z => .ok z δ1
    | none => .stuck
  | .stuck => .stuck
/-- the suite's reading -/
def kindG (φ : List Sl → FR) : DE → O := retS (op2 addA (cst (.str "! ")) (callF φ (valA (var 1) noA)))
def reprW (K : PySem.W.Frag) (Q : VK) : VK := fun v H => ∃ F d z, AOk K F H [.val d] [v] ∧ reprD [d] = some z ∧ ∀ v' F' H', Done K F H [.val d] [v] F' H' [.val d] → Den K F' z v' → Q v' H'
def kindW (K : PySem.W.Frag) (cN : Value) (φ : Addr → Str → List Sl → FR) (kw : Str → Option Str) (Q : VK) : XK := fun cls od H => ∃ c C F w, cls = .ref C ∧ od = none ∧ PySem.W.nsIn K mainGlobals c = some (some (.ref C)) ∧ PySem.W.exmOne K cls cN = some true ∧ kw c = some w ∧
  ∀ a, H a = none → AOk K F H [.val (.adr a)] [.ref a] ∧ ∀ v' F' H', Done K F H [.val (.adr a)] [.ref a] F' H' [.val (.adr a)] → Den K F' (.str (("! " : Str) ++ w)) v' → Q v' H'
def TTk (K : PySem.W.Frag) (cN : Value) (φ : Addr → Str → List Sl → FR) (kw : Str → Option Str) : (XK → Hp → VK → Prop) → Hp → VK → Prop := fun tl H Q => tl (kindW K cN φ kw Q) H (reprW K Q)
/-- what kind's def is worth -/
def KindOk (P : Program) (w : World) (K : PySem.W.Frag) (mg : Str → Option Value) (base : Heap) (k : Nat) (f : Addr) (fd : FuncData) (ps : List Str) (φ : Addr → Str → List Sl → FR) (kw : Str → Option Str) : Prop :=
  ∀ c w1, kw c = some w1 → ∀ (a C : Addr), PySem.W.nsIn K mainGlobals c = some (some (.ref C)) → VOkH false P w K mg base k f fd ps a C (φ a c) ∧ φ a c [.val (.adr a)] = .ret (.str w1) [.val (.adr a)] ∧ ("! " : Str).length + w1.length ≤ LIM
theorem suite_kind {X : Cx} {x a n kn : Str} {sg : Scope} {g fk C : Addr} {cdg : Value} {k : Nat} {fdk : FuncData} {psk : List Str} {φ : List Sl → FR} {s : Shared} {H : Hp} {ea : Addr} {oe : Obj} {pn : List (Addr × Obj)} {j : Nat} {q1 q2 q3 q4 q5 q6 : Pos}
    (V0 : VOkH false X.prog X.w X.K X.mg X.base k fk fdk psk ea C φ) (hr : L2H.RoomH k (X.A.deeper (envOfC x sg s.heap.objs.size g cdg))) (hgk : ∀ Z : Cx, Z.env.scope = sg → Gl Z kn) (hmk : X.mg kn = some (.ref fk)) (hkk : PySem.W.keepIn X.K (.ref fk) = true) (hbk : Binds X.K fdk psk [])
    (hz : Zc (.ref C) none oe) (hf : ∃ vs, oe.data = .fields vs) (hvn : Vis sg n) (hdn : (n == ("__debug__" : Str)) = false) (hcn : (n == ("__classdict__" : Str)) = false) (hdk : (kn == ("__debug__" : Str)) = false) :
    VSs (((cxOf C8.CX0 X.prog X.w X.K X.mg X.base [a, n] x sg g cdg X.A X.stack s H C8.E0).nox).suite ea ((ea, oe) :: pn)) (fun _ _ _ _ => False) [.Return (some (.BinOp (.Constant (.str "! ") j q1) .Add (.Call (.Name kn q2) [.Name n q3] [] q4) q5)) q6] (kindG φ) :=
  vss_one (vs_ret (ve_op o_add ve_str (ve_callH V0 (L2H.RoomH.mk hr.dp hr.un) (fun z => absurd z Bool.false_ne_true) ⟨oe, List.mem_cons_self, hz, hf⟩ L2.takes0 (hgk _ rfl) hmk hkk hbk (va_val (ve_var 1 rfl hvn hdn hcn) va_nil) hdk rfl rfl)))
theorem kind_run {φ : List Sl → FR} {ea : Addr} {w : Str} (hl : ("! " : Str).length + w.length ≤ LIM) (h : φ [.val (.adr ea)] = .ret (.str w) [.val (.adr ea)]) : kindG φ [none, some (.val (.adr ea))] = .ret (.str (("! " : Str) ++ w)) [none, some (.val (.adr ea))] := by
  have e : addA (.str "! ") (.str w) = some (.str (("! " : Str) ++ w)) := by
    show (none : Option D).or ((sadd (.str "! ") (.str w)).or _) = _
    rw [show sadd (.str "! ") (.str w) = some (.str (("! " : Str) ++ w)) from if_pos hl]
    rfl
  unfold kindG
  simp [h, e]
theorem kind_gives {X : Cx} {x a n kn nm q : Str} {sg : Scope} {g fk : Addr} {cdg cN : Value} {k : Nat} {fdk : FuncData} {psk : List Str} {φ : Addr → Str → List Sl → FR} {kw : Str → Option Str} {j : Nat} {p1 p2 p3 p4 p5 p8 q1 q2 q3 q4 q5 q6 np pos' : Pos}
    (KO : KindOk X.prog X.w X.K X.mg X.base k fk fdk psk φ kw) (hr : Room (k + 1) X.A) (gd : X.A.guards = some []) (hnd : [a, n].Nodup) (hln : sg.names.lookup n = some .local) (hgk : ∀ Z : Cx, Z.env.scope = sg → Gl Z kn) (hmk : X.mg kn = some (.ref fk)) (hkk : PySem.W.keepIn X.K (.ref fk) = true) (hbk : Binds X.K fdk psk [])
    (hgr : ∀ Z : Cx, Z.env.scope = sg → Gl Z "repr") (hmr : X.mg "repr" = none) (hgn : ∀ Z : Cx, Z.env.scope = sg → Gl Z nm) (hmn : X.mg nm = some cN) (hvn : Vis sg n) (hdm : (nm == ("__debug__" : Str)) = false) (hdn : (n == ("__debug__" : Str)) = false) (hcn : (n == ("__classdict__" : Str)) = false) (hdk : (kn == ("__debug__" : Str)) = false) :
    GivesTo X [a, n] x sg g cdg [.Try [.Return (some (.Call (.Name "repr" p4) [.Call (.Name a p1) [] [] p2] [] p5)) p3] [.ExceptHandler (some (.Name nm np)) (some n) [.Return (some (.BinOp (.Constant (.str "! ") j q1) .Add (.Call (.Name kn q2) [.Name n q3] [] q4) q5)) q6] pos'] [] [] p8] a q (TTk X.K cN φ kw) := by
  intro f c' s H Q tl act hc h
  have hr' : L2H.RoomH k (X.A.deeper (envOfC x sg s.heap.objs.size g cdg)) := (L2H.roomH_of hr).deeper _
  refine ⟨_, pss_one (ps_try_as (X := (cxOf C8.CX0 X.prog X.w X.K X.mg X.base [a, n] x sg g cdg X.A X.stack s H C8.E0).nox) (i := 1) (Wout := fun _ _ _ _ => False)
      (tb := fun W D σ H => ∃ (Ech : XK), (∀ cls d σ' H', Ech cls d H' → W cls d σ' H') ∧ σ = [some (.ref f), none] ∧ H c' = some (CodeO c' q) ∧ tl Ech H (reprW X.K D.rt))
      (ts := fun ea cls d N σ H => ∃ (c : Str) (C : Addr) (w : Str) (F : Hp) (σ0 : L2.St), cls = .ref C ∧ d = none ∧ PySem.W.nsIn X.K mainGlobals c = some (some (.ref C)) ∧ kw c = some w ∧ σ = σ0.set 1 (some (.ref ea)) ∧ AOk X.K F H [.val (.adr ea)] [.ref ea] ∧ ∀ v' F' H', Done X.K F H [.val (.adr ea)] [.ref ea] F' H' [.val (.adr ea)] → Den X.K F' (.str (("! " : Str) ++ w)) v' → N.rt v' H')
      rfl rfl hnd rfl hln ⟨hgn _ rfl, hdm, .inl hmn⟩ L2.takes0 (fun W pn xe tk _ => ?_) (fun ea oe cls d pn hz hf => ?_)), ?_⟩
  · refine ⟨fun pins s' σ H' D I h' => ?_⟩
    obtain ⟨Ech, hW, h1, h2, h3⟩ := h'
    obtain ⟨r, c1, c2⟩ := b_repr (X := (cxOf C8.CX0 X.prog X.w X.K X.mg X.base [a, n] x sg g cdg X.A X.stack s H C8.E0).tr pn xe) (by have := hr'.un; show (X.A.deeper (envOfC x sg s.heap.objs.size g cdg)).units + 64 < _; omega) (guards_in (g := true) (fun _ => gd) rfl)
    have hp := pss_one (ps_ret (pos := p3) (pe_callB (p := p4) (pos := p5) c1 (hgr _ rfl) hmr (by decide +kernel) (pa_cons (PE.weak (act W pn xe Ech p1 p2 tk hW)) pa_nil)))
    refine hp.run pins s' σ H' D I ⟨reprW X.K D.rt, ⟨?_, h2, h3⟩, fun v H1 z => ?_⟩
    · rw [h1]; rfl
    · obtain ⟨F, d, zz, A, e1, z⟩ := z
      refine c2 _ F H1 _ _ [d] zz [v] _ (A.rel (N := ["a"])) ⟨v, [], rfl, .inl (A.ok 0 _ _ rfl rfl), rfl⟩ e1 fun u F' H2 r' s2 dd => z u F' H2 (by have := A.done r'; exact this) dd
  · refine ⟨fun pins s' σ H' D I h' => ?_⟩
    obtain ⟨c, C, w, F, σ0, rfl, rfl, ns, hk, es, A, z⟩ := h'
    obtain ⟨x0, ex⟩ : ∃ x0, σ = [x0, some (.ref ea)] := by
      have hl : σ.length = 2 := I.len
      rw [es, List.length_set] at hl
      match σ0, hl with
      | [y, y'], _ => exact ⟨y, es⟩
    refine (suite_kind (q6 := q6) (q5 := q5) (q1 := q1) (q2 := q2) (q3 := q3) (q4 := q4) (j := j) (KO c w hk ea C ns).1 hr' hgk hmk hkk hbk hz hf hvn hdn hcn hdk).run pins s' σ H' D I ?_
    rw [ex]
    refine ⟨_, F, _, rest_rel A, ?_⟩
    rw [kind_run (KO c w hk ea C ns).2.2 (KO c w hk ea C ns).2.1]
    intro v' σ' F' H'' r' s'' dd
    exact z v' F' H'' (by have := A.done r'; exact this) dd
  · refine ⟨kindW X.K cN φ kw Q, fun cls d σ' H' z => ?_, rfl, hc, h⟩
    obtain ⟨c, C, F, w, rfl, rfl, ns, ex, hk, z⟩ := z
    refine ⟨true, ex, fun _ ea ha => ?_, fun z => Bool.noConfusion z⟩
    obtain ⟨A, z⟩ := z ea ha
    exact ⟨c, C, w, F, σ', rfl, rfl, ns, hk, rfl, A, z⟩
section
variable {X : Cx} {W : WX}
theorem rd_saidX {em : Str → Str → Option Bool} (he : EmOk X.K em) {nm : Str} {cN : Value} (hN : ClsIs X.K nm cN) {φ : Addr → Str → List Sl → FR} {kw : Str → Option Str} (hns : ∀ c w, kw c = some w → ∃ C, PySem.W.nsIn X.K mainGlobals c = some (some (.ref C))) {f : DE → R D} {σ : L2.St} {H : Hp} {Q : VK}
    (z : rdE X.K W (saidX em nm kw f) σ H Q) : tLam Tbl.T (TTk X.K cN φ kw) (fun E => rdE X.K (wE E) f) σ H Q := by
  obtain ⟨c, F, δ, r, z⟩ := z
  refine ⟨r.tab.tabs, fun H1 e1 t1 => ?_⟩
  have r1 := r.extN e1 t1
  refine ⟨c, F, δ, r1, ?_⟩
  unfold saidX at z
  cases q : f δ with
  | ok d δ1 =>
    rw [q] at z
    intro v F1 H2 r2 s2 dd
    have ha : ArgsD X.K F1 σ [.val d] [v] := ⟨v, [], rfl, dd, rfl⟩
    have A : AOk X.K F1 H2 [.val d] [v] := r2.lent (as := [.val d]) (ss := [.val d]) (show ([] : List Nat).Nodup from .nil) rfl ha
    cases qr : reprD [d] with
    | none => simp only [qr] at z; exact z.elim
    | some zz =>
      simp only [qr] at z
      exact ⟨F1, d, zz, A, qr, fun v' F' H' dn dd' => z v' F' H' (r2.called (as := [.val d]) (show ([] : List Nat).Nodup from .nil) rfl ha dn) (s2.trans dn.low) dd'⟩
  | stuck => rw [q] at z; exact z
  | exc x δ1 =>
    rw [q] at z
    intro cls od F' H' r' s' xo
    obtain ⟨xc, xf⟩ := x
    simp only at z
    generalize h1 : em xc nm = eo at z
    generalize h3 : kw xc = ko at z
    match eo, xf, ko, h1, h3, z, xo with
    | some true, [], some w, h1, h3, z, xo =>
      obtain ⟨C, hC⟩ := hns _ _ h3
      have ec := xo.1.uniq (.inl hC)
      subst ec
      cases od with
      | some o => exact absurd rfl xo.2.1
      | none =>
        refine ⟨xc, C, F', w, rfl, rfl, hC, he _ _ _ _ _ h1 xo.1 hN, h3, fun a ha0 => ?_⟩
        have ha : ArgsD X.K F' σ [.val (.adr a)] [.ref a] := ⟨.ref a, [], rfl, rfl, rfl⟩
        refine ⟨r'.lent (as := [.val (.adr a)]) (ss := [.val (.adr a)]) (show ([] : List Nat).Nodup from .nil) rfl ha, fun v' F2 H2 dn dd' => ?_⟩
        exact z v' F2 H2 (r'.called (as := [.val (.adr a)]) (show ([] : List Nat).Nodup from .nil) rfl ha dn) (s'.trans dn.low) dd'
    | some true, [], none, _, _, z, _ => exact False.elim z
    | some true, _ :: _, none, _, _, z, _ => exact False.elim z
    | some true, _ :: _, some _, _, _, z, _ => exact False.elim z
    | some false, [], none, _, _, z, _ => exact False.elim z
    | some false, [], some _, _, _, z, _ => exact False.elim z
    | some false, _ :: _, none, _, _, z, _ => exact False.elim z
    | some false, _ :: _, some _, _, _, z, _ => exact False.elim z
    | none, [], none, _, _, z, _ => exact False.elim z
    | none, [], some _, _, _, z, _ => exact False.elim z
    | none, _ :: _, none, _, _, z, _ => exact False.elim z
    | none, _ :: _, some _, _, _, z, _ => exact False.elim z
/-- said(lambda: body) -/
theorem ve_saidX {x a n kn nm : Str} {g c P fk : Addr} {fd fdk : FuncData} {st : Stmt} {k kk : Nat} {em : Str → Str → Option Bool} {cN : Value} {psk : List Str} {φ : Addr → Str → List Sl → FR} {kw : Str → Option Str} {params : Arguments} {body : Expr} {scope : Scope} {f : DE → R D} {j : Nat} {p lpos pos p1 p2 p3 p4 p5 p8 q1 q2 q3 q4 q5 q6 np pos' : Pos}
    (he : EmOk X.K em) (F : Fun X.K x x st g fd) (hbg : defBody st = [.Try [.Return (some (.Call (.Name "repr" p4) [.Call (.Name a p1) [] [] p2] [] p5)) p3] [.ExceptHandler (some (.Name nm np)) (some n) [.Return (some (.BinOp (.Constant (.str "! ") j q1) .Add (.Call (.Name kn q2) [.Name n q3] [] q4) q5)) q6] pos'] [] [] p8])
    (KO : KindOk X.prog X.w X.K X.mg X.base kk fk fdk psk φ kw) (hkk' : kk ≤ k + 1) (hns : ∀ c w, kw c = some w → ∃ C, PySem.W.nsIn X.K mainGlobals c = some (some (.ref C))) (gd : X.A.guards = some []) (hnd : [a, n].Nodup) (hln : (defScope st).names.lookup n = some .local) (hgk : ∀ Z : Cx, Z.env.scope = defScope st → Gl Z kn) (hmk : X.mg kn = some (.ref fk)) (hkk : PySem.W.keepIn X.K (.ref fk) = true) (hbk : L2.Binds X.K fdk psk [])
    (hgr : ∀ Z : Cx, Z.env.scope = defScope st → Gl Z "repr") (hmr : X.mg "repr" = none) (hgn : ∀ Z : Cx, Z.env.scope = defScope st → Gl Z nm) (hmn : X.mg nm = some cN) (hcN : ClsIs X.K nm cN) (hvn : Vis (defScope st) n)
    (hg : Gl X x) (hm : X.mg x = some (.ref g)) (hb : L2.Binds X.K fd [a] []) (Sg : FnScope [a, n] [a] (defScope st)) (hva : Vis (defScope st) a)
    (TB : TabB X.base X.mg c P) (hcode : X.env.code = .ref c) (hmT : (P, X.env.qual ++ "<lambda>") ∈ Tbl.T) (hu : ∀ p ∈ Tbl.T, p.1 = P → p.2 = X.env.qual ++ "<lambda>") (hr : Room (k + 2) X.A) (L : LamS X.env.scope scope) (hdef : defaultsOf params X.env = ([], []))
    (hbind : ∀ (q : Str) (cl : List (Str × Addr)) (pm cv ctv : Value), bindArgs (PySem.W.kla_fn "<lambda>" q params body scope cl pm cv ctv) ⟨[], []⟩ = pure [])
    (hbody : ∀ (A : Around) (outer : List Env) (s : Shared) (H : Hp) (E : XK) (f' c' : Addr), Room k (A.deeper (lamEnv X scope s.heap.objs.size f' c')) → VE (lamCx X A outer s H E scope f' c') (wE E) body f)
    (hdm : (nm == ("__debug__" : Str)) = false := by decide) (hdn : (n == ("__debug__" : Str)) = false := by decide) (hcn : (n == ("__classdict__" : Str)) = false := by decide) (hdk : (kn == ("__debug__" : Str)) = false := by decide)
    (hdb : (x == ("__debug__" : Str)) = false := by decide) (hd : (a == ("__debug__" : Str)) = false := by decide) (hcd : (a == ("__classdict__" : Str)) = false := by decide) :
    VE X W (.Call (.Name x p) [.Lambda params body scope lpos] [] pos) (saidX em nm kw f) := by
  have hk := F.kp
  obtain ⟨oc, od, kV, doc, pm, an, cd, ct, osl, rfl, lk, hc⟩ := F.ex
  exact PE.to (pe_lamcall (T := Tbl.T) (TT := TTk X.K cN φ kw) (t := fun E => rdE X.K (wE E) f) hg hm hk lk hc hb Sg rfl hva (by rw [hbg]; exact kind_gives KO (hr.mono (by omega)) gd hnd hln hgk hmk hkk hbk hgr hmr hgn hmn hvn hdm hdn hcn hdk) TB hcode hmT hu hr L hdef hbind (fun A outer s H E f' c' hr' => hbody A outer s H E f' c' hr') hdb hd hcd) fun σ H Q z => rd_saidX he hcN hns z
end
end PV

/-! PV37: x[::-1]; displays of a dict with one key. -/
namespace PV
open PySem PySem.Spec PyProof.Rows L2 HT
section
variable {prog : Program} {w : World} {A : Around} {E : Value → Shared → Prop} {s : Shared}
theorem adjust_rev (n : Nat) : Builtin.Slice.sliceAdjust none none (-1) (n : Int) = ((n : Int) - 1, -1) := by
  first
  | rfl
  | (unfold Builtin.Slice.sliceAdjust; simp)
theorem places_rev (n : Nat) : Builtin.Slice.slicePlaces ((n : Int) - 1) (-1) (-1) = n := by
  unfold Builtin.Slice.slicePlaces
  have h1 : ¬ ((-1 : Int) > 0) := by omega
  simp only [h1, if_false]
  by_cases h : (-1 : Int) < (n : Int) - 1
  · simp [h]
  · have : n = 0 := by omega
    subst this
    simp
theorem applied_rev {sl : Addr} {vl vu vs : Value} {n : Nat} {Q : Int × Int × Nat → Shared → Prop} (hs : s.heap.IsSliceOf sl vl vu vs) (pl : IsPart vl none) (pu : IsPart vu none) (ps : IsPart vs (some (-1)))
    (h : Q ((n : Int) - 1, -1, n) s) : wpAny (model prog w) A (Builtin.Slice.sliceApplied (.ref sl) (pure (n : Int))) Q E s := by
  obtain ⟨os, hos, hcs, hds⟩ := id hs
  unfold Builtin.Slice.sliceApplied Builtin.Slice.sliceFields
  refine wpAny_bind (wpAny_bind (wpAny_field hos hds (x := vl) rfl (wpAny_bind (wpAny_field hos hds (x := vu) rfl (wpAny_bind (wpAny_field hos hds (x := vs) rfl (wpAny_pure ?_)))))))
  refine wpAny_bind (slicePart_ ps ?_)
  show wpAny _ _ (if ((-1 : Int) == 0) = true then _ else _) _ _ s
  rw [if_neg (by decide)]
  refine wpAny_bind (slicePart_ pl (wpAny_bind (slicePart_ pu (wpAny_bind (wpAny_pure ?_)))))
  show wpAny _ _ (match Builtin.Slice.sliceAdjust none none (-1) (n : Int) with | (lo, hi) => pure (lo, (-1 : Int), Builtin.Slice.slicePlaces lo hi (-1))) _ _ s
  rw [adjust_rev n]
  show wpAny _ _ (pure ((n : Int) - 1, (-1 : Int), Builtin.Slice.slicePlaces ((n : Int) - 1) (-1) (-1))) _ _ s
  rw [places_rev]
  exact wpAny_pure h
theorem fm_congr {α β : Type} {f g : α → Option β} : ∀ {l : List α}, (∀ x ∈ l, f x = g x) → l.filterMap f = l.filterMap g
  | [], _ => rfl
  | a :: l, h => by
    rw [List.filterMap_cons, List.filterMap_cons, h a List.mem_cons_self, fm_congr fun x hx => h x (List.mem_cons_of_mem _ hx)]
theorem pick_rev (xs : Array Value) : ((List.range xs.size).filterMap fun (m : Nat) => xs[((xs.size : Int) - 1 + (m : Int) * (-1)).toNat]?).toArray = xs.toList.reverse.toArray := by
  have h := PySem.W.krv_pick xs
  unfold slicePick at h
  rw [PySem.W.krv_bounds] at h
  have h : ((sliceRange ((xs.size : Int) - 1) (-1) (-1)).filterMap (xs[·]?)).toArray = xs.toList.reverse.toArray := h
  rw [PySem.W.krv_sliceRange, List.filterMap_map] at h
  rw [← h]
  refine congrArg List.toArray (fm_congr fun k hk => ?_)
  have := List.mem_range.mp hk
  have e : ((xs.size : Int) - 1 + (k : Int) * (-1)).toNat = xs.size - 1 - k := by omega
  rw [e]
  rfl
theorem getItem_tuple_rev {t sl : Addr} {items : Array Value} {vl vu vs : Value} {Q : Value → Shared → Prop} (ht : IsTup s.heap t items) (hs : s.heap.IsSliceOf sl vl vu vs) (pl : IsPart vl none) (pu : IsPart vu none) (ps : IsPart vs (some (-1)))
    (h : Q (.ref s.heap.objs.size) { s with heap := s.heap.push { cls := .type "tuple", data := .seq items.toList.reverse.toArray } })
    (hsz : items.size ≤ sizeLine) : wpAny (model prog w) A (getItem (.ref t) (.ref sl)) Q E s := by
  have htake : sizeOk (.seq items.toList.reverse.toArray) := by
    show items.toList.reverse.toArray.size ≤ sizeLine
    rw [List.size_toArray, List.length_reverse, Array.length_toList]
    exact hsz
  obtain ⟨os, hos, hcs, hds⟩ := id hs
  have hTs : s.TypeIs (.ref sl) "slice" := ⟨os, hos, hcs⟩
  unfold getItem
  try with_reducible refine wpAny_holding ?_
  first | refine wpAny_bind (wpAny_pure ?_) | skip
  refine wpAny_bind (wpAny_sequenceKey ht.typeIs (by decide) ?_)
  refine wpAny_bind (wpAny_callSpecial?_slot (name := Str.ofString "__getitem__") ht.typeIs PyProof.Rows.slot_tuple_getitem
    (wpAny_call_entry PyProof.Rows.slot_tuple_getitem ht.typeIs PyProof.Rows.entry_tuple_getitem ?_ (PyProof.Rows.args_tuple_getitem _ _)))
  show wpAny _ _ (Builtin.Tuple.tupleItemsOf (.ref t) >>= _) _ _ s
  refine wpAny_bind (tupleItemsOf_ ht ?_)
  refine wpAny_bind (wpAny_typeOf hTs ?_)
  rw [if_pos (by decide)]
  refine wpAny_bind (applied_rev hs pl pu ps ?_)
  have hno : ¬ (((items.size : Int) - 1 == 0 && (-1 : Int) == 1 && items.size == items.size) = true) := by
    intro q
    rw [Bool.and_eq_true, Bool.and_eq_true] at q
    exact absurd q.1.2 (by decide)
  show wpAny _ _ (if ((items.size : Int) - 1 == 0 && (-1 : Int) == 1 && items.size == items.size) = true then _ else _) _ _ s
  rw [if_neg hno, pick_rev]
  first
    | exact wpAny_bind (m := Builtin.Tuple.tupleExact _) (wpAny_newObj_type (wpAny_pure ⟨_, rfl, wpAny_pure h⟩) htake)
    | exact wpAny_bind (m := Builtin.Tuple.tupleExact _) (wpAny_newObj_type (wpAny_bind (wpAny_pure (wpAny_pure ⟨_, rfl, wpAny_pure h⟩))) htake)
    | exact wpAny_bind (wpAny_bind (m := Builtin.Tuple.tupleExact _) (wpAny_newObj_type (wpAny_pure (wpAny_pure ⟨_, rfl, wpAny_pure h⟩)) htake))
    | exact wpAny_bind (wpAny_bind (m := Builtin.Tuple.tupleExact _) (wpAny_newObj_type (wpAny_pure ⟨_, rfl, wpAny_pure h⟩) htake))
end
def tRev (K : PySem.W.Frag) (te : TE) : TE := fun σ H Q => te σ H fun x H1 => ∃ a xs, x = .ref a ∧ ((SqL K H1 a xs ∧ ∀ p, H1 p = none → Q (.ref p) (upd H1 p (.lst xs.reverse))) ∨ (SqT K H1 a xs ∧ ∀ p, H1 p = none → Q (.ref p) (upd H1 p (.tup xs.reverse))))
theorem pe_rev {X : Cx} {e : Expr} {te : TE} {k : Nat} {p1 p2 p3 pos : Pos} (he : PE X e te) : PE X (.Subscript e (.Slice none none (some (.UnaryOp .USub (.Constant (.int 1) k p1) p2)) p3) pos) (tRev X.K te) := by
  refine ⟨fun pins s σ H Q I h => ?_⟩
  refine Subscript_ (thn (he.run pins s σ H _ I h) fun v s1 ⟨x, H1, I1, r1, q1⟩ => ?_)
  obtain ⟨a, xs, ex, q⟩ := q1
  subst ex
  cases r1
  have hst : PO X (some (.UnaryOp .USub (.Constant (.int 1) k p1) p2)) (tPart (tUn (rU fun i => .int (-i)) (tC (.int 1)))) := po_some (pe_un un_neg pe_int)
  refine wpAny_Slice (thn (po_none.run pins s1 σ H1 (fun o H2 => o = none ∧ H2 = H1) I1 ⟨rfl, rfl⟩) fun vl s2 ⟨l, H2, I2, pl, el, e2⟩ => ?_)
  subst el e2
  refine thn (po_none.run pins s2 σ H2 (fun o H3 => o = none ∧ H3 = H2) I2 ⟨rfl, rfl⟩) fun vu s3 ⟨u, H3, I3, pu, eu, e3⟩ => ?_
  subst eu e3
  refine thn (hst.run pins s3 σ H3 (fun o H4 => o = some (-1) ∧ H4 = H3) I3 ⟨1, rfl, -1, rfl, rfl, rfl⟩) fun vs s4 ⟨o, H4, I4, ps, eo, e4⟩ => ?_
  subst eo e4
  have I5 : Inv X pins σ H4 { s4 with heap := s4.heap.push { cls := .type "slice", data := .fields #[vl, vu, vs] } } := I4.kept (t' := s4.toks) fun b ob q => Heap.get?_push_of_some _ q
  show wpAny (model X.prog X.w) X.A (subscriptTail e (.Slice none none (some (.UnaryOp .USub (.Constant (.int 1) k p1) p2)) p3) (.ref a) (.ref s4.heap.objs.size)) (EP X pins σ Q) X.xe { s4 with heap := s4.heap.push { cls := .type "slice", data := .fields #[vl, vu, vs] } }
  rcases q with ⟨hx, q⟩ | ⟨hx, q⟩
  · obtain ⟨its, r, ht, hz⟩ := I5.list hx
    have hlen := r.length
    refine tail_any (ops := [.ref a, .ref s4.heap.objs.size]) ht.isList.typeIs (PySem.slot_list_getitem.lookup) ?_ (by with_unfolding_all rfl)
    refine wpAny_getItem_list_slice ht.isList (Heap.IsSliceOf.new _ vl vu vs) pl pu ps (by decide) ?_ (by rw [List.size_toArray]; omega)
    rw [PySem.W.krv_pick]
    refine ⟨.ref _, _, I5.laid (t' := s4.toks) (o := .lst xs.reverse) (fun b ob q => Heap.get?_push_of_some _ q) (Nat.le_refl _) ?_, rfl, q _ (I5.hok.fresh (Nat.le_refl _))⟩
    exact ⟨by rw [List.length_reverse]; exact hz, _, 0, r.reverse, Heap.get?_push_size _ rfl⟩
  · obtain ⟨its, r, ht, hz⟩ := I5.tuple hx
    have hlen := r.length
    refine tail_any (ops := [.ref a, .ref s4.heap.objs.size]) ht.typeIs (PyProof.Rows.slot_tuple_getitem.lookup) ?_ (by with_unfolding_all rfl)
    refine getItem_tuple_rev ht (Heap.IsSliceOf.new _ vl vu vs) pl pu ps ?_ (by rw [List.size_toArray]; omega)
    refine ⟨.ref _, _, I5.laid (t' := s4.toks) (o := .tup xs.reverse) (fun b ob q => Heap.get?_push_of_some _ q) (Nat.le_refl _) ?_, rfl, q _ (I5.hok.fresh (Nat.le_refl _))⟩
    exact ⟨by rw [List.length_reverse]; exact hz, _, r.reverse, IsTup.new _ _⟩
variable [Tbl]
def revD : D → Option D
  | .lst l => some (.lst l.reverse)
  | .tup l => some (.tup l.reverse)
  | _ => none
def revE (f : DE → R D) : DE → R D := fun δ => (f δ).bind fun d δ => R.of (revD d) δ
theorem ve_rev {X : Cx} {W : WX} {e : Expr} {f : DE → R D} {k : Nat} {p1 p2 p3 pos : Pos} (he : VE X W e f) : VE X W (.Subscript e (.Slice none none (some (.UnaryOp .USub (.Constant (.int 1) k p1) p2)) p3) pos) (revE f) := PE.to (pe_rev he) fun σ H Q z => by
  refine z.first (DM := dnE X.K) fun c F H1 δ x v r1 d1 z1 => ?_
  cases x <;> first | (exact False.elim z1; done) | skip
  · rename_i l
    obtain ⟨p, xs, rfl, g1, g2⟩ := d1
    exact ⟨p, xs, rfl, .inr ⟨sqt (r1.sub _ _ g1), fun q hq => z1 _ _ _ (r1.lay hq) (same_new (r1.freeF hq)) ⟨q, _, rfl, upd_same, Dens.mono (same_new (r1.freeF hq)) _ _ g2.reverse⟩⟩⟩
  · obtain ⟨p, xs, rfl, g1, g2⟩ := d1
    exact ⟨p, xs, rfl, .inl ⟨.inl (.inl (r1.sub _ _ g1)), fun q hq => z1 _ _ _ (r1.lay hq) (same_new (r1.freeF hq)) ⟨q, _, rfl, upd_same, Dens.mono (same_new (r1.freeF hq)) _ _ g2.reverse⟩⟩⟩
def k_rev (d : D) (δ : DE) : R D := R.of (revD d) δ
theorem ev_rev {f : DE → R D} {δ : DE} : revE f δ = (f δ).bind k_rev := rfl
/-- {'k': 'v'} -/
def dOneS (k v : Str) : DE → R MD := fun δ => .ok (.dct [(.inr k, .str v)]) δ
theorem vn_dOneS {X : Cx} {W : WX} {k v : Str} {j1 j2} {p1 p2 pos : Pos} : VN X W (.Dict [some (.Constant (.str k) j1 p1)] [.Constant (.str v) j2 p2] pos) (dOneS k v) := PE.to (pe_disp (pps_cons pe_str pe_str pps_nil) rfl rfl (by simp) (by simp)) fun σ H Q z p hp => by
  obtain ⟨c, F, δ, r, z⟩ := z
  refine ⟨upd_same, [(.inr k, .str v)], rfl, by simp, ?_⟩
  rw [upd_upd]
  obtain ⟨g1, g2⟩ := r.fresh (o := .dK [(.inr k, .str v)]) (m := .dct [(.inr k, .str v)]) hp ⟨_, _, rfl, rfl, rfl⟩
  exact z _ _ _ g1 (.refl _) g2
end PV

/-! PV38: facts about caught errors; readings evaluated by simp for what PV35 to PV37 brought. -/
theorem L2H.RoomH.units {k : Nat} {A : PySem.Around} (r : L2H.RoomH k A) : A.units + 64 < PySem.cLine := by have := r.un; omega
namespace PV
open PySem PySem.Spec PyProof.Rows L2
theorem kit_exm {K : PySem.W.Frag} {t c : Value} {b : Bool} (h : PySem.W.exmOne K t c = some b) (hs : PySem.W.exmOne K t t = some true) : PySem.W.kitOne K t c = some b := by
  unfold PySem.W.kitOne
  split
  · rename_i e
    have e := eq_of_beq e
    subst e
    exact hs.symm.trans h
  · unfold PySem.W.exmOne at h
    split at h
    · exact h
    · cases h
/-- who the caught error is: of class c, one of names that have no fields -/
abbrev kNames : List Str := ["InvalidName", "InvalidWord", "InvalidRule", "InvalidNotice", "InvalidCopy", "InvalidRoom", "InvalidCells", "UnknownCell", "NameTaken", "TransactionOpen", "UnknownSavepoint", "Ended", "InvalidStep", "InvalidNumber", "InvalidGraph", "InvalidRun", "InvalidWay", "InvalidClients", "InvalidDay", "InvalidHistory"]
abbrev kMore : List Str := ["InvalidText", "Conflict", "Full", "TooLarge", "InvalidFrame"]
abbrev kAll : List Str := kNames ++ kMore
def ieK (c : Str) (n : Str) : Option Bool := if kAll.contains n = true then some (n == c) else none
theorem ieK_own {c n : Str} {b : Bool} (h : ieK c n = some b) : n ∈ kAll ∧ b = (n == c) := by
  unfold ieK at h
  split at h
  · rename_i hn
    cases h
    exact ⟨List.contains_iff_mem.mp hn, rfl⟩
  · cases h
/-- the error's classes, told by facts for each name -/
theorem ieok_mk {K : PySem.W.Frag} {C : Addr} {c : Str} (hs : PySem.W.exmOne K (.ref C) (.ref C) = some true) (hv : PySem.W.kitOne K (.ref C) (.type "ValueError") = some true)
    (h : ∀ n ∈ kAll, ∀ C', PySem.W.nsIn K mainGlobals n = some (some (.ref C')) → PySem.W.exmOne K (.ref C) (.ref C') = some (n == c)) : IeOk K C (ieK c) :=
  ⟨fun n b C' q ns => by
    obtain ⟨h1, rfl⟩ := ieK_own q
    exact kit_exm (h n h1 C' ns) hs, hv⟩
def k_mtL (o : List D → D → Option D) (g : DE → R D) (d : D) (δ : DE) : R D := match d with
  | .lst l => (g δ).bind fun e δ => R.of (o l e) δ
  | _ => .stuck
@[simp] theorem ev_mtL {o : List D → D → Option D} {f g : DE → R D} {δ : DE} : mtL o f g δ = (f δ).bind (k_mtL o g) := rfl
def k_mtV (o : List D → D → Option D) (l : List D) (e : D) (δ : DE) : R D := R.of (o l e) δ
@[simp] theorem ev_kmtL {o : List D → D → Option D} {g : DE → R D} {l : List D} {δ : DE} : k_mtL o g (.lst l) δ = (g δ).bind (k_mtV o l) := rfl
@[simp] theorem ev_kmtV {o : List D → D → Option D} {l : List D} {e : D} {δ : DE} : k_mtV o l e δ = R.of (o l e) δ := rfl
@[simp] theorem ev_rev' {f : DE → R D} {δ : DE} : revE f δ = (f δ).bind k_rev := rfl
@[simp] theorem ev_krev {d : D} {δ : DE} : k_rev d δ = R.of (revD d) δ := rfl
@[simp] theorem revD_lst {l : List D} : revD (.lst l) = some (.lst l.reverse) := rfl
@[simp] theorem revD_tup {l : List D} : revD (.tup l) = some (.tup l.reverse) := rfl
@[simp] theorem ev_dOneS {k v : Str} {δ : DE} : dOneS k v δ = .ok (.dct [(.inr k, .str v)]) δ := rfl
@[simp] theorem ev_neverE {δ : DE} : neverE δ = .stuck := rfl
@[simp] theorem isE_own {a : Addr} {o : Str → Option Bool} {c : Str} : isE a o [.adr a, .fn c] = (o c).map .bl := if_pos rfl
@[simp] theorem isE_ty {a : Addr} {o : Str → Option Bool} : isE a o [.adr a, .ty "ValueError"] = some (.bl true) := if_pos ⟨rfl, rfl⟩
/-- what said makes of what the lambda did -/
def saidXK (em : Str → Str → Option Bool) (nm : Str) (kw : Str → Option Str) (r : R D) : R D := match r with
  | .exc x δ1 => match em x.c nm, x.fs, kw x.c with
    | some true, [], some w => .ok (.str (("! " : Str) ++ w)) δ1
    | _, _, _ => .stuck
  | .ok d δ1 => match reprD [d] with
    | some z => .ok z δ1
    | none => .stuck
  | .stuck => .stuck
@[simp] theorem ev_saidX {em : Str → Str → Option Bool} {nm : Str} {kw : Str → Option Str} {f : DE → R D} {δ : DE} : saidX em nm kw f δ = saidXK em nm kw (f δ) := rfl
theorem saidX_ok {em : Str → Str → Option Bool} {nm : Str} {kw : Str → Option Str} {d z : D} {δ : DE} (h : reprD [d] = some z) : saidXK em nm kw (.ok d δ) = .ok z δ := by
  show (match reprD [d] with | some z => R.ok z δ | none => R.stuck) = _
  rw [h]
theorem saidX_exc {em : Str → Str → Option Bool} {nm : Str} {kw : Str → Option Str} {c w : Str} {δ : DE} (h : em c nm = some true) (hk : kw c = some w) : saidXK em nm kw (.exc ⟨c, []⟩ δ) = .ok (.str (("! " : Str) ++ w)) δ := by
  show (match em c nm, ([] : List (Str × D)), kw c with | some true, [], some w => R.ok (D.str (("! " : Str) ++ w)) δ | _, _, _ => R.stuck) = _
  rw [h, hk]
end PV

/-! PV39: repr of any data, lists and dicts in them too; sorted(set(tuple of ints)). -/
namespace PV
open PySem PySem.Spec PyProof.Rows L2
mutual
def D.pyY : D → Option PyData
  | .non => some .none
  | .bl b => some (.bool b)
  | .int i => some (.int i)
  | .str s => some (.str s)
  | .tup l => (D.pyYs l).map .tuple
  | .lst l => (D.pyYs l).map .list
  | .dct l => (D.pyYk l).map .dict
  | _ => none
def D.pyYs : List D → Option (List PyData)
  | [] => some []
  | d :: ds => (D.pyY d).bind fun p => (D.pyYs ds).map fun ps => p :: ps
def D.pyYk : List (Key × D) → Option (List (PyData × PyData))
  | [] => some []
  | (k, d) :: ds => (D.pyY d).bind fun p => (D.pyYk ds).map fun ps => (keyPy k, p) :: ps
end
/-! ### data that are shown: what stands for them in a heap; a dict is none of the interpreter's own -/
mutual
inductive RdD (h : Heap) : Value → PyData → Prop
  | non : RdD h .none .none
  | bl (b : Bool) : RdD h (.bool b) (.bool b)
  | int (i : Int) (t : Tok) : RdD h (.int i t) (.int i)
  | str (x : Str) (t : Tok) : RdD h (.str x t) (.str x)
  | lst {a : Addr} {o : Obj} {us : Array Value} {n : Nat} {ps : List PyData} : h.get? a = some o → o.cls = .type "list" → o.data = .seq us n → RdDs h us.toList ps → RdD h (.ref a) (.list ps)
  | tup {a : Addr} {o : Obj} {us : Array Value} {n : Nat} {ps : List PyData} : h.get? a = some o → o.cls = .type "tuple" → o.data = .seq us n → RdDs h us.toList ps → RdD h (.ref a) (.tuple ps)
  | dct {a : Addr} {o : Obj} {es : Array DictEntry} {n : Nat} {kvs : List (PyData × PyData)} : h.get? a = some o → o.cls = .type "dict" → o.data = .dict es n → (a == sysModules) = false → RdDs h (es.toList.map (·.key)) (kvs.map (·.1)) → RdDs h (es.toList.map (·.val)) (kvs.map (·.2)) → RdD h (.ref a) (.dict kvs)
inductive RdDs (h : Heap) : List Value → List PyData → Prop
  | nil : RdDs h [] []
  | cons {v : Value} {vs : List Value} {p : PyData} {ps : List PyData} : RdD h v p → RdDs h vs ps → RdDs h (v :: vs) (p :: ps)
end
section
variable {h : Heap}
mutual
theorem RdD.old : ∀ {v : Value} {p : PyData}, RdD h v p → ∃ as, Reads h v p as
  | _, _, .non => ⟨_, .none⟩
  | _, _, .bl b => ⟨_, .bool b⟩
  | _, _, .int i t => ⟨_, .int i t⟩
  | _, _, .str x t => ⟨_, .str x t⟩
  | _, _, .lst q1 q2 q3 q4 => by obtain ⟨as, z⟩ := q4.old; exact ⟨_, .list q1 q2 q3 z⟩
  | _, _, .tup q1 q2 q3 q4 => by obtain ⟨as, z⟩ := q4.old; exact ⟨_, .tuple q1 q2 q3 z⟩
  | _, _, .dct q1 q2 q3 _ q4 q5 => by
    obtain ⟨as, z⟩ := q4.old
    obtain ⟨bs, y⟩ := q5.old
    exact ⟨_, .dict q1 q2 q3 z y⟩
theorem RdDs.old : ∀ {vs : List Value} {ps : List PyData}, RdDs h vs ps → ∃ as, ReadsAll h vs ps as
  | _, _, .nil => ⟨_, .nil⟩
  | _, _, .cons q r => by
    obtain ⟨as, z⟩ := q.old
    obtain ⟨bs, y⟩ := r.old
    exact ⟨_, .cons z y⟩
end
variable {prog : Program} {w : World}
mutual
/-- repr's walk over such a thing -/
theorem RdD.walk : ∀ {v : Value} {p : PyData}, RdD h v p → p.showable = true → p.shown.length ≤ sizeLine → ∃ bs, ReadAtMost h p.depth bs ∧ ReprK prog w bs h p.depth v p.shown
  | _, _, .non, _, _ => ⟨[], fun _ z => (nomatch z), by simp only [PyData.shown]; exact .of_is ReprIs.none _ _ _⟩
  | _, _, .bl b, _, _ => ⟨[], fun _ z => (nomatch z), by simp only [PyData.shown]; exact .of_is (ReprIs.bool b) _ _ _⟩
  | _, _, .int i t, hs, _ => ⟨[], fun _ z => (nomatch z), by simp only [PyData.shown]; exact .of_is (ReprIs.int t (by simpa [PyData.showable] using hs)) _ _ _⟩
  | _, _, .str x t, _, hz => ⟨[], fun _ z => (nomatch z), by simp only [PyData.shown]; exact .of_is (ReprIs.str x t (by simpa only [PyData.shown] using hz)) _ _ _⟩
  | _, _, .lst (a := a) (us := us) (ps := ps) q1 q2 q3 q4, hs, hz => by
    have lim : (listText (PyData.shownAll ps)).length ≤ sizeLine := by simpa only [PyData.shown] using hz
    obtain ⟨bs, m1, m2⟩ := q4.walk (by simpa [PyData.showable] using hs) fun t ht => Nat.le_trans (listText_mem_le ht) lim
    obtain ⟨as, z⟩ := q4.old
    have top := Reads.list q1 q2 q3 z
    have out : a ∉ bs := not_mem_of_deeper top (by simp only [PyData.depth]; omega) m1
    refine ⟨a :: bs, m1.cons top (by simp only [PyData.depth]; omega), ?_⟩
    simp only [PyData.depth, PyData.shown]
    rcases us with ⟨l⟩
    cases l with
    | nil =>
      cases (show RdDs h [] ps from q4)
      simp only [PyData.shownAll, listText_nil]
      exact .listEmpty q1 q2 q3
    | cons x l => exact .list q1 q2 q3 out (by simpa using m2.length_eq) fun i y e => m2.item i y (by simpa using e)
  | _, _, .tup (a := a) (ps := ps) q1 q2 q3 q4, hs, hz => by
    have lim : (tupleText (PyData.shownAll ps)).length ≤ sizeLine := by simpa only [PyData.shown] using hz
    obtain ⟨bs, m1, m2⟩ := q4.walk (by simpa [PyData.showable] using hs) fun t ht => Nat.le_trans (tupleText_mem_le ht) lim
    obtain ⟨as, z⟩ := q4.old
    have top := Reads.tuple q1 q2 q3 z
    have out : a ∉ bs := not_mem_of_deeper top (by simp only [PyData.depth]; omega) m1
    refine ⟨a :: bs, m1.cons top (by simp only [PyData.depth]; omega), ?_⟩
    simp only [PyData.depth, PyData.shown]
    exact .tuple q1 q2 q3 out m2
  | _, _, .dct (a := a) (es := es) (kvs := kvs) q1 q2 q3 qs q4 q5, hs, hz => by
    have lim : (dictText (PyData.shownKv kvs)).length ≤ sizeLine := by simpa only [PyData.shown] using hz
    obtain ⟨s1, s2⟩ := PyData.showableKv_split kvs (by simpa [PyData.showable] using hs)
    obtain ⟨b1, m1, m2⟩ := q4.walk s1 fun t ht => by
      obtain ⟨p, hp, hl⟩ := PyData.shownKv_key_le kvs t ht
      exact Nat.le_trans hl (Nat.le_trans (dictText_mem_le hp) lim)
    obtain ⟨b2, n1, n2⟩ := q5.walk s2 fun t ht => by
      obtain ⟨p, hp, hl⟩ := PyData.shownKv_val_le kvs t ht
      exact Nat.le_trans hl (Nat.le_trans (dictText_mem_le hp) lim)
    obtain ⟨as, z⟩ := q4.old
    obtain ⟨cs, y⟩ := q5.old
    have top := Reads.dict q1 q2 q3 z y
    have both : ReadAtMost h (PyData.depthKv kvs) (b1 ++ b2) := (m1.mono (PyData.depthAll_keys_le kvs)).append (n1.mono (PyData.depthAll_vals_le kvs))
    have out : a ∉ b1 ++ b2 := not_mem_of_deeper top (by simp only [PyData.depth]; omega) both
    refine ⟨a :: (b1 ++ b2), both.cons top (by simp only [PyData.depth]; omega), ?_⟩
    simp only [PyData.depth, PyData.shown, PyData.shownKv_eq]
    exact .dict q1 q2 q3 qs out (ReprEntriesK.of_two es.toList _ _ (m2.more_le (fun b hb => List.mem_append_left _ hb) (PyData.depthAll_keys_le kvs)) (n2.more_le (fun b hb => List.mem_append_right _ hb) (PyData.depthAll_vals_le kvs)))
theorem RdDs.walk : ∀ {vs : List Value} {ps : List PyData}, RdDs h vs ps → PyData.showableAll ps = true → (∀ t ∈ PyData.shownAll ps, t.length ≤ sizeLine) → ∃ bs, ReadAtMost h (PyData.depthAll ps) bs ∧ ReprAllK prog w bs h (PyData.depthAll ps) vs (PyData.shownAll ps)
  | _, _, .nil, _, _ => ⟨[], fun _ z => (nomatch z), by simp only [PyData.shownAll]; exact .nil⟩
  | _, _, .cons (p := p) (ps := ps) q r, hs, hz => by
    obtain ⟨s1, s2⟩ : p.showable = true ∧ PyData.showableAll ps = true := by simpa [PyData.showableAll] using hs
    obtain ⟨b1, m1, m2⟩ := q.walk s1 (hz _ (by simp only [PyData.shownAll]; exact List.mem_cons_self ..))
    obtain ⟨b2, n1, n2⟩ := r.walk s2 fun t ht => hz t (by simp only [PyData.shownAll]; exact List.mem_cons_of_mem _ ht)
    refine ⟨b1 ++ b2, fun b hm => ?_, ?_⟩
    · simp only [PyData.depthAll]
      rcases List.mem_append.mp hm with hm | hm
      · obtain ⟨d', as', r', hd'⟩ := m1 b hm
        exact ⟨d', as', r', by omega⟩
      · obtain ⟨d', as', r', hd'⟩ := n1 b hm
        exact ⟨d', as', r', by omega⟩
    · simp only [PyData.depthAll, PyData.shownAll]
      exact .cons ((m2.more fun b hb => List.mem_append_left _ hb).level_le (Nat.le_max_left _ _)) (n2.more_le (fun b hb => List.mem_append_right _ hb) (Nat.le_max_right _ _))
end
/-- repr of such a list or tuple -/
theorem RdD.repr {A : Around} {E : Value → Shared → Prop} {s : Shared} {Q : Value → Shared → Prop} {a : Addr} {p : PyData} (r : RdD h (.ref a) p) (hl : ∃ ps, p = .list ps ∨ p = .tuple ps) (hs : p.showable = true) (hg : A.guards = some []) (hu : A.units + (p.depth + 1) < cLine) (hk0 : ∀ b o, h.get? b = some o → s.heap.get? b = some o)
    (hQ : ∀ h' u tk, (∀ b o, s.heap.get? b = some o → h'.get? b = some o) → Q (.str p.shown u) { s with heap := h', toks := tk }) (hsz : p.shown.length ≤ sizeLine) : wpAny (model prog w) A (call (.builtin "repr") [.ref a]) Q E s := by
  obtain ⟨ps, rfl | rfl⟩ := hl
  · cases r with
    | lst q1 q2 q3 q4 =>
      rename_i o us n
      have lim : (listText (PyData.shownAll ps)).length ≤ sizeLine := by simpa only [PyData.shown] using hsz
      obtain ⟨bs, m1, m2⟩ := q4.walk (prog := prog) (w := w) (by simpa [PyData.showable] using hs) fun t ht => Nat.le_trans (listText_mem_le ht) lim
      obtain ⟨as, z⟩ := q4.old
      have out : a ∉ bs := not_mem_of_deeper (Reads.list q1 q2 q3 z) (by simp only [PyData.depth]; omega) m1
      have ty : s.TypeIs (.ref a) "list" := ⟨o, hk0 _ _ q1, q2⟩
      refine call_repr_slot (by omega) ty F.slot_list_repr.toG ?_
      simp only [PyData.depth] at hu
      simp only [PyData.shown] at hQ
      rcases us with ⟨l⟩
      cases l with
      | nil =>
        cases (show RdDs h [] ps from q4)
        simp only [PyData.shownAll, listText_nil] at hQ
        exact call_list_repr_empty ty (hk0 _ _ q1) q3 ⟨_, _, rfl, hQ s.heap _ _ fun _ _ e => e⟩
      | cons x l => exact call_list_reprK q1 q2 q3 out (by simpa using m2.length_eq) (fun i y e => m2.item i y (by simpa using e)) hg (fun b _ => Clear.nil b) (by show A.units + 1 + _ < _; omega) hk0 (fun h' u tk hk => ⟨_, _, rfl, hQ h' u tk hk⟩) lim
  · cases r with
    | tup q1 q2 q3 q4 =>
      rename_i o us n
      have lim : (tupleText (PyData.shownAll ps)).length ≤ sizeLine := by simpa only [PyData.shown] using hsz
      obtain ⟨bs, m1, m2⟩ := q4.walk (prog := prog) (w := w) (by simpa [PyData.showable] using hs) fun t ht => Nat.le_trans (tupleText_mem_le ht) lim
      obtain ⟨as, z⟩ := q4.old
      have out : a ∉ bs := not_mem_of_deeper (Reads.tuple q1 q2 q3 z) (by simp only [PyData.depth]; omega) m1
      have ty : s.TypeIs (.ref a) "tuple" := ⟨o, hk0 _ _ q1, q2⟩
      refine call_repr_slot (by omega) ty F.slot_tuple_repr ?_
      simp only [PyData.depth] at hu
      simp only [PyData.shown] at hQ
      exact call_tuple_reprK q1 q2 q3 out m2 hg (fun b _ => Clear.nil b) (by show A.units + 1 + _ < _; omega) hk0 (fun h' u tk hk => ⟨_, _, rfl, hQ h' u tk hk⟩) lim
end
section
variable {X : Cx} {pins : List (Addr × Obj)} {σ : L2.St} {F H : Hp} {s : Shared}
mutual
theorem readsY (I : Inv X pins σ H s) (e : Same F H) : ∀ {d : D} {p : PyData} {v : V} {u : Value}, d.pyY = some p → Den X.K F d v → RelV v u → RdD s.heap u p
  | .non, _, _, _, h, g, r => by unfold D.pyY at h; cases h; cases g; cases r; exact .non
  | .bl b, _, _, _, h, g, r => by unfold D.pyY at h; cases h; cases g; cases r; exact .bl b
  | .int b, _, _, _, h, g, r => by unfold D.pyY at h; cases h; cases g; obtain ⟨t, rfl⟩ := r; exact .int b t
  | .str b, _, _, _, h, g, r => by unfold D.pyY at h; cases h; cases g; obtain ⟨t, rfl⟩ := r; exact .str b t
  | .byt _, _, _, _, h, _, _ => by unfold D.pyY at h; cases h
  | .ty _, _, _, _, h, _, _ => by unfold D.pyY at h; cases h
  | .fn _, _, _, _, h, _, _ => by unfold D.pyY at h; cases h
  | .adr _, _, _, _, h, _, _ => by unfold D.pyY at h; cases h
  | .scr _, _, _, _, h, _, _ => by unfold D.pyY at h; cases h
  | .dcT _, _, _, _, h, _, _ => by unfold D.pyY at h; cases h
  | .dcF _, _, _, _, h, _, _ => by unfold D.pyY at h; cases h
  | .ctp _, _, _, _, h, _, _ => by unfold D.pyY at h; cases h
  | .ins _ _, _, _, _, h, _, _ => by unfold D.pyY at h; cases h
  | .tup l, _, _, _, h, g, r => by
    unfold D.pyY at h
    obtain ⟨ps, h1, rfl⟩ := Option.map_eq_some_iff.mp h
    obtain ⟨a, xs, rfl, g1, g2⟩ := g
    cases r
    obtain ⟨its, rv, ⟨o, ho, hc, n, hd⟩, _⟩ := I.tuple (sqt (e _ _ g1))
    exact .tup ho hc hd (by simpa using readsYs I e h1 g2 rv)
  | .lst l, _, _, _, h, g, r => by
    unfold D.pyY at h
    obtain ⟨ps, h1, rfl⟩ := Option.map_eq_some_iff.mp h
    obtain ⟨a, xs, rfl, g1, g2⟩ := g
    cases r
    obtain ⟨_, its, n, rv, ho⟩ := I.hok a _ (e _ _ g1)
    exact .lst ho rfl rfl (by simpa using readsYs I e h1 g2 rv)
  | .dct l, _, _, _, h, g, r => by
    unfold D.pyY at h
    obtain ⟨ps, h1, rfl⟩ := Option.map_eq_some_iff.mp h
    obtain ⟨a, kvs, rfl, g1, g2⟩ := g
    cases r
    obtain ⟨_, hm, vs, kv, o, es, ep, ho, hx, hd, _, hp, _⟩ := I.hok a _ (e _ _ g1)
    obtain ⟨r1, r2⟩ := readsYk I e h1 g2 kv hp
    exact .dct ho hx.1 hd hm r1 r2
theorem readsYs (I : Inv X pins σ H s) (e : Same F H) : ∀ {l : List D} {ps : List PyData} {vs : List V} {us : List Value}, D.pyYs l = some ps → Dens X.K F l vs → Vals vs us → RdDs s.heap us ps
  | [], _, _, _, h, g, r => by
    unfold D.pyYs at h; cases h; rw [show _ = _ from g] at r; cases r; exact .nil
  | d :: ds, _, _, _, h, ⟨v, rr, e1, g1, g2⟩, r => by
    unfold D.pyYs at h
    obtain ⟨p, h1, h2⟩ := Option.bind_eq_some_iff.mp h
    obtain ⟨ps, h3, rfl⟩ := Option.map_eq_some_iff.mp h2
    subst e1
    cases r with
    | cons r1 r2 => exact .cons (readsY I e h1 g1 r1) (readsYs I e h3 g2 r2)
theorem readsYk (I : Inv X pins σ H s) (e : Same F H) : ∀ {l : List (Key × D)} {ps : List (PyData × PyData)} {kvs : List (Key × V)} {vs : List (Key × Value)} {es : List DictEntry}, D.pyYk l = some ps → DenK X.K F l kvs → KV kvs vs → Pairs (mixKind X.prog X.w) es vs →
    RdDs s.heap (es.map (·.key)) (ps.map (·.1)) ∧ RdDs s.heap (es.map (·.val)) (ps.map (·.2))
  | [], _, _, _, _, h, g, r, q => by
    unfold D.pyYk at h; cases h; rw [show _ = _ from g] at r; cases r; cases q; exact ⟨.nil, .nil⟩
  | (k, d) :: ds, _, _, _, _, h, ⟨v, rr, e1, g1, g2⟩, r, q => by
    unfold D.pyYk at h
    obtain ⟨p, h1, h2⟩ := Option.bind_eq_some_iff.mp h
    obtain ⟨ps, h3, rfl⟩ := Option.map_eq_some_iff.mp h2
    subst e1
    cases r with
    | cons r1 r2 =>
      cases q with
      | @cons ee _ _ _ q1 q2 q3 =>
        obtain ⟨z1, z2⟩ := readsYk I e h3 g2 r2 q3
        have y := readsY I e h1 g1 r1.2
        rw [← q2] at y
        have q1 := q1
        rw [← r1.1] at q1
        have hk : RdD s.heap ee.key (keyPy k) := by
          rcases keyIs_shape q1 with ⟨i, t, e1, e2⟩ | ⟨i, t, e1, e2⟩
          · cases e1; rw [e2]; exact .int i t
          · cases e1; rw [e2]; exact .str i t
        exact ⟨.cons hk z1, .cons y z2⟩
end
end
def showsY (d : D) : Option Str := d.pyY.bind fun p => if p.showable = true ∧ p.depth ≤ 60 ∧ p.shown.length ≤ LIM then some p.shown else none
/-- repr of a list or tuple, whatever is in it -/
def reprY : List D → Option D
  | [.tup l] => (showsY (.tup l)).map .str
  | [.lst l] => (showsY (.lst l)).map .str
  | _ => none
variable [Tbl]
theorem b_reprY {X : Cx} (hu : X.A.units + 64 < cLine) (hg : X.A.guards = some []) : Bf X (.builtin "repr") reprY := by
  have hcr : CallR X (.builtin "repr") (fun xs H Q => ∃ d v F p, xs = [v] ∧ DenH X.K F H d v ∧ (∃ l, d = .tup l ∨ d = .lst l) ∧ Same F H ∧ d.pyY = some p ∧ p.showable = true ∧ p.depth ≤ 60 ∧ p.shown.length ≤ sizeLine ∧ Q (.str p.shown) H) := by
    intro pins s σ H xs us Q I rv h
    obtain ⟨d, v, F, p, rfl, dn, hl, sm, py, hs, hd, hz, q⟩ := h
    obtain ⟨u, rfl, ru⟩ := Vals.one rv
    have fin : ∀ (h' : Heap) (t tk : Tok), (∀ b o, s.heap.get? b = some o → h'.get? b = some o) → EP X pins σ Q (.str p.shown t) { s with heap := h', toks := tk } := fun h' t tk hk => ⟨.str p.shown, H, I.kept (t' := tk) hk, ⟨t, rfl⟩, q⟩
    have key : ∃ a, u = .ref a ∧ RdD s.heap (.ref a) p ∧ ∃ ps, p = .list ps ∨ p = .tuple ps := by
      rcases dn with dn | ⟨m, a, o, ed, rfl, e1, e2⟩
      · have rr := readsY I sm py dn ru
        obtain ⟨l, rfl | rfl⟩ := hl
        · obtain ⟨a, xs, rfl, _⟩ := dn
          cases (show u = Value.ref a from ru)
          unfold D.pyY at py
          obtain ⟨ps, _, rfl⟩ := Option.map_eq_some_iff.mp py
          exact ⟨a, rfl, rr, ps, .inr rfl⟩
        · obtain ⟨a, xs, rfl, _⟩ := dn
          cases (show u = Value.ref a from ru)
          unfold D.pyY at py
          obtain ⟨ps, _, rfl⟩ := Option.map_eq_some_iff.mp py
          exact ⟨a, rfl, rr, ps, .inl rfl⟩
      · cases (show u = Value.ref a from ru)
        obtain ⟨l, rfl | rfl⟩ := hl
        · cases m <;> (unfold MD.d at ed; cases ed)
        · cases m with
          | lst l' =>
            cases ed
            obtain ⟨xs, rfl, e2⟩ := mden_lst e2
            unfold D.pyY at py
            obtain ⟨ps, h1, rfl⟩ := Option.map_eq_some_iff.mp py
            obtain ⟨_, its, n, rv, ho⟩ := I.hok a _ e1
            exact ⟨a, rfl, .lst ho rfl rfl (by simpa using readsYs I sm h1 e2 rv), ps, .inl rfl⟩
          | dct l' => cases ed
          | dcT l' => cases ed
          | ins c l' => cases ed
    obtain ⟨a, rfl, rr, hp⟩ := key
    exact rr.repr hp hs hg (by omega) (fun _ _ e => e) (fun h' t tk hk => fin h' t tk hk) hz
  refine ⟨_, hcr, fun c F H σ δ ds z vs Q r d1 q k => ?_⟩
  have fin : ∀ d : D, ds = [d] → (∃ l, d = .tup l ∨ d = .lst l) → (showsY d).map D.str = some z → ∃ d v F p, vs = [v] ∧ DenH X.K F H d v ∧ (∃ l, d = .tup l ∨ d = .lst l) ∧ Same F H ∧ d.pyY = some p ∧ p.showable = true ∧ p.depth ≤ 60 ∧ p.shown.length ≤ sizeLine ∧ Q (.str p.shown) H := by
    intro d ed hl qq
    clear q
    subst ed
    obtain ⟨t, q1, rfl⟩ := Option.map_eq_some_iff.mp qq
    unfold showsY at q1
    obtain ⟨p, q2, q3⟩ := Option.bind_eq_some_iff.mp q1
    split at q3
    · rename_i hh
      cases q3
      obtain ⟨v, rfl, h⟩ := densH1 d1
      exact ⟨d, v, F, p, rfl, h, hl, r.sub, q2, hh.1, hh.2.1, lim_le hh.2.2, k _ F H r (.refl _) rfl⟩
    · cases q3
  unfold reprY at q
  split at q
  · exact fin _ rfl ⟨_, .inl rfl⟩ q
  · exact fin _ rfl ⟨_, .inr rfl⟩ q
  · cases q
/-! ### sorted(set(t)) -/
def rSetI (K : PySem.W.Frag) (w : World) : List V → Hp → VK → Prop := fun xs H Q => ∃ (l : Addr) (ns : List Int), xs = [.ref l] ∧ SqT K H l (ns.map V.int) ∧ ns.length ≤ 1000 ∧ ∀ p c, H p = none → c ≤ ns.length → Q (.ref p) (upd H p (SetO w p (fun j => decide (j ∈ ns)) c))
theorem cr_setI {X : Cx} (hc : X.calm = true) : CallR X (.type "set") (rSetI X.K X.w) := by
  intro pins s σ H xs us Q I r h
  obtain ⟨l, ns, rfl, hs, hl, q⟩ := h
  obtain ⟨u, rfl, ru⟩ := Vals.one r
  cases ru
  obtain ⟨its, rv, ht, hz⟩ := I.tuple hs
  have hb : (1002 : Nat) < scanBound := by decide
  refine call_set_tupI ns (I.ok.hd hc) ht (by simpa using ints_of_vals rv) (by omega) fun h' tk c R hcn keep => ?_
  exact ⟨.ref s.heap.objs.size, _, I.laid (t' := tk) keep (Nat.le_refl _) (setO_new R), rfl, q _ c (I.hok.fresh (Nat.le_refl _)) hcn⟩
def insU (k : Int) : List Int → List Int
  | [] => [k]
  | a :: r => if k < a then k :: a :: r else if k = a then a :: r else a :: insU k r
def sortU (l : List Int) : List Int := l.foldr insU []
omit [Tbl] in
theorem insU_mem {k j : Int} : ∀ {l : List Int}, j ∈ insU k l ↔ j = k ∨ j ∈ l
  | [] => by simp [insU]
  | a :: r => by
    unfold insU
    split
    · simp
    · split
      · rename_i h; subst h; simp
      · rw [List.mem_cons, insU_mem (l := r), List.mem_cons]
        constructor
        · rintro (h | h | h)
          · exact .inr (.inl h)
          · exact .inl h
          · exact .inr (.inr h)
        · rintro (h | h | h)
          · exact .inr (.inl h)
          · exact .inl h
          · exact .inr (.inr h)
omit [Tbl] in
theorem insU_asc {k : Int} : ∀ {l : List Int}, l.Pairwise (· < ·) → (insU k l).Pairwise (· < ·)
  | [], _ => by simp [insU]
  | a :: r, h => by
    obtain ⟨h1, h2⟩ := List.pairwise_cons.mp h
    unfold insU
    split
    · rename_i hk
      exact List.pairwise_cons.mpr ⟨fun x hx => by
        rcases List.mem_cons.mp hx with rfl | hx
        · exact hk
        · have := h1 x hx; omega, h⟩
    · split
      · exact h
      · refine List.pairwise_cons.mpr ⟨fun x hx => ?_, insU_asc h2⟩
        rcases insU_mem.mp hx with rfl | hx
        · omega
        · exact h1 x hx
omit [Tbl] in
theorem sortU_mem {j : Int} : ∀ {l : List Int}, j ∈ sortU l ↔ j ∈ l
  | [] => by simp [sortU]
  | a :: r => by
    show j ∈ insU a (sortU r) ↔ _
    rw [insU_mem, sortU_mem (l := r), List.mem_cons]
omit [Tbl] in
theorem sortU_asc : ∀ {l : List Int}, (sortU l).Pairwise (· < ·)
  | [] => by simp [sortU]
  | a :: r => insU_asc (sortU_asc (l := r))
omit [Tbl] in
theorem asc_uniq : ∀ {a b : List Int}, a.Pairwise (· < ·) → b.Pairwise (· < ·) → (∀ k, k ∈ a ↔ k ∈ b) → a = b
  | [], [], _, _, _ => rfl
  | [], y :: b, _, _, h => absurd ((h y).mpr List.mem_cons_self) (by simp)
  | x :: a, [], _, _, h => absurd ((h x).mp List.mem_cons_self) (by simp)
  | x :: a, y :: b, ha, hb, h => by
    obtain ⟨a1, a2⟩ := List.pairwise_cons.mp ha
    obtain ⟨b1, b2⟩ := List.pairwise_cons.mp hb
    have e : x = y := by
      rcases List.mem_cons.mp ((h x).mp List.mem_cons_self) with e | e
      · exact e
      · rcases List.mem_cons.mp ((h y).mpr List.mem_cons_self) with q | q
        · exact q.symm
        · have := a1 y q; have := b1 x e; omega
    subst e
    rw [asc_uniq a2 b2 fun k => ?_]
    constructor
    · intro hk
      rcases List.mem_cons.mp ((h k).mp (List.mem_cons_of_mem _ hk)) with q | q
      · subst q; have := a1 k hk; omega
      · exact q
    · intro hk
      rcases List.mem_cons.mp ((h k).mpr (List.mem_cons_of_mem _ hk)) with q | q
      · subst q; have := b1 k hk; omega
      · exact q
def sortSetD : D → Option MD
  | .tup l => (intsOf l).bind fun ns => if ns.length < 64 then some (.lst ((sortU ns).map D.int)) else none
  | _ => none
def sortSetN (f : DE → R D) : DE → R MD := fun δ => (f δ).bind fun d δ => R.of (sortSetD d) δ
theorem vn_sortSet {X : Cx} {W : WX} {a : Expr} {fa : DE → R D} {p p2 pos pos2 : Pos} (hc : X.calm = true) (hg : Gl X "sorted") (hm : X.mg "sorted" = none) (hg2 : Gl X "set") (hm2 : X.mg "set" = none) (ha : VE X W a fa) (na : starEach [a] X.env = (false, eval a X.env) :: starEach [] X.env := by rfl)
    (nb : starEach [.Call (.Name "set" p2) [a] [] pos2] X.env = (false, eval (.Call (.Name "set" p2) [a] [] pos2) X.env) :: starEach [] X.env := by rfl) : VN X W (.Call (.Name "sorted" p) [.Call (.Name "set" p2) [a] [] pos2] [] pos) (sortSetN fa) :=
  PE.to (pe_callB (cr_sortedSet hc) hg hm (by decide +kernel) (pa_cons (pe_callTy (cr_setI hc) hg2 hm2 (by decide +kernel) (pa_cons ha pa_nil na) (by decide) (by decide) na rfl) pa_nil nb) (by decide) (by decide) nb rfl) fun σ H Q z => by
    refine z.first (DM := dnE X.K) fun c F H1 δ x v r1 d1 z1 => ?_
    cases x <;> first | exact False.elim z1 | skip
    rename_i l
    obtain ⟨q, xs, rfl, g1, g2⟩ := d1
    have z1 : aft X.K W (dnN X.K) c F σ Q (R.of ((intsOf l).bind fun ns => if ns.length < 64 then some (.lst ((sortU ns).map D.int)) else none) δ) := z1
    cases e : intsOf l with
    | none => rw [e] at z1; exact False.elim z1
    | some ns =>
      rw [e] at z1
      have z1 : aft X.K W (dnN X.K) c F σ Q (R.of (if ns.length < 64 then some (.lst ((sortU ns).map D.int)) else none) δ) := z1
      split at z1
      · rename_i h64
        have e3 := ints_den e g2
        subst e3
        refine ⟨q, ns, rfl, sqt (r1.sub _ _ g1), by omega, fun p2 n hp2 hn => ?_⟩
        have r2 := r1.tmp (o := SetO X.w p2 (fun j => decide (j ∈ ns)) n) hp2
        refine ⟨p2, _, n, rfl, upd_same, by omega, fun out p3 h1 h2 _ hp3 => ?_⟩
        have eo : out = sortU ns := asc_uniq h1 sortU_asc fun k => by rw [h2 k, sortU_mem, decide_eq_true_eq]
        subst eo
        obtain ⟨g3, g4⟩ := r2.fresh (o := .lst ((sortU ns).map V.int)) (m := .lst ((sortU ns).map D.int)) hp3 (dens_ints _)
        exact z1 _ _ _ g3 (.refl _) g4
      · exact False.elim z1
end PV

/-! PV40: bounds of what repr tells; readings of PV39 by simp. -/
namespace PV
open PySem PySem.Spec PyProof.Rows L2
def k_sortSet (d : D) (δ : DE) : R MD := R.of (sortSetD d) δ
@[simp] theorem ev_sortSet {f : DE → R D} {δ : DE} : sortSetN f δ = (f δ).bind k_sortSet := rfl
@[simp] theorem ev_ksortSet {d : D} {δ : DE} : k_sortSet d δ = R.of (sortSetD d) δ := rfl
def ShowY (n k : Nat) (d : D) : Prop := ∃ p, d.pyY = some p ∧ p.leavesShort 43 = true ∧ p.showable = true ∧ p.depth ≤ k ∧ p.weight ≤ n
def ShowYs (n k : Nat) (l : List D) : Prop := ∃ ps, D.pyYs l = some ps ∧ PyData.leavesShortAll 43 ps = true ∧ PyData.showableAll ps = true ∧ PyData.depthAll ps ≤ k ∧ PyData.weightAll ps ≤ n
theorem ShowY.mono {n n' k k' : Nat} {d : D} (h : ShowY n k d) (a : n ≤ n') (b : k ≤ k') : ShowY n' k' d := by
  obtain ⟨p, h1, h2, h3, h4, h5⟩ := h
  exact ⟨p, h1, h2, h3, by omega, by omega⟩
theorem ShowYs.mono {n n' k k' : Nat} {d : List D} (h : ShowYs n k d) (a : n ≤ n') (b : k ≤ k') : ShowYs n' k' d := by
  obtain ⟨p, h1, h2, h3, h4, h5⟩ := h
  exact ⟨p, h1, h2, h3, by omega, by omega⟩
theorem ShowW.y0 {n k : Nat} {d : D} (h : ShowW n k d) {p : PyData} (e : d.pyY = d.py) : ShowY n k d := by
  obtain ⟨p, h1, h2, h3, h4, h5, h6⟩ := h
  exact ⟨p, e.trans h1, PyData.leavesShort_of_canLay0 43 p h2 h3, h4, h5, h6⟩
theorem ShowY.non : ShowY 0 1 .non := ShowW.non.y0 (p := .none) (by unfold D.pyY D.py; rfl)
theorem ShowY.bl {b : Bool} : ShowY 0 1 (.bl b) := ShowW.bl.y0 (p := .none) (by unfold D.pyY D.py; rfl)
theorem ShowY.int {i : Int} (h : i.natAbs < 10 ^ 42) : ShowY 141 1 (.int i) := (ShowW.int h).y0 (p := .none) (by unfold D.pyY D.py; rfl)
theorem ShowY.str {s : Str} (h : PyData.strOk s = true) : ShowY s.cps.size 1 (.str s) := (ShowW.str h).y0 (p := .none) (by unfold D.pyY D.py; rfl)
theorem ShowYs.nil {k : Nat} : ShowYs 0 k [] := ⟨[], by unfold D.pyYs; rfl, by simp [PyData.leavesShortAll], by simp [PyData.showableAll], by simp [PyData.depthAll], by simp [PyData.weightAll]⟩
theorem ShowYs.cons {n m k : Nat} {d : D} {l : List D} (h : ShowY n k d) (g : ShowYs m k l) : ShowYs (n + 1 + m) k (d :: l) := by
  obtain ⟨p, h1, h2, h3, h4, h5⟩ := h
  obtain ⟨ps, g1, g2, g3, g4, g5⟩ := g
  exact ⟨p :: ps, by unfold D.pyYs; rw [h1, g1]; rfl, by simp [PyData.leavesShortAll, h2, g2], by simp [PyData.showableAll, h3, g3], by simp only [PyData.depthAll]; omega, by simp only [PyData.weightAll]; omega⟩
theorem ShowYs.uncons {n k : Nat} {d : D} {l : List D} (h : ShowYs n k (d :: l)) : ∃ a b, a + 1 + b ≤ n ∧ ShowY a k d ∧ ShowYs b k l := by
  obtain ⟨ps, h1, h2, h3, h4, h5⟩ := h
  unfold D.pyYs at h1
  obtain ⟨p, g1, g2⟩ := Option.bind_eq_some_iff.mp h1
  obtain ⟨qs, g3, rfl⟩ := Option.map_eq_some_iff.mp g2
  simp only [PyData.leavesShortAll, PyData.showableAll, Bool.and_eq_true] at h2 h3
  simp only [PyData.depthAll, PyData.weightAll] at h4 h5
  exact ⟨p.weight, PyData.weightAll qs, h5, ⟨p, g1, h2.1, h3.1, by omega, Nat.le_refl _⟩, ⟨qs, g3, h2.2, h3.2, by omega, Nat.le_refl _⟩⟩
theorem ShowYs.append {n m k : Nat} : ∀ {l l' : List D}, ShowYs n k l → ShowYs m k l' → ShowYs (n + m) k (l ++ l')
  | [], l', _, g => g.mono (by omega) (Nat.le_refl _)
  | d :: l, l', h, g => by
    obtain ⟨a, b, hab, h1, h2⟩ := h.uncons
    exact (ShowYs.cons h1 (ShowYs.append h2 g)).mono (by omega) (Nat.le_refl _)
theorem ShowYs.split {n k : Nat} : ∀ {l : List D} (r : Nat), ShowYs n k l → ∃ a b, a + b ≤ n ∧ ShowYs a k (l.take r) ∧ ShowYs b k (l.drop r)
  | l, 0, h => ⟨0, n, by omega, by rw [List.take_zero]; exact .nil, by rw [List.drop_zero]; exact h⟩
  | [], r + 1, h => ⟨0, 0, by omega, by rw [List.take_nil]; exact .nil, by rw [List.drop_nil]; exact .nil⟩
  | d :: l, r + 1, h => by
    obtain ⟨a, b, hab, h1, h2⟩ := h.uncons
    obtain ⟨x, y, hxy, g1, g2⟩ := ShowYs.split r h2
    exact ⟨a + 1 + x, y, by omega, by rw [List.take_succ_cons]; exact .cons h1 g1, by rw [List.drop_succ_cons]; exact g2⟩
theorem ShowYs.rev {n k : Nat} : ∀ {l : List D}, ShowYs n k l → ShowYs n k l.reverse
  | [], h => h
  | d :: l, h => by
    obtain ⟨a, b, hab, h1, h2⟩ := h.uncons
    rw [List.reverse_cons]
    exact (ShowYs.append (ShowYs.rev h2) (ShowYs.cons h1 .nil)).mono (by omega) (Nat.le_refl _)
theorem ShowYs.mem {n k : Nat} : ∀ {l : List D}, ShowYs n k l → ∀ x ∈ l, ShowY n k x
  | [], _, x, hx => (nomatch hx)
  | d :: l, h, x, hx => by
    obtain ⟨a, b, hab, h1, h2⟩ := h.uncons
    rcases List.mem_cons.mp hx with rfl | hx
    · exact h1.mono (by omega) (Nat.le_refl _)
    · exact (ShowYs.mem h2 x hx).mono (by omega) (Nat.le_refl _)
theorem ShowYs.all {n k : Nat} : ∀ {l : List D}, (∀ x ∈ l, ShowY n k x) → ShowYs (l.length * (n + 1)) k l
  | [], _ => .mono .nil (by omega) (Nat.le_refl _)
  | d :: l, h => (ShowYs.cons (h d List.mem_cons_self) (ShowYs.all fun x hx => h x (List.mem_cons_of_mem _ hx))).mono (by rw [List.length_cons, Nat.add_mul]; omega) (Nat.le_refl _)
theorem ShowYs.tup {n k : Nat} {l : List D} (h : ShowYs n k l) : ShowY n (k + 1) (.tup l) := by
  obtain ⟨ps, g1, g2, g3, g4, g5⟩ := h
  exact ⟨.tuple ps, by unfold D.pyY; rw [g1]; rfl, by simpa [PyData.leavesShort] using g2, by simpa [PyData.showable] using g3, by simp only [PyData.depth]; omega, by simpa [PyData.weight] using g5⟩
theorem ShowYs.lst {n k : Nat} {l : List D} (h : ShowYs n k l) : ShowY n (k + 1) (.lst l) := by
  obtain ⟨ps, g1, g2, g3, g4, g5⟩ := h
  exact ⟨.list ps, by unfold D.pyY; rw [g1]; rfl, by simpa [PyData.leavesShort] using g2, by simpa [PyData.showable] using g3, by simp only [PyData.depth]; omega, by simpa [PyData.weight] using g5⟩
theorem ShowY.untup {n k : Nat} {l : List D} (h : ShowY n (k + 1) (.tup l)) : ShowYs n k l := by
  obtain ⟨p, h1, h2, h3, h4, h5⟩ := h
  unfold D.pyY at h1
  obtain ⟨ps, g1, rfl⟩ := Option.map_eq_some_iff.mp h1
  exact ⟨ps, g1, by simpa [PyData.leavesShort] using h2, by simpa [PyData.showable] using h3, by simp only [PyData.depth] at h4; omega, by simpa [PyData.weight] using h5⟩
theorem ShowY.dct0 : ShowY 0 1 (.dct []) := ⟨.dict [], by unfold D.pyY D.pyYk; rfl, by decide, by decide, by decide, by decide⟩
theorem ShowY.dct1 : ShowY 4 2 (.dct [(.inr "a", .str "x")]) := ⟨.dict [(.str "a", .str "x")], by simp [D.pyY, D.pyYk, keyPy], by decide +kernel, by decide +kernel, by decide +kernel, by decide +kernel⟩
theorem ShowY.repr {n k : Nat} {d : D} (h : ShowY n k d) (hl : ∃ l, d = .tup l ∨ d = .lst l) (hn : n ≤ 20000) (hk : k ≤ 60) : ∃ s, reprY [d] = some (.str s) := by
  obtain ⟨p, h1, h2, h3, h4, h5⟩ := h
  have z := PyData.shown_le 43 (by decide) p h2
  have e : showsY d = some p.shown := by
    unfold showsY
    rw [h1, Option.bind_some, if_pos ⟨h3, by omega, by unfold LIM; omega⟩]
  refine ⟨p.shown, ?_⟩
  obtain ⟨l, rfl | rfl⟩ := hl
  · show (showsY (.tup l)).map D.str = _
    rw [e]; rfl
  · show (showsY (.lst l)).map D.str = _
    rw [e]; rfl
def k_cat1 (x y : D) (δ : DE) : R MD := match ladd x y with
  | some (.lst l) => .ok (.lst l) δ
  | _ => .stuck
def k_cat2 (fb : DE → R D) (x : D) (δ : DE) : R MD := (fb δ).bind (k_cat1 x)
@[simp] theorem ev_catN {fa fb : DE → R D} {δ : DE} : catN fa fb δ = (fa δ).bind (k_cat2 fb) := rfl
@[simp] theorem ev_kcat2 {fb : DE → R D} {x : D} {δ : DE} : k_cat2 fb x δ = (fb δ).bind (k_cat1 x) := rfl
@[simp] theorem ev_kcat1 {l m : List D} {δ : DE} : k_cat1 (.lst l) (.lst m) δ = if l.length + m.length ≤ 1000000 then .ok (.lst (l ++ m)) δ else .stuck := by
  have e : ladd (.lst l) (.lst m) = if l.length + m.length ≤ LIM then some (.lst (l ++ m)) else none := rfl
  unfold k_cat1
  rw [e]
  have hL : LIM = 1000000 := rfl
  rw [hL]
  split <;> rename_i h
  · split at h
    · cases h; rename_i q; rw [if_pos q]
    · cases h
  · split at h
    · rename_i q; exact absurd rfl (h _)
    · rename_i q; rw [if_neg q]
/-! ### == [] -/
def eqZ : D → D → Option D
  | .lst l, .lst [] => some (.bl l.isEmpty)
  | _, _ => none
def neZ : D → D → Option D
  | .lst l, .lst [] => some (.bl (!l.isEmpty))
  | _, _ => none
@[simp] theorem op_eqZ {l : List D} : eqZ (.lst l) (.lst []) = some (.bl l.isEmpty) := by cases l <;> rfl
@[simp] theorem op_neZ {l : List D} : neZ (.lst l) (.lst []) = some (.bl (!l.isEmpty)) := by cases l <;> rfl
section
variable [Tbl] {X : Cx}
def rEqZ (K : PySem.W.Frag) (g : Bool → Bool) : R2 := fun x y H Q => ∃ a b xs, x = .ref a ∧ y = .ref b ∧ SqL K H a xs ∧ SqL K H b [] ∧ Q (.bl (g xs.isEmpty)) H
theorem op_eq0 (hu : X.A.units + 64 < cLine) : OpR X (compareOp .Eq) (rEqZ X.K id) := by
  intro pins s σ H x y v u Q I rx ry h
  obtain ⟨a, b, xs, rfl, rfl, ha, hb, q⟩ := h
  cases rx
  cases ry
  obtain ⟨its, r1, l1, _⟩ := I.list ha
  obtain ⟨its2, r2, l2, _⟩ := I.list hb
  cases r2
  have hk : SeqAt.RcAt X.A s (.ref a) (.ref b) xs.isEmpty := by
    cases r1 with
    | nil => exact SeqAt.RcAt.lists (e := fun _ => true) l1.isList l2.isList rfl (by omega) (fun j h1 => absurd h1 (by simp))
    | cons r rr => exact SeqAt.RcAt.lists_lengths l1.isList l2.isList (by simp) (by omega)
  exact hk X.prog X.w _ _ ⟨.bl xs.isEmpty, H, I, rfl, q⟩
theorem op_ne0 (hu : X.A.units + 64 < cLine) : OpR X (compareOp .NotEq) (rEqZ X.K not) := by
  intro pins s σ H x y v u Q I rx ry h
  obtain ⟨a, b, xs, rfl, rfl, ha, hb, q⟩ := h
  cases rx
  cases ry
  obtain ⟨its, r1, l1, _⟩ := I.list ha
  obtain ⟨its2, r2, l2, _⟩ := I.list hb
  cases r2
  have hk : SeqAt.RcNeAt X.A s (.ref a) (.ref b) (!xs.isEmpty) := by
    cases r1 with
    | nil => exact SeqAt.RcNeAt.lists (e := fun _ => true) l1.isList l2.isList rfl (by omega) (fun j h1 => absurd h1 (by simp))
    | cons r rr => exact SeqAt.RcNeAt.lists_lengths l1.isList l2.isList (by simp) (by omega)
  exact hk X.prog X.w _ _ ⟨.bl (!xs.isEmpty), H, I, rfl, q⟩
theorem dens_empty {K : PySem.W.Frag} {F : Hp} {l : List D} {xs : List V} (h : Dens K F l xs) : xs.isEmpty = l.isEmpty := by
  have := h.length
  cases xs <;> cases l <;> simp_all
theorem o_eqZ (hu : X.A.units + 64 < cLine) : Op2 X (compareOp .Eq) eqZ := by
  refine ⟨_, op_eq0 hu, fun c F H σ δ d e z v w Q r d1 d2 q k => ?_⟩
  unfold eqZ at q
  split at q
  · cases q
    obtain ⟨a, xs, rfl, g1, g2⟩ := d1
    obtain ⟨b, ys, rfl, g3, g4⟩ := d2
    cases (show ys = [] from g4)
    exact ⟨a, b, xs, rfl, rfl, .inl (.inl (r.sub _ _ g1)), .inl (.inl (r.sub _ _ g3)), k _ F H r (.refl _) (by rw [dens_empty g2]; rfl)⟩
  · cases q
theorem o_neZ (hu : X.A.units + 64 < cLine) : Op2 X (compareOp .NotEq) neZ := by
  refine ⟨_, op_ne0 hu, fun c F H σ δ d e z v w Q r d1 d2 q k => ?_⟩
  unfold neZ at q
  split at q
  · cases q
    obtain ⟨a, xs, rfl, g1, g2⟩ := d1
    obtain ⟨b, ys, rfl, g3, g4⟩ := d2
    cases (show ys = [] from g4)
    exact ⟨a, b, xs, rfl, rfl, .inl (.inl (r.sub _ _ g1)), .inl (.inl (r.sub _ _ g3)), k _ F H r (.refl _) (by rw [dens_empty g2]; rfl)⟩
  · cases q
end
end PV

/-! PV41: dicts whose keys are tuples: the kit's side (display of one pair, locking a name's dict, the walk over items). -/
namespace PV
open PySem PySem.Spec PyProof.Rows L2

section
variable {X : Cx} {pos : Pos}
/-- {k: v}, k a tuple of ints and texts -/
def tDisp1T (tk tv : TE) : TE := fun σ H Q => ∀ p, H p = none → tk σ (upd H p (.dT [])) fun x H1 => tv σ H1 fun y H2 => ∃ b ks, x = .ref b ∧ H2 p = some (.dT []) ∧ H2 b = some (.tup (ks.map kV)) ∧ Q (.ref p) (upd H2 p (.dT [(ks, y)]))
theorem pe_disp1T {k v : Expr} {tk tv : TE} (hu : X.A.units + 1 < cLine) (hk : PE X k tk) (hv : PE X v tv) : PE X (.Dict [some k] [v] pos) (tDisp1T tk tv) := by
  refine ⟨fun pins s σ H Q I q => ?_⟩
  have hn := I.hok.fresh (Nat.le_refl s.heap.objs.size)
  have I1 := I.laid (a := s.heap.objs.size) (o := .dT []) (h' := s.heap.push { cls := .type "dict", data := .dict #[] }) (t' := s.toks) (fun _ _ q => Heap.get?_push_of_some _ q) (Nat.le_refl _) (dt_empty s.heap I.big)
  have hn1 := pairTrees_length [some k] [v] X.env pos rfl rfl
  rw [arm_eval_Dict, zip_pairTrees [some k] [v] X.env pos rfl rfl, dictDisplay_pairs _ (by intro e; rw [e] at hn1; cases hn1) (by rw [hn1]; simp)]
  refine wpAny_bind (wpAny_standAt (wpAny_bind (wpAny_subDictH (knd := tupleKind (mixKind X.prog X.w)) (Q := fun d s' => wpAny (model X.prog X.w) X.A (pure (Value.ref d)) _ X.xe s') (show X.A.units < cLine by omega) (by rw [hn1]; simp) ?_)))
  refine pairTrees_cons_walk (thn (hk.run pins _ σ _ _ I1 (q _ hn)) fun u s1 ⟨x, H1, J1, rx, q1⟩ => thn (hv.run pins s1 σ H1 _ J1 q1) fun w2 s2 ⟨y, H2, I2, ry, b, ks, ex, e, eb, q2⟩ => pairTrees_nil_walk ?_)
  subst ex
  cases (show u = Value.ref b from rx)
  obtain ⟨z, hd, xs, rel, dd⟩ := dt_of I2.hok e
  cases rel
  refine ⟨[(ks, b, w2)], ⟨rfl, rfl, key_of I2.hok eb, trivial⟩, dd, fun h' tk dd' hs => wpAny_pure ⟨.ref s.heap.objs.size, _, ?_, rfl, q2⟩⟩
  obtain ⟨q', es, ep, hq, h2, h3, h4, _, h5⟩ := dd'
  refine d_write I2 (by rw [e]; exact True.intro) hs ⟨q', hq⟩ ⟨by show 1 ≤ sizeLine; decide, hd, [(ks, b, w2)], .cons ⟨rfl, ?_, ry⟩ .nil, q', es, ep, hq, h2, h3, h4, h5⟩
  rw [upd_ne (ne_of eb e (fun z => nomatch z))]
  exact eb

/-- a name's dict, which is not changed from here on -/
def tLockV (te : TE) : TE := fun σ H Q => te σ H fun v H1 => ∃ d kvs, v = .ref d ∧ H1 d = some (.dT kvs) ∧ ∀ od, Q (.ref d) (upd H1 d (.frz od (.dT kvs)))
theorem pe_lockV {e : Expr} {te : TE} (h : PE X e te) : PE X e (tLockV te) := by
  refine ⟨fun pins s σ H Q I q => thn (h.run pins s σ H _ I q) fun u s1 ⟨v, H1, I1, rv, d, kvs, ev, hd, q1⟩ => ?_⟩
  subst ev
  obtain ⟨od, I2⟩ := I1.lock hd trivial
  exact ⟨.ref d, _, I2, rv, q1 od⟩
end

/-! ### items -/
/-- the pairs of a locked dict with tuple keys, each a new tuple -/
def ItiT (d : Addr) (o : Obj) (kvs : List (List Key × V)) : It :=
  ⟨fun i H => H d = some (.frz o (.dT kvs)) ∧ i < kvs.length, fun i H x H' => ∃ (T : Addr) (k : List Key) (v : V) (q : Addr), kvs[i]? = some (k, v) ∧ x = .ref T ∧ H T = none ∧ H q = some (.tup (k.map kV)) ∧ H' = upd H T (.tup [.ref q, v]), fun i H => H d = some (.frz o (.dT kvs)) ∧ kvs.length ≤ i⟩
section
variable {X : Cx} {pins : List (Addr × Obj)} {σ : L2.St} {H : Hp} {s : Shared} {d : Addr} {o : Obj}
theorem frzTV {kvs : List (List Key × V)} (I : Inv X pins σ H s) (h : H d = some (.frz o (.dT kvs))) :
    (d == sysModules) = false ∧ s.heap.get? d = some o ∧ o.ExactDict ∧ ∃ (es : Array DictEntry) (ep : Nat), o.data = .dict es ep ∧ es.size = kvs.length ∧
      ∀ (i : Nat) (k : List Key) (v : V), kvs[i]? = some (k, v) → ∃ (en : DictEntry) (q : Addr), es[i]? = some en ∧ en.key = .ref q ∧ H q = some (.tup (k.map kV)) ∧ RelV v en.val := by
  obtain ⟨hd, z, hs, xs, pr, o', es, ep, ho, hx, hdt, he, _⟩ := I.hok d _ h
  rw [hd] at ho
  cases ho
  refine ⟨hs, hd, hx, es, ep, hdt, ?_, fun i k v e => ?_⟩
  · have l1 : es.size = xs.length := size_of_entries he
    have l2 : kvs.length = xs.length := Paired.length pr
    omega
  · obtain ⟨b, hb, e1, e2, e3⟩ := paired_get pr e
    have q := entry_at he i
    rw [hb] at q
    exact ⟨_, b.2.1, q, rfl, e2, e3⟩
end
section
variable {P : Program} {w : World} {K : PySem.W.Frag} {d : Addr} {o : Obj} {es : Array DictEntry} {ep : Nat}
theorem turn_itemsT {kvs : List (List Key × V)} {elts : List Expr} {kk : Nat} {tpos : Pos} (it : Addr) (hod : o.data = .dict es ep) (hn : es.size = kvs.length) :
    L2.Turn P w K (.Tuple elts kk tpos) (ItiT d o kvs) [it] it (fun i h => ∃ ok ov, IsItemIter h it d i es.size ep ok ov) where
  mem := by simp
  obj := fun i h st b hb => by
    have e : b = it := by simpa using hb
    subst e
    obtain ⟨ok, ov, e⟩ := st
    exact ⟨_, e, fun v z => nomatch z⟩
  keep := fun i h h' st k => let ⟨ok, ov, e⟩ := st; ⟨ok, ov, k it (by simp) _ e⟩
  item := by
    intro X hP hw hK hc i pins s σ H E I hf st hg
    subst hP hw hK
    obtain ⟨hd, hi⟩ := hg
    obtain ⟨hs, hgd, hx, es', ep', hdt, hsz, ent⟩ := frzTV I hd
    obtain ⟨rfl, rfl⟩ := dict_ep hod hdt
    obtain ⟨⟨k, v⟩, hkv⟩ : ∃ p, kvs[i]? = some p := ⟨kvs[i], List.getElem?_eq_getElem hi⟩
    obtain ⟨en, q, hen, hkey, hq, rv⟩ := ent i k v hkv
    obtain ⟨ok, ov, he⟩ := st
    have hi' : i < es'.size := by omega
    have een : es'[i] = en := by rw [Array.getElem?_eq_getElem hi'] at hen; exact Option.some.inj hen
    have hlt : it < s.heap.objs.size := Heap.lt_size he
    refine wpAny_pyNext_items_item_raw he ⟨o, hgd, hx, hdt⟩ hi' fun h' ho hT hz hk => ?_
    rw [een] at ho hT
    refine ⟨_, rfl, wpAny_letOwnedTupleGo_items (s := { s with heap := h' }) ho fun h'' he' sb => ?_⟩
    have hT2 : h''.get? s.heap.objs.size = some { cls := .type "tuple", data := .seq #[en.key, en.val] } := (sb.2 _ (Nat.ne_of_gt hlt)).trans hT
    have new : ObjOk X.prog X.w (upd H s.heap.objs.size (.tup [.ref q, v])) h'' s.heap.objs.size (.tup [.ref q, v]) :=
      ⟨by show 2 ≤ sizeLine; decide, [en.key, en.val], .cons hkey (.cons rv .nil), ⟨_, hT2, rfl, _, rfl⟩⟩
    have I1 : Inv X pins σ (upd H s.heap.objs.size (.tup [.ref q, v])) { s with heap := h'' } :=
      I.turnedNew (t' := s.toks) (ch := [it]) (fun b ob hb e => (sb.2 b (by simpa using hb)).trans (hk b ob (by simpa using hb) e)) hf (Nat.le_refl _) new
    refine ⟨.ref s.heap.objs.size, _, I1, rfl, ⟨_, k, v, q, hkv, rfl, I.hok.fresh (Nat.le_refl _), hq, rfl⟩, ⟨_, _, he'⟩, fun b hb => ?_⟩
    have e : b = it := by simpa using hb
    rw [e, upd_ne (Nat.ne_of_lt hlt)]
    exact (hf it (by simp)).1
  done := by
    intro X hP hw hK hc i pins s σ H E I hf st hg
    subst hP hw hK
    obtain ⟨hd, hi⟩ := hg
    obtain ⟨f0, f1, f2, f3, f4, f5⟩ := hf it (by simp)
    obtain ⟨hs, hgd, hx, es', ep', hdt, hsz, ent⟩ := frzTV I hd
    obtain ⟨rfl, rfl⟩ := dict_ep hod hdt
    obtain ⟨ok, ov, he⟩ := st
    exact wpAny_pyNext_items_end_raw (I.ok.hd hc) he ⟨o, hgd, hx, hdt⟩ (by omega) fun h' eb => ⟨rfl, I.turned (t' := s.toks) (fun b ob hb e => eb b ob hb e) f0 f1 f3 f4 f5⟩
  self := fun A i s Q E st h => let ⟨_, _, e⟩ := st; PySem.W.kcp_self e h
end
def iItemsT (td : TE) : TI := fun σ H R => td σ H fun x H1 => ∃ d o kvs, x = .ref d ∧ H1 d = some (.frz o (.dT kvs)) ∧ R (ItiT d o kvs) H1
theorem pi_itemsT {X : Cx} {e : Expr} {td : TE} {apos cpos : Pos} {elts : List Expr} {kk : Nat} {tpos : Pos} (he : PE X e td) (hbase : attributeBase e "items" X.env (eval e X.env) = eval e X.env := by rfl) (hline : (apos.endLine == cpos.line) = true := by rfl) :
    PI X (.Tuple elts kk tpos) (.Call (.Attribute e "items" apos) [] [] cpos) (iItemsT td) := by
  refine ⟨fun pins s σ H R I h => ?_⟩
  refine wpAny_Call_method (T := "dict") (id := "dict.items") hbase rfl hline F.plainAttrs_dict F.slot_dict_items F.type_dict_items (thn (he.run pins s σ H _ I h) fun u s1 ⟨x, H1, I1, rx, d, o, kvs, ex, hd, q⟩ => ?_)
  subst ex
  obtain rfl : u = Value.ref d := rx
  obtain ⟨hs, hgd, hx, es, ep, hdt, hsz, ent⟩ := frzTV I1 hd
  have raw : s1.heap.DictRaw d es ep := ⟨o, hgd, hx, hdt⟩
  refine ⟨raw.typeIs, fun b q => by cases q; exact ⟨o, hgd, hx.2.1⟩, ?_⟩
  have I2 : Inv X pins σ H1 { s1 with heap := s1.heap.push { cls := .type "dict_items", data := .fields #[.ref d] } } := I1.kept (t' := s1.toks) fun b ob q => Heap.get?_push_of_some _ q
  have fin : wpAny (model X.prog X.w) X.A (pyIter (.ref s1.heap.objs.size)) (PIE X pins σ (.Tuple elts kk tpos) R) X.xe { s1 with heap := s1.heap.push { cls := .type "dict_items", data := .fields #[.ref d] } } := by
    refine wpAny_pyIter_items_raw (d := d) ⟨_, Heap.get?_push_size _ rfl, rfl, rfl⟩ (raw.at fun o e => Heap.get?_push_of_some _ e) (pi_one (tk := s1.toks) I2 _ (turn_itemsT _ hdt hsz) ⟨.none, .none, ?_⟩ q)
    exact Heap.get?_push_size _ rfl
  show wpAny _ _ (callWith cpos (.builtin "dict.items") [.ref d] [] []) _ X.xe s1
  exact method_meetsIn F.slot_dict_items F.entry_dict_items rfl (PySem.evalArgs_none ⟨rfl, raw.typeIs, F.args_dict_items_1 _, _, meets_dict_items_raw d hs, ⟨es, ep, raw⟩, fin⟩)
end PV

/-! PV42: dicts of a slot whose keys are tuples of ints and strs; the walk over items. -/
namespace PV
open PySem PySem.Spec PyProof.Rows L2
variable [Tbl]
def keyDs : List D → Option (List Key)
  | [] => some []
  | d :: ds => match keyD d, keyDs ds with
    | some k, some ks => some (k :: ks)
    | _, _ => none
def keyT : D → Option (List Key)
  | .tup l => keyDs l
  | _ => none
def Key.dat : Key → D
  | .inl i => .int i
  | .inr s => .str s
abbrev kD (k : Key) : D := Key.dat k
abbrev kTup (k : List Key) : D := .tup (k.map Key.dat)
section
omit [Tbl]
variable {K : PySem.W.Frag} {F : Hp}
theorem keyDs_den : ∀ {ds : List D} {ks : List Key} {xs : List V}, keyDs ds = some ks → Dens K F ds xs → xs = ks.map kV
  | [], ks, xs, h, g => by cases h; exact g
  | d :: ds, ks, xs, h, ⟨v, r, e, h1, h2⟩ => by
    unfold keyDs at h
    split at h
    · rename_i k ks' q1 q2
      cases h
      rw [e, List.map_cons, key_den q1 h1, keyDs_den q2 h2]
    · cases h
theorem keyT_den {d : D} {k : List Key} {v : V} (h : keyT d = some k) (g : Den K F d v) : ∃ b, v = .ref b ∧ F b = some (.tup (k.map kV)) := by
  cases d <;> first | (cases h; done) | skip
  obtain ⟨a, xs, e1, e2, e3⟩ := g
  refine ⟨a, e1, ?_⟩
  rw [e2, keyDs_den h e3]
theorem dens_keys : ∀ (k : List Key), Dens K F (k.map Key.dat) (k.map kV)
  | [] => rfl
  | k :: ks => ⟨kV k, ks.map kV, rfl, by cases k <;> rfl, dens_keys ks⟩
def valT (l : List (List Key × D)) (k : List Key) : Option D := (l.find? fun kv => decide (kv.1 = k)).map (·.2)
def putT (l : List (List Key × D)) (k : List Key) (d : D) : List (List Key × D) := if (l.any fun kv => decide (kv.1 = k)) = true then l.map (fun kv => if kv.1 = k then (kv.1, d) else kv) else l ++ [(k, d)]
theorem DenT.len : ∀ {l : List (List Key × D)} {kvs : List (List Key × V)}, DenT K F l kvs → kvs.length = l.length
  | [], _, h => by rw [show _ = _ from h]; rfl
  | _ :: _, _, ⟨v, r, e, _, h⟩ => by rw [e, List.length_cons, List.length_cons, h.len]
theorem DenT.val {k : List Key} : ∀ {l : List (List Key × D)} {kvs : List (List Key × V)}, DenT K F l kvs → (valT l k = none ∧ valV kvs k = none) ∨ ∃ d v, valT l k = some d ∧ valV kvs k = some v ∧ Den K F d v
  | [], _, h => by rw [show _ = _ from h]; exact .inl ⟨rfl, rfl⟩
  | (k', d) :: l, _, ⟨v, r, e, h1, h2⟩ => by
    subst e
    by_cases q : k' = k
    · exact .inr ⟨d, v, by unfold valT; rw [List.find?_cons_of_pos (by simpa using q)]; rfl, by unfold valV; rw [List.find?_cons_of_pos (by simpa using q)]; rfl, h1⟩
    · have e1 : valT ((k', d) :: l) k = valT l k := by unfold valT; rw [List.find?_cons_of_neg (by simpa using q)]
      have e2 : valV ((k', v) :: r) k = valV r k := by unfold valV; rw [List.find?_cons_of_neg (by simpa using q)]
      rw [e1, e2]
      exact h2.val
theorem DenT.any {k : List Key} : ∀ {l : List (List Key × D)} {kvs : List (List Key × V)}, DenT K F l kvs → (kvs.any fun kv => decide (kv.1 = k)) = (l.any fun kv => decide (kv.1 = k))
  | [], _, h => by rw [show _ = _ from h]; rfl
  | (k', d) :: l, _, ⟨v, r, e, _, h⟩ => by subst e; rw [List.any_cons, List.any_cons, h.any]
theorem DenT.repl {k : List Key} {d : D} {v : V} (hd : Den K F d v) : ∀ {l : List (List Key × D)} {kvs : List (List Key × V)}, DenT K F l kvs → DenT K F (l.map fun kv => if kv.1 = k then (kv.1, d) else kv) (kvs.map fun kv => if kv.1 = k then (kv.1, v) else kv)
  | [], _, h => by rw [show _ = _ from h]; rfl
  | (k', d') :: l, _, ⟨v', r, e, h1, h2⟩ => by
    subst e
    rw [List.map_cons, List.map_cons]
    by_cases q : k' = k
    · simp only [if_pos q]
      exact ⟨v, _, rfl, hd, h2.repl hd⟩
    · simp only [if_neg q]
      exact ⟨v', _, rfl, h1, h2.repl hd⟩
theorem DenT.snoc {k : List Key} {d : D} {v : V} (hd : Den K F d v) : ∀ {l : List (List Key × D)} {kvs : List (List Key × V)}, DenT K F l kvs → DenT K F (l ++ [(k, d)]) (kvs ++ [(k, v)])
  | [], _, h => by rw [show _ = _ from h]; exact ⟨v, [], rfl, hd, rfl⟩
  | (k', d') :: l, _, ⟨v', r, e, h1, h2⟩ => by subst e; exact ⟨v', _, rfl, h1, h2.snoc hd⟩
theorem DenT.put {k : List Key} {d : D} {v : V} (hd : Den K F d v) {l : List (List Key × D)} {kvs : List (List Key × V)} (h : DenT K F l kvs) : DenT K F (putT l k d) (putK kvs k v) := by
  unfold putT putK
  rw [h.any]
  split
  · exact h.repl hd
  · exact h.snoc hd
theorem DenT.get : ∀ {l : List (List Key × D)} {kvs : List (List Key × V)} {i : Nat} {k : List Key} {d : D}, DenT K F l kvs → l[i]? = some (k, d) → ∃ v, kvs[i]? = some (k, v) ∧ Den K F d v
  | [], _, i, _, _, _, h => by simp at h
  | (k', d') :: l, _, 0, k, d, ⟨v, r, e, h1, _⟩, h => by
    have q : (k', d') = (k, d) := by simpa using h
    cases q
    rw [e]
    exact ⟨v, rfl, h1⟩
  | (k', d') :: l, _, i + 1, k, d, ⟨v, r, e, _, h2⟩, h => by
    obtain ⟨w, h3, h4⟩ := DenT.get (i := i) (k := k) (d := d) h2 (by simpa using h)
    rw [e]
    exact ⟨w, by simpa using h3, h4⟩
theorem mden_dcT {l : List (List Key × D)} {o : HO} (h : MDen K F (.dcT l) o) : ∃ kvs, o = .dT kvs ∧ DenT K F l kvs := by
  cases o <;> first | exact False.elim h | exact ⟨_, rfl, h⟩
end

/-! ### Rel -/
section
variable {K : PySem.W.Frag} {c : Cq} {F H : Hp} {σ : L2.St} {δ : DE}
/-- a tuple of the heap is taken among what stays -/
theorem Rel.adopt (r : Rel K c F H σ δ) {q : Addr} {xs : List V} (hq : H q = some (.tup xs)) : ∃ F', Rel K c F' H σ δ ∧ Same F F' ∧ F' q = some (.tup xs) := by
  cases hF : F q with
  | some o =>
    have := r.sub _ _ hF
    rw [hq] at this
    cases this
    exact ⟨F, r, .refl _, hF⟩
  | none =>
    have sF : Same F (upd F q (.tup xs)) := same_new hF
    refine ⟨upd F q (.tup xs), ⟨fun b x e => ?_, r.pres, r.low.trans sF, fun b x e => ?_, fun b x e => ⟨(r.gs b x e).1, ?_⟩, r.bor0, r.borD, r.binj, r.len, fun i s e => ?_, r.apart, r.tab.lay trivial⟩, sF, upd_same⟩
    · by_cases z : b = q
      · subst z; rw [upd_same] at e; cases e; exact hq
      · rw [upd_ne z] at e; exact r.sub _ _ e
    · by_cases z : b = q
      · subst z; rw [upd_same] at e; cases e; exact .inr (.inr ⟨_, rfl⟩)
      · rw [upd_ne z] at e; exact r.new _ _ e
    · rw [upd_ne (fun z => by subst z; have w := (r.gs b x e).1; rw [hq] at w; cases w; exact (r.tab.gnt _ _ e).nt)]; exact (r.gs b x e).2
    · have z := r.sl i s e
      cases s with
      | val d =>
        obtain ⟨v, e1, e2⟩ := z
        exact ⟨v, e1, Den.mono sF _ _ e2⟩
      | own m =>
        obtain ⟨a, o, e1, e2, e3, e4, e5⟩ := z
        refine ⟨a, o, e1, e2, e3.mono sF, ?_, e5⟩
        rw [upd_ne (fun w => by subst w; rw [hq] at e2; cases e2; exact e3.plg.nt)]; exact e4
      | bor m =>
        obtain ⟨hi, o, e1, e2, e3, e4, e5⟩ := z
        refine ⟨hi, o, e1, e2, e3.mono sF, ?_, e5⟩
        rw [upd_ne (fun w => by rw [w, hq] at e2; cases e2; exact e3.plg.nt)]; exact e4
/-- an own dict is locked, for good -/
theorem Rel.lockD (r : Rel K c F H σ δ) {i : Nat} {l : List (List Key × D)} (hi : δ[i]? = some (some (.own (.dcT l)))) :
    ∃ a kvs, σ[i]? = some (some (.ref a)) ∧ H a = some (.dT kvs) ∧ ∀ od, Rel K c (upd F a (.frz od (.dT kvs))) (upd H a (.frz od (.dT kvs))) σ (δ.set i (some (.val (.dcF l)))) ∧ Same F (upd F a (.frz od (.dT kvs))) ∧ Den K (upd F a (.frz od (.dT kvs))) (.dcF l) (.ref a) := by
  obtain ⟨a, o, e1, e2, e3, e4, e5, e6⟩ := r.own hi
  obtain ⟨kvs, rfl, e3⟩ := mden_dcT e3
  refine ⟨a, kvs, e1, e2, fun od => ?_⟩
  have hl : i < δ.length := (List.getElem?_eq_some_iff.mp hi).1
  have sF : Same F (upd F a (.frz od (.dT kvs))) := same_new e4
  have hden : Den K (upd F a (.frz od (.dT kvs))) (.dcF l) (.ref a) := ⟨a, od, kvs, rfl, upd_same, DenT.mono sF _ _ e3⟩
  have nbs : i ∉ c.bs := fun z => by
    obtain ⟨m, e⟩ := r.borD i z
    rw [hi] at e; cases e
  have ne_ : ∀ {j : Nat} {n : MD}, (δ.set i (some (.val (.dcF l))))[j]? = some (some (Sl.own n)) → i ≠ j ∧ δ[j]? = some (some (Sl.own n)) := fun {j n} g => by
    by_cases q : i = j
    · subst q
      rw [List.getElem?_set_self hl] at g; cases g
    · rw [List.getElem?_set_ne q] at g; exact ⟨q, g⟩
  have hne : ∀ {j : Nat} {s : Sl}, i ≠ j → δ[j]? = some (some s) → (∀ d, s ≠ .val d) → σ[j]? ≠ some (some (V.ref a)) := fun {j s} q e z0 z3 => by
    cases s with
    | val d => exact z0 d rfl
    | own n => exact q (r.apart i j a _ _ hi e e1 z3)
    | bor n =>
      obtain ⟨hb, _, w1, _⟩ := r.sl j _ e
      rw [getD_some w1] at z3; cases z3
      exact r.bor0 j hb e6
  refine ⟨⟨fun b x e => ?_, fun b x e q => ?_, r.low.trans sF, fun b x e => ?_, fun b x e => ⟨?_, ?_⟩, r.bor0, fun j hj => ?_, r.binj, by rw [List.length_set, r.len], fun j s e => ?_, fun j k b m1 n1 g1 g2 g3 g4 => ?_, ?_⟩, sF, hden⟩
  · by_cases q : b = a
    · subst q; rw [upd_same] at e ⊢; exact e
    · rw [upd_ne q] at e ⊢; exact r.sub _ _ e
  · rw [upd_ne (fun z => by subst z; rw [e6] at e; cases e)]; exact r.pres b x e q
  · by_cases q : b = a
    · subst q; exact .inr (.inl e6)
    · rw [upd_ne q] at e; exact r.new _ _ e
  · rw [upd_ne (fun z => by subst z; rw [e5] at e; cases e)]; exact (r.gs b x e).1
  · rw [upd_ne (fun z => by subst z; rw [e5] at e; cases e)]; exact (r.gs b x e).2
  · have : i ≠ j := fun q => nbs (q ▸ hj)
    rw [List.getElem?_set_ne this]; exact r.borD j hj
  · by_cases q : i = j
    · subst q
      rw [List.getElem?_set_self hl] at e
      cases e
      exact ⟨.ref a, by rw [e1]; rfl, hden⟩
    · rw [List.getElem?_set_ne q] at e
      refine (r.sl j s e).to sF (fun b x z1 z2 z0 z3 => ?_) fun b x z0 z3 z _ => ?_
      · rw [upd_ne (fun z => by subst z; exact hne q e z0 (getD_some z3))]; exact z2
      · rw [upd_ne (fun w => by subst w; exact hne q e z0 (getD_some z3))]; exact z
  · obtain ⟨_, h1⟩ := ne_ g1
    obtain ⟨_, h2⟩ := ne_ g2
    exact r.apart j k b _ _ h1 h2 g3 g4
  · exact (r.tab.upd (o' := .frz od (.dT kvs)) e2 trivial).lay trivial
end

/-! ### the operations -/
def dInT (neg : Bool) (i : Nat) (fk : DE → R D) : DE → R D := fun δ => (fk δ).bind fun k δ => match mutOf δ i, keyT k with
  | some (_, .dcT l), some kk => .ok (.bl (if neg = true then !(valT l kk).isSome else (valT l kk).isSome)) δ
  | _, _ => .stuck
def dPutT (i : Nat) (fk f : DE → R D) : DE → O := fun δ => bindS (f δ) fun d δ => match mutOf δ i with
  | some _ => bindS (fk δ) fun k δ => match mutOf δ i, keyT k with
    | some (s, .dcT l), some kk => if l.length < LIM then .nx (δ.set i (some (s.wr (.dcT (putT l kk d))))) else .stuck
    | _, _ => .stuck
  | none => .stuck
def dGetT (i : Nat) (fk : DE → R D) : DE → R D := fun δ => match mutOf δ i with
  | some _ => (fk δ).bind fun k δ => match mutOf δ i, keyT k with
    | some (_, .dcT l), some kk => R.of (valT l kk) δ
    | _, _ => .stuck
  | none => .stuck
def dOneT (fk f : DE → R D) : DE → R MD := fun δ => (fk δ).bind fun k δ => (f δ).bind fun d δ => match keyT k with
  | some kk => .ok (.dcT [(kk, d)]) δ
  | none => .stuck
def lockE (i : Nat) : DE → R D := fun δ => match δ[i]? with
  | some (some (.own (.dcT l))) => .ok (.dcF l) (δ.set i (some (.val (.dcF l))))
  | _ => .stuck
def itemsT (f : DE → R D) : DE → R (List D) := fun δ => (f δ).bind fun d δ => match d with
  | .dcF l => .ok (l.map fun kv => .tup [kTup kv.1, kv.2]) δ
  | _ => .stuck
section
variable {X : Cx} {W : WX} {pos : Pos}
theorem dgetT_of {c : Cq} {F H : Hp} {σ : L2.St} {δ : DE} {i : Nat} {s : Sl} {l : List (List Key × D)} {k : List Key} {b : Addr} (r : Rel X.K c F H σ δ) (q : mutOf δ i = some (s, .dcT l)) (hb : F b = some (.tup (k.map kV))) :
    ∃ a kvs, σ[i]? = some (some (.ref a)) ∧ H a = some (.dT kvs) ∧ DenT X.K F l kvs ∧ DGet H a (.ref b) (valV kvs k) := by
  obtain ⟨g1, g2⟩ := mutOf_some q
  obtain ⟨a, o, y1, y2, y3, y4⟩ := r.mutAt g1 g2
  obtain ⟨kvs, rfl, y3⟩ := mden_dcT y3
  exact ⟨a, kvs, y1, y2, y3, .t y2 (r.sub _ _ hb)⟩
theorem dT_some {F : Hp} {l : List (List Key × D)} {kvs : List (List Key × V)} {k : List Key} (y3 : DenT X.K F l kvs) : (valV kvs k).isSome = (valT l k).isSome := by
  rcases y3.val (k := k) with ⟨e1, e2⟩ | ⟨d, v, e1, e2, _⟩ <;> rw [e1, e2] <;> rfl
theorem PC.to {X : Cx} {op : CmpOp} {a b : Expr} {t t' : TE} (h : PC X op a b t) (i : ∀ σ H Q, t' σ H Q → t σ H Q) : PC X op a b t' := ⟨fun pins s σ H Q I z => h.run pins s σ H Q I (i σ H Q z)⟩
theorem ve_pc {op : CmpOp} {a b : Expr} {f : DE → R D} (h : PC X op a b (rdE X.K W f)) (h1 : behindInMarks op b = false := by rfl) : VE X W (.Compare a [op] [b] pos) f := pe_cmp h h1
theorem vt_pc {op : CmpOp} {a b : Expr} {f : DE → R D} (h : PC X op a b (rdE X.K W f)) (h1 : behindInMarks op b = false := by rfl) : VT X W (.Compare a [op] [b] pos) (tst f) := PT.to (pt_cmp h h1) fun _ _ _ z => rd_tst z
theorem vp_dinT (hu : X.A.units + 1 < cLine) (i : Nat) {x : Str} {px : Pos} {a : Expr} {fk : DE → R D} (hk : VE X W a fk) (hN : X.N[i]? = some x := by rfl) (hv : Vis X.env.scope x := by first | exact Or.inl rfl | exact Or.inr (Or.inl rfl) | exact Or.inr (Or.inr rfl)) (hd : (x == ("__debug__" : Str)) = false := by decide)
    (hcd : (x == ("__classdict__" : Str)) = false := by decide) : PC X .In a (.Name x px) (rdE X.K W (dInT false i fk)) := PC.to (pc_din hu hk (pe_var hN hv hd hcd)) fun σ H Q z => by
  refine z.first (DM := dnE X.K) fun c F H1 δ k v r1 d1 z1 => ?_
  split at z1
  · rename_i s l kk q1 q2
    obtain ⟨b, rfl, hb⟩ := keyT_den q2 d1
    obtain ⟨a, kvs, e1, e2, e3, e4⟩ := dgetT_of (k := kk) r1 q1 hb
    refine ⟨.ref a, e1, a, valV kvs kk, rfl, e4, ?_⟩
    rw [dT_some e3]; exact z1 _ F H1 r1 (.refl _) rfl
  · exact False.elim z1
theorem vp_dnotinT (hu : X.A.units + 1 < cLine) (i : Nat) {x : Str} {px : Pos} {a : Expr} {fk : DE → R D} (hk : VE X W a fk) (hN : X.N[i]? = some x := by rfl) (hv : Vis X.env.scope x := by first | exact Or.inl rfl | exact Or.inr (Or.inl rfl) | exact Or.inr (Or.inr rfl)) (hd : (x == ("__debug__" : Str)) = false := by decide)
    (hcd : (x == ("__classdict__" : Str)) = false := by decide) : PC X .NotIn a (.Name x px) (rdE X.K W (dInT true i fk)) := PC.to (pc_dnotin hu hk (pe_var hN hv hd hcd)) fun σ H Q z => by
  refine z.first (DM := dnE X.K) fun c F H1 δ k v r1 d1 z1 => ?_
  split at z1
  · rename_i s l kk q1 q2
    obtain ⟨b, rfl, hb⟩ := keyT_den q2 d1
    obtain ⟨a, kvs, e1, e2, e3, e4⟩ := dgetT_of (k := kk) r1 q1 hb
    refine ⟨.ref a, e1, a, valV kvs kk, rfl, e4, ?_⟩
    rw [dT_some e3]; exact z1 _ F H1 r1 (.refl _) rfl
  · exact False.elim z1
theorem ve_dgetT (hu : X.A.units + 1 < cLine) (i : Nat) {x : Str} {px : Pos} {ik : Expr} {fk : DE → R D} (hk : VE X W ik fk) (hs : NoSl ik) (hN : X.N[i]? = some x := by rfl) (hv : Vis X.env.scope x := by first | exact Or.inl rfl | exact Or.inr (Or.inl rfl) | exact Or.inr (Or.inr rfl)) (hd : (x == ("__debug__" : Str)) = false := by decide)
    (hcd : (x == ("__classdict__" : Str)) = false := by decide) : VE X W (.Subscript (.Name x px) ik pos) (dGetT i fk) := PE.to (pe_dget hu (pe_var hN hv hd hcd) hk hs) fun σ H Q z => by
  obtain ⟨c, F, δ, r, z⟩ := z
  unfold dGetT at z
  split at z
  · rename_i p q0
    obtain ⟨s0, m0⟩ := p
    obtain ⟨q1, q2⟩ := mutOf_some q0
    obtain ⟨a, o, h1, _⟩ := r.mutAt q1 q2
    refine ⟨.ref a, h1, ?_⟩
    refine aft.next (DM := dnE X.K) (f := fk) r z fun F2 H2 δ2 kd kv r2 s2 d2 z2 => ?_
    split at z2
    · rename_i s l kk q q'
      obtain ⟨b, rfl, hb⟩ := keyT_den q' d2
      obtain ⟨a', kvs, e1, e2, e3, e4⟩ := dgetT_of (k := kk) r2 q hb
      rw [h1] at e1; cases e1
      rcases e3.val (k := kk) with ⟨w1, w2⟩ | ⟨d, v, w1, w2, w3⟩
      · rw [w1] at z2; exact False.elim z2
      · rw [w1] at z2
        rw [w2] at e4
        exact ⟨a, v, rfl, e4, z2 _ F2 H2 r2 (.refl _) w3⟩
    · exact False.elim z2
  · exact False.elim z
theorem vs_dputT (hu : X.A.units + 1 < cLine) (i : Nat) {x : Str} {px pos' : Pos} {ik e : Expr} {fk f : DE → R D} (k : VE X W e f) (kk : VE X W ik fk) (hN : X.N[i]? = some x := by rfl) (hv : Vis X.env.scope x := by first | exact Or.inl rfl | exact Or.inr (Or.inl rfl) | exact Or.inr (Or.inr rfl)) (hd : (x == ("__debug__" : Str)) = false := by decide)
    (hcd : (x == ("__classdict__" : Str)) = false := by decide) (hs : swapsWith e (some (.Subscript (.Name x px) ik pos')) pos.line X.env = pure false := by rfl) :
    VS X W (.Assign [.Subscript (.Name x px) ik pos'] e pos) (dPutT i fk f) := PS.to (ps_dput hu (pe_var hN hv hd hcd) kk k hs) fun N σ H z => by
  refine z.first (DM := dnE X.K) fun c F H1 δ d v r1 d1 z1 => ?_
  split at z1
  · rename_i p q0
    obtain ⟨s0, m0⟩ := p
    obtain ⟨q1, q2⟩ := mutOf_some q0
    obtain ⟨a, o, h1, _⟩ := r1.mutAt q1 q2
    refine ⟨.ref a, h1, ?_⟩
    refine aftS.next (DM := dnE X.K) (f := fk) (g := fun k δ => match mutOf δ i, keyT k with
      | some (s, .dcT l), some kk => if l.length < LIM then .nx (δ.set i (some (s.wr (.dcT (putT l kk d))))) else .stuck
      | _, _ => .stuck) r1 z1 fun F2 H2 δ2 kd kv r2 s2 d2 z2 => ?_
    split at z2
    · rename_i s l kk q q'
      obtain ⟨bk, rfl, hbk⟩ := keyT_den q' d2
      obtain ⟨g1, g2⟩ := mutOf_some q
      obtain ⟨b, o, y1, y2, y3, y4⟩ := r2.mutAt g1 g2
      rw [h1] at y1; cases y1
      obtain ⟨kvs, rfl, y3⟩ := mden_dcT y3
      split at z2
      · rename_i hl
        refine ⟨a, _, rfl, ?_, z2 σ F2 _ (r2.write (m' := .dcT (putT l kk d)) (o' := .dT (putK kvs kk v)) g1 g2 h1 (DenT.put (Den.mono s2 _ _ d1) y3)) (.refl _)⟩
        exact .t y2 (r2.sub _ _ hbk) (by rw [y3.len]; exact Nat.lt_of_lt_of_le hl (by decide))
      · exact False.elim z2
    · exact False.elim z2
  · exact False.elim z1
theorem ve_lock (i : Nat) {x : Str} {px : Pos} (hN : X.N[i]? = some x := by rfl) (hv : Vis X.env.scope x := by first | exact Or.inl rfl | exact Or.inr (Or.inl rfl) | exact Or.inr (Or.inr rfl)) (hd : (x == ("__debug__" : Str)) = false := by decide)
    (hcd : (x == ("__classdict__" : Str)) = false := by decide) : VE X W (.Name x px) (lockE i) := PE.to (pe_lockV (pe_var hN hv hd hcd)) fun σ H Q z => by
  obtain ⟨c, F, δ, r, z⟩ := z
  unfold lockE at z
  split at z
  · rename_i l q
    obtain ⟨a, kvs, e1, e2, e3⟩ := r.lockD q
    refine ⟨.ref a, e1, a, kvs, rfl, e2, fun od => ?_⟩
    obtain ⟨g1, g2, g3⟩ := e3 od
    exact z _ _ _ g1 g2 g3
  · exact False.elim z
theorem vn_dOneT {k e : Expr} {fk f : DE → R D} (hu : X.A.units + 1 < cLine) (hk : VE X W k fk) (he : VE X W e f) : VN X W (.Dict [some k] [e] pos) (dOneT fk f) := PE.to (pe_disp1T hu hk he) fun σ H Q z p hp => by
  obtain ⟨c, F, δ, r, z⟩ := z
  have h4 : c.G p = none := r.freeG hp
  have h5 : c.H0 p = none := r.free hp
  have rt := r.tmp (o := .dT []) hp
  have hown : ∀ (j : Nat) (n : MD), δ[j]? = some (some (Sl.own n)) → σ[j]? ≠ some (some (V.ref p)) := fun j n e q => by
    obtain ⟨a, o, e1, e2, _⟩ := r.own e
    rw [q] at e1; cases e1
    rw [hp] at e2; cases e2
  have hb : ∀ i ∈ c.bs, c.adr i ≠ p := fun i hi q => r.bor0 i hi (by rw [q]; exact h5)
  have rh := rt.hold upd_same (r.freeF hp) hown hb
  refine ⟨_, F, δ, rh, ?_⟩
  unfold dOneT at z
  cases q : fk δ with
  | stuck => rw [q] at z; exact z
  | exc x δ2 =>
    rw [q] at z
    intro cls od F' H' r' s' xo
    exact z cls od F' H' (r'.drop h4).1 s' xo
  | ok kd δ2 =>
    rw [q] at z
    replace z : aft X.K W (dnN X.K) c F σ Q ((f δ2).bind fun d δ => match keyT kd with
      | some kk => .ok (.dcT [(kk, d)]) δ
      | none => .stuck) := z
    intro kv F' H' r' s' dk
    refine ⟨_, F', δ2, r', ?_⟩
    cases q2 : f δ2 with
    | stuck => rw [q2] at z; exact z
    | exc x δ3 =>
      rw [q2] at z
      intro cls od F2 H2 r2 s2 xo
      exact z cls od F2 H2 (r2.drop h4).1 (s'.trans s2) xo
    | ok d δ3 =>
      rw [q2] at z
      replace z : aft X.K W (dnN X.K) c F σ Q (match keyT kd with
        | some kk => .ok (.dcT [(kk, d)]) δ3
        | none => .stuck) := z
      intro v F2 H2 r2 s2 dv
      split at z
      · rename_i kk qk
        obtain ⟨b, rfl, hbk⟩ := keyT_den qk (Den.mono s2 _ _ dk)
        obtain ⟨r3, g1, g2, g3, g4⟩ := r2.drop h4
        refine ⟨b, kk, rfl, g1, r3.sub _ _ hbk, ?_⟩
        have rp := (r2.holdPut (o' := .dT [(kk, v)]) h4 h5).drop h4
        obtain ⟨r4, k1, k2, k3, k4⟩ := rp
        exact z _ F2 _ r4 (s'.trans s2) ⟨p, _, rfl, k1, ⟨v, [], rfl, dv, rfl⟩, k2, h4, h5, k3⟩
      · exact False.elim z
theorem it_itemsT {K : PySem.W.Frag} {F0 : Hp} {a : Addr} {od : Obj} {kvs : List (List Key × V)} {l : List (List Key × D)} (h : F0 a = some (.frz od (.dT kvs))) (d : DenT K F0 l kvs) : ItF K F0 (ItiT a od kvs) (l.map fun kv => .tup [kTup kv.1, kv.2]) := by
  intro c F H σ δ i r s
  have h1 : H a = some (.frz od (.dT kvs)) := r.sub _ _ (s _ _ h)
  refine ⟨fun d0 e => ?_, fun e => ⟨h1, by rw [e, List.length_map, d.len]; exact Nat.le_refl _⟩⟩
  rw [List.getElem?_map] at e
  cases q : l[i]? with
  | none => rw [q] at e; cases e
  | some p =>
    rw [q] at e
    cases e
    obtain ⟨k, x⟩ := p
    obtain ⟨v, g1, g2⟩ := d.get q
    refine ⟨⟨h1, (List.getElem?_eq_some_iff.mp g1).1⟩, fun x' H1 y0 => ?_⟩
    obtain ⟨T, k', v', q', w1, rfl, w3, w4, rfl⟩ := y0
    rw [g1] at w1
    cases w1
    obtain ⟨F1, ra, sa, ha⟩ := r.adopt w4
    have sl := same_new (o := HO.tup [V.ref q', v]) (ra.freeF w3)
    refine ⟨_, ra.lay w3, sa.trans sl, T, _, rfl, upd_same, ?_⟩
    exact Dens.cons ⟨q', _, rfl, sl _ _ ha, dens_keys k⟩ (Dens.one (Den.mono (s.trans (sa.trans sl)) _ _ g2))
theorem vi_itemsT {e : Expr} {f : DE → R D} {apos cpos : Pos} {elts : List Expr} {kk : Nat} {tpos : Pos} (he : VE X W e f) (hbase : attributeBase e "items" X.env (eval e X.env) = eval e X.env := by rfl) (hline : (apos.endLine == cpos.line) = true := by rfl) :
    VI X W (.Tuple elts kk tpos) (.Call (.Attribute e "items" apos) [] [] cpos) (itemsT f) := PI.to (pi_itemsT he hbase hline) fun σ H R z => by
  refine z.first (DM := dnE X.K) fun c F H1 δ d v r1 d1 z1 => ?_
  split at z1
  · rename_i l
    obtain ⟨a, od, kvs, rfl, h1, h2⟩ := d1
    exact ⟨a, od, kvs, rfl, r1.sub _ _ h1, z1 _ F H1 r1 (.refl _) (it_itemsT h1 h2)⟩
  · exact False.elim z1
end
end PV

/-! PV43: *e in displays; membership in a constant tuple of the module. -/
namespace PV
open PySem PySem.Spec PyProof.Rows L2
variable [Tbl]
def starA (f : DE → R D) (r : DE → R (List Arg)) : DE → R (List Arg) := fun δ => (f δ).bind fun d δ => match itemsOf d with
  | some l => (r δ).bind fun as δ => .ok (l.map Arg.val ++ as) δ
  | none => .stuck
section
omit [Tbl]
theorem argsD_app {K : PySem.W.Frag} {F : Hp} {σ : L2.St} : ∀ {l : List D} {xs : List V} {as : List Arg} {vs : List V}, Dens K F l xs → ArgsD K F σ as vs → ArgsD K F σ (l.map Arg.val ++ as) (xs ++ vs)
  | [], _, _, _, h, g => by rw [show _ = _ from h]; exact g
  | _ :: _, _, _, _, ⟨v, r, e, h1, h2⟩, g => by rw [e]; exact ⟨v, _, rfl, h1, argsD_app h2 g⟩
end
omit [Tbl] in
theorem inF_strC {k : Str} {l : List Str} : inF false (.str k) (.ctp (l.map D.str)) = some (.bl (decide (k ∈ l))) := (inF_strT (k := k) (l := l))
section
variable {X : Cx} {W : WX} {e : Expr} {es : List Expr} {f : DE → R D} {r : DE → R (List Arg)} {p : Pos}
theorem items_seq {K : PySem.W.Frag} {F H : Hp} {d : D} {l : List D} {v : V} (s : Same F H) (h : itemsOf d = some l) (g : Den K F d v) : ∃ a xs, v = .ref a ∧ (SqT K H a xs ∨ SqL K H a xs) ∧ Dens K F l xs := by
  cases d <;> first | (cases h; done) | skip
  · obtain ⟨a, xs, e, h1, h2⟩ := g; cases h; exact ⟨a, xs, e, .inl (sqt (s _ _ h1)), h2⟩
  · obtain ⟨a, xs, e, h1, h2⟩ := g; cases h; exact ⟨a, xs, e, .inl (PV.Same.tup s h1), h2⟩
  · obtain ⟨a, xs, e, h1, h2⟩ := g; cases h; exact ⟨a, xs, e, .inr (.inl (.inl (s _ _ h1))), h2⟩
theorem va_star (h : VE X W e f) (k : VA X W es r) (hs : starEach (.Starred e p :: es) X.env = (true, eval e X.env) :: starEach es X.env := by rfl) : VA X W (.Starred e p :: es) (starA f r) := PA.to (StX.pa_star h k hs) fun σ H Q z => by
  refine z.first (DM := dnE X.K) fun c F H1 δ d v r1 d1 z1 => ?_
  split at z1
  · rename_i l q
    obtain ⟨a, xs, rfl, h1, h2⟩ := items_seq r1.sub q d1
    refine ⟨a, xs, rfl, h1, ?_⟩
    refine aft.next (DM := dnA X.K) (f := r) r1 z1 fun F2 H2 δ2 as vs r2 s2 d2 z2 => ?_
    exact z2 _ F2 H2 r2 (.refl _) (argsD_app (Dens.mono s2 _ _ h2) d2)
  · exact False.elim z1
/-- a part of a text -/
def slS (fa : DE → R D) (fl fh : DE → R (Option Int)) : DE → R D := fun δ => (fa δ).bind fun x δ => (fl δ).bind fun lo δ => (fh δ).bind fun hi δ => match x with
  | .str z => if z.length ≤ LIM then .ok (.str (cutS z lo hi)) δ else .stuck
  | _ => .stuck
theorem ve_sliceS {a : Expr} {fa : DE → R D} {pos : Pos} {lo hi : Option Expr} {fl fh : DE → R (Option Int)} {p2 : Pos} (ha : VE X W a fa) (hl : VO X W lo fl) (hh : VO X W hi fh) : VE X W (.Subscript a (.Slice lo hi none p2) pos) (slS fa fl fh) := PE.to (pe_slice sl_str ha hl hh) fun σ H Q z => by
  refine z.first (DM := dnE X.K) fun c F H1 δ x v r1 d1 z1 => ?_
  refine z1.next (DM := dnO) r1 fun F2 H2 δ2 lo v2 r2 s2 d2 z2 => ?_
  cases (show v2 = lo from d2)
  refine z2.next (DM := dnO) r2 fun F3 H3 δ3 hi v3 r3 s3 d3 z3 => ?_
  cases (show v3 = hi from d3)
  cases x <;> first | (exact False.elim z3; done) | skip
  rename_i z
  cases (show v = .str z from d1)
  replace z3 : aft X.K W (dnE X.K) c F3 σ Q (if z.length ≤ LIM then .ok (.str (cutS z lo hi)) δ3 else .stuck) := z3
  split at z3
  · rename_i hz
    exact ⟨z, rfl, Nat.le_trans hz (by decide), z3 _ F3 H3 r3 (.refl _) rfl⟩
  · exact False.elim z3
end
end PV

/-! PV44: readings of PV41..PV43 evaluated by simp. -/
namespace PV
open PySem PySem.Spec PyProof.Rows L2
section
variable {δ : DE} {i : Nat} {d e : D} {f g fk : DE → R D} {r : DE → R (List Arg)} {l : List D} {as : List Arg} {kk : List Key} {t : List (List Key × D)} {s : Sl} {neg : Bool}
def k_star1 (l : List D) (as : List Arg) (δ : DE) : R (List Arg) := .ok (l.map Arg.val ++ as) δ
def k_star2 (r : DE → R (List Arg)) (d : D) (δ : DE) : R (List Arg) := match itemsOf d with
  | some l => (r δ).bind (k_star1 l)
  | none => .stuck
@[simp] theorem ev_starA : starA f r δ = (f δ).bind (k_star2 r) := rfl
@[simp] theorem ev_kstarT : k_star2 r (.tup l) δ = (r δ).bind (k_star1 l) := rfl
@[simp] theorem ev_kstarL : k_star2 r (.lst l) δ = (r δ).bind (k_star1 l) := rfl
@[simp] theorem ev_kstar1 : k_star1 l as δ = .ok (l.map Arg.val ++ as) δ := rfl
@[simp] theorem valsOf_app : ∀ {l : List D}, valsOf (l.map Arg.val ++ as) = (valsOf as).map (l ++ ·)
  | [] => by simp
  | d :: l => by rw [List.map_cons, List.cons_append, valsOf_cons, valsOf_app (l := l)]; cases valsOf as <;> rfl
@[simp] theorem valsOf_comp {α : Type} {g : α → D} {l : List α} : valsOf (l.map (Arg.val ∘ g) ++ as) = (valsOf as).map (l.map g ++ ·) := by
  rw [← List.map_map]; exact valsOf_app
theorem keyDs_dat : ∀ (k : List Key), keyDs (k.map Key.dat) = some k
  | [] => rfl
  | k :: ks => by
    rw [List.map_cons]
    unfold keyDs
    rw [keyDs_dat ks]
    cases k <;> rfl
@[simp] theorem keyT_dat : keyT (.tup (kk.map Key.dat)) = some kk := keyDs_dat kk
def dInK (neg : Bool) (o : Option (Sl × MD)) (q : Option (List Key)) (δ : DE) : R D := match o, q with
  | some (_, .dcT l), some kk => .ok (.bl (if neg = true then !(valT l kk).isSome else (valT l kk).isSome)) δ
  | _, _ => .stuck
def k_dInT (neg : Bool) (i : Nat) (k : D) (δ : DE) : R D := dInK neg (mutOf δ i) (keyT k) δ
@[simp] theorem ev_dInT : dInT neg i fk δ = (fk δ).bind (k_dInT neg i) := rfl
@[simp] theorem ev_kdInT : k_dInT neg i d δ = dInK neg (mutOf δ i) (keyT d) δ := rfl
@[simp] theorem dInK_t : dInK true (some (s, .dcT t)) (some kk) δ = .ok (.bl (!(valT t kk).isSome)) δ := rfl
@[simp] theorem dInK_f : dInK false (some (s, .dcT t)) (some kk) δ = .ok (.bl (valT t kk).isSome) δ := rfl
def dPutK (o : Option (Sl × MD)) (q : Option (List Key)) (i : Nat) (d : D) (δ : DE) : O := match o, q with
  | some (s, .dcT l), some kk => if l.length < LIM then .nx (δ.set i (some (s.wr (.dcT (putT l kk d))))) else .stuck
  | _, _ => .stuck
def k_dPut1 (i : Nat) (d k : D) (δ : DE) : O := dPutK (mutOf δ i) (keyT k) i d δ
def dPutO (o : Option (Sl × MD)) (i : Nat) (fk : DE → R D) (d : D) (δ : DE) : O := match o with
  | some _ => bindS (fk δ) (k_dPut1 i d)
  | none => .stuck
def k_dPut (i : Nat) (fk : DE → R D) (d : D) (δ : DE) : O := dPutO (mutOf δ i) i fk d δ
@[simp] theorem ev_dPutT : dPutT i fk f δ = bindS (f δ) (k_dPut i fk) := rfl
@[simp] theorem ev_kdPut : k_dPut i fk d δ = dPutO (mutOf δ i) i fk d δ := rfl
@[simp] theorem dPutO_some {p : Sl × MD} : dPutO (some p) i fk d δ = bindS (fk δ) (k_dPut1 i d) := rfl
@[simp] theorem ev_kdPut1 : k_dPut1 i d e δ = dPutK (mutOf δ i) (keyT e) i d δ := rfl
@[simp] theorem dPutK_some : dPutK (some (s, .dcT t)) (some kk) i d δ = if t.length < LIM then .nx (δ.set i (some (s.wr (.dcT (putT t kk d))))) else .stuck := rfl
def dGetK (o : Option (Sl × MD)) (q : Option (List Key)) (δ : DE) : R D := match o, q with
  | some (_, .dcT l), some kk => R.of (valT l kk) δ
  | _, _ => .stuck
def k_dGet1 (i : Nat) (k : D) (δ : DE) : R D := dGetK (mutOf δ i) (keyT k) δ
def dGetO (o : Option (Sl × MD)) (i : Nat) (fk : DE → R D) (δ : DE) : R D := match o with
  | some _ => (fk δ).bind (k_dGet1 i)
  | none => .stuck
@[simp] theorem ev_dGetT : dGetT i fk δ = dGetO (mutOf δ i) i fk δ := rfl
@[simp] theorem dGetO_some {p : Sl × MD} : dGetO (some p) i fk δ = (fk δ).bind (k_dGet1 i) := rfl
@[simp] theorem ev_kdGet1 : k_dGet1 i d δ = dGetK (mutOf δ i) (keyT d) δ := rfl
@[simp] theorem dGetK_some : dGetK (some (s, .dcT t)) (some kk) δ = R.of (valT t kk) δ := rfl
def dOneK (q : Option (List Key)) (d : D) (δ : DE) : R MD := match q with
  | some kk => .ok (.dcT [(kk, d)]) δ
  | none => .stuck
def k_dOne1 (k d : D) (δ : DE) : R MD := dOneK (keyT k) d δ
def k_dOne (f : DE → R D) (k : D) (δ : DE) : R MD := (f δ).bind (k_dOne1 k)
@[simp] theorem ev_dOneT : dOneT fk f δ = (fk δ).bind (k_dOne f) := rfl
@[simp] theorem ev_kdOne : k_dOne f d δ = (f δ).bind (k_dOne1 d) := rfl
@[simp] theorem ev_kdOne1 : k_dOne1 d e δ = dOneK (keyT d) e δ := rfl
@[simp] theorem dOneK_some : dOneK (some kk) d δ = .ok (.dcT [(kk, d)]) δ := rfl
def lockK (o : Option (Option Sl)) (i : Nat) (δ : DE) : R D := match o with
  | some (some (.own (.dcT l))) => .ok (.dcF l) (δ.set i (some (.val (.dcF l))))
  | _ => .stuck
@[simp] theorem ev_lockE : lockE i δ = lockK δ[i]? i δ := rfl
@[simp] theorem lockK_own : lockK (some (some (.own (.dcT t)))) i δ = .ok (.dcF t) (δ.set i (some (.val (.dcF t)))) := rfl
def k_items (d : D) (δ : DE) : R (List D) := match d with
  | .dcF l => .ok (l.map fun kv => .tup [kTup kv.1, kv.2]) δ
  | _ => .stuck
@[simp] theorem ev_itemsT : itemsT f δ = (f δ).bind k_items := rfl
@[simp] theorem ev_kitems : k_items (.dcF t) δ = .ok (t.map fun kv => .tup [kTup kv.1, kv.2]) δ := rfl
@[simp] theorem ev_whileS {n : Nat} {c : DE → R Bool} {b : DE → O} : whileS n c b δ = whileF c b n δ := rfl
def slSK (lo : Option Int) (x : D) (hi : Option Int) (δ : DE) : R D := match x with
  | .str z => if z.length ≤ LIM then .ok (.str (cutS z lo hi)) δ else .stuck
  | _ => .stuck
def k_slS1 (x : D) (lo : Option Int) (hi : Option Int) (δ : DE) : R D := slSK lo x hi δ
def k_slS2 (fh : DE → R (Option Int)) (x : D) (lo : Option Int) (δ : DE) : R D := (fh δ).bind (k_slS1 x lo)
def k_slS3 (fl fh : DE → R (Option Int)) (x : D) (δ : DE) : R D := (fl δ).bind (k_slS2 fh x)
@[simp] theorem ev_slS {fl fh : DE → R (Option Int)} : slS f fl fh δ = (f δ).bind (k_slS3 fl fh) := rfl
@[simp] theorem ev_kslS3 {fl fh : DE → R (Option Int)} : k_slS3 fl fh d δ = (fl δ).bind (k_slS2 fh d) := rfl
@[simp] theorem ev_kslS2 {fh : DE → R (Option Int)} {lo : Option Int} : k_slS2 fh d lo δ = (fh δ).bind (k_slS1 d lo) := rfl
@[simp] theorem ev_kslS1 {lo hi : Option Int} {z : Str} : k_slS1 (.str z) lo hi δ = if z.length ≤ LIM then .ok (.str (cutS z lo hi)) δ else .stuck := rfl
end

/-! ### items of a slot's list, x += y -/
section
variable {δ : DE} {i : Nat} {d e : D} {f : DE → R D} {s : Sl} {l : List D} {o : D → D → Option D}
def ixSK (p : Option (Sl × MD)) (k : D) (δ : DE) : R D := match p, k with
  | some (_, .lst l), .int k => R.of (atI l k) δ
  | _, _ => .stuck
def k_ixS (i : Nat) (k : D) (δ : DE) : R D := ixSK (mutOf δ i) k δ
def ixSO (p : Option (Sl × MD)) (i : Nat) (f : DE → R D) (δ : DE) : R D := match p with
  | some _ => (f δ).bind (k_ixS i)
  | none => .stuck
@[simp] theorem ev_ixSl : ixSl i f δ = ixSO (mutOf δ i) i f δ := rfl
@[simp] theorem ixSO_some {p : Sl × MD} : ixSO (some p) i f δ = (f δ).bind (k_ixS i) := rfl
@[simp] theorem ev_kixS : k_ixS i d δ = ixSK (mutOf δ i) d δ := rfl
@[simp] theorem ixSK_some {k : Int} : ixSK (some (s, .lst l)) (.int k) δ = R.of (atI l k) δ := rfl
def augO (z : Option D) (i : Nat) (δ : DE) : O := match z with
  | some z => match setSl i (.val z) δ with
    | some δ => .nx δ
    | none => .stuck
  | none => .stuck
def k_aug (i : Nat) (o : D → D → Option D) (x y : D) (δ : DE) : O := augO (o x y) i δ
def augA (p : Option (Option Sl)) (i : Nat) (o : D → D → Option D) (f : DE → R D) (δ : DE) : O := match p with
  | some (some (.val x)) => bindS (f δ) (k_aug i o x)
  | _ => .stuck
@[simp] theorem ev_augS : augS i o f δ = augA δ[i]? i o f δ := rfl
@[simp] theorem augA_val : augA (some (some (.val d))) i o f δ = bindS (f δ) (k_aug i o d) := rfl
@[simp] theorem ev_kaug : k_aug i o d e δ = augO (o d e) i δ := rfl
@[simp] theorem augO_some : augO (some d) i δ = stK (setSl i (.val d) δ) := rfl
@[simp] theorem op_iadd {a b : Int} : iadd (.int a) (.int b) = some (.int (a + b)) := rfl
end
/-! ### tables -/
/-- a table of runs, by states -/
abbrev Tab := List (List Key × List Int)
abbrev runD (l : List Int) : D := .tup (l.map D.int)
def tabD (t : Tab) : List (List Key × D) := t.map fun p => (p.1, runD p.2)
def keysT (t : Tab) : List (List Key) := t.map (·.1)
theorem tabD_len (t : Tab) : (tabD t).length = t.length := List.length_map _
theorem val_tab {k : List Key} : ∀ {t : Tab}, valT (tabD t) k = (t.find? fun p => decide (p.1 = k)).map fun p => runD p.2
  | [] => rfl
  | p :: t => by
    unfold valT tabD
    rw [List.map_cons]
    by_cases q : p.1 = k
    · rw [List.find?_cons_of_pos (by simpa using q), List.find?_cons_of_pos (by simpa using q)]; rfl
    · rw [List.find?_cons_of_neg (by simpa using q), List.find?_cons_of_neg (by simpa using q)]
      exact val_tab (t := t)
theorem val_tab_some {k : List Key} {t : Tab} : (valT (tabD t) k).isSome = true ↔ k ∈ keysT t := by
  rw [val_tab, Option.isSome_map]
  induction t with
  | nil => simp [keysT]
  | cons p t ih =>
    by_cases q : p.1 = k
    · rw [List.find?_cons_of_pos (by simpa using q)]
      simp [keysT, q]
    · rw [List.find?_cons_of_neg (by simpa using q), ih]
      have q' : ¬ k = p.1 := fun z => q z.symm
      simp [keysT, q']
theorem val_tab_no {k : List Key} {t : Tab} (h : k ∉ keysT t) : (valT (tabD t) k).isSome = false := by
  rw [Bool.eq_false_iff]
  exact fun z => h (val_tab_some.mp z)
theorem val_tab_at {k : List Key} {run : List Int} : ∀ {t : Tab} {i : Nat}, (keysT t).Nodup → t[i]? = some (k, run) → valT (tabD t) k = some (runD run)
  | [], i, _, h => by simp at h
  | p :: t, 0, _, h => by
    have e : p = (k, run) := by simpa using h
    rw [val_tab, List.find?_cons_of_pos (by simp [e]), e]; rfl
  | p :: t, i + 1, hn, h => by
    have h : t[i]? = some (k, run) := by simpa using h
    have hm : k ∈ keysT t := List.mem_map.mpr ⟨(k, run), List.mem_of_getElem? h, rfl⟩
    have hn : p.1 ∉ keysT t ∧ (keysT t).Nodup := by simpa [keysT] using hn
    have q : ¬ p.1 = k := fun z => hn.1 (z ▸ hm)
    have ih := val_tab_at hn.2 h
    rw [val_tab] at ih ⊢
    rw [List.find?_cons_of_neg (by simpa using q)]
    exact ih
theorem put_tab {k : List Key} {run : List Int} {t : Tab} (h : k ∉ keysT t) : putT (tabD t) k (runD run) = tabD (t ++ [(k, run)]) := by
  unfold putT
  have e : ((tabD t).any fun kv => decide (kv.1 = k)) = false := by
    rw [Bool.eq_false_iff]
    intro z
    obtain ⟨x, hx, hk⟩ := List.any_eq_true.mp z
    obtain ⟨p, hp, rfl⟩ := List.mem_map.mp hx
    exact h (List.mem_map.mpr ⟨p, hp, by simpa using hk⟩)
  rw [e, if_neg Bool.false_ne_true]
  unfold tabD
  rw [List.map_append]; rfl
/-- one way on from a state that was reached by a run -/
noncomputable def grow (run : List Int) (t : Tab) (p : Int × List Key) : Tab := @ite _ (p.2 ∈ keysT t) (Classical.propDecidable _) t (t ++ [(p.2, run ++ [p.1])])
noncomputable def growAll (run : List Int) (t : Tab) (ms : List (Int × List Key)) : Tab := ms.foldl (grow run) t
noncomputable def bfs (mv : List Key → List (Int × List Key)) : Nat → Nat → Tab → Tab
  | 0, _, t => t
  | n + 1, i, t => match t[i]? with
    | some p => bfs mv n (i + 1) (growAll p.2 t (mv p.1))
    | none => t
theorem grow_pre {run : List Int} {t : Tab} {p : Int × List Key} {i : Nat} {x : List Key × List Int} (h : t[i]? = some x) : (grow run t p)[i]? = some x := by
  unfold grow
  split
  · exact h
  · rw [List.getElem?_append_left (List.getElem?_eq_some_iff.mp h).1]; exact h
theorem growAll_pre {run : List Int} {i : Nat} {x : List Key × List Int} : ∀ {ms : List (Int × List Key)} {t : Tab}, t[i]? = some x → (growAll run t ms)[i]? = some x
  | [], t, h => h
  | m :: ms, t, h => growAll_pre (ms := ms) (t := grow run t m) (grow_pre h)
theorem grow_nodup {run : List Int} {t : Tab} {p : Int × List Key} (h : (keysT t).Nodup) : (keysT (grow run t p)).Nodup := by
  unfold grow
  split
  · exact h
  · rename_i q
    unfold keysT at *
    rw [List.map_append]
    refine List.nodup_append.mpr ⟨h, by simp, fun a ha b hb => ?_⟩
    have : b = p.2 := by simpa using hb
    subst this
    exact fun z => q (z ▸ ha)
theorem growAll_nodup {run : List Int} : ∀ {ms : List (Int × List Key)} {t : Tab}, (keysT t).Nodup → (keysT (growAll run t ms)).Nodup
  | [], t, h => h
  | m :: ms, t, h => growAll_nodup (ms := ms) (t := grow run t m) (grow_nodup h)
theorem grow_all {P : List Key → List Int → Prop} {run : List Int} {t : Tab} {p : Int × List Key} (h : ∀ x ∈ t, P x.1 x.2) (hp : P p.2 (run ++ [p.1])) : ∀ x ∈ grow run t p, P x.1 x.2 := by
  unfold grow
  split
  · exact h
  · intro x hx
    rcases List.mem_append.mp hx with hx | hx
    · exact h x hx
    · have : x = (p.2, run ++ [p.1]) := by simpa using hx
      rw [this]; exact hp
theorem growAll_all {P : List Key → List Int → Prop} {run : List Int} : ∀ {ms : List (Int × List Key)} {t : Tab}, (∀ x ∈ t, P x.1 x.2) → (∀ p ∈ ms, P p.2 (run ++ [p.1])) → ∀ x ∈ growAll run t ms, P x.1 x.2
  | [], t, h, _ => h
  | m :: ms, t, h, hp => growAll_all (ms := ms) (t := grow run t m) (grow_all h (hp m List.mem_cons_self)) fun p hp' => hp p (List.mem_cons_of_mem _ hp')
theorem grow_len {run : List Int} {t : Tab} {p : Int × List Key} : t.length ≤ (grow run t p).length := by
  unfold grow
  split
  · exact Nat.le_refl _
  · rw [List.length_append]; omega
theorem growAll_len {run : List Int} : ∀ {ms : List (Int × List Key)} {t : Tab}, t.length ≤ (growAll run t ms).length
  | [], t => Nat.le_refl _
  | m :: ms, t => Nat.le_trans grow_len (growAll_len (ms := ms))
/-- numbers below a bound, none twice -/
theorem nodup_le : ∀ (n : Nat) (l : List Nat), l.Nodup → (∀ x ∈ l, x < n) → l.length ≤ n
  | 0, l, _, h => by
    cases l with
    | nil => exact Nat.le_refl _
    | cons x l => exact absurd (h x List.mem_cons_self) (Nat.not_lt_zero _)
  | n + 1, l, hn, h => by
    have ih := nodup_le n (l.erase n) (hn.erase n) fun x hx => by
      have h1 := (hn.mem_erase_iff).mp hx
      have h2 := h x h1.2
      have h3 := h1.1
      omega
    by_cases hm : n ∈ l
    · rw [List.length_erase_of_mem hm] at ih
      omega
    · rw [List.erase_of_not_mem hm] at ih
      omega
end PV

/-! PV45: sorted(d), d a dict whose keys are tuples of as many ints, of any number. -/
namespace PV
open PySem PySem.Spec PyProof.Rows L2
section
variable {prog : Program} {w : World} {A : Around} {E : Value → Shared → Prop} {s : Shared}
theorem swo_key {α : Type} (r : α → Int) : SrtO.Swo fun v u => decide (r v < r u) := by
  refine ⟨fun x y h => ?_, fun x y z h1 h2 => ?_⟩
  · have a := of_decide_eq_true h
    exact decide_eq_false (by omega)
  · have a := of_decide_eq_false h1
    have b := of_decide_eq_false h2
    exact decide_eq_false (by omega)
theorem tup_cmp {vs : List Value} {d : Nat} {B : Int} {r : Value → Int} (x : TS.TupsOk s.heap d B vs) (hr : ∀ v, v ∈ vs → ∀ ns, TS.TupInts s.heap v ns → r v = TS.code B ns) :
    SrtO.Cmp prog w A s (tuples' true) (fun p => p.1 ∈ vs) (SrtO.lt2 fun v u => decide (r v < r u)) := by
  intro p q hm hm'
  obtain ⟨ns, t1, l1, b1⟩ := x _ hm
  obtain ⟨ms, t2, l2, b2⟩ := x _ hm'
  have e1 := hr _ hm ns t1
  have e2 := hr _ hm' ms t2
  show wpAny (model prog w) A (keyLt' (tuples' true) p.1 q.1) (fun c s' => s' = s ∧ c = decide (r p.1 < r q.1)) (fun _ _ => False) s
  rw [e1, e2]
  obtain ⟨a, xs, ea, ⟨o, ho, hc, n, hd⟩, i1⟩ := t1
  obtain ⟨a', ys, ea', ⟨o', ho', hc', n', hd'⟩, i2⟩ := t2
  rw [ea, ea']
  refine PySem.W.kat_lt ho hd ho' hd' ?_
  have hsz : decide (xs.size < ys.size) = false := by
    have h1 := i1.length
    have h2 := i2.length
    rw [Array.length_toList] at h1 h2
    exact decide_eq_false (by omega)
  rw [hsz]
  exact TS.lex_ints 0 i1 i2 (by omega) b1 b2 ⟨rfl, rfl⟩
theorem tups_sortableO {a : Addr} {vs : List Value} {d : Nat} {B : Int} {r : Value → Int} (h0 : 0 < vs.length) (hd : 1 ≤ d) (x : TS.TupsOk s.heap d B vs) (hr : ∀ v, v ∈ vs → ∀ ns, TS.TupInts s.heap v ns → r v = TS.code B ns) (ha : ∀ o, s.heap.get? a = some o → o.cls ≠ .type "tuple") :
    SrtO.SortableO prog w A s a vs fun v u => decide (r v < r u) := by
  intro h' keep
  have kp : ∀ b o, s.heap.get? b = some o → o.cls = .type "tuple" → h'.get? b = some o := fun b o e c => keep b o (fun z => by subst z; exact ha o e c) e
  have x' := x.keeps kp
  obtain ⟨fs, h1, h2, h3⟩ := TS.firsts_of hd vs x'
  refine ⟨tuples' true, fun Q E hq => ?_, tup_cmp (s := { s with heap := h' }) x' fun v hv ns t => ?_⟩
  · refine PySem.W.kat_kind (T := .type "int") h1 (by omega) (fun f hm => ?_) (by rfl) ?_
    · obtain ⟨y, t, rfl⟩ := h3 f hm
      exact PySem.W.Looks.now
    · have e : (Value.type "int" != Value.type "tuple") = true := by first | decide +kernel | rfl | decide
      rw [e]
      exact hq
  · obtain ⟨ns0, t0, _⟩ := x v hv
    have e : ns = ns0 := t.ints.symm.trans (t0.keeps kp).ints
    rw [e]
    exact hr v hv ns0 t0
end
theorem perm_map_inv {α β : Type} (f : α → β) {l : List β} : ∀ (m : List α), l.Perm (m.map f) → ∃ m' : List α, m'.Perm m ∧ m'.map f = l := by
  intro m h
  generalize e : m.map f = n at h
  induction h generalizing m with
  | nil =>
    have : m = [] := List.map_eq_nil_iff.mp e
    exact ⟨[], by rw [this], rfl⟩
  | cons x _ ih =>
    cases m with
    | nil => cases e
    | cons a m =>
      rw [List.map_cons] at e
      injection e with e1 e2
      obtain ⟨m', h1, h2⟩ := ih m e2
      exact ⟨a :: m', h1.cons a, by rw [List.map_cons, h2, e1]⟩
  | swap x y l =>
    cases m with
    | nil => cases e
    | cons a m =>
      cases m with
      | nil => simp at e
      | cons b m =>
        rw [List.map_cons, List.map_cons] at e
        injection e with e1 e2
        injection e2 with e2 e3
        exact ⟨b :: a :: m, List.Perm.swap a b m, by rw [List.map_cons, List.map_cons, e1, e2, e3]⟩
  | trans _ _ ih1 ih2 =>
    obtain ⟨m2, h1, h2⟩ := ih2 m e
    obtain ⟨m1, h3, h4⟩ := ih1 m2 h2
    exact ⟨m1, h3.trans h1, h4⟩
/-- keys of as many ints, all below a bound -/
def IntKeys (d : Nat) (B : Int) (kvs : List (List Key × V)) : Prop := ∀ p ∈ kvs, ∃ ns : List Int, p.1 = ns.map Sum.inl ∧ ns.length = d ∧ TS.Bd B ns
def rSortDT (d : Nat) (B : Int) : List V → Hp → VK → Prop := fun xs H Q => ∃ (a : Addr) (kvs : List (List Key × V)), xs = [.ref a] ∧ Rd H a (.dT kvs) ∧ IntKeys d B kvs ∧
  ∀ p (bs : List (Addr × List Int)), H p = none → (bs.map fun b => b.2.map (Sum.inl : Int → Key)).Perm (kvs.map (·.1)) → (∀ b ∈ bs, H b.1 = some (.tup (b.2.map V.int)) ∧ b.2.length = d ∧ TS.Bd B b.2) → bs.Pairwise (fun b c => TS.code B b.2 ≤ TS.code B c.2) →
    Q (.ref p) (upd H p (.lst (bs.map fun b => V.ref b.1)))
section
variable {X : Cx}
theorem kV_ints (ns : List Int) : (ns.map (Sum.inl : Int → Key)).map kV = ns.map V.int := by rw [List.map_map]; rfl
theorem ints_vals : ∀ {ns : List Int} {us : List Value}, Vals (ns.map V.int) us → IntsAre us ns
  | [], _, r => by rw [List.map_nil] at r; cases r; exact .nil
  | n :: ns, _, r => by
    rw [List.map_cons] at r
    cases r with
    | cons h t => obtain ⟨t', rfl⟩ := h; exact .cons n t' (ints_vals t)
theorem cr_sortedDT {d : Nat} {B : Int} (hc : X.calm = true) (hd : 1 ≤ d) : CallR X (.builtin "sorted") (rSortDT d B) := by
  intro pins s σ H xs us Q I r h
  obtain ⟨a, kvs, rfl, hrd, hk, q⟩ := h
  obtain ⟨u, rfl, rx⟩ := Vals.one r
  cases rx
  obtain ⟨z, hs, ks, pr, o, es, ep, ho, hx, hdt, he, hn⟩ := (show ObjOk X.prog X.w H s.heap a (.dT kvs) from hrd.ok I.hok)
  have l1 : es.size = ks.length := size_of_entries he
  have l2 : kvs.length = ks.length := Paired.length pr
  -- the keys' tuples, with their ints
  have hbs : ∃ bs : List (Addr × List Int), (bs.map fun b => b.2.map (Sum.inl : Int → Key)) = kvs.map (·.1) ∧ (bs.map (·.1)) = ks.map (fun x => x.2.1) ∧ ∀ b ∈ bs, H b.1 = some (.tup (b.2.map V.int)) ∧ b.2.length = d ∧ TS.Bd B b.2 := by
    clear q l1 l2 hn he hrd
    induction pr with
    | nil => exact ⟨[], rfl, rfl, fun b hb => (nomatch hb)⟩
    | @cons p x ps xs h t ih =>
      obtain ⟨bs, e1, e2, e3⟩ := ih (fun y hy => hk y (List.mem_cons_of_mem _ hy)) (Nat.le_trans (Nat.le_succ _) z)
      obtain ⟨ns, g1, g2, g3⟩ := hk p List.mem_cons_self
      refine ⟨(x.2.1, ns) :: bs, by rw [List.map_cons, List.map_cons, e1, g1], by rw [List.map_cons, List.map_cons, e2], fun b hb => ?_⟩
      rcases List.mem_cons.mp hb with rfl | hb
      · refine ⟨?_, g2, g3⟩
        have := h.2.1
        rw [g1, kV_ints] at this
        exact this
      · exact e3 b hb
  obtain ⟨bs, e1, e2, e3⟩ := hbs
  refine Calls.call_function_entry PyProof.Rows.kind_sorted PyProof.Rows.plain_sorted PyProof.Rows.entry_sorted (PyProof.Rows.args_sorted1 _) ?_
  unfold Builtin.«sorted»
  refine wpAny_bind (m := checkCount "sorted" 1 1 _) (wpAny_pure ?_)
  refine wpAny_bind (PySem.W.kdu_collect (A := X.A.in1) (L2.kdl_raw hs hx hdt) (I.ok.hd hc) ho (by omega) fun h' tk acc kp it => ?_)
  have ea : acc.toList = bs.map fun b => Value.ref b.1 := by
    have hl : acc.toList.length = ks.length := by rw [Array.length_toList, it.1]; exact l1
    have eb : (bs.map fun b => Value.ref b.1) = (ks.map fun x => x.2.1).map Value.ref := by rw [← e2, List.map_map]; rfl
    rw [eb, List.map_map]
    apply List.ext_getElem?
    intro j
    rw [List.getElem?_map]
    cases hj : acc.toList[j]? with
    | none =>
      have h1 := List.getElem?_eq_none_iff.mp hj
      rw [List.getElem?_eq_none (by omega)]
      all_goals rfl
    | some v =>
      obtain ⟨en, hen, hv⟩ := it.2 j v (by rw [← Array.getElem?_toList]; exact hj)
      have qe := entry_at he j
      rw [hen] at qe
      cases hb : ks[j]? with
      | none =>
        rw [hb] at qe
        exact nomatch (show some en = none from qe)
      | some b =>
        rw [hb] at qe
        have e2 : en = entryOfKey (tupleKind (mixKind X.prog X.w)) b := Option.some.inj qe
        rw [hv, e2]
        all_goals rfl
  have I1 : Inv X pins σ H { s with heap := h', toks := tk } := I.kept kp
  have hzl : acc.toList.length ≤ sizeLine := by rw [Array.length_toList, it.1]; omega
  refine wpAny_bind (wpAny_newList ?_ hzl)
  have hoL : (h'.push (seqObj "list" acc.toList.toArray 0)).get? h'.objs.size = some (seqObj "list" acc.toList.toArray 0) := Heap.get?_push_size _ rfl
  have htup : ∀ b ∈ bs, TS.TupInts (h'.push (seqObj "list" acc.toList.toArray 0)) (.ref b.1) b.2 := fun b hb => by
    obtain ⟨_, its, rv, ot, h1, h2, n, h3⟩ := (show ObjOk X.prog X.w H h' b.1 (.tup (b.2.map V.int)) from I1.hok _ _ (e3 b hb).1)
    exact ⟨b.1, its.toArray, rfl, ⟨ot, Heap.get?_push_of_some _ h1, h2, n, h3⟩, by simpa using ints_vals rv⟩
  have x : TS.TupsOk (h'.push (seqObj "list" acc.toList.toArray 0)) d B acc.toList := fun v hv => by
    rw [ea] at hv
    obtain ⟨b, hb, rfl⟩ := List.mem_map.mp hv
    exact ⟨b.2, htup b hb, (e3 b hb).2⟩
  let rr : Value → Int := fun v => TS.code B (TS.intsOf (h'.push (seqObj "list" acc.toList.toArray 0)) v)
  have hrr : ∀ v, v ∈ acc.toList → ∀ ns, TS.TupInts (h'.push (seqObj "list" acc.toList.toArray 0)) v ns → rr v = TS.code B ns := fun v _ ns t => by
    show TS.code B (TS.intsOf _ v) = _
    rw [t.ints]
  show wpAny _ _ _ _ _ { s with heap := h'.push (seqObj "list" acc.toList.toArray 0), toks := tk }
  refine wpAny_bind (wpAny_holding (wpAny_call_entry PyProof.Rows.slot_list_sort ⟨_, hoL, rfl⟩ PyProof.Rows.entry_list_sort (SrtO.list_sort_ord (swo_key rr) hoL hzl (fun h2 => ?_) fun out hso hst => ⟨_, rfl, wpAny_pure ?_⟩) (PyProof.Rows.args_list_sort _)))
  · refine tups_sortableO (by omega) hd x hrr fun o' e => ?_
    rw [hoL] at e
    cases e
    intro c'
    exact absurd (Value.type.inj c') (by decide)
  · -- the sorted list
    obtain ⟨bs', p1, p2⟩ := perm_map_inv (l := out) (fun b : Addr × List Int => Value.ref b.1) bs (by rw [← ea]; exact hst.perm)
    obtain ⟨e', he'⟩ := PyProof.Rows.sortedHeap_at (vs := acc.toList) (out := out.toArray) hoL
    have hlb : bs'.length = kvs.length := by
      rw [p1.length_eq]
      have := congrArg List.length e1
      rw [List.length_map, List.length_map] at this
      exact this
    have hlen : (bs'.map fun b => V.ref b.1).length ≤ sizeLine := by rw [List.length_map, hlb]; exact z
    have hv : Vals (bs'.map fun b => V.ref b.1) out := by
      rw [← p2]
      have := vals_refs (bs'.map (·.1))
      rw [List.map_map, List.map_map] at this
      exact this
    refine ⟨_, rfl, .ref h'.objs.size, upd H h'.objs.size (.lst (bs'.map fun b => V.ref b.1)), I1.laid (t' := tk) (fun b u e => ?_) (Nat.le_refl _)
      (show ObjOk X.prog X.w _ _ _ (.lst (bs'.map fun b => V.ref b.1)) from ⟨hlen, out, e', hv, he'⟩), rfl, q h'.objs.size bs' (I1.hok.fresh (Nat.le_refl _)) ?_ (fun b hb => e3 b (p1.mem_iff.mp hb)) ?_⟩
    · have hb : b < h'.objs.size := Heap.lt_size e
      show (sortedHeap _ _ _ _).get? b = some u
      rw [PyProof.Rows.sortedHeap_old (Nat.ne_of_lt hb) (by rw [size_push']; exact Nat.lt_succ_of_lt hb)]
      exact Heap.get?_push_of_some _ e
    · rw [← e1]; exact p1.map _
    · rw [← p2] at hso
      have hso := List.pairwise_map.mp hso
      refine List.Pairwise.imp_of_mem (fun {b c} hb hc h => ?_) hso
      have h := of_decide_eq_false h
      have hb := p1.mem_iff.mp hb
      have hc := p1.mem_iff.mp hc
      rw [hrr (.ref b.1) (by rw [ea]; exact List.mem_map.mpr ⟨b, hb, rfl⟩) _ (htup b hb), hrr (.ref c.1) (by rw [ea]; exact List.mem_map.mpr ⟨c, hc, rfl⟩) _ (htup c hc)] at h
      omega
end
end PV

/-! PV46: sorted(d) on data; list.pop(); x in a slot's list, items of any depth. -/
namespace PV
open PySem PySem.Spec PyProof.Rows L2
variable [Tbl]
/-! ### tuples of ints in their order -/
abbrev BB : Int := 18446744073709551616
def intsK : List Key → Option (List Int)
  | [] => some []
  | .inl i :: ks => (intsK ks).map (i :: ·)
  | .inr _ :: _ => none
def okK (d : Nat) (k : List Key) : Bool := match intsK k with
  | some ns => decide (ns.length = d) && ns.all fun i => decide (0 ≤ i) && decide (i < BB)
  | none => false
def numK (k : List Key) : Int := TS.code BB ((intsK k).getD [])
/-- the keys, ascending -/
def sortT (ks : List (List Key)) : List (List Key) := ks.mergeSort fun a b => decide (numK a ≤ numK b)
def sortKs (l : List (List Key × D)) : Option MD := match l.map (·.1) with
  | [] => some (.lst [])
  | k :: ks => if 1 ≤ k.length ∧ (k :: ks).all (okK k.length) = true then some (.lst ((sortT (k :: ks)).map fun k => kTup k)) else none
def sortedT : List D → Option MD
  | [.dcF l] => sortKs l
  | [.dcT l] => sortKs l
  | _ => none
section
omit [Tbl]
theorem intsK_map (ns : List Int) : intsK (ns.map Sum.inl) = some ns := by
  induction ns with
  | nil => rfl
  | cons n ns ih => show (intsK (ns.map Sum.inl)).map (n :: ·) = _; rw [ih]; rfl
theorem intsK_eq : ∀ {k : List Key} {ns : List Int}, intsK k = some ns → k = ns.map Sum.inl
  | [], ns, h => by cases h; rfl
  | .inl i :: ks, ns, h => by
    obtain ⟨ms, h1, rfl⟩ := Option.map_eq_some_iff.mp h
    rw [intsK_eq h1]; rfl
  | .inr _ :: _, _, h => by cases h
theorem okK_is {d : Nat} {k : List Key} (h : okK d k = true) : ∃ ns : List Int, k = ns.map Sum.inl ∧ ns.length = d ∧ TS.Bd BB ns := by
  unfold okK at h
  split at h
  · rename_i ns q
    obtain ⟨h1, h2⟩ := Bool.and_eq_true_iff.mp h
    refine ⟨ns, intsK_eq q, of_decide_eq_true h1, fun m hm => ?_⟩
    have := List.all_eq_true.mp h2 m hm
    obtain ⟨h3, h4⟩ := Bool.and_eq_true_iff.mp this
    exact ⟨of_decide_eq_true h3, of_decide_eq_true h4⟩
  · cases h
theorem code_uniq {B : Int} : ∀ {a b : List Int}, a.length = b.length → TS.Bd B a → TS.Bd B b → TS.code B a = TS.code B b → a = b
  | [], [], _, _, _, _ => rfl
  | [], _ :: _, h, _, _, _ => by simp at h
  | _ :: _, [], h, _, _, _ => by simp at h
  | x :: a, y :: b, h, h1, h2, e => by
    have hl : a.length = b.length := by simpa using h
    rcases Int.lt_trichotomy x y with q | q | q
    · have := TS.code_lt (d := x) (e := y) hl h1.tail h2.tail q
      omega
    · subst q
      have n1 : ¬ TS.code B a < TS.code B b := fun z => by have := (TS.code_same (d := x) hl).mpr z; omega
      have n2 : ¬ TS.code B b < TS.code B a := fun z => by have := (TS.code_same (d := x) hl.symm).mpr z; omega
      rw [code_uniq hl h1.tail h2.tail (by omega)]
    · have := TS.code_lt (d := y) (e := x) hl.symm h2.tail h1.tail q
      omega
/-- two ascending rows of the same things are alike -/
theorem asc_same {α : Type} {f : α → Int} : ∀ {l m : List α}, l.Perm m → l.Pairwise (fun a b => f a ≤ f b) → m.Pairwise (fun a b => f a ≤ f b) → (∀ a ∈ l, ∀ b ∈ l, f a = f b → a = b) → l = m
  | [], m, p, _, _, _ => (List.Perm.nil_eq p).symm ▸ rfl
  | a :: l, [], p, _, _, _ => by have := p.length_eq; simp at this
  | a :: l, b :: m, p, h1, h2, inj => by
    have hb : b ∈ a :: l := p.mem_iff.mpr List.mem_cons_self
    have ha : a ∈ b :: m := p.mem_iff.mp List.mem_cons_self
    have e1 : f a ≤ f b := by
      rcases List.mem_cons.mp hb with e | h
      · rw [e]; exact Int.le_refl _
      · exact (List.pairwise_cons.mp h1).1 b h
    have e2 : f b ≤ f a := by
      rcases List.mem_cons.mp ha with e | h
      · rw [e]; exact Int.le_refl _
      · exact (List.pairwise_cons.mp h2).1 a h
    have e : a = b := inj a List.mem_cons_self b hb (by omega)
    subst e
    rw [asc_same (List.Perm.cons_inv p) (List.pairwise_cons.mp h1).2 (List.pairwise_cons.mp h2).2 fun x hx y hy => inj x (List.mem_cons_of_mem _ hx) y (List.mem_cons_of_mem _ hy)]
theorem sortT_perm (ks : List (List Key)) : (sortT ks).Perm ks := List.mergeSort_perm _ _
theorem sortT_asc (ks : List (List Key)) : (sortT ks).Pairwise fun a b => numK a ≤ numK b := by
  have := List.pairwise_mergeSort (le := fun a b => decide (numK a ≤ numK b)) (fun a b c h1 h2 => by simp only [decide_eq_true_eq] at *; omega) (fun a b => by simp only [Bool.or_eq_true, decide_eq_true_eq]; omega) ks
  exact this.imp fun {a b} h => of_decide_eq_true h
theorem numK_ints (ns : List Int) : numK (ns.map Sum.inl) = TS.code BB ns := by unfold numK; rw [intsK_map]; rfl
theorem num_inj {d : Nat} {a b : List Key} (h : okK d a = true) (h' : okK d b = true) (e : numK a = numK b) : a = b := by
  obtain ⟨ns, rfl, l1, b1⟩ := okK_is h
  obtain ⟨ms, rfl, l2, b2⟩ := okK_is h'
  rw [numK_ints, numK_ints] at e
  rw [code_uniq (by omega) b1 b2 e]
theorem sortT_same {d : Nat} {ks ls : List (List Key)} (h : ks.Perm ls) (ok : ∀ k ∈ ks, okK d k = true) : sortT ks = sortT ls :=
  asc_same (((sortT_perm ks).trans h).trans (sortT_perm ls).symm) (sortT_asc ks) (sortT_asc ls) fun a ha b hb e => num_inj (ok a ((sortT_perm ks).mem_iff.mp ha)) (ok b ((sortT_perm ks).mem_iff.mp hb)) e
end

/-! ### the call -/
section
variable {K : PySem.W.Frag} {c : Cq} {F H : Hp} {σ : L2.St} {δ : DE}
theorem DenH.dT (s : Same F H) {l : List (List Key × D)} {v : V} {d : D} (e : d = .dcF l ∨ d = .dcT l) (h : DenH K F H d v) : ∃ a kvs, v = .ref a ∧ Rd H a (.dT kvs) ∧ DenT K F l kvs := by
  rcases e with rfl | rfl
  · rcases h with ⟨a, od, kvs, e, h1, h2⟩ | ⟨m, a, o, e, _⟩
    · exact ⟨a, kvs, e, .inr ⟨od, s _ _ h1⟩, h2⟩
    · cases m <;> cases e
  · rcases h with ⟨a, kvs, e, h1, h2⟩ | ⟨m, a, o, e, e1, h1, h2⟩
    · exact ⟨a, kvs, e, .inl (s _ _ h1), h2⟩
    · cases m with
      | dcT l' =>
        cases e
        obtain ⟨kvs, rfl, h2⟩ := mden_dcT h2
        exact ⟨a, kvs, e1, .inl h1, h2⟩
      | lst l' => cases e
      | dct l' => cases e
      | ins c l' => cases e
theorem DenT.keys : ∀ {l : List (List Key × D)} {kvs : List (List Key × V)}, DenT K F l kvs → kvs.map (·.1) = l.map (·.1)
  | [], _, h => by rw [show _ = _ from h]; rfl
  | (k, d) :: l, _, ⟨v, r, e, _, h⟩ => by rw [e, List.map_cons, List.map_cons, h.keys]
/-- tuples of the heap are taken among what stays -/
theorem Rel.adoptAll (r : Rel K c F H σ δ) : ∀ (bs : List (Addr × List Int)), (∀ b ∈ bs, H b.1 = some (.tup (b.2.map V.int))) → ∃ F', Rel K c F' H σ δ ∧ Same F F' ∧ Dens K F' (bs.map fun b => kTup (b.2.map Sum.inl)) (bs.map fun b => V.ref b.1)
  | [], _ => ⟨F, r, .refl _, rfl⟩
  | b :: bs, h => by
    obtain ⟨F1, r1, s1, d1⟩ := r.adoptAll bs fun x hx => h x (List.mem_cons_of_mem _ hx)
    obtain ⟨F2, r2, s2, h2⟩ := r1.adopt (h b List.mem_cons_self)
    refine ⟨F2, r2, s1.trans s2, ?_⟩
    rw [List.map_cons, List.map_cons]
    refine Dens.cons ⟨b.1, _, rfl, h2, ?_⟩ (Dens.mono s2 _ _ d1)
    have := dens_keys (K := K) (F := F2) (b.2.map Sum.inl)
    rw [kV_ints] at this
    exact this
end
section
variable {X : Cx} {W : WX} {pos : Pos}
theorem b_sortedT (hc : X.calm = true) : Bn X (.builtin "sorted") sortedT := by
  have hcr : CallR X (.builtin "sorted") (fun xs H Q => ∃ d, 1 ≤ d ∧ rSortDT d BB xs H Q) := fun pins s σ H xs us Q I r h => by
    obtain ⟨d, hd, h⟩ := h
    exact cr_sortedDT hc hd pins s σ H xs us Q I r h
  refine ⟨_, hcr, fun c F H σ δ ds z vs Q r d1 q k => ?_⟩
  have hds : ∃ d l, ds = [d] ∧ (d = .dcF l ∨ d = .dcT l) ∧ sortKs l = some z := by
    unfold sortedT at q
    split at q
    · exact ⟨_, _, rfl, .inl rfl, q⟩
    · exact ⟨_, _, rfl, .inr rfl, q⟩
    · cases q
  obtain ⟨d, l, rfl, hd, q⟩ := hds
  obtain ⟨v, rfl, h⟩ := densH1 d1
  obtain ⟨a, kvs, rfl, h1, h2⟩ := h.dT r.sub hd
  have hkeys := h2.keys
  have hz : ∃ dd, 1 ≤ dd ∧ (∀ k ∈ l.map (·.1), okK dd k = true) ∧ z = .lst ((sortT (l.map (·.1))).map fun k => kTup k) := by
    unfold sortKs at q
    split at q
    · rename_i e
      cases q
      refine ⟨1, Nat.le_refl _, fun k hk => ?_, ?_⟩
      · rw [e] at hk; cases hk
      · rw [e]; simp [sortT]
    · rename_i k0 ks e
      split at q
      · rename_i hc
        cases q
        rw [e]
        exact ⟨k0.length, hc.1, fun x hx => List.all_eq_true.mp hc.2 x hx, rfl⟩
      · cases q
  obtain ⟨dd, hdd, hok, rfl⟩ := hz
  refine ⟨dd, hdd, a, kvs, rfl, h1, fun p hp => ?_, fun p bs hp hperm hbs hasc => ?_⟩
  · exact okK_is (hok p.1 (by rw [← hkeys]; exact List.mem_map.mpr ⟨p, hp, rfl⟩))
  · obtain ⟨F', r', s', dd'⟩ := r.adoptAll bs fun b hb => (hbs b hb).1
    rw [hkeys] at hperm
    have hks : (bs.map fun b => b.2.map (Sum.inl : Int → Key)) = sortT (l.map (·.1)) := by
      refine asc_same (f := numK) (hperm.trans (sortT_perm _).symm) ?_ (sortT_asc _) fun x hx y hy e => num_inj (hok x (hperm.mem_iff.mp hx)) (hok y (hperm.mem_iff.mp hy)) e
      refine List.pairwise_map.mpr (hasc.imp fun {b c} h => ?_)
      rw [numK_ints, numK_ints]; exact h
    have hden : Dens X.K F' ((sortT (l.map (·.1))).map fun k => kTup k) (bs.map fun b => V.ref b.1) := by
      rw [← hks, List.map_map]
      exact dd'
    obtain ⟨g1, g2⟩ := r'.fresh (o := .lst (bs.map fun b : Addr × List Int => V.ref b.1)) (m := .lst ((sortT (l.map fun x : List Key × D => x.1)).map fun k => kTup k)) hp hden
    exact k _ _ _ g1 s' g2

/-! ### list.pop() -/
def popE (i : Nat) : DE → R D := fun δ => match mutOf δ i with
  | some (s, .lst l) => match l.getLast? with
    | some d => .ok d (δ.set i (some (s.wr (.lst l.dropLast))))
    | none => .stuck
  | _ => .stuck
theorem Dens.dropLast {K : PySem.W.Frag} {F : Hp} {ds : List D} {vs : List V} (h : Dens K F ds vs) : Dens K F ds.dropLast vs.dropLast := by
  rw [List.dropLast_eq_take, List.dropLast_eq_take, h.length]
  exact Dens.take _ h
theorem ve_pop (i : Nat) {x : Str} {px apos cpos : Pos} (hN : X.N[i]? = some x := by rfl) (hv : Vis X.env.scope x := by first | exact Or.inl rfl | exact Or.inr (Or.inl rfl) | exact Or.inr (Or.inr rfl)) (hd : (x == ("__debug__" : Str)) = false := by decide) (hcd : (x == ("__classdict__" : Str)) = false := by decide)
    (hbase : attributeBase (.Name x px) "pop" X.env (eval (.Name x px) X.env) = eval (.Name x px) X.env := by rfl) (hline : (apos.endLine == cpos.line) = true := by rfl) :
    VE X W (.Call (.Attribute (.Name x px) "pop" apos) [] [] cpos) (popE i) :=
  PE.to (pe_bm0 PySem.F.plainAttrs_list PySem.F.slot_list_pop PySem.F.type_list_pop mt_pop (pe_var hN hv hd hcd) hbase hline) fun σ H Q z => by
    obtain ⟨c, F, δ, r, z⟩ := z
    unfold popE at z
    split at z
    · rename_i s l q
      obtain ⟨q1, q2⟩ := mutOf_some q
      obtain ⟨a, o, h1, h2, h3, h4⟩ := r.mutAt q1 q2
      obtain ⟨xs, rfl, h3⟩ := mden_lst h3
      split at z
      · rename_i d hl
        rw [List.getLast?_eq_getElem?] at hl
        obtain ⟨v, g1, g2⟩ := h3.get hl
        rw [← h3.length] at g1
        refine ⟨.ref a, h1, .inl ⟨rfl, xs, .inl (.inl h2)⟩, a, xs, v, rfl, rfl, h2, g1, ?_⟩
        exact z _ F _ (r.write (m' := .lst l.dropLast) (o' := .lst xs.dropLast) q1 q2 h1 h3.dropLast) (.refl _) g2
      · exact False.elim z
    · exact False.elim z

/-! ### x in l, l a slot's list -/
def inSl (neg : Bool) (i : Nat) (fk : DE → R D) : DE → R D := fun δ => (fk δ).bind fun x δ => match mutOf δ i with
  | some (_, .lst l) => match x.py, D.pys l with
    | some p, some ps => if SeqAt.shaped p = true ∧ SeqAt.shaped (.list ps) = true ∧ p.depth ≤ 60 then .ok (.bl (if neg = true then !(ps.any fun z => PyData.eqv z p) else ps.any fun z => PyData.eqv z p)) δ else .stuck
    | _, _ => .stuck
  | _ => .stuck
def rInDs (K : PySem.W.Frag) (neg : Bool) : R2 := fun x y H Q => ∃ d ds, Dp K H x d ∧ Dp K H y (.list ds) ∧ SeqAt.shaped d = true ∧ SeqAt.shaped (.list ds) = true ∧ d.depth ≤ 60 ∧ Q (.bl (if neg = true then !(ds.any fun z => PyData.eqv z d) else ds.any fun z => PyData.eqv z d)) H
theorem op_inDs (hu : X.A.units + 64 < cLine) : OpR X (compareOp .In) (rInDs X.K false) := by
  intro pins s σ H x y v u Q I rx ry h
  obtain ⟨d, ds, hd, he, sd, se, h6, q⟩ := h
  obtain ⟨as, r1⟩ := Dp.reads I d x v hd rx
  obtain ⟨bs, r2⟩ := Dp.reads I (.list ds) y u he ry
  exact SeqAt.in_list_reads r2 r1 (SeqAt.canLay_of_shaped se) (SeqAt.canLay_of_shaped sd) (by have := Nat.min_le_right (PyData.depthAll ds) d.depth; omega) ⟨.bl _, H, I, rfl, q⟩
theorem op_notInDs (hu : X.A.units + 64 < cLine) : OpR X (compareOp .NotIn) (rInDs X.K true) := by
  intro pins s σ H x y v u Q I rx ry h
  obtain ⟨d, ds, hd, he, sd, se, h6, q⟩ := h
  obtain ⟨as, r1⟩ := Dp.reads I d x v hd rx
  obtain ⟨bs, r2⟩ := Dp.reads I (.list ds) y u he ry
  exact SeqAt.notIn_list_reads r2 r1 (SeqAt.canLay_of_shaped se) (SeqAt.canLay_of_shaped sd) (by have := Nat.min_le_right (PyData.depthAll ds) d.depth; omega) ⟨.bl _, H, I, rfl, q⟩
theorem rd_inSl {neg : Bool} {i : Nat} {fk : DE → R D} {σ : L2.St} {H : Hp} {Q : VK} (z : rdE X.K W (inSl neg i fk) σ H Q) : tOp (rInDs X.K neg) (rdE X.K W fk) (tVar i) σ H Q := by
  refine z.first (DM := dnE X.K) fun c F H1 δ x v r1 d1 z1 => ?_
  split at z1
  · rename_i s l q
    obtain ⟨q1, q2⟩ := mutOf_some q
    obtain ⟨a, o, h1, h2, h3, h4⟩ := r1.mutAt q1 q2
    obtain ⟨xs, rfl, h3⟩ := mden_lst h3
    split at z1
    · rename_i p ps e1 e2
      split at z1
      · rename_i hc
        refine ⟨.ref a, h1, p, ps, py_dp r1.sub e1 d1, .lst (.inl (.inl h2)) (pys_dp r1.sub e2 h3), hc.1, hc.2.1, hc.2.2, ?_⟩
        exact z1 _ F H1 r1 (.refl _) rfl
      · exact False.elim z1
    · exact False.elim z1
  · exact False.elim z1
theorem ve_inSl (hu : X.A.units + 64 < cLine) (i : Nat) {x : Str} {px : Pos} {a : Expr} {fk : DE → R D} (hk : VE X W a fk) (hm : behindInMarks .In (.Name x px) = false := by rfl) (hN : X.N[i]? = some x := by rfl) (hv : Vis X.env.scope x := by first | exact Or.inl rfl | exact Or.inr (Or.inl rfl) | exact Or.inr (Or.inr rfl)) (hd : (x == ("__debug__" : Str)) = false := by decide)
    (hcd : (x == ("__classdict__" : Str)) = false := by decide) : VE X W (.Compare a [.In] [.Name x px] pos) (inSl false i fk) := PE.to (pe_cmpR (op_inDs hu) hk (pe_var hN hv hd hcd) hm) fun σ H Q z => rd_inSl z
theorem ve_notInSl (hu : X.A.units + 64 < cLine) (i : Nat) {x : Str} {px : Pos} {a : Expr} {fk : DE → R D} (hk : VE X W a fk) (hm : behindInMarks .NotIn (.Name x px) = false := by rfl) (hN : X.N[i]? = some x := by rfl) (hv : Vis X.env.scope x := by first | exact Or.inl rfl | exact Or.inr (Or.inl rfl) | exact Or.inr (Or.inr rfl)) (hd : (x == ("__debug__" : Str)) = false := by decide)
    (hcd : (x == ("__classdict__" : Str)) = false := by decide) : VE X W (.Compare a [.NotIn] [.Name x px] pos) (inSl true i fk) := PE.to (pe_cmpR (op_notInDs hu) hk (pe_var hN hv hd hcd) hm) fun σ H Q z => rd_inSl z
theorem vt_inSl (hu : X.A.units + 64 < cLine) (i : Nat) {x : Str} {px : Pos} {a : Expr} {fk : DE → R D} (hk : VE X W a fk) (hm : behindInMarks .In (.Name x px) = false := by rfl) (hN : X.N[i]? = some x := by rfl) (hv : Vis X.env.scope x := by first | exact Or.inl rfl | exact Or.inr (Or.inl rfl) | exact Or.inr (Or.inr rfl)) (hd : (x == ("__debug__" : Str)) = false := by decide)
    (hcd : (x == ("__classdict__" : Str)) = false := by decide) : VT X W (.Compare a [.In] [.Name x px] pos) (tst (inSl false i fk)) := PT.to (pt_cmpR (op_inDs hu) hk (pe_var hN hv hd hcd) hm) fun σ H Q z => rd_inSl (rd_tst z)
theorem vt_notInSl (hu : X.A.units + 64 < cLine) (i : Nat) {x : Str} {px : Pos} {a : Expr} {fk : DE → R D} (hk : VE X W a fk) (hm : behindInMarks .NotIn (.Name x px) = false := by rfl) (hN : X.N[i]? = some x := by rfl) (hv : Vis X.env.scope x := by first | exact Or.inl rfl | exact Or.inr (Or.inl rfl) | exact Or.inr (Or.inr rfl)) (hd : (x == ("__debug__" : Str)) = false := by decide)
    (hcd : (x == ("__classdict__" : Str)) = false := by decide) : VT X W (.Compare a [.NotIn] [.Name x px] pos) (tst (inSl true i fk)) := PT.to (pt_cmpR (op_notInDs hu) hk (pe_var hN hv hd hcd) hm) fun σ H Q z => rd_inSl (rd_tst z)
end
end PV

/-! PV47: l != [] of a slot's list; the readings of PV46 by simp. -/
namespace PV
open PySem PySem.Spec PyProof.Rows L2
section
variable [Tbl]
def neSl (i : Nat) : DE → R D := fun δ => match mutOf δ i with
  | some (_, .lst l) => .ok (.bl (!l.isEmpty)) δ
  | _ => .stuck
theorem vt_neSl {X : Cx} {W : WX} (hu : X.A.units + 64 < cLine) (i : Nat) {x : Str} {px p2 pos : Pos} (hm : behindInMarks .NotEq (.List [] p2) = false := by exact nomark _) (hN : X.N[i]? = some x := by rfl) (hv : Vis X.env.scope x := by first | exact Or.inl rfl | exact Or.inr (Or.inl rfl) | exact Or.inr (Or.inr rfl)) (hd : (x == ("__debug__" : Str)) = false := by decide)
    (hcd : (x == ("__classdict__" : Str)) = false := by decide) : VT X W (.Compare (.Name x px) [.NotEq] [.List [] p2] pos) (tst (neSl i)) := PT.to (pt_cmpR (op_ne0 hu) (pe_var hN hv hd hcd) (pe_lst pa_nil) hm) fun σ H Q z => by
  have z := rd_tst z
  obtain ⟨c, F, δ, r, z⟩ := z
  unfold neSl at z
  split at z
  · rename_i s l q
    obtain ⟨q1, q2⟩ := mutOf_some q
    obtain ⟨a, o, h1, h2, h3, h4⟩ := r.mutAt q1 q2
    obtain ⟨xs, rfl, h3⟩ := mden_lst h3
    refine ⟨.ref a, h1, by show 0 ≤ sizeLine; decide, fun p hp => ⟨a, p, xs, rfl, rfl, .inl (.inl ?_), .inl (.inl upd_same), ?_⟩⟩
    · rw [upd_ne (ne_of_none h2 hp)]; exact h2
    · exact z _ F _ (r.tmp hp) (.refl _) (by rw [dens_empty h3]; rfl)
  · exact False.elim z
end
section
variable {δ : DE} {i : Nat} {d e : D} {f fk : DE → R D} {l : List D} {s : Sl} {neg : Bool}
def neK (o : Option (Sl × MD)) (δ : DE) : R D := match o with
  | some (_, .lst l) => .ok (.bl (!l.isEmpty)) δ
  | _ => .stuck
@[simp] theorem ev_neSl : neSl i δ = neK (mutOf δ i) δ := rfl
@[simp] theorem neK_some : neK (some (s, .lst l)) δ = .ok (.bl (!l.isEmpty)) δ := rfl
def popK (o : Option (Sl × MD)) (i : Nat) (δ : DE) : R D := match o with
  | some (s, .lst l) => match l.getLast? with
    | some d => .ok d (δ.set i (some (s.wr (.lst l.dropLast))))
    | none => .stuck
  | _ => .stuck
@[simp] theorem ev_popE : popE i δ = popK (mutOf δ i) i δ := rfl
@[simp] theorem popK_snoc : popK (some (s, .lst (l ++ [d]))) i δ = .ok d (δ.set i (some (s.wr (.lst l)))) := by
  unfold popK
  simp
def inSK (neg : Bool) (o : Option (Sl × MD)) (x : D) (δ : DE) : R D := match o with
  | some (_, .lst l) => match x.py, D.pys l with
    | some p, some ps => if SeqAt.shaped p = true ∧ SeqAt.shaped (.list ps) = true ∧ p.depth ≤ 60 then .ok (.bl (if neg = true then !(ps.any fun z => PyData.eqv z p) else ps.any fun z => PyData.eqv z p)) δ else .stuck
    | _, _ => .stuck
  | _ => .stuck
def k_inS (neg : Bool) (i : Nat) (x : D) (δ : DE) : R D := inSK neg (mutOf δ i) x δ
@[simp] theorem ev_inSl : inSl neg i fk δ = (fk δ).bind (k_inS neg i) := rfl
@[simp] theorem ev_kinS : k_inS neg i d δ = inSK neg (mutOf δ i) d δ := rfl
end
end PV

/-! Kd: the def that names an error's class. -/
namespace PV
open PySem PySem.Spec PyProof.Rows L2
noncomputable def F_kind (a : Addr) (o : Str → Option Bool) : DE → O := (killS true [] (thenS (setS 1 (ofN (lstN (valA (callB (isE a o) (valA (var 0) (valA (cst (.fn "InvalidName")) noA))) (valA (callB (isE a o) (valA (var 0) (valA (cst (.fn "InvalidWord")) noA))) (valA (callB (isE a o) (valA (var 0) (valA (cst (.fn "InvalidRule")) noA))) noA)))))) (thenS (setS 1 (op2 addA (var 1) (ofN (lstN (valA (callB (isE a o) (valA (var 0) (valA (cst (.fn "InvalidNotice")) noA))) (valA (callB (isE a o) (valA (var 0) (valA (cst (.fn "InvalidCopy")) noA))) (valA (callB (isE a o) (valA (var 0) (valA (cst (.fn "InvalidRoom")) noA))) noA))))))) (thenS (setS 1 (op2 addA (var 1) (ofN (lstN (valA (callB (isE a o) (valA (var 0) (valA (cst (.fn "InvalidCells")) noA))) (valA (callB (isE a o) (valA (var 0) (valA (cst (.fn "UnknownCell")) noA))) (valA (callB (isE a o) (valA (var 0) (valA (cst (.fn "NameTaken")) noA))) noA))))))) (thenS (setS 1 (op2 addA (var 1) (ofN (lstN (valA (callB (isE a o) (valA (var 0) (valA (cst (.fn "TransactionOpen")) noA))) (valA (callB (isE a o) (valA (var 0) (valA (cst (.fn "UnknownSavepoint")) noA))) (valA (callB (isE a o) (valA (var 0) (valA (cst (.fn "Ended")) noA))) noA))))))) (thenS (setS 1 (op2 addA (var 1) (ofN (lstN (valA (callB (isE a o) (valA (var 0) (valA (cst (.fn "InvalidStep")) noA))) (valA (callB (isE a o) (valA (var 0) (valA (cst (.fn "InvalidNumber")) noA))) (valA (callB (isE a o) (valA (var 0) (valA (cst (.fn "InvalidGraph")) noA))) noA))))))) (thenS (setS 1 (op2 addA (var 1) (ofN (lstN (valA (callB (isE a o) (valA (var 0) (valA (cst (.fn "InvalidRun")) noA))) (valA (callB (isE a o) (valA (var 0) (valA (cst (.fn "InvalidWay")) noA))) (valA (callB (isE a o) (valA (var 0) (valA (cst (.fn "InvalidClients")) noA))) noA))))))) (thenS (setS 1 (op2 addA (var 1) (ofN (lstN (valA (callB (isE a o) (valA (var 0) (valA (cst (.fn "InvalidDay")) noA))) (valA (callB (isE a o) (valA (var 0) (valA (cst (.fn "InvalidHistory")) noA))) (valA (callB (isE a o) (valA (var 0) (valA (cst (.fn "InvalidText")) noA))) noA))))))) (thenS (setS 1 (op2 addA (var 1) (ofN (lstN (valA (callB (isE a o) (valA (var 0) (valA (cst (.fn "Conflict")) noA))) (valA (callB (isE a o) (valA (var 0) (valA (cst (.fn "Full")) noA))) (valA (callB (isE a o) (valA (var 0) (valA (cst (.fn "TooLarge")) noA))) (valA (callB (isE a o) (valA (var 0) (valA (cst (.fn "InvalidFrame")) noA))) noA)))))))) (thenS (ifS (orT (tst (op2 neD (mtL cntL (var 1) (cst (.bl true))) (cst (.int 1)))) (notT (tst (callB (isE a o) (valA (var 0) (valA (cst (.ty "ValueError")) noA)))))) (retS (cst (.str "other"))) skipS) (thenS (setS 2 (ofN (lstN (valA (cst (.str "InvalidName")) (valA (cst (.str "InvalidWord")) (valA (cst (.str "InvalidRule")) (valA (cst (.str "InvalidNotice")) (valA (cst (.str "InvalidCopy")) (valA (cst (.str "InvalidRoom")) noA))))))))) (thenS (setS 2 (op2 addA (var 2) (ofN (lstN (valA (cst (.str "InvalidCells")) (valA (cst (.str "UnknownCell")) (valA (cst (.str "NameTaken")) (valA (cst (.str "TransactionOpen")) (valA (cst (.str "UnknownSavepoint")) (valA (cst (.str "Ended")) noA)))))))))) (thenS (setS 2 (op2 addA (var 2) (ofN (lstN (valA (cst (.str "InvalidStep")) (valA (cst (.str "InvalidNumber")) (valA (cst (.str "InvalidGraph")) (valA (cst (.str "InvalidRun")) (valA (cst (.str "InvalidWay")) (valA (cst (.str "InvalidClients")) noA)))))))))) (thenS (setS 2 (op2 addA (var 2) (ofN (lstN (valA (cst (.str "InvalidDay")) (valA (cst (.str "InvalidHistory")) noA)))))) (retS (ifE (tst (op2 ilt (mtL idxL (var 1) (cst (.bl true))) (cst (.int 20)))) (op2 ixD (var 2) (mtL idxL (var 1) (cst (.bl true)))) neverE))))))))))))))))
noncomputable def ph_kind (a : Addr) (o : Str → Option Bool) : List Sl → FR := fnF 1 3 (F_kind a o)
theorem kind_eval {a : Addr} {o : Str → Option Bool} {c : Str} {i : Int} {b1 b2 b3 b4 b5 b6 b7 b8 b9 b10 b11 b12 b13 b14 b15 b16 b17 b18 b19 b20 b21 b22 b23 b24 b25 : Bool} (hb : kAll.map o = [some b1, some b2, some b3, some b4, some b5, some b6, some b7, some b8, some b9, some b10, some b11, some b12, some b13, some b14, some b15, some b16, some b17, some b18, some b19, some b20, some b21, some b22, some b23, some b24, some b25])
    (hc : cntL [.bl b1, .bl b2, .bl b3, .bl b4, .bl b5, .bl b6, .bl b7, .bl b8, .bl b9, .bl b10, .bl b11, .bl b12, .bl b13, .bl b14, .bl b15, .bl b16, .bl b17, .bl b18, .bl b19, .bl b20, .bl b21, .bl b22, .bl b23, .bl b24, .bl b25] (.bl true) = some (.int 1)) (hi : idxL [.bl b1, .bl b2, .bl b3, .bl b4, .bl b5, .bl b6, .bl b7, .bl b8, .bl b9, .bl b10, .bl b11, .bl b12, .bl b13, .bl b14, .bl b15, .bl b16, .bl b17, .bl b18, .bl b19, .bl b20, .bl b21, .bl b22, .bl b23, .bl b24, .bl b25] (.bl true) = some (.int i)) (hlt : i < 20) (hn : L2.atI ([.str "InvalidName", .str "InvalidWord", .str "InvalidRule", .str "InvalidNotice", .str "InvalidCopy", .str "InvalidRoom", .str "InvalidCells", .str "UnknownCell", .str "NameTaken", .str "TransactionOpen", .str "UnknownSavepoint", .str "Ended", .str "InvalidStep", .str "InvalidNumber", .str "InvalidGraph", .str "InvalidRun", .str "InvalidWay", .str "InvalidClients", .str "InvalidDay", .str "InvalidHistory"] : List D) i = some (.str c)) :
    ph_kind a o [.val (.adr a)] = .ret (.str c) [.val (.adr a)] := by
  simp only [kAll, kNames, kMore, List.cons_append, List.nil_append, List.map_cons, List.map_nil, List.cons.injEq, and_true] at hb
  obtain ⟨h1, h2, h3, h4, h5, h6, h7, h8, h9, h10, h11, h12, h13, h14, h15, h16, h17, h18, h19, h20, h21, h22, h23, h24, h25⟩ := hb
  unfold ph_kind F_kind
  simp [ev_fn, h1, h2, h3, h4, h5, h6, h7, h8, h9, h10, h11, h12, h13, h14, h15, h16, h17, h18, h19, h20, h21, h22, h23, h24, h25, hc, hi, hlt, hn]
theorem kind_ok {a : Addr} {c : Str} (h : kNames.contains c = true) : ph_kind a (ieK c) [.val (.adr a)] = .ret (.str c) [.val (.adr a)] := by
  have h := List.contains_iff_mem.mp h
  simp only [kNames, List.mem_cons, List.not_mem_nil, or_false] at h
  rcases h with rfl | rfl | rfl | rfl | rfl | rfl | rfl | rfl | rfl | rfl | rfl | rfl | rfl | rfl | rfl | rfl | rfl | rfl | rfl | rfl
  · exact kind_eval (i := 0) (b1 := true) (b2 := false) (b3 := false) (b4 := false) (b5 := false) (b6 := false) (b7 := false) (b8 := false) (b9 := false) (b10 := false) (b11 := false) (b12 := false) (b13 := false) (b14 := false) (b15 := false) (b16 := false) (b17 := false) (b18 := false) (b19 := false) (b20 := false) (b21 := false) (b22 := false) (b23 := false) (b24 := false) (b25 := false) (by decide +kernel) (by rfl) (by rfl) (by omega) (by rfl)
  · exact kind_eval (i := 1) (b1 := false) (b2 := true) (b3 := false) (b4 := false) (b5 := false) (b6 := false) (b7 := false) (b8 := false) (b9 := false) (b10 := false) (b11 := false) (b12 := false) (b13 := false) (b14 := false) (b15 := false) (b16 := false) (b17 := false) (b18 := false) (b19 := false) (b20 := false) (b21 := false) (b22 := false) (b23 := false) (b24 := false) (b25 := false) (by decide +kernel) (by rfl) (by rfl) (by omega) (by rfl)
  · exact kind_eval (i := 2) (b1 := false) (b2 := false) (b3 := true) (b4 := false) (b5 := false) (b6 := false) (b7 := false) (b8 := false) (b9 := false) (b10 := false) (b11 := false) (b12 := false) (b13 := false) (b14 := false) (b15 := false) (b16 := false) (b17 := false) (b18 := false) (b19 := false) (b20 := false) (b21 := false) (b22 := false) (b23 := false) (b24 := false) (b25 := false) (by decide +kernel) (by rfl) (by rfl) (by omega) (by rfl)
  · exact kind_eval (i := 3) (b1 := false) (b2 := false) (b3 := false) (b4 := true) (b5 := false) (b6 := false) (b7 := false) (b8 := false) (b9 := false) (b10 := false) (b11 := false) (b12 := false) (b13 := false) (b14 := false) (b15 := false) (b16 := false) (b17 := false) (b18 := false) (b19 := false) (b20 := false) (b21 := false) (b22 := false) (b23 := false) (b24 := false) (b25 := false) (by decide +kernel) (by rfl) (by rfl) (by omega) (by rfl)
  · exact kind_eval (i := 4) (b1 := false) (b2 := false) (b3 := false) (b4 := false) (b5 := true) (b6 := false) (b7 := false) (b8 := false) (b9 := false) (b10 := false) (b11 := false) (b12 := false) (b13 := false) (b14 := false) (b15 := false) (b16 := false) (b17 := false) (b18 := false) (b19 := false) (b20 := false) (b21 := false) (b22 := false) (b23 := false) (b24 := false) (b25 := false) (by decide +kernel) (by rfl) (by rfl) (by omega) (by rfl)
  · exact kind_eval (i := 5) (b1 := false) (b2 := false) (b3 := false) (b4 := false) (b5 := false) (b6 := true) (b7 := false) (b8 := false) (b9 := false) (b10 := false) (b11 := false) (b12 := false) (b13 := false) (b14 := false) (b15 := false) (b16 := false) (b17 := false) (b18 := false) (b19 := false) (b20 := false) (b21 := false) (b22 := false) (b23 := false) (b24 := false) (b25 := false) (by decide +kernel) (by rfl) (by rfl) (by omega) (by rfl)
  · exact kind_eval (i := 6) (b1 := false) (b2 := false) (b3 := false) (b4 := false) (b5 := false) (b6 := false) (b7 := true) (b8 := false) (b9 := false) (b10 := false) (b11 := false) (b12 := false) (b13 := false) (b14 := false) (b15 := false) (b16 := false) (b17 := false) (b18 := false) (b19 := false) (b20 := false) (b21 := false) (b22 := false) (b23 := false) (b24 := false) (b25 := false) (by decide +kernel) (by rfl) (by rfl) (by omega) (by rfl)
  · exact kind_eval (i := 7) (b1 := false) (b2 := false) (b3 := false) (b4 := false) (b5 := false) (b6 := false) (b7 := false) (b8 := true) (b9 := false) (b10 := false) (b11 := false) (b12 := false) (b13 := false) (b14 := false) (b15 := false) (b16 := false) (b17 := false) (b18 := false) (b19 := false) (b20 := false) (b21 := false) (b22 := false) (b23 := false) (b24 := false) (b25 := false) (by decide +kernel) (by rfl) (by rfl) (by omega) (by rfl)
  · exact kind_eval (i := 8) (b1 := false) (b2 := false) (b3 := false) (b4 := false) (b5 := false) (b6 := false) (b7 := false) (b8 := false) (b9 := true) (b10 := false) (b11 := false) (b12 := false) (b13 := false) (b14 := false) (b15 := false) (b16 := false) (b17 := false) (b18 := false) (b19 := false) (b20 := false) (b21 := false) (b22 := false) (b23 := false) (b24 := false) (b25 := false) (by decide +kernel) (by rfl) (by rfl) (by omega) (by rfl)
  · exact kind_eval (i := 9) (b1 := false) (b2 := false) (b3 := false) (b4 := false) (b5 := false) (b6 := false) (b7 := false) (b8 := false) (b9 := false) (b10 := true) (b11 := false) (b12 := false) (b13 := false) (b14 := false) (b15 := false) (b16 := false) (b17 := false) (b18 := false) (b19 := false) (b20 := false) (b21 := false) (b22 := false) (b23 := false) (b24 := false) (b25 := false) (by decide +kernel) (by rfl) (by rfl) (by omega) (by rfl)
  · exact kind_eval (i := 10) (b1 := false) (b2 := false) (b3 := false) (b4 := false) (b5 := false) (b6 := false) (b7 := false) (b8 := false) (b9 := false) (b10 := false) (b11 := true) (b12 := false) (b13 := false) (b14 := false) (b15 := false) (b16 := false) (b17 := false) (b18 := false) (b19 := false) (b20 := false) (b21 := false) (b22 := false) (b23 := false) (b24 := false) (b25 := false) (by decide +kernel) (by rfl) (by rfl) (by omega) (by rfl)
  · exact kind_eval (i := 11) (b1 := false) (b2 := false) (b3 := false) (b4 := false) (b5 := false) (b6 := false) (b7 := false) (b8 := false) (b9 := false) (b10 := false) (b11 := false) (b12 := true) (b13 := false) (b14 := false) (b15 := false) (b16 := false) (b17 := false) (b18 := false) (b19 := false) (b20 := false) (b21 := false) (b22 := false) (b23 := false) (b24 := false) (b25 := false) (by decide +kernel) (by rfl) (by rfl) (by omega) (by rfl)
  · exact kind_eval (i := 12) (b1 := false) (b2 := false) (b3 := false) (b4 := false) (b5 := false) (b6 := false) (b7 := false) (b8 := false) (b9 := false) (b10 := false) (b11 := false) (b12 := false) (b13 := true) (b14 := false) (b15 := false) (b16 := false) (b17 := false) (b18 := false) (b19 := false) (b20 := false) (b21 := false) (b22 := false) (b23 := false) (b24 := false) (b25 := false) (by decide +kernel) (by rfl) (by rfl) (by omega) (by rfl)
  · exact kind_eval (i := 13) (b1 := false) (b2 := false) (b3 := false) (b4 := false) (b5 := false) (b6 := false) (b7 := false) (b8 := false) (b9 := false) (b10 := false) (b11 := false) (b12 := false) (b13 := false) (b14 := true) (b15 := false) (b16 := false) (b17 := false) (b18 := false) (b19 := false) (b20 := false) (b21 := false) (b22 := false) (b23 := false) (b24 := false) (b25 := false) (by decide +kernel) (by rfl) (by rfl) (by omega) (by rfl)
  · exact kind_eval (i := 14) (b1 := false) (b2 := false) (b3 := false) (b4 := false) (b5 := false) (b6 := false) (b7 := false) (b8 := false) (b9 := false) (b10 := false) (b11 := false) (b12 := false) (b13 := false) (b14 := false) (b15 := true) (b16 := false) (b17 := false) (b18 := false) (b19 := false) (b20 := false) (b21 := false) (b22 := false) (b23 := false) (b24 := false) (b25 := false) (by decide +kernel) (by rfl) (by rfl) (by omega) (by rfl)
  · exact kind_eval (i := 15) (b1 := false) (b2 := false) (b3 := false) (b4 := false) (b5 := false) (b6 := false) (b7 := false) (b8 := false) (b9 := false) (b10 := false) (b11 := false) (b12 := false) (b13 := false) (b14 := false) (b15 := false) (b16 := true) (b17 := false) (b18 := false) (b19 := false) (b20 := false) (b21 := false) (b22 := false) (b23 := false) (b24 := false) (b25 := false) (by decide +kernel) (by rfl) (by rfl) (by omega) (by rfl)
  · exact kind_eval (i := 16) (b1 := false) (b2 := false) (b3 := false) (b4 := false) (b5 := false) (b6 := false) (b7 := false) (b8 := false) (b9 := false) (b10 := false) (b11 := false) (b12 := false) (b13 := false) (b14 := false) (b15 := false) (b16 := false) (b17 := true) (b18 := false) (b19 := false) (b20 := false) (b21 := false) (b22 := false) (b23 := false) (b24 := false) (b25 := false) (by decide +kernel) (by rfl) (by rfl) (by omega) (by rfl)
  · exact kind_eval (i := 17) (b1 := false) (b2 := false) (b3 := false) (b4 := false) (b5 := false) (b6 := false) (b7 := false) (b8 := false) (b9 := false) (b10 := false) (b11 := false) (b12 := false) (b13 := false) (b14 := false) (b15 := false) (b16 := false) (b17 := false) (b18 := true) (b19 := false) (b20 := false) (b21 := false) (b22 := false) (b23 := false) (b24 := false) (b25 := false) (by decide +kernel) (by rfl) (by rfl) (by omega) (by rfl)
  · exact kind_eval (i := 18) (b1 := false) (b2 := false) (b3 := false) (b4 := false) (b5 := false) (b6 := false) (b7 := false) (b8 := false) (b9 := false) (b10 := false) (b11 := false) (b12 := false) (b13 := false) (b14 := false) (b15 := false) (b16 := false) (b17 := false) (b18 := false) (b19 := true) (b20 := false) (b21 := false) (b22 := false) (b23 := false) (b24 := false) (b25 := false) (by decide +kernel) (by rfl) (by rfl) (by omega) (by rfl)
  · exact kind_eval (i := 19) (b1 := false) (b2 := false) (b3 := false) (b4 := false) (b5 := false) (b6 := false) (b7 := false) (b8 := false) (b9 := false) (b10 := false) (b11 := false) (b12 := false) (b13 := false) (b14 := false) (b15 := false) (b16 := false) (b17 := false) (b18 := false) (b19 := false) (b20 := true) (b21 := false) (b22 := false) (b23 := false) (b24 := false) (b25 := false) (by decide +kernel) (by rfl) (by rfl) (by omega) (by rfl)
end PV

/-! Od: values of many kinds; a value with one part otherwise. -/
namespace PV
open PySem PySem.Spec PyProof.Rows L2
noncomputable def F_odd : DE → O := (killS true [] (thenS (setS 1 (ofN (lstN (valA (cst .non) (valA (cst (.bl true)) (valA (cst (.bl false)) (valA (negE (cst (.int 1))) (valA (cst (.int 0)) (valA (cst (.int 1)) (valA (cst (.int 2)) (valA (cst (.int 200)) (valA (cst (.int 201)) (valA (op2 ipow (cst (.int 10)) (cst (.int 39))) (valA (cst (.str "")) (valA (cst (.str "a")) (valA (cst (.str "first")) (valA (cst (.str "A")) (valA (cst (.str "a b")) (valA (cst (.str "a:b")) (valA (cst (.str "x1")) (valA (cst (.str "1")) noA))))))))))))))))))))) (thenS (setS 1 (op2 addA (var 1) (ofN (lstN (valA (cst (.str "sevenab")) (valA (cst (.str "a\n")) (valA (tupE noA) (valA (ofN (lstN noA)) (valA (ofN dNew) (valA (tupE (valA (cst (.int 0)) noA)) (valA (tupE (valA (cst (.str "a")) noA)) (valA (ofN (lstN (valA (cst (.str "a")) noA))) (valA (ofN (dOneS "a" "x")) (valA (tupE (valA (cst (.bl true)) noA)) (valA (tupE (valA (cst .non) noA)) (valA (tupE (valA (cst (.str "say")) noA)) noA)))))))))))))))) (thenS (setS 1 (op2 addA (var 1) (ofN (lstN (valA (tupE (valA (cst (.str "a")) (valA (cst (.str "b")) noA))) (valA (tupE (valA (tupE noA) noA)) noA)))))) (retS (op2 ixD (var 1) (callF ph_draw (slotA 0 (valA (callB lenD (valA (var 1) noA)) noA)))))))))
noncomputable def ph_odd : List Sl → FR := fnF 1 2 F_odd
noncomputable def F_bent (ψ : List Sl → FR) : DE → O := (killS true [] (thenS (ifS (orT (notT (tst (callB isiD (valA (var 1) (valA (cst (.ty "tuple")) noA))))) (orT (tst (op2 eqD (var 1) (tupE noA))) (tst (op2 eqD (var 2) (cst (.int 0)))))) (retS (callF ph_odd (slotA 0 noA))) skipS) (thenS (parS [3, 4] (valI (callF ph_draw (slotA 0 (valA (callB lenD (valA (var 1) noA)) noA))) (valI (callF ph_draw (slotA 0 (valA (cst (.int 7)) noA))) noI))) (thenS (ifS (tst (op2 eqD (var 4) (cst (.int 0)))) (retS (op2 addA (slE (var 1) oNo (oSome (var 3))) (slE (var 1) (oSome (op2 addA (var 3) (cst (.int 1)))) oNo))) skipS) (thenS (ifS (tst (op2 eqD (var 4) (cst (.int 1)))) (retS (op2 addA (op2 addA (slE (var 1) oNo (oSome (var 3))) (slE (var 1) (oSome (var 3)) (oSome (op2 addA (var 3) (cst (.int 1)))))) (slE (var 1) (oSome (var 3)) oNo))) skipS) (thenS (ifS (tst (op2 eqD (var 4) (cst (.int 2)))) (retS (op2 ixD (ofN (lstN (valA (ofN (callN listN (valA (var 1) noA))) (valA (revE (var 1)) noA)))) (callF ph_draw (slotA 0 (valA (cst (.int 2)) noA))))) skipS) (retS (op2 addA (op2 addA (slE (var 1) oNo (oSome (var 3))) (tupE (valA (callF ψ (slotA 0 (valA (op2 ixD (var 1) (var 3)) (valA (op2 isub (var 2) (cst (.int 1))) noA)))) noA))) (slE (var 1) (oSome (op2 addA (var 3) (cst (.int 1)))) oNo)))))))))
noncomputable def ph_bent : Nat → List Sl → FR
  | 0 => fun _ => .stuck
  | n + 1 => fnF 3 5 (F_bent (ph_bent n))
theorem pick_in {m : MD} {l : List D} (hp : IsPen m) (h0 : l ≠ []) (h1 : l.length ≤ 1000) : ∃ d m', IsPen m' ∧ d ∈ l ∧ ph_pick [.bor m, .val (.lst l)] = .ret d [.bor m', .val (.lst l)] := pick_ok hp (List.length_pos_iff.mpr h0) (by rw [lim_eq]; omega)
theorem draw_in {m : MD} {k : Nat} (hp : IsPen m) (h0 : 0 < k) (h1 : k ≤ 1000000) : ∃ (r : Nat) (m' : MD), IsPen m' ∧ r < k ∧ ph_draw [.bor m, .val (.int k)] = .ret (.int r) [.bor m', .val (.int k)] := by
  obtain ⟨r, m', h2, h3, h4, h5⟩ := draw_ok (k := k) hp (by omega) (by omega)
  exact ⟨r.toNat, m', h2, by omega, by rw [h5]; congr 2; omega⟩
abbrev oddL : List D := [.non, .bl true, .bl false, .int (-1), .int 0, .int 1, .int 2, .int 200, .int 201, .int 1000000000000000000000000000000000000000, .str "", .str "a", .str "first", .str "A", .str "a b", .str "a:b", .str "x1", .str "1", .str "sevenab", .str "a\n", .tup [], .lst [], .dct [], .tup [.int 0], .tup [.str "a"], .lst [.str "a"], .dct [(.inr "a", .str "x")], .tup [.bl true], .tup [.non], .tup [.str "say"], .tup [.str "a", .str "b"], .tup [.tup []]]
theorem odd_ok {m : MD} (hp : IsPen m) : ∃ d m', IsPen m' ∧ d ∈ oddL ∧ ph_odd [.bor m] = .ret d [.bor m'] := by
  obtain ⟨r, m1, p1, h2, e1⟩ := draw_in (k := 32) hp (by omega) (by omega)
  have e1 : ph_draw [.bor m, .val (.int 32)] = .ret (.int r) [.bor m1, .val (.int 32)] := e1
  have hr : r < oddL.length := h2
  have hx : L2.atI oddL (r : Int) = some oddL[r] := atI_nat (List.getElem?_eq_getElem hr)
  have hm := List.getElem_mem hr
  have p39 : ipow (.int 10) (.int 39) = some (.int 1000000000000000000000000000000000000000) := by simp [iopC, powOk]
  refine ⟨oddL[r], m1, p1, hm, ?_⟩
  generalize oddL[r] = d at hx
  unfold oddL at hx
  unfold ph_odd F_odd
  simp [ev_fn, p39, e1, hx, dNew]
/-! ### kinds of data -/
/-- without lists and dicts -/
inductive Pln (N : Nat) : Nat → D → Prop
  | non {k : Nat} : Pln N k .non
  | bl {k : Nat} {b : Bool} : Pln N k (.bl b)
  | int {k : Nat} {i : Int} : i.natAbs < 10 ^ 42 → Pln N k (.int i)
  | str {k : Nat} {s : Str} : PyData.strOk s = true → Pln N k (.str s)
  | tup {k : Nat} {l : List D} : l.length ≤ N → (∀ x ∈ l, Pln N k x) → Pln N (k + 1) (.tup l)
inductive Good (N : Nat) : Nat → D → Prop
  | non {k : Nat} : Good N k .non
  | bl {k : Nat} {b : Bool} : Good N k (.bl b)
  | int {k : Nat} {i : Int} : i.natAbs < 10 ^ 42 → Good N k (.int i)
  | str {k : Nat} {s : Str} : PyData.strOk s = true → Good N k (.str s)
  | tup {k : Nat} {l : List D} : l.length ≤ N → (∀ x ∈ l, Good N k x) → Good N (k + 1) (.tup l)
  | lst {k : Nat} {l : List D} : l.length ≤ N → (∀ x ∈ l, Good N k x) → Good N (k + 1) (.lst l)
  | dct0 {k : Nat} : Good N k (.dct [])
  | dct1 {k : Nat} : Good N k (.dct [(.inr "a", .str "x")])
theorem Good.mono {N N' k : Nat} {d : D} (h : Good N k d) : ∀ {k' : Nat}, N ≤ N' → k ≤ k' → Good N' k' d := by
  induction h with
  | non => intros; exact .non
  | bl => intros; exact .bl
  | int h => intros; exact .int h
  | str h => intros; exact .str h
  | tup hl _ ih =>
    intro k' h1 h2
    cases k' with
    | zero => omega
    | succ k' => exact .tup (by omega) fun x hx => ih x hx h1 (by omega)
  | lst hl _ ih =>
    intro k' h1 h2
    cases k' with
    | zero => omega
    | succ k' => exact .lst (by omega) fun x hx => ih x hx h1 (by omega)
  | dct0 => intros; exact .dct0
  | dct1 => intros; exact .dct1
theorem Good.kn {N k : Nat} {d : D} (h : Good N k d) : d.kn = true := by cases h <;> rfl
theorem Good.sub {N k : Nat} {l : List D} (h : Good N (k + 1) (.tup l)) : l.length ≤ N ∧ ∀ x ∈ l, Good N k x := by cases h; exact ⟨by assumption, by assumption⟩
theorem Good.len {N k : Nat} {l : List D} (h : Good N k (.tup l)) : l.length ≤ N ∧ ∀ x ∈ l, x.kn = true := by
  cases h with
  | tup h1 h2 => exact ⟨h1, fun x hx => (h2 x hx).kn⟩
theorem Pln.show_ {N k : Nat} {d : D} (h : Pln N k d) : ∃ n, ShowW n (k + 1) d := by
  induction h with
  | non => exact ⟨0, ShowW.non.mono (by omega) (by omega)⟩
  | bl => exact ⟨0, ShowW.bl.mono (by omega) (by omega)⟩
  | int h => exact ⟨141, (ShowW.int h).mono (by omega) (by omega)⟩
  | str h => exact ⟨_, (ShowW.str h).mono (Nat.le_refl _) (by omega)⟩
  | tup hl h ih =>
    rename_i k l
    have : ∀ l' : List D, (∀ x ∈ l', ∃ n, ShowW n (k + 1) x) → ∃ n, ∀ x ∈ l', ShowW n (k + 1) x := fun l' => by
      induction l' with
      | nil => exact fun _ => ⟨0, fun x hx => (nomatch hx)⟩
      | cons a l' ih' =>
        intro h
        obtain ⟨n, hn⟩ := ih' fun x hx => h x (List.mem_cons_of_mem _ hx)
        obtain ⟨n', hn'⟩ := h a List.mem_cons_self
        refine ⟨max n n', fun x hx => ?_⟩
        rcases List.mem_cons.mp hx with rfl | hx
        · exact hn'.mono (Nat.le_max_right _ _) (Nat.le_refl _)
        · exact (hn x hx).mono (Nat.le_max_left _ _) (Nat.le_refl _)
    obtain ⟨n, hn⟩ := this l ih
    exact ⟨_, (ShowW.tup hn).mono (Nat.le_refl _) (by omega)⟩
theorem Pln.good {N k : Nat} {d : D} (h : Pln N k d) : Good N k d := by
  induction h with
  | non => exact .non
  | bl => exact .bl
  | int h => exact .int h
  | str h => exact .str h
  | tup hl h ih => exact .tup hl ih
theorem tup_nil {N : Nat} {l : List D} {k : Nat} (h : Pln N k (.tup l)) (hk : k ≤ 50) : eqD (.tup l) (.tup []) = some (.bl l.isEmpty) := by
  obtain ⟨n, p, e1, g2, g3, g4, g5, g6⟩ := h.show_
  have e2 : (D.tup []).py = some (.tuple []) := by unfold D.py D.pys; rfl
  have s1 : SeqAt.shaped p = true := by
    unfold SeqAt.shaped
    rw [g2, Bool.true_and, decide_eq_true_eq]; omega
  have s2 : SeqAt.shaped (.tuple []) = true := by decide
  have e3 : PyData.eqv p (.tuple []) = l.isEmpty := by
    unfold D.py at e1
    obtain ⟨ps, h1, rfl⟩ := Option.map_eq_some_iff.mp e1
    cases l with
    | nil => unfold D.pys at h1; cases h1; rfl
    | cons a l =>
      unfold D.pys at h1
      obtain ⟨q, h2, h3⟩ := Option.bind_eq_some_iff.mp h1
      obtain ⟨qs, h4, rfl⟩ := Option.map_eq_some_iff.mp h3
      rfl
  show ((eqS (.tup l) (.tup [])).or (eqP (.tup l) (.tup []))).map D.bl = _
  have : eqP (.tup l) (.tup []) = some l.isEmpty := by
    unfold eqP
    rw [e1, e2]
    simp only [s1, s2, and_self, if_true, e3]
  rw [this]
  rfl
theorem odd_good {d : D} (h : d ∈ oddL) {N k : Nat} (hN : 2 ≤ N) (hk : 2 ≤ k) : Good N k d := by
  obtain ⟨k, rfl⟩ : ∃ j, k = j + 2 := ⟨k - 2, by omega⟩
  have one : ∀ {d : D}, Good N (k + 1) d → Good N (k + 2) (.tup [d]) := fun h => .tup (by simp; omega) fun x hx => by rw [List.mem_singleton.mp hx]; exact h
  simp only [oddL, List.mem_cons, List.not_mem_nil, or_false] at h
  rcases h with rfl | rfl | rfl | rfl | rfl | rfl | rfl | rfl | rfl | rfl | rfl | rfl | rfl | rfl | rfl | rfl | rfl | rfl | rfl | rfl | rfl | rfl | rfl | rfl | rfl | rfl | rfl | rfl | rfl | rfl | rfl | rfl
  all_goals first
    | exact .non
    | exact .bl
    | exact .int (by decide)
    | exact .str (by decide +kernel)
    | exact .dct0
    | exact .dct1
    | exact .tup (Nat.zero_le _) fun x hx => (nomatch hx)
    | exact .lst (Nat.zero_le _) fun x hx => (nomatch hx)
    | exact one .non
    | exact one .bl
    | exact one (.int (by decide))
    | exact one (.str (by decide +kernel))
    | exact one (.tup (Nat.zero_le _) fun x hx => (nomatch hx))
    | exact .lst (by simp; omega) fun x hx => by rw [List.mem_singleton.mp hx]; exact .str (by decide +kernel)
    | skip
  exact .tup (by simp; omega) fun x hx => by
    simp only [List.mem_cons, List.not_mem_nil, or_false] at hx
    rcases hx with rfl | rfl <;> exact .str (by decide +kernel)
theorem odd_show {d : D} (h : d ∈ oddL) : ShowY 150 3 d := by
  have one : ∀ {n k : Nat} {d : D}, ShowY n k d → ShowY (n + 1 + 0) (k + 1) (.tup [d]) := fun h => (ShowYs.cons h .nil).tup
  simp only [oddL, List.mem_cons, List.not_mem_nil, or_false] at h
  rcases h with rfl | rfl | rfl | rfl | rfl | rfl | rfl | rfl | rfl | rfl | rfl | rfl | rfl | rfl | rfl | rfl | rfl | rfl | rfl | rfl | rfl | rfl | rfl | rfl | rfl | rfl | rfl | rfl | rfl | rfl | rfl | rfl
  all_goals first
    | exact ShowY.non.mono (by omega) (by omega)
    | exact ShowY.bl.mono (by omega) (by omega)
    | exact (ShowY.int (by decide)).mono (by omega) (by omega)
    | exact (ShowY.str (by decide +kernel)).mono (by decide +kernel) (by omega)
    | exact ShowY.dct0.mono (by omega) (by omega)
    | exact ShowY.dct1.mono (by omega) (by omega)
    | exact (ShowYs.nil (k := 1)).tup.mono (by omega) (by omega)
    | exact (ShowYs.nil (k := 1)).lst.mono (by omega) (by omega)
    | exact (one ShowY.non).mono (by omega) (by omega)
    | exact (one ShowY.bl).mono (by omega) (by omega)
    | exact (one (ShowY.int (by decide))).mono (by omega) (by omega)
    | exact (one (ShowY.str (by decide +kernel))).mono (by decide +kernel) (by omega)
    | exact (one (ShowYs.nil (k := 1)).tup).mono (by omega) (by omega)
    | exact ((ShowYs.cons (ShowY.str (by decide +kernel)) .nil).lst).mono (by decide +kernel) (by omega)
    | exact ((ShowYs.cons (ShowY.str (by decide +kernel)) (ShowYs.cons (ShowY.str (by decide +kernel)) .nil)).tup).mono (by decide +kernel) (by omega)
theorem cut_mem {l : List D} {lo hi : Option Int} {x : D} (h : x ∈ cutD l lo hi) : x ∈ l := by
  unfold cutD at h
  exact List.mem_of_mem_drop (List.mem_of_mem_take h)
theorem cut_mid {l : List D} {r : Nat} (h : r < l.length) : (cutD l (some (r : Int)) (some ((r : Int) + 1))).length = 1 := by
  have e : ((r : Int) + 1) = ((r + 1 : Nat) : Int) := by omega
  unfold cutD
  rw [e, HT.sIx_nat, HT.sIx_nat, List.length_take, List.length_drop]
  omega
theorem showY_pos {w K : Nat} {l : List D} (h : ShowY w K (.tup l)) : 1 ≤ K := by
  obtain ⟨p, h1, h2, h3, h4, h5⟩ := h
  unfold D.pyY at h1
  obtain ⟨ps, g1, rfl⟩ := Option.map_eq_some_iff.mp h1
  simp only [PyData.depth] at h4
  omega
theorem bent_ok2 : ∀ (n : Nat) {N : Nat} {m : MD} {k deep : Nat} {d : D}, IsPen m → Pln N k d → 1 ≤ N → N ≤ 1000 → k ≤ 50 → deep < n → ∃ d' m', IsPen m' ∧ (Good (N + 1) (k + 2) d' ∧ ∀ w K, ShowY w K d → ShowY (2 * w + 200) (K + 3) d') ∧ ph_bent n [.bor m, .val d, .val (.int deep)] = .ret d' [.bor m', .val d, .val (.int deep)]
  | 0, _, _, _, _, _, _, _, _, _, _, h => absurd h (Nat.not_lt_zero _)
  | n + 1, N, m, k, deep, d, hp, hd, hN1, hN, hk, hn => by
    have podd : ∃ d' m', IsPen m' ∧ (Good (N + 1) (k + 2) d' ∧ ∀ w K, ShowY w K d → ShowY (2 * w + 200) (K + 3) d') ∧ ph_odd [.bor m] = .ret d' [.bor m'] := by
      obtain ⟨d', m', q1, q2, q3⟩ := odd_ok hp
      exact ⟨d', m', q1, ⟨odd_good q2 (by omega) (by omega), fun w K _ => (odd_show q2).mono (by omega) (by omega)⟩, q3⟩
    have hd0 := hd
    show ∃ d' m', IsPen m' ∧ (Good (N + 1) (k + 2) d' ∧ ∀ w K, ShowY w K d → ShowY (2 * w + 200) (K + 3) d') ∧ fnF 3 5 (F_bent (ph_bent n)) [.bor m, .val d, .val (.int deep)] = .ret d' [.bor m', .val d, .val (.int deep)]
    unfold F_bent
    obtain ⟨d1, m1, q1, q2, q3⟩ := podd
    cases hd with
    | non => exact ⟨d1, m1, q1, q2, by simp [ev_fn, isi_tup, D.bTup, q3]⟩
    | bl => exact ⟨d1, m1, q1, q2, by simp [ev_fn, isi_tup, D.bTup, q3]⟩
    | int h => exact ⟨d1, m1, q1, q2, by simp [ev_fn, isi_tup, D.bTup, q3]⟩
    | str h => exact ⟨d1, m1, q1, q2, by simp [ev_fn, isi_tup, D.bTup, q3]⟩
    | tup hl h =>
      rename_i k l
      have e0 := tup_nil hd0 hk
      by_cases hnil : l = []
      · subst hnil
        exact ⟨d1, m1, q1, q2, by simp [ev_fn, isi_tup, D.bTup, e0, q3]⟩
      have hne : l.isEmpty = false := by cases l with | nil => exact absurd rfl hnil | cons a l => rfl
      rw [hne] at e0
      by_cases hdp : deep = 0
      · subst hdp
        exact ⟨d1, m1, q1, q2, by simp [ev_fn, isi_tup, D.bTup, e0, q3]⟩
      have hpos : 0 < l.length := List.length_pos_iff.mpr hnil
      obtain ⟨r, m2, p2, hr, e2⟩ := draw_in (k := l.length) hp hpos (by omega)
      obtain ⟨s, m3, p3, hs, e3⟩ := draw_in (k := 7) p2 (by omega) (by omega)
      have e3 : ph_draw [.bor m2, .val (.int 7)] = .ret (.int s) [.bor m3, .val (.int 7)] := e3
      have hg : ∀ x ∈ l, Good (N + 1) (k + 2) x := fun x hx => (h x hx).good.mono (by omega) (by omega)
      have c1 : cutD l none (some (r : Int)) = l.take r := cut_to r
      have c2 : cutD l (some (r : Int)) none = l.drop r := cut_from r
      have c3 : cutD l (some ((r : Int) + 1)) none = l.drop (r + 1) := cut_from (r + 1)
      have t1 : (l.take r).length = r := by rw [List.length_take]; omega
      have t2 : (l.drop (r + 1)).length = l.length - (r + 1) := List.length_drop
      have t3 : (l.drop r).length = l.length - r := List.length_drop
      have t4 := cut_mid hr
      have hdeep : ¬ ((deep : Int) = 0) := by omega
      by_cases s0 : s = 0
      · subst s0
        refine ⟨.tup (l.take r ++ l.drop (r + 1)), m3, p3, ⟨.tup (by rw [List.length_append]; omega) fun x hx => ?_, fun w K hw => ?_⟩, ?_⟩
        · rcases List.mem_append.mp hx with hx | hx
          · exact hg x (List.mem_of_mem_take hx)
          · exact hg x (List.mem_of_mem_drop hx)
        · have hK := showY_pos hw
          obtain ⟨K, rfl⟩ : ∃ j, K = j + 1 := ⟨K - 1, by omega⟩
          obtain ⟨a, b, hab, w1, w2⟩ := hw.untup.split r
          obtain ⟨a', b', hab', w1', w2'⟩ := hw.untup.split (r + 1)
          exact ((w1.append w2').tup).mono (by omega) (by omega)
        · have l1 : (l.take r).length + (l.drop (r + 1)).length ≤ 1000000 := by omega
          generalize l.take r = TA at *
          generalize l.drop (r + 1) = TB at *
          simp [ev_fn, isi_tup, D.bTup, e0, hdp, e2, e3, c1, c3, l1]
      by_cases s1 : s = 1
      · subst s1
        refine ⟨.tup ((l.take r ++ cutD l (some (r : Int)) (some ((r : Int) + 1))) ++ l.drop r), m3, p3, ⟨.tup (by rw [List.length_append, List.length_append]; omega) fun x hx => ?_, fun w K hw => ?_⟩, ?_⟩
        · rcases List.mem_append.mp hx with hx | hx
          · rcases List.mem_append.mp hx with hx | hx
            · exact hg x (List.mem_of_mem_take hx)
            · exact hg x (cut_mem hx)
          · exact hg x (List.mem_of_mem_drop hx)
        · have hK := showY_pos hw
          obtain ⟨K, rfl⟩ : ∃ j, K = j + 1 := ⟨K - 1, by omega⟩
          obtain ⟨a, b, hab, w1, w2⟩ := hw.untup.split r
          have w3 : ShowYs (1 * (w + 1)) K (cutD l (some (r : Int)) (some ((r : Int) + 1))) := by
            have := ShowYs.all (n := w) (k := K) (l := cutD l (some (r : Int)) (some ((r : Int) + 1))) fun x hx => hw.untup.mem x (cut_mem hx)
            rw [t4] at this
            exact this
          exact (((w1.append w3).append w2).tup).mono (by omega) (by omega)
        · have l1 : (l.take r).length + (cutD l (some (r : Int)) (some ((r : Int) + 1))).length ≤ 1000000 := by omega
          have l2 : (l.take r).length + (cutD l (some (r : Int)) (some ((r : Int) + 1))).length + (l.drop r).length ≤ 1000000 := by omega
          generalize l.take r = TA at *
          generalize l.drop r = TB at *
          generalize hTC : cutD l (some (r : Int)) (some ((r : Int) + 1)) = TC at *
          have l3 : TA.length + (TC.length + TB.length) ≤ 1000000 := by omega
          simp [ev_fn, isi_tup, D.bTup, e0, hdp, e2, e3, c1, c2, hTC, l1, l2, l3]
      by_cases s2 : s = 2
      · subst s2
        obtain ⟨j, m4, p4, hj, e4⟩ := draw_in (k := 2) p3 (by omega) (by omega)
        have e4 : ph_draw [.bor m3, .val (.int 2)] = .ret (.int j) [.bor m4, .val (.int 2)] := e4
        obtain rfl | rfl : j = 0 ∨ j = 1 := by omega
        · have ea : L2.atI [D.lst l, D.tup l.reverse] 0 = some (.lst l) := rfl
          refine ⟨.lst l, m4, p4, ⟨.lst (by omega) hg, fun w K hw => ?_⟩, ?_⟩
          · have hK := showY_pos hw
            obtain ⟨K, rfl⟩ : ∃ j, K = j + 1 := ⟨K - 1, by omega⟩
            exact hw.untup.lst.mono (by omega) (by omega)
          simp [ev_fn, isi_tup, D.bTup, e0, hdp, e2, e3, e4, ea]
        · have ea : L2.atI [D.lst l, D.tup l.reverse] 1 = some (.tup l.reverse) := rfl
          refine ⟨.tup l.reverse, m4, p4, ⟨.tup (by rw [List.length_reverse]; omega) fun x hx => hg x (List.mem_reverse.mp hx), fun w K hw => ?_⟩, ?_⟩
          · have hK := showY_pos hw
            obtain ⟨K, rfl⟩ : ∃ j, K = j + 1 := ⟨K - 1, by omega⟩
            exact hw.untup.rev.tup.mono (by omega) (by omega)
          simp [ev_fn, isi_tup, D.bTup, e0, hdp, e2, e3, e4, ea]
      · have hx : L2.atI l (r : Int) = some l[r] := atI_nat (List.getElem?_eq_getElem hr)
        have hm := List.getElem_mem hr
        obtain ⟨d4, m4, p4, ⟨g4, w4⟩, e4⟩ := bent_ok2 n (deep := deep - 1) (m := m3) p3 (h _ hm) hN1 hN (by omega) (by omega)
        have ed : ((deep - 1 : Nat) : Int) = (deep : Int) - 1 := by omega
        rw [ed] at e4
        refine ⟨.tup ((l.take r ++ [d4]) ++ l.drop (r + 1)), m4, p4, ⟨.tup (by rw [List.length_append, List.length_append, List.length_singleton]; omega) fun x hx => ?_, fun w K hw => ?_⟩, ?_⟩
        · rcases List.mem_append.mp hx with hx | hx
          · rcases List.mem_append.mp hx with hx | hx
            · exact hg x (List.mem_of_mem_take hx)
            · rw [List.mem_singleton.mp hx]; exact g4
          · exact hg x (List.mem_of_mem_drop hx)
        · have hK := showY_pos hw
          obtain ⟨K, rfl⟩ : ∃ j, K = j + 1 := ⟨K - 1, by omega⟩
          obtain ⟨a, b, hab, w1, w2⟩ := hw.untup.split r
          have ed : l.drop r = l[r] :: l.drop (r + 1) := List.drop_eq_getElem_cons hr
          rw [ed] at w2
          obtain ⟨x, y, hxy, w5, w6⟩ := w2.uncons
          have w7 := w4 x K w5
          exact (((w1.mono (Nat.le_refl _) (Nat.le_add_right K 3)).append (ShowYs.cons w7 .nil)).append (w6.mono (Nat.le_refl _) (Nat.le_add_right K 3))).tup.mono (by omega) (by omega)
        · have l1 : (l.take r).length + 1 ≤ 1000000 := by omega
          have l2 : (l.take r).length + 1 + (l.drop (r + 1)).length ≤ 1000000 := by omega
          generalize l[r] = lr at *
          generalize l.take r = TA at *
          generalize l.drop (r + 1) = TB at *
          have l3 : TA.length + (1 + TB.length) ≤ 1000000 := by omega
          have l4 : TA.length + (TB.length + 1) ≤ 1000000 := by omega
          have s0' : ¬ (s : Int) = 0 := by omega
          have s1' : ¬ (s : Int) = 1 := by omega
          have s2' : ¬ (s : Int) = 2 := by omega
          simp [ev_fn, isi_tup, D.bTup, e0, hdp, e2, e3, s0, s1', s2', hx, e4, c1, c3, l1, l2, l3, l4]
theorem bent_ok (n : Nat) {N : Nat} {m : MD} {k deep : Nat} {d : D} (hp : IsPen m) (hd : Pln N k d) (h1 : 1 ≤ N) (h2 : N ≤ 1000) (h3 : k ≤ 50) (h4 : deep < n) : ∃ d' m', IsPen m' ∧ Good (N + 1) (k + 2) d' ∧ ph_bent n [.bor m, .val d, .val (.int deep)] = .ret d' [.bor m', .val d, .val (.int deep)] := by
  obtain ⟨d', m', a, b, c⟩ := bent_ok2 n hp hd h1 h2 h3 h4
  exact ⟨d', m', a, b.1, c⟩
/-! ### weights -/
mutual
def D.wt : D → Nat
  | .int _ => 141
  | .str s => s.cps.size
  | .tup l => D.wts l
  | .lst l => D.wts l
  | .dct _ => 4
  | _ => 0
def D.wts : List D → Nat
  | [] => 0
  | d :: ds => D.wt d + 1 + D.wts ds
end
theorem Good.show_ {N k : Nat} {d : D} (h : Good N k d) : ShowY d.wt (k + 2) d := by
  have all : ∀ {k : Nat} (l : List D), (∀ x ∈ l, ShowY x.wt (k + 2) x) → ShowYs (D.wts l) (k + 2) l := fun {k} l => by
    induction l with
    | nil => exact fun _ => by unfold D.wts; exact .nil
    | cons a l ih =>
      intro h
      unfold D.wts
      exact .cons (h a List.mem_cons_self) (ih fun x hx => h x (List.mem_cons_of_mem _ hx))
  induction h with
  | non => exact ShowY.non.mono (by omega) (by omega)
  | bl => exact ShowY.bl.mono (by omega) (by omega)
  | int h => exact (ShowY.int h).mono (by unfold D.wt; omega) (by omega)
  | str h => exact (ShowY.str h).mono (by unfold D.wt; omega) (by omega)
  | tup hl h ih => exact (all _ ih).tup.mono (by unfold D.wt; omega) (by omega)
  | lst hl h ih => exact (all _ ih).lst.mono (by unfold D.wt; omega) (by omega)
  | dct0 => exact ShowY.dct0.mono (by omega) (by omega)
  | dct1 => exact ShowY.dct1.mono (by unfold D.wt; omega) (by omega)
theorem goodL_nil {N k : Nat} : ∀ x ∈ ([] : List D), Good N k x := fun x hx => (nomatch hx)
theorem goodL_cons {N k : Nat} {d : D} {l : List D} (h : Good N k d) (g : ∀ x ∈ l, Good N k x) : ∀ x ∈ d :: l, Good N k x := fun x hx => by
  rcases List.mem_cons.mp hx with rfl | hx
  · exact h
  · exact g x hx
theorem Good.sub' {N k : Nat} {d : D} (h : Good N k d) : ∀ l, d = .tup l → ∀ x ∈ l, ∃ j, Good N j x := fun l e x hx => by
  subst e
  cases h with
  | tup h1 h2 => exact ⟨_, h2 x hx⟩
end PV

/-! Mr1: mirrors. -/
namespace PV
open PySem PySem.Spec PyProof.Rows L2
noncomputable def F_p_is_between : DE → O := (killS true [] (retS (andE (callB isiD (valA (var 0) (valA (cst (.ty "int")) noA))) (andE (notE (callB isiD (valA (var 0) (valA (cst (.ty "bool")) noA)))) (chn ile ile (var 1) (var 0) (var 2))))))
noncomputable def ph_p_is_between : List Sl → FR := fnF 3 3 F_p_is_between
noncomputable def F_p_Graph_init : DE → O := (killS true [] (thenS (fldS ["Mirror"] 0 "nodes" (var 1)) (fldS ["Mirror"] 0 "finals" (var 2))))
noncomputable def ph_p_Graph_init : List Sl → FR := fnF 3 3 F_p_Graph_init
noncomputable def F_p_is_mirror_step : DE → O := (killS true [] (retS (andE (callB isiD (valA (var 0) (valA (cst (.ty "str")) noA))) (op2 (inF false) (var 0) (cst (.ctp [(.str "begin"), (.str "commit"), (.str "rollback"), (.str "listen"), (.str "unlisten"), (.str "read"), (.str "receive"), (.str "disconnect")]))))))
noncomputable def ph_p_is_mirror_step : List Sl → FR := fnF 1 1 F_p_is_mirror_step
noncomputable def L_p_are_nodes_1 : DE → O := (killS true [false, false, false, true] (thenS (ifS (orT (notT (tst (callB isiD (valA (var 3) (valA (cst (.ty "tuple")) noA))))) (orT (tst (op2 neD (callB lenD (valA (var 3) noA)) (cst (.int 2)))) (notT (tst (callL 1 [("is_mirror_step", ph_p_is_mirror_step)] (valA (op2 ixD (var 3) (cst (.int 0))) noA)))))) (retS (cst (.bl false))) skipS) (ifS (notT (tst (callF ph_p_is_between (valA (op2 ixD (var 3) (cst (.int 1))) (valA (cst (.int 0)) (valA (op2 isub (callB lenD (valA (var 0) noA)) (cst (.int 1))) noA)))))) (retS (cst (.bl false))) skipS)))
noncomputable def L_p_are_nodes_2 : DE → O := (killS true [false, false, true, true] (thenS (ifS (orT (notT (tst (callB isiD (valA (var 2) (valA (cst (.ty "tuple")) noA))))) (tst (op2 igt (callB lenD (valA (var 2) noA)) (cst (.int 3))))) (retS (cst (.bl false))) skipS) (forS (seqE (var 2)) (nmG 3) L_p_are_nodes_1)))
noncomputable def F_p_are_nodes : DE → O := (killS true [] (thenS (ifS (orT (notT (tst (callB isiD (valA (var 0) (valA (cst (.ty "tuple")) noA))))) (notT (tst (chn ile ile (cst (.int 1)) (callB lenD (valA (var 0) noA)) (cst (.int 6)))))) (retS (cst (.bl false))) skipS) (thenS (forS (seqE (var 0)) (nmG 2) L_p_are_nodes_2) (retS (cst (.bl true))))))
noncomputable def ph_p_are_nodes : List Sl → FR := fnF 2 4 F_p_are_nodes
noncomputable def F_p_are_finals : DE → O := (killS true [] (thenS (ifS (orT (notT (tst (callB isiD (valA (var 0) (valA (cst (.ty "tuple")) noA))))) (notT (tst (callB allD (valA (ofN (lcN (seqE (var 0)) (nmG 2) noCond (callF ph_p_is_between (valA (var 2) (valA (cst (.int 0)) (valA (op2 isub (var 1) (cst (.int 1))) noA)))) [2])) noA))))) (retS (cst (.bl false))) skipS) (retS (callB allD (valA (ofN (lcN (zipE (valA (var 0) (valA (slE (var 0) (oSome (cst (.int 1))) oNo) noA))) (tupG 2 (consG (nmG 2) (consG (nmG 3) nilG))) noCond (op2 ilt (var 2) (var 3)) [2, 3])) noA)))))
noncomputable def ph_p_are_finals : List Sl → FR := fnF 2 4 F_p_are_finals
noncomputable def F_p_Mirror_init : DE → O := (thenS (ifS (orT (notT (tst (callF ph_p_are_nodes (valA (var 1) (valA (cst (.fn "is_mirror_step")) noA))))) (notT (tst (callF ph_p_are_finals (valA (var 2) (valA (callB lenD (valA (var 1) noA)) noA)))))) (raiseS "InvalidGraph") skipS) (dropS (supE ["Mirror"] ph_p_Graph_init (valA (var 1) (valA (var 2) noA)))))
noncomputable def ph_p_Mirror_init : List Sl → FR := fnF 3 3 F_p_Mirror_init
noncomputable def F_finals : DE → O := (killS true [] (retS (callB tupleD (valA (ofN (lcN (rng1 (valA (var 1) noA)) (nmG 2) (tst (op2 igt (callF ph_draw (slotA 0 (valA (cst (.int 3)) noA))) (cst (.int 0)))) (var 2) [2])) noA))))
noncomputable def ph_finals : List Sl → FR := fnF 2 3 F_finals
noncomputable def F_mirror_step : DE → O := (killS true [] (thenS (setS 1 (ofN (lstN (valA (cst (.str "begin")) (valA (cst (.str "commit")) (valA (cst (.str "rollback")) (valA (cst (.str "listen")) (valA (cst (.str "unlisten")) (valA (cst (.str "read")) (valA (cst (.str "receive")) (valA (cst (.str "disconnect")) noA))))))))))) (retS (callF ph_pick (slotA 0 (valA (op2 addA (var 1) (ofN (lstN (valA (cst (.str "listen")) (valA (cst (.str "read")) (valA (cst (.str "read")) (valA (cst (.str "receive")) (valA (cst (.str "commit")) (valA (cst (.str "begin")) (valA (cst (.str "listen")) noA)))))))))) noA))))))
noncomputable def ph_mirror_step : List Sl → FR := fnF 1 2 F_mirror_step
noncomputable def L_mirror_nodes_1 : DE → O := (killS true [false, false, true, false, false, false, true, true, false] (thenS (setS 6 (callF ph_pick (slotA 0 (valA (ofN (lstN (valA (cst (.int 1)) (valA (cst (.int 1)) (valA (cst (.int 1)) (valA (cst (.int 2)) (valA (cst (.int 2)) (valA (cst (.int 3)) (valA (cst (.int 0)) noA))))))))) noA)))) (thenS (setS 7 (ofN (lcN (rng1 (valA (var 6) noA)) (nmG 8) noCond (tupE (valA (callF ph_mirror_step (slotA 0 noA)) (valA (callF ph_draw (slotA 0 (valA (var 3) noA))) noA))) [8]))) (thenS (ifS (andT (tst (op2 eqD (var 5) (cst (.int 1)))) (tst (op2 ilt (op2 addA (var 2) (cst (.int 1))) (var 3)))) (setS 7 (op2 addA (ofN (lstN (valA (tupE (valA (callF ph_mirror_step (slotA 0 noA)) (valA (op2 addA (var 2) (cst (.int 1))) noA))) noA))) (slE (var 7) (oSome (cst (.int 2))) oNo))) skipS) (appS 4 (callB tupleD (valA (var 7) noA)))))))
noncomputable def F_mirror_nodes : DE → O := (killS true [] (thenS (parS [3, 4, 5] (valI (op2 addA (cst (.int 1)) (callF ph_draw (slotA 0 (valA (var 1) noA)))) (ownI (lstN noA) (valI (callF ph_draw (slotA 0 (valA (cst (.int 2)) noA))) noI)))) (thenS (forS (rng1 (valA (var 3) noA)) (nmG 2) L_mirror_nodes_1) (retS (callB tupleD (slotA 4 noA))))))
noncomputable def ph_mirror_nodes : List Sl → FR := fnF 2 9 F_mirror_nodes
/-! ### checks of any data -/
def isBtw (d : D) (lo hi : Int) : Bool := match d with
  | .int i => decide (lo ≤ i) && decide (i ≤ hi)
  | _ => false
theorem is_between_ok {d : D} {lo hi : Int} (h : d.kn = true) : ph_p_is_between [.val d, .val (.int lo), .val (.int hi)] = .ret (.bl (isBtw d lo hi)) [.val d, .val (.int lo), .val (.int hi)] := by
  unfold ph_p_is_between F_p_is_between
  cases d <;> first | (cases h; done) | (simp [ev_fn, isi_int, isi_bl, D.bInt, D.bBl, isBtw]; done) | skip
  rename_i i
  by_cases h1 : lo ≤ i <;> by_cases h2 : i ≤ hi <;> simp [ev_fn, isi_int, isi_bl, D.bInt, D.bBl, isBtw, h1, h2]
abbrev rSteps : List Str := ["begin", "commit", "rollback", "listen", "unlisten", "read", "receive", "disconnect"]
def stepB (d : D) : Bool := match d with
  | .str s => decide (s ∈ rSteps)
  | _ => false
theorem is_step_ok {d : D} (h : d.kn = true) : ph_p_is_mirror_step [.val d] = .ret (.bl (stepB d)) [.val d] := by
  unfold ph_p_is_mirror_step F_p_is_mirror_step
  cases d <;> first | (cases h; done) | (simp [ev_fn, isi_str, D.bStr, stepB]; done) | skip
  rename_i s
  have e := inF_strC (k := s) (l := rSteps)
  simp only [List.map_cons, List.map_nil] at e
  simp [ev_fn, isi_str, D.bStr, stepB, e]
/-- all parts are data that isinstance can tell of -/
def edgeB (many : Nat) (d : D) : Bool := match d with
  | .tup [a, b] => stepB a && isBtw b 0 ((many : Int) - 1)
  | _ => false
def nodeB (many : Nat) (d : D) : Bool := match d with
  | .tup es => decide (es.length ≤ 3) && es.all (edgeB many)
  | _ => false
def nodesB (d : D) : Bool := match d with
  | .tup ns => decide (1 ≤ ns.length) && decide (ns.length ≤ 6) && ns.all (nodeB ns.length)
  | _ => false
def kn1 (d : D) : Prop := d.kn = true ∧ ∀ l, d = .tup l → ∀ x ∈ l, x.kn = true
def kn2 (d : D) : Prop := d.kn = true ∧ ∀ l, d = .tup l → ∀ x ∈ l, kn1 x
def kn3 (d : D) : Prop := d.kn = true ∧ ∀ l, d = .tup l → ∀ x ∈ l, kn2 x

abbrev AN (ns : List D) (x y : Option Sl) : DE := [some (.val (.tup ns)), some (.val (.fn "is_mirror_step")), x, y]
theorem edge_turn {ns es : List D} {e : D} (h : kn1 e) : Turn (α := D) (fun _ : Unit => AN ns (some (.val (.tup es))) none) (fun _ => [none, none, none, none]) (nmG 3) L_p_are_nodes_1 (fun _ => True) () e (if edgeB ns.length e = true then .go () else .ret (.bl false) ()) := by
  refine ⟨AN ns (some (.val (.tup es))) (some (.val e)), rfl, ?_⟩
  unfold L_p_are_nodes_1
  obtain ⟨h0, h1⟩ := h
  cases e <;> first | (cases h0; done) | (simp [isi_tup, D.bTup, edgeB]; done) | skip
  rename_i l
  match l, h1 l rfl with
  | [], _ => simp [isi_tup, D.bTup, edgeB]
  | [a], _ => simp [isi_tup, D.bTup, edgeB]
  | [a, b], h2 =>
    have ha : a.kn = true := h2 a (by simp)
    have hb : b.kn = true := h2 b (by simp)
    have e0 : L2.atI [a, b] 0 = some a := rfl
    have e1 : L2.atI [a, b] 1 = some b := rfl
    simp [isi_tup, D.bTup, edgeB, e0, e1, callL, lkT, is_step_ok ha, is_between_ok hb]
    cases stepB a <;> cases isBtw b 0 ((ns.length : Int) - 1) <;> simp
  | a :: b :: c :: l, _ =>
    have : ¬ ((l.length : Int) + 1 + 1 + 1 = 2) := by omega
    simp [isi_tup, D.bTup, edgeB, this]
theorem node_turn {ns : List D} {nd : D} (h : kn2 nd) : Turn (α := D) (fun _ : Unit => AN ns none none) (fun _ => [none, none, none, none]) (nmG 2) L_p_are_nodes_2 (fun _ => True) () nd (if nodeB ns.length nd = true then .go () else .ret (.bl false) ()) := by
  refine ⟨AN ns (some (.val nd)) none, rfl, ?_⟩
  unfold L_p_are_nodes_2
  obtain ⟨h0, h1⟩ := h
  cases nd <;> first | (cases h0; done) | (simp [isi_tup, D.bTup, nodeB]; done) | skip
  rename_i es
  have hl := loop_run (t := nmG 3) (g := L_p_are_nodes_1) id (fun _ : Unit => AN ns (some (.val (.tup es))) none) (fun _ => [none, none, none, none]) (fun _ e => if edgeB ns.length e = true then .go () else .ret (.bl false) ()) (fun _ => True) es (fun _ e he _ => edge_turn (h1 es rfl e he)) () trivial
  rw [List.map_id, runL_all] at hl
  by_cases hc : es.length ≤ 3
  · have hc' : ¬ (3 : Int) < (es.length : Int) := by omega
    by_cases ha : es.all (edgeB ns.length) = true
    · rw [if_pos ha] at hl
      have : nodeB ns.length (.tup es) = true := by unfold nodeB; simp only [ha, hc, decide_true, Bool.and_self]
      simp only [this]
      simp [isi_tup, D.bTup, hc', hl, LR.o]
    · rw [if_neg ha] at hl
      have : nodeB ns.length (.tup es) = false := by unfold nodeB; simp [ha, hc]
      simp only [this]
      simp [isi_tup, D.bTup, hc', hl, LR.o]
  · have hc' : (3 : Int) < (es.length : Int) := by omega
    have : nodeB ns.length (.tup es) = false := by unfold nodeB; simp [hc]
    simp only [this]
    simp [isi_tup, D.bTup, hc']
theorem are_nodes_ok {d : D} (h : kn3 d) : ph_p_are_nodes [.val d, .val (.fn "is_mirror_step")] = .ret (.bl (nodesB d)) [.val d, .val (.fn "is_mirror_step")] := by
  unfold ph_p_are_nodes F_p_are_nodes
  obtain ⟨h0, h1⟩ := h
  cases d <;> first | (cases h0; done) | (simp [ev_fn, isi_tup, D.bTup, nodesB]; done) | skip
  rename_i ns
  have hl := loop_run (t := nmG 2) (g := L_p_are_nodes_2) id (fun _ : Unit => AN ns none none) (fun _ => [none, none, none, none]) (fun _ e => if nodeB ns.length e = true then .go () else .ret (.bl false) ()) (fun _ => True) ns (fun _ e he _ => node_turn (h1 ns rfl e he)) () trivial
  rw [List.map_id, runL_all] at hl
  by_cases hc : 1 ≤ ns.length
  · have hc' : (1 : Int) ≤ (ns.length : Int) := by omega
    by_cases hd : ns.length ≤ 6
    · have hd' : (ns.length : Int) ≤ 6 := by omega
      by_cases ha : ns.all (nodeB ns.length) = true
      · rw [if_pos ha] at hl
        have : nodesB (.tup ns) = true := by unfold nodesB; simp only [ha, hc, hd, decide_true, Bool.and_self]
        simp [ev_fn, isi_tup, D.bTup, hc', hd', hl, LR.o, this]
      · rw [if_neg ha] at hl
        have : nodesB (.tup ns) = false := by unfold nodesB; simp [ha, hc, hd]
        simp [ev_fn, isi_tup, D.bTup, hc', hd', hl, LR.o, this]
    · have hd' : ¬ (ns.length : Int) ≤ 6 := by omega
      have : nodesB (.tup ns) = false := by unfold nodesB; simp [hd]
      simp [ev_fn, isi_tup, D.bTup, hc', hd', this]
  · have hc' : ¬ (1 : Int) ≤ (ns.length : Int) := by omega
    have : nodesB (.tup ns) = false := by unfold nodesB; simp [hc]
    simp [ev_fn, isi_tup, D.bTup, hc', this]
/-! ### finals -/
def intOf : D → Int
  | .int i => i
  | _ => 0
def ascI (l : List Int) : Bool := (l.zipWith (fun a b => decide (a < b)) (l.drop 1)).all id
def finalsB (many : Nat) (d : D) : Bool := match d with
  | .tup l => l.all (fun x => isBtw x 0 ((many : Int) - 1)) && ascI (l.map intOf)
  | _ => false
theorem ints_btw {l : List D} {lo hi : Int} (h : l.all (fun x => isBtw x lo hi) = true) : l = (l.map intOf).map D.int := by
  induction l with
  | nil => rfl
  | cons x l ih =>
    rw [List.all_cons, Bool.and_eq_true] at h
    rw [List.map_cons, List.map_cons, ← ih h.2]
    cases x <;> first | (cases h.1; done) | rfl
theorem zip_ints (l m : List Int) : zipD (l.map D.int) (m.map D.int) = (l.zip m).map fun p => .tup [.int p.1, .int p.2] := by
  unfold zipD
  rw [List.zipWith_map]
  induction l generalizing m with
  | nil => rfl
  | cons a l ih => cases m with
    | nil => rfl
    | cons b m => simp [ih]
theorem are_finals_ok {d : D} {many : Nat} (h : kn1 d) (hs : ∀ l, d = .tup l → l.length ≤ 1000) : ph_p_are_finals [.val d, .val (.int many)] = .ret (.bl (finalsB many d)) [.val d, .val (.int many)] := by
  unfold ph_p_are_finals F_p_are_finals
  obtain ⟨h0, h1⟩ := h
  cases d <;> first | (cases h0; done) | (simp [ev_fn, isi_tup, D.bTup, finalsB]; done) | skip
  rename_i l
  have hl := hs l rfl
  have e1 := lcE_map (f := seqE (var 0)) (t := nmG 2) (elt := callF ph_p_is_between (valA (var 2) (valA (cst (.int 0)) (valA (op2 isub (var 1) (cst (.int 1))) noA)))) (vs := [2]) (δ := [some (.val (.tup l)), some (.val (.int many)), none, none]) (δ0 := [some (.val (.tup l)), some (.val (.int many)), none, none]) (δw := [some (.val (.tup l)), some (.val (.int many)), none, none]) (as := l) id (fun x => .bl (isBtw x 0 ((many : Int) - 1)))
    (by simp) rfl (by rw [lim_eq]; omega) (fun a ha => ⟨[some (.val (.tup l)), some (.val (.int many)), some (.val a), none], _, rfl, by simp [is_between_ok (h1 l rfl a ha)]; rfl, rfl⟩)
  have eb : l.map (fun x => D.bl (isBtw x 0 ((many : Int) - 1))) = (l.map fun x => isBtw x 0 ((many : Int) - 1)).map D.bl := by rw [List.map_map]; rfl
  have ec : (l.map fun x => isBtw x 0 ((many : Int) - 1)).all id = l.all fun x => isBtw x 0 ((many : Int) - 1) := by rw [List.all_map]; rfl
  have e2 : allD [.lst (l.map fun x => D.bl (isBtw x 0 ((many : Int) - 1)))] = some (.bl (l.all fun x => isBtw x 0 ((many : Int) - 1))) := by rw [eb, allD_b, ec]
  by_cases ha : (l.all fun x => isBtw x 0 ((many : Int) - 1)) = true
  · have hi := ints_btw ha
    have ez : zipD l (cutD l (some 1) none) = (((l.map intOf).zip ((l.map intOf).drop 1)).map fun p => D.tup [.int p.1, .int p.2]) := by
      rw [show ((1 : Int)) = ((1 : Nat) : Int) from rfl, cut_from]
      conv => lhs; rw [hi]
      rw [← List.map_drop, zip_ints]
    have e3 := lcE_map (f := zipE (valA (var 0) (valA (slE (var 0) (oSome (cst (.int 1))) oNo) noA))) (t := tupG 2 (consG (nmG 2) (consG (nmG 3) nilG))) (elt := op2 ilt (var 2) (var 3)) (vs := [2, 3]) (δ := [some (.val (.tup l)), some (.val (.int many)), none, none]) (δ0 := [some (.val (.tup l)), some (.val (.int many)), none, none]) (δw := [some (.val (.tup l)), some (.val (.int many)), none, none]) (as := (l.map intOf).zip ((l.map intOf).drop 1)) (fun p => .tup [.int p.1, .int p.2]) (fun p => .bl (decide (p.1 < p.2)))
      (by simp [ez]) rfl (by rw [lim_eq, List.length_zip, List.length_map]; omega) (fun a ha => ⟨[some (.val (.tup l)), some (.val (.int many)), some (.val (.int a.1)), some (.val (.int a.2))], _, rfl, by simp; rfl, rfl⟩)
    have ef : ((l.map intOf).zip ((l.map intOf).drop 1)).map (fun p => D.bl (decide (p.1 < p.2))) = (((l.map intOf).zipWith (fun a b => decide (a < b)) ((l.map intOf).drop 1))).map D.bl := by
      rw [List.map_zipWith, List.zip, List.map_zipWith]
    have e4 : allD [.lst (((l.map intOf).zip ((l.map intOf).drop 1)).map (fun p => D.bl (decide (p.1 < p.2))))] = some (.bl (ascI (l.map intOf))) := by rw [ef, allD_b]; rfl
    have : finalsB many (.tup l) = ascI (l.map intOf) := by
      show ((l.all fun x => isBtw x 0 ((many : Int) - 1)) && ascI (l.map intOf)) = _
      rw [ha]; rfl
    rw [ha] at e2
    generalize ((l.map intOf).zip ((l.map intOf).drop 1)).map (fun p => D.bl (decide (p.1 < p.2))) = zs at e3 e4
    simp [ev_fn, isi_tup, D.bTup, e1, e2, e3, e4, this]
  · have ha := Bool.eq_false_iff.mpr ha
    have : finalsB many (.tup l) = false := by
      show ((l.all fun x => isBtw x 0 ((many : Int) - 1)) && ascI (l.map intOf)) = _
      rw [ha]; rfl
    rw [ha] at e2
    simp [ev_fn, isi_tup, D.bTup, e1, e2, this]
/-! ### relays -/
abbrev Nd := List (List (Str × Nat))
def edgeD (e : Str × Nat) : D := .tup [.str e.1, .int (e.2 : Nat)]
def nodeD (n : List (Str × Nat)) : D := .tup (n.map edgeD)
def nodesD (n : Nd) : D := .tup (n.map nodeD)
def finD (f : List Nat) : D := .tup (f.map fun i => .int (i : Nat))
structure RelOk (n : Nd) (f : List Nat) : Prop where
  pos : 1 ≤ n.length
  few : n.length ≤ 6
  wid : ∀ nd ∈ n, nd.length ≤ 3
  stp : ∀ nd ∈ n, ∀ e ∈ nd, e.1 ∈ rSteps
  thr : ∀ nd ∈ n, ∀ e ∈ nd, e.2 < n.length
  fin : ∀ i ∈ f, i < n.length
  asc : f.Pairwise (· < ·)
theorem kn3_nodes (n : Nd) : kn3 (nodesD n) := by
  refine ⟨by simp [nodesD], fun l e x hx => ?_⟩
  cases e
  obtain ⟨nd, _, rfl⟩ := List.mem_map.mp hx
  refine ⟨by simp [nodeD], fun l e x hx => ?_⟩
  cases e
  obtain ⟨ed, _, rfl⟩ := List.mem_map.mp hx
  refine ⟨by simp [edgeD], fun l e x hx => ?_⟩
  cases e
  simp at hx
  rcases hx with rfl | rfl <;> simp
theorem kn1_fin (f : List Nat) : kn1 (finD f) := by
  refine ⟨by simp [finD], fun l e x hx => ?_⟩
  cases e
  obtain ⟨nd, _, rfl⟩ := List.mem_map.mp hx
  simp
theorem nodesB_ok {n : Nd} {f : List Nat} (h : RelOk n f) : nodesB (nodesD n) = true := by
  have h1 := h.pos
  have h2 := h.few
  unfold nodesB nodesD
  simp only [List.length_map, Bool.and_eq_true, decide_eq_true_eq]
  refine ⟨⟨h1, h2⟩, ?_⟩
  rw [List.all_eq_true]
  intro x hx
  obtain ⟨nd, hnd, rfl⟩ := List.mem_map.mp hx
  unfold nodeB nodeD
  simp only [List.length_map, Bool.and_eq_true, decide_eq_true_eq]
  refine ⟨h.wid nd hnd, ?_⟩
  rw [List.all_eq_true]
  intro y hy
  obtain ⟨e, he, rfl⟩ := List.mem_map.mp hy
  have g1 := h.stp nd hnd e he
  have g2 := h.thr nd hnd e he
  unfold edgeB edgeD stepB isBtw
  simp only [Bool.and_eq_true, decide_eq_true_eq]
  exact ⟨g1, by omega, by omega⟩
theorem ascI_ok : ∀ {f : List Nat}, f.Pairwise (· < ·) → ascI (f.map fun i => ((i : Nat) : Int)) = true
  | [], _ => rfl
  | [a], _ => rfl
  | a :: b :: r, h => by
    have ih := ascI_ok (f := b :: r) (List.pairwise_cons.mp h).2
    unfold ascI at ih ⊢
    have hab : a < b := (List.pairwise_cons.mp h).1 b (by simp)
    have : (a : Int) < (b : Int) := by omega
    simp only [List.map_cons, List.drop_succ_cons, List.drop_zero, List.zipWith_cons_cons, List.all_cons, id, Bool.and_eq_true, decide_eq_true_eq]
    refine ⟨this, ?_⟩
    simpa using ih
theorem finalsB_ok {n : Nd} {f : List Nat} (h : RelOk n f) : finalsB n.length (finD f) = true := by
  unfold finalsB finD
  simp only [Bool.and_eq_true]
  refine ⟨?_, ?_⟩
  · rw [List.all_eq_true]
    intro x hx
    obtain ⟨i, hi, rfl⟩ := List.mem_map.mp hx
    have := h.fin i hi
    unfold isBtw
    simp only [Bool.and_eq_true, decide_eq_true_eq]
    omega
  · rw [List.map_map]
    exact ascI_ok h.asc
theorem asc_len : ∀ {f : List Nat} {m : Nat}, f.Pairwise (· < ·) → (∀ i ∈ f, i < m) → f.length ≤ m := by
  intro f m h1 h2
  have nd : f.Nodup := h1.imp fun h => Nat.ne_of_lt h
  have := List.Nodup.length_le_of_subset nd (l₂ := List.range m) fun x hx => List.mem_range.mpr (h2 x hx)
  simpa using this
abbrev mirrorO (n : Nd) (f : List Nat) : D := .ins "Mirror" [("nodes", nodesD n), ("finals", finD f)]
theorem graph_init_ok {d e : D} : ph_p_Graph_init [.bor (.ins "Mirror" []), .val d, .val e] = .ret .non [.bor (.ins "Mirror" [("nodes", d), ("finals", e)]), .val d, .val e] := by
  unfold ph_p_Graph_init F_p_Graph_init
  have hk : ¬ (("nodes" : Str) = "finals") := by decide +kernel
  simp [ev_fn, fldS, ptF, hk]
theorem mirror_init_ok {n : Nd} {f : List Nat} (h : RelOk n f) : ph_p_Mirror_init [.bor (.ins "Mirror" []), .val (nodesD n), .val (finD f)] = .ret .non [.bor (.ins "Mirror" [("nodes", nodesD n), ("finals", finD f)]), .val (nodesD n), .val (finD f)] := by
  unfold ph_p_Mirror_init F_p_Mirror_init
  have e1 := are_nodes_ok (kn3_nodes n)
  rw [nodesB_ok h] at e1
  have e2 := are_finals_ok (many := n.length) (kn1_fin f) (fun l e => by cases e; have := asc_len h.asc h.fin; have := h.few; simp; omega)
  rw [finalsB_ok h] at e2
  have e3 : lenD [nodesD n] = some (.int n.length) := by simp [nodesD]
  simp [ev_fn, e1, e2, e3, supE, graph_init_ok]
theorem mirror_step_ok {m : MD} (hp : IsPen m) : ∃ s m', IsPen m' ∧ s ∈ rSteps ∧ ph_mirror_step [.bor m] = .ret (.str s) [.bor m'] := by
  obtain ⟨d, m', h1, h2, h3⟩ := pick_in (l := [.str "begin", .str "commit", .str "rollback", .str "listen", .str "unlisten", .str "read", .str "receive", .str "disconnect", .str "listen", .str "read", .str "read", .str "receive", .str "commit", .str "begin", .str "listen"]) hp (by simp) (by simp)
  have hs : ∃ s, d = .str s ∧ s ∈ rSteps := by
    simp only [List.mem_cons, List.not_mem_nil, or_false] at h2
    rcases h2 with h | h | h | h | h | h | h | h | h | h | h | h | h | h | h <;> exact ⟨_, h, by simp⟩
  obtain ⟨s, rfl, hs⟩ := hs
  refine ⟨s, m', h1, hs, ?_⟩
  unfold ph_mirror_step F_mirror_step
  simp [ev_fn, h3]
theorem finals_ok {m : MD} {n : Nat} (hp : IsPen m) (hn : n ≤ 1000) : ∃ (f : List Nat) (m' : MD), IsPen m' ∧ f.Pairwise (· < ·) ∧ (∀ i ∈ f, i < n) ∧ ph_finals [.bor m, .val (.int n)] = .ret (finD f) [.bor m', .val (.int n)] := by
  obtain ⟨ps, m', h1, h2, h3, h4⟩ := lcN_st (f := rng1 (valA (var 1) noA)) (t := nmG 2) (cond := tst (op2 igt (callF ph_draw (slotA 0 (valA (cst (.int 3)) noA))) (cst (.int 0)))) (elt := var 2) (vs := [2]) (δ := [some (.bor m), some (.val (.int n)), none]) (δ0 := [some (.bor m), some (.val (.int n)), none]) (as := List.range n)
    (fun i => .int (i : Nat)) (fun m : MD => [some (.bor m), some (.val (.int n)), none]) IsPen (fun i d => d = .int (i : Nat)) (s := m) (by simp [rgK_nat (n := n) (by omega)]) rfl hp (by rw [lim_eq, List.length_range]; omega)
    (fun m i hi hm => by
      obtain ⟨r, m1, g1, g2, g3⟩ := draw_in (k := 3) hm (by omega) (by omega)
      have g3 : ph_draw [.bor m, .val (.int 3)] = .ret (.int r) [.bor m1, .val (.int 3)] := g3
      refine ⟨[some (.bor m), some (.val (.int n)), some (.val (.int i))], decide ((0 : Int) < r), [some (.bor m1), some (.val (.int n)), some (.val (.int i))], rfl, by simp [g3], fun _ => ⟨m1, g1, rfl⟩, fun _ => ⟨.int i, _, m1, by simp; rfl, g1, rfl, rfl⟩⟩)
  have e : ps.map (·.2) = (ps.map (·.1)).map fun i => D.int ((i : Nat) : Int) := by
    rw [List.map_map]
    exact List.map_congr_left fun p hp => h4 p hp
  refine ⟨ps.map (·.1), m', h2, ?_, fun i hi => List.mem_range.mp (h3.subset hi), ?_⟩
  · exact List.Pairwise.sublist h3 List.pairwise_lt_range
  · unfold ph_finals F_finals finD
    rw [e] at h1
    simp [ev_fn, h1]
/-- the nodes drawn so far -/
structure NdOk (many : Nat) (n : Nd) : Prop where
  wid : ∀ nd ∈ n, nd.length ≤ 3
  stp : ∀ nd ∈ n, ∀ e ∈ nd, e.1 ∈ rSteps
  thr : ∀ nd ∈ n, ∀ e ∈ nd, e.2 < many
def edgeOf : D → Str × Nat
  | .tup [.str s, .int i] => (s, i.toNat)
  | _ => ("", 0)
abbrev RN (m : MD) (most many way : Nat) (n : Nd) (x2 x6 x7 : Option Sl) : DE := [some (.bor m), some (.val (.int most)), x2, some (.val (.int many)), some (.own (.lst (n.map nodeD))), some (.val (.int way)), x6, x7, none]
theorem rnode_turn {m : MD} {most many way k : Nat} {n : Nd} (hp : IsPen m) (h1 : 1 ≤ many) (h6 : many ≤ 6) (hn : NdOk many n) (hl : n.length ≤ 6) (hk : k < many) :
    ∃ m' nd, IsPen m' ∧ NdOk many (n ++ [nd]) ∧ L_mirror_nodes_1 (RN m most many way n (some (.val (.int k))) none none) = .nx (RN m' most many way (n ++ [nd]) none none none) := by
  obtain ⟨d, m1, p1, hd, e1⟩ := pick_in (l := [.int 1, .int 1, .int 1, .int 2, .int 2, .int 3, .int 0]) hp (by simp) (by simp)
  have hw : ∃ w : Nat, w ≤ 3 ∧ d = .int w := by
    simp only [List.mem_cons, List.not_mem_nil, or_false] at hd
    rcases hd with rfl | rfl | rfl | rfl | rfl | rfl | rfl
    · exact ⟨1, by omega, rfl⟩
    · exact ⟨1, by omega, rfl⟩
    · exact ⟨1, by omega, rfl⟩
    · exact ⟨2, by omega, rfl⟩
    · exact ⟨2, by omega, rfl⟩
    · exact ⟨3, by omega, rfl⟩
    · exact ⟨0, by omega, rfl⟩
  obtain ⟨w, hw, rfl⟩ := hw
  obtain ⟨ps, m2, e2, p2, s2, q2⟩ := lcN_st (f := rng1 (valA (var 6) noA)) (t := nmG 8) (cond := noCond) (elt := tupE (valA (callF ph_mirror_step (slotA 0 noA)) (valA (callF ph_draw (slotA 0 (valA (var 3) noA))) noA))) (vs := [8]) (δ := RN m1 most many way n (some (.val (.int k))) (some (.val (.int w))) none) (δ0 := RN m1 most many way n (some (.val (.int k))) (some (.val (.int w))) none) (as := List.range w)
    (fun i => .int (i : Nat)) (fun m : MD => RN m most many way n (some (.val (.int k))) (some (.val (.int w))) none) IsPen (fun i d => ∃ s j, s ∈ rSteps ∧ j < many ∧ d = edgeD (s, j)) (s := m1) (by simp [rgK_nat (n := w) (by omega)]) rfl p1 (by rw [lim_eq, List.length_range]; omega)
    (fun m i hi hm => by
      obtain ⟨s, m3, g1, g2, g3⟩ := mirror_step_ok hm
      obtain ⟨r, m4, g4, g5, g6⟩ := draw_in (k := many) g1 (by omega) (by omega)
      refine ⟨[some (.bor m), some (.val (.int most)), some (.val (.int k)), some (.val (.int many)), some (.own (.lst (n.map nodeD))), some (.val (.int way)), some (.val (.int w)), none, some (.val (.int i))], true, _, rfl, rfl, fun h => (nomatch h), fun _ => ⟨edgeD (s, r), [some (.bor m4), some (.val (.int most)), some (.val (.int k)), some (.val (.int many)), some (.own (.lst (n.map nodeD))), some (.val (.int way)), some (.val (.int w)), none, some (.val (.int i))], m4, ?_, g4, rfl, ⟨s, r, g2, g5, rfl⟩⟩⟩
      simp [g3, g6, edgeD])
  have hes : ∃ nd : List (Str × Nat), ps.map (·.2) = nd.map edgeD ∧ nd.length ≤ 3 ∧ ∀ e ∈ nd, e.1 ∈ rSteps ∧ e.2 < many := by
    refine ⟨ps.map fun p => edgeOf p.2, ?_, ?_, fun e he => ?_⟩
    · rw [List.map_map]
      refine List.map_congr_left fun p hp => ?_
      obtain ⟨s, j, _, _, e⟩ := q2 p hp
      show p.2 = edgeD (edgeOf p.2)
      rw [e]
      simp [edgeD, edgeOf]
    · have := s2.length_le
      rw [List.length_map, List.length_range] at this
      rw [List.length_map]; omega
    · obtain ⟨p, hp, rfl⟩ := List.mem_map.mp he
      obtain ⟨s, j, h1, h2, e⟩ := q2 p hp
      rw [e]
      simp [edgeD, edgeOf]
      exact ⟨by simpa using h1, h2⟩
  obtain ⟨nd, ee, hnd, hee⟩ := hes
  rw [ee] at e2
  have done : ∀ (m' : MD) (nd' : List (Str × Nat)), nd'.length ≤ 3 → (∀ e ∈ nd', e.1 ∈ rSteps ∧ e.2 < many) → NdOk many (n ++ [nd']) := fun m' nd' h1 h2 => by
    refine ⟨fun x hx => ?_, fun x hx e he => ?_, fun x hx e he => ?_⟩ <;> rcases List.mem_append.mp hx with hx | hx
    · exact hn.wid x hx
    · rw [List.mem_singleton.mp hx]; exact h1
    · exact hn.stp x hx e he
    · rw [List.mem_singleton.mp hx] at he; exact (h2 e he).1
    · exact hn.thr x hx e he
    · rw [List.mem_singleton.mp hx] at he; exact (h2 e he).2
  obtain ⟨s, m3, g1, g2, g3⟩ := mirror_step_ok p2
  have hc : cutD (nd.map edgeD) (some 2) none = (nd.drop 2).map edgeD := by rw [show (2 : Int) = ((2 : Nat) : Int) from rfl, cut_from, List.map_drop]
  have hlen : List.length n < 1000000 := by omega
  have hlen2 : 1 + (nd.length - 2) ≤ 1000000 := by omega
  by_cases hcnd : (way : Int) = 1 ∧ (k : Int) + 1 < many
  · refine ⟨m3, (s, k + 1) :: nd.drop 2, g1, done m3 _ (by rw [List.length_cons, List.length_drop]; omega) (fun e he => ?_), ?_⟩
    · rcases List.mem_cons.mp he with rfl | he
      · exact ⟨g2, by omega⟩
      · exact hee e (List.mem_of_mem_drop he)
    · have hd : D.tup (edgeD (s, k + 1) :: (nd.drop 2).map edgeD) = nodeD ((s, k + 1) :: nd.drop 2) := rfl
      unfold L_mirror_nodes_1
      obtain ⟨c1, c2⟩ := hcnd
      have c1' : (way = 1) = True := eq_true (by omega)
      have c1'' : ((way : Int) = 1) = True := eq_true c1
      simp [e1, e2, c1', c1'', c2, g3, hc, hlen, hlen2, nodeD, edgeD]
  · refine ⟨m2, nd, p2, done m2 _ (by omega) hee, ?_⟩
    unfold L_mirror_nodes_1
    by_cases c1 : (way : Int) = 1
    · have c2 : ¬ (k : Int) + 1 < many := fun z => hcnd ⟨c1, z⟩
      have c1' : (way = 1) = True := eq_true (by omega)
      have c1'' : ((way : Int) = 1) = True := eq_true c1
      simp [e1, e2, c1', c1'', c2, hlen, nodeD]
    · have c1' : ¬ way = 1 := by omega
      simp [e1, e2, c1, c1', hlen, nodeD]
theorem mirror_nodes_ok {m : MD} {most : Nat} (hp : IsPen m) (h1 : 1 ≤ most) (h6 : most ≤ 6) : ∃ n m', IsPen m' ∧ 1 ≤ List.length n ∧ List.length n ≤ most ∧ NdOk (List.length n) n ∧ ph_mirror_nodes [.bor m, .val (.int most)] = .ret (nodesD n) [.bor m', .val (.int most)] := by
  obtain ⟨r, m1, p1, h2, e1⟩ := draw_in (k := most) hp (by omega) (by omega)
  obtain ⟨way, m2, p2, h3, e2⟩ := draw_in (k := 2) p1 (by omega) (by omega)
  have e2 : ph_draw [.bor m1, .val (.int 2)] = .ret (.int way) [.bor m2, .val (.int 2)] := e2
  obtain ⟨many, hmany⟩ : ∃ many, many = r + 1 := ⟨_, rfl⟩
  have ei : (1 : Int) + (r : Int) = (many : Int) := by omega
  obtain ⟨δ', e3, m3, n, p3, hl, hn, rfl⟩ := loop_ok (t := nmG 2) (g := L_mirror_nodes_1) (ds := (List.range many).map fun i => .int (i : Nat)) (fun k δ => ∃ m n, IsPen m ∧ List.length n = k ∧ NdOk many n ∧ δ = RN m most many way n none none none)
    (fun k d δ hk hI => by
      obtain ⟨m, n, p, hl, hn, rfl⟩ := hI
      rw [List.getElem?_map] at hk
      obtain ⟨j, hj, rfl⟩ := Option.map_eq_some_iff.mp hk
      have hj' := List.getElem?_eq_some_iff.mp hj
      obtain ⟨hk1, hk2⟩ := hj'
      rw [List.length_range] at hk1
      rw [List.getElem_range] at hk2
      subst hk2
      obtain ⟨m', nd, q1, q2, q3⟩ := rnode_turn (m := m) (most := most) (many := many) (way := way) (k := k) p (by omega) (by omega) hn (by omega) hk1
      exact ⟨RN m most many way n (some (.val (.int k))) none none, _, rfl, q3, m', n ++ [nd], q1, by rw [List.length_append, hl]; rfl, q2, rfl⟩)
    (RN m2 most many way [] none none none) ⟨m2, [], p2, rfl, ⟨fun _ h => (nomatch h), fun _ h => (nomatch h), fun _ h => (nomatch h)⟩, rfl⟩
  rw [List.length_map, List.length_range] at hl
  refine ⟨n, m3, p3, by omega, by omega, by rw [hl]; exact hn, ?_⟩
  unfold ph_mirror_nodes F_mirror_nodes
  have eg := rgK_nat (n := many) (δ := [some (.bor m2), some (.val (.int most)), none, some (.val (.int many)), some (.own (.lst [])), some (.val (.int way)), none, none, none]) (by omega)
  have e3 : loopF (nmG 2) L_mirror_nodes_1 ((List.range many).map fun i => .int (i : Nat)) [some (.bor m2), some (.val (.int most)), none, some (.val (.int many)), some (.own (.lst [])), some (.val (.int way)), none, none, none] = .nx (RN m3 most many way n none none none) := e3
  simp [ev_fn, e1, e2, ei, eg, e3, nodesD]
end PV

/-! Qm: questions of mirrors. -/
namespace PV
open PySem PySem.Spec PyProof.Rows L2
noncomputable def F_p_Question_init : DE → O := (killS true [] (fldS ["Stale", "Back"] 0 "graph" (var 1)))
noncomputable def ph_p_Question_init : List Sl → FR := fnF 2 2 F_p_Question_init
noncomputable def F_p_Question_first : DE → O := (killS true [] (retS (tupE (valA (cst (.int 0)) (valA (cst (.int 0)) (valA (cst (.int 0)) (valA (cst (.int 0)) (valA (cst (.int 0)) (valA (cst (.int 0)) noA)))))))))
noncomputable def ph_p_Question_first : List Sl → FR := fnF 1 1 F_p_Question_first
noncomputable def F_p_Question_moves : DE → O := (killS true [] (retS (ofN (lstN (valA (tupE (valA (cst (.int 0)) (valA (var 1) noA))) noA)))))
noncomputable def ph_p_Question_moves : List Sl → FR := fnF 2 2 F_p_Question_moves
noncomputable def F_p_Question_is_bad : DE → O := (killS true [] (retS (op2 ilt (op2 ixD (var 1) (cst (.int 0))) (cst (.int 0)))))
noncomputable def ph_p_Question_is_bad : List Sl → FR := fnF 2 2 F_p_Question_is_bad
noncomputable def F_p_Watch_begun : DE → O := (killS true [] (retS (cst (.int 1))))
noncomputable def ph_p_Watch_begun : List Sl → FR := fnF 2 2 F_p_Watch_begun
noncomputable def F_p_Watch_lost : DE → O := (killS true [] (retS (tupE (valA (cst (.int 0)) (valA (cst (.int 0)) noA)))))
noncomputable def ph_p_Watch_lost : List Sl → FR := fnF 2 2 F_p_Watch_lost
noncomputable def F_p_Watch_copied : DE → O := (killS true [] (retS (var 2)))
noncomputable def ph_p_Watch_copied : List Sl → FR := fnF 3 3 F_p_Watch_copied
noncomputable def F_p_Watch_received : DE → O := (killS true [] (retS (var 1)))
noncomputable def ph_p_Watch_received : List Sl → FR := fnF 2 2 F_p_Watch_received
noncomputable def F_p_Watch_told : DE → O := (killS true [] (retS (tupE (valA (var 1) (valA (var 2) noA)))))
noncomputable def ph_p_Watch_told : List Sl → FR := fnF 3 3 F_p_Watch_told
noncomputable def F_p_Stale_lost : DE → O := (killS true [] (retS (tupE (valA (op2 ixD (var 1) (cst (.int 0))) (valA (cst (.int 0)) noA)))))
noncomputable def ph_p_Stale_lost : List Sl → FR := fnF 2 2 F_p_Stale_lost
noncomputable def F_p_Stale_copied : DE → O := (killS true [] (retS (tupE (valA (ifE (tst (op2 eqD (var 1) (cst (.int 2)))) (cst (.int 0)) (cst (.int 1))) (valA (op2 ixD (var 2) (cst (.int 1))) noA)))))
noncomputable def ph_p_Stale_copied : List Sl → FR := fnF 3 3 F_p_Stale_copied
noncomputable def F_p_Stale_received : DE → O := (killS true [] (retS (ifE (tst (op2 eqD (op2 ixD (var 1) (cst (.int 1))) (cst (.int 1)))) (tupE (valA (cst (.int 1)) (valA (cst (.int 0)) noA))) (var 1))))
noncomputable def ph_p_Stale_received : List Sl → FR := fnF 2 2 F_p_Stale_received
noncomputable def F_p_Stale_told : DE → O := (killS true [] (thenS (asgS (tupG 3 (consG (nmG 3) (consG (nmG 4) (consG (nmG 5) nilG)))) (var 1)) (retS (tupE (valA (tupE (valA (ifE (tst (op2 igt (var 3) (cst (.int 0)))) (cst (.int 2)) (cst (.int 0))) (valA (var 4) (valA (var 5) noA)))) (valA (tupE (valA (cst (.int 0)) (valA (var 5) noA))) noA))))))
noncomputable def ph_p_Stale_told : List Sl → FR := fnF 3 6 F_p_Stale_told
noncomputable def F_p_Stale_is_bad : DE → O := (killS true [] (thenS (asgS (tupG 6 (consG (nmG 2) (consG (nmG 3) (consG (nmG 4) (consG (nmG 5) (consG (nmG 6) (consG (nmG 7) nilG))))))) (var 1)) (retS (andE (op2 (inF false) (var 2) (fldE ["Mirror"] "finals" (fldE ["Stale", "Back"] "graph" (var 0)))) (andE (op2 eqD (var 3) (cst (.int 0))) (andE (op2 eqD (var 6) (cst (.int 0))) (op2 eqD (var 7) (cst (.int 0)))))))))
noncomputable def ph_p_Stale_is_bad : List Sl → FR := fnF 2 8 F_p_Stale_is_bad
noncomputable def F_p_Back_begun : DE → O := (killS true [] (retS (op2 addA (cst (.int 1)) (op2 ixD (var 1) (cst (.int 0))))))
noncomputable def ph_p_Back_begun : List Sl → FR := fnF 2 2 F_p_Back_begun
noncomputable def F_p_Back_copied : DE → O := (killS true [] (thenS (setS 3 (ifE (tst (op2 eqD (var 1) (cst (.int 0)))) (op2 ixD (var 2) (cst (.int 0))) (op2 isub (var 1) (cst (.int 1))))) (retS (tupE (valA (op2 ixD (var 2) (cst (.int 0))) (valA (ifE (tst (op2 eqD (var 3) (cst (.int 2)))) (cst (.int 1)) (cst (.int 0))) noA))))))
noncomputable def ph_p_Back_copied : List Sl → FR := fnF 3 4 F_p_Back_copied
noncomputable def F_p_Back_received : DE → O := (killS true [] (retS (tupE (valA (cst (.int 0)) (valA (cst (.int 0)) noA)))))
noncomputable def ph_p_Back_received : List Sl → FR := fnF 2 2 F_p_Back_received
noncomputable def F_p_Back_told : DE → O := (killS true [] (retS (tupE (valA (var 1) (valA (tupE (valA (callB min2D (valA (cst (.int 2)) (valA (op2 addA (op2 ixD (var 2) (cst (.int 0))) (op2 ixD (var 1) (cst (.int 2)))) noA))) (valA (op2 ixD (var 2) (cst (.int 1))) noA))) noA)))))
noncomputable def ph_p_Back_told : List Sl → FR := fnF 3 3 F_p_Back_told
noncomputable def F_p_Back_is_bad : DE → O := (killS true [] (thenS (ifS (orT (tst (op2 neD (op2 ixD (var 1) (cst (.int 1))) (cst (.int 0)))) (tst (op2 neD (op2 ixD (var 1) (cst (.int 5))) (cst (.int 1))))) (retS (cst (.bl false))) skipS) (thenS (ifS (tst (op2 (inF false) (op2 ixD (var 1) (cst (.int 0))) (fldE ["Mirror"] "finals" (fldE ["Stale", "Back"] "graph" (var 0))))) (retS (cst (.bl true))) skipS) (retS (callB anyD (valA (ofN (lcN (seqE (op2 ixD (fldE ["Mirror"] "nodes" (fldE ["Stale", "Back"] "graph" (var 0))) (op2 ixD (var 1) (cst (.int 0))))) (tupG 2 (consG (nmG 2) (consG (nmG 3) nilG))) noCond (op2 eqD (var 2) (cst (.str "receive"))) [2, 3])) noA))))))
noncomputable def ph_p_Back_is_bad : List Sl → FR := fnF 2 4 F_p_Back_is_bad
noncomputable def F_p_Watch_alone : DE → O := (killS true [] (thenS (ifS (tst (op2 eqD (var 1) (cst (.str "begin")))) (retS (tupE (valA (tupE (valA (callM "begun" [("Stale", ph_p_Watch_begun), ("Back", ph_p_Back_begun)] (var 0) (valA (var 3) noA)) (valA (cst (.int 0)) (valA (var 2) noA)))) (valA (var 3) noA)))) skipS) (thenS (ifS (tst (op2 eqD (var 1) (cst (.str "listen")))) (retS (tupE (valA (tupE (valA (cst (.int 0)) (valA (cst (.int 0)) (valA (cst (.int 1)) noA)))) (valA (var 3) noA)))) skipS) (thenS (ifS (tst (op2 eqD (var 1) (cst (.str "unlisten")))) (retS (tupE (valA (tupE (valA (cst (.int 0)) (valA (cst (.int 0)) (valA (cst (.int 0)) noA)))) (valA (callM "lost" [("Stale", ph_p_Stale_lost), ("Back", ph_p_Watch_lost)] (var 0) (valA (var 3) noA)) noA)))) skipS) (thenS (ifS (tst (op2 eqD (var 1) (cst (.str "receive")))) (retS (tupE (valA (tupE (valA (cst (.int 0)) (valA (cst (.int 0)) (valA (var 2) noA)))) (valA (callM "received" [("Stale", ph_p_Stale_received), ("Back", ph_p_Back_received)] (var 0) (valA (var 3) noA)) noA)))) skipS) (retS (tupE (valA (tupE (valA (cst (.int 0)) (valA (cst (.int 0)) (valA (var 2) noA)))) (valA (var 3) noA)))))))))
noncomputable def ph_p_Watch_alone : List Sl → FR := fnF 4 4 F_p_Watch_alone
noncomputable def F_p_Watch_within : DE → O := (killS true [] (thenS (asgS (tupG 3 (consG (nmG 4) (consG (nmG 5) (consG (nmG 6) nilG)))) (var 2)) (thenS (ifS (tst (op2 eqD (var 1) (cst (.str "rollback")))) (retS (tupE (valA (tupE (valA (cst (.int 0)) (valA (cst (.int 0)) (valA (var 6) noA)))) (valA (var 3) noA)))) skipS) (thenS (ifS (tst (op2 eqD (var 1) (cst (.str "listen")))) (retS (tupE (valA (tupE (valA (var 4) (valA (cst (.int 1)) (valA (var 6) noA)))) (valA (var 3) noA)))) skipS) (thenS (ifS (tst (op2 eqD (var 1) (cst (.str "unlisten")))) (retS (tupE (valA (tupE (valA (var 4) (valA (cst (.int 2)) (valA (var 6) noA)))) (valA (var 3) noA)))) skipS) (thenS (ifS (tst (op2 neD (var 1) (cst (.str "commit")))) (retS (tupE (valA (var 2) (valA (var 3) noA)))) skipS) (thenS (ifS (tst (op2 eqD (var 5) (cst (.int 2)))) (retS (tupE (valA (tupE (valA (cst (.int 0)) (valA (cst (.int 0)) (valA (cst (.int 0)) noA)))) (valA (callM "lost" [("Stale", ph_p_Stale_lost), ("Back", ph_p_Watch_lost)] (var 0) (valA (var 3) noA)) noA)))) skipS) (retS (tupE (valA (tupE (valA (cst (.int 0)) (valA (cst (.int 0)) (valA (ifE (tst (op2 eqD (var 5) (cst (.int 1)))) (cst (.int 1)) (var 6)) noA)))) (valA (var 3) noA)))))))))))
noncomputable def ph_p_Watch_within : List Sl → FR := fnF 4 7 F_p_Watch_within
noncomputable def F_p_Mirror_question : DE → O := (killS true [] (thenS (ifS (andT (tst (callB isiD (valA (var 1) (valA (cst (.ty "str")) noA)))) (tst (op2 eqD (var 1) (cst (.str "stale"))))) (retS (ofN (makeN "Stale" ph_p_Question_init (valA (var 0) noA)))) skipS) (thenS (ifS (andT (tst (callB isiD (valA (var 1) (valA (cst (.ty "str")) noA)))) (tst (op2 eqD (var 1) (cst (.str "back"))))) (retS (ofN (makeN "Back" ph_p_Question_init (valA (var 0) noA)))) skipS) (raiseS "InvalidWay"))))
noncomputable def ph_p_Mirror_question : List Sl → FR := fnF 2 2 F_p_Mirror_question
noncomputable def F_p_Watch_behind : DE → O := (killS true [] (thenS (ifS (tst (op2 eqD (var 1) (cst (.str "disconnect")))) (retS (tupE (valA (tupE (valA (cst (.int 0)) (valA (cst (.int 0)) (valA (cst (.int 0)) noA)))) (valA (callM "lost" [("Stale", ph_p_Stale_lost), ("Back", ph_p_Watch_lost)] (var 0) (valA (var 3) noA)) noA)))) skipS) (thenS (ifS (tst (op2 eqD (var 1) (cst (.str "read")))) (retS (tupE (valA (var 2) (valA (callM "copied" [("Stale", ph_p_Stale_copied), ("Back", ph_p_Back_copied)] (var 0) (valA (op2 ixD (var 2) (cst (.int 0))) (valA (var 3) noA))) noA)))) skipS) (thenS (ifS (tst (op2 eqD (op2 ixD (var 2) (cst (.int 0))) (cst (.int 0)))) (retS (callM "alone" [("Stale", ph_p_Watch_alone), ("Back", ph_p_Watch_alone)] (var 0) (valA (var 1) (valA (op2 ixD (var 2) (cst (.int 2))) (valA (var 3) noA))))) skipS) (retS (callM "within" [("Stale", ph_p_Watch_within), ("Back", ph_p_Watch_within)] (var 0) (valA (var 1) (valA (var 2) (valA (var 3) noA)))))))))
noncomputable def ph_p_Watch_behind : List Sl → FR := fnF 4 4 F_p_Watch_behind
noncomputable def L_p_Watch_moves_1 : DE → O := (killS true [false, false, false, true, true, true, true, true] (thenS (asgS (tupG 2 (consG (nmG 3) (consG (nmG 4) nilG))) (callM "behind" [("Stale", ph_p_Watch_behind), ("Back", ph_p_Watch_behind)] (var 0) (valA (var 6) (valA (slE (var 1) (oSome (cst (.int 1))) (oSome (cst (.int 4)))) (valA (slE (var 1) (oSome (cst (.int 4))) oNo) noA))))) (appS 2 (tupE (valA (var 5) (valA (tupE (valA (var 7) (starA (var 3) (starA (var 4) noA)))) noA))))))
noncomputable def F_p_Watch_moves : DE → O := (killS true [] (thenS (asgS (tupG 2 (consG (nmG 3) (consG (nmG 4) nilG))) (callM "told" [("Stale", ph_p_Stale_told), ("Back", ph_p_Back_told)] (var 0) (valA (slE (var 1) (oSome (cst (.int 1))) (oSome (cst (.int 4)))) (valA (slE (var 1) (oSome (cst (.int 4))) oNo) noA)))) (thenS (ownS 2 (lstN (valA (tupE (valA (cst (.int (-1))) (valA (tupE (valA (op2 ixD (var 1) (cst (.int 0))) (starA (var 3) (starA (var 4) noA)))) noA))) noA))) (thenS (preS [false, false, false, true, true, true, true, true] (forS (enumE (valA (op2 ixD (fldE ["Mirror"] "nodes" (fldE ["Stale", "Back"] "graph" (var 0))) (op2 ixD (var 1) (cst (.int 0)))) noA)) (tupG 2 (consG (nmG 5) (consG (tupG 2 (consG (nmG 6) (consG (nmG 7) nilG))) nilG))) L_p_Watch_moves_1)) (retS (var 2))))))
noncomputable def ph_p_Watch_moves : List Sl → FR := fnF 2 8 F_p_Watch_moves
noncomputable def L_p_Question_reached_1 : DE → O := (killS true [false, false, false, false, true, true] (ifS (tst (dInT true 1 (var 5))) (thenS (dPutT 1 (var 5) (tupE (starA (dGetT 1 (ixSl 2 (var 3))) (valA (var 4) noA)))) (appS 2 (var 5))) skipS))
noncomputable def L_p_Question_reached_2 : DE → O := (killS true [false, false, false, false, true, true] (thenS (forS (seqE (callM "moves" [("Stale", ph_p_Watch_moves), ("Back", ph_p_Watch_moves)] (var 0) (valA (ixSl 2 (var 3)) noA))) (tupG 2 (consG (nmG 4) (consG (nmG 5) nilG))) L_p_Question_reached_1) (augS 3 iadd (cst (.int 1)))))
noncomputable def F_p_Question_reached : DE → O := (killS true [] (thenS (ownS 1 (dOneT (callM "first" [("Stale", ph_p_Question_first), ("Back", ph_p_Question_first)] (var 0) noA) (tupE noA))) (thenS (ownS 2 (lstN (valA (callM "first" [("Stale", ph_p_Question_first), ("Back", ph_p_Question_first)] (var 0) noA) noA))) (thenS (setS 3 (cst (.int 0))) (thenS (whileS 4096 (tst (op2 ilt (var 3) (callB lenD (slotA 2 noA)))) L_p_Question_reached_2) (retS (lockE 1)))))))
noncomputable def ph_p_Question_reached : List Sl → FR := fnF 1 6 F_p_Question_reached
noncomputable def L_p_Question_run_1 : DE → O := (killS true [false, true, true] (ifS (tst (callM "is_bad" [("Stale", ph_p_Stale_is_bad), ("Back", ph_p_Back_is_bad)] (var 0) (valA (var 1) noA))) (retS (var 2)) skipS))
noncomputable def F_p_Question_run : DE → O := (killS true [] (thenS (forS (itemsT (callM "reached" [("Stale", ph_p_Question_reached), ("Back", ph_p_Question_reached)] (var 0) noA)) (tupG 2 (consG (nmG 1) (consG (nmG 2) nilG))) L_p_Question_run_1) (retS (cst .non))))
noncomputable def ph_p_Question_run : List Sl → FR := fnF 1 3 F_p_Question_run
/-! ### words that differ -/
@[simp] theorem ne_begin_commit : (("begin" : Str) = "commit") = False := eq_false (by decide +kernel)
@[simp] theorem ne_begin_rollback : (("begin" : Str) = "rollback") = False := eq_false (by decide +kernel)
@[simp] theorem ne_begin_listen : (("begin" : Str) = "listen") = False := eq_false (by decide +kernel)
@[simp] theorem ne_begin_unlisten : (("begin" : Str) = "unlisten") = False := eq_false (by decide +kernel)
@[simp] theorem ne_begin_read : (("begin" : Str) = "read") = False := eq_false (by decide +kernel)
@[simp] theorem ne_begin_receive : (("begin" : Str) = "receive") = False := eq_false (by decide +kernel)
@[simp] theorem ne_begin_disconnect : (("begin" : Str) = "disconnect") = False := eq_false (by decide +kernel)
@[simp] theorem ne_commit_begin : (("commit" : Str) = "begin") = False := eq_false (by decide +kernel)
@[simp] theorem ne_commit_rollback : (("commit" : Str) = "rollback") = False := eq_false (by decide +kernel)
@[simp] theorem ne_commit_listen : (("commit" : Str) = "listen") = False := eq_false (by decide +kernel)
@[simp] theorem ne_commit_unlisten : (("commit" : Str) = "unlisten") = False := eq_false (by decide +kernel)
@[simp] theorem ne_commit_read : (("commit" : Str) = "read") = False := eq_false (by decide +kernel)
@[simp] theorem ne_commit_receive : (("commit" : Str) = "receive") = False := eq_false (by decide +kernel)
@[simp] theorem ne_commit_disconnect : (("commit" : Str) = "disconnect") = False := eq_false (by decide +kernel)
@[simp] theorem ne_rollback_begin : (("rollback" : Str) = "begin") = False := eq_false (by decide +kernel)
@[simp] theorem ne_rollback_commit : (("rollback" : Str) = "commit") = False := eq_false (by decide +kernel)
@[simp] theorem ne_rollback_listen : (("rollback" : Str) = "listen") = False := eq_false (by decide +kernel)
@[simp] theorem ne_rollback_unlisten : (("rollback" : Str) = "unlisten") = False := eq_false (by decide +kernel)
@[simp] theorem ne_rollback_read : (("rollback" : Str) = "read") = False := eq_false (by decide +kernel)
@[simp] theorem ne_rollback_receive : (("rollback" : Str) = "receive") = False := eq_false (by decide +kernel)
@[simp] theorem ne_rollback_disconnect : (("rollback" : Str) = "disconnect") = False := eq_false (by decide +kernel)
@[simp] theorem ne_listen_begin : (("listen" : Str) = "begin") = False := eq_false (by decide +kernel)
@[simp] theorem ne_listen_commit : (("listen" : Str) = "commit") = False := eq_false (by decide +kernel)
@[simp] theorem ne_listen_rollback : (("listen" : Str) = "rollback") = False := eq_false (by decide +kernel)
@[simp] theorem ne_listen_unlisten : (("listen" : Str) = "unlisten") = False := eq_false (by decide +kernel)
@[simp] theorem ne_listen_read : (("listen" : Str) = "read") = False := eq_false (by decide +kernel)
@[simp] theorem ne_listen_receive : (("listen" : Str) = "receive") = False := eq_false (by decide +kernel)
@[simp] theorem ne_listen_disconnect : (("listen" : Str) = "disconnect") = False := eq_false (by decide +kernel)
@[simp] theorem ne_unlisten_begin : (("unlisten" : Str) = "begin") = False := eq_false (by decide +kernel)
@[simp] theorem ne_unlisten_commit : (("unlisten" : Str) = "commit") = False := eq_false (by decide +kernel)
@[simp] theorem ne_unlisten_rollback : (("unlisten" : Str) = "rollback") = False := eq_false (by decide +kernel)
@[simp] theorem ne_unlisten_listen : (("unlisten" : Str) = "listen") = False := eq_false (by decide +kernel)
@[simp] theorem ne_unlisten_read : (("unlisten" : Str) = "read") = False := eq_false (by decide +kernel)
@[simp] theorem ne_unlisten_receive : (("unlisten" : Str) = "receive") = False := eq_false (by decide +kernel)
@[simp] theorem ne_unlisten_disconnect : (("unlisten" : Str) = "disconnect") = False := eq_false (by decide +kernel)
@[simp] theorem ne_read_begin : (("read" : Str) = "begin") = False := eq_false (by decide +kernel)
@[simp] theorem ne_read_commit : (("read" : Str) = "commit") = False := eq_false (by decide +kernel)
@[simp] theorem ne_read_rollback : (("read" : Str) = "rollback") = False := eq_false (by decide +kernel)
@[simp] theorem ne_read_listen : (("read" : Str) = "listen") = False := eq_false (by decide +kernel)
@[simp] theorem ne_read_unlisten : (("read" : Str) = "unlisten") = False := eq_false (by decide +kernel)
@[simp] theorem ne_read_receive : (("read" : Str) = "receive") = False := eq_false (by decide +kernel)
@[simp] theorem ne_read_disconnect : (("read" : Str) = "disconnect") = False := eq_false (by decide +kernel)
@[simp] theorem ne_receive_begin : (("receive" : Str) = "begin") = False := eq_false (by decide +kernel)
@[simp] theorem ne_receive_commit : (("receive" : Str) = "commit") = False := eq_false (by decide +kernel)
@[simp] theorem ne_receive_rollback : (("receive" : Str) = "rollback") = False := eq_false (by decide +kernel)
@[simp] theorem ne_receive_listen : (("receive" : Str) = "listen") = False := eq_false (by decide +kernel)
@[simp] theorem ne_receive_unlisten : (("receive" : Str) = "unlisten") = False := eq_false (by decide +kernel)
@[simp] theorem ne_receive_read : (("receive" : Str) = "read") = False := eq_false (by decide +kernel)
@[simp] theorem ne_receive_disconnect : (("receive" : Str) = "disconnect") = False := eq_false (by decide +kernel)
@[simp] theorem ne_disconnect_begin : (("disconnect" : Str) = "begin") = False := eq_false (by decide +kernel)
@[simp] theorem ne_disconnect_commit : (("disconnect" : Str) = "commit") = False := eq_false (by decide +kernel)
@[simp] theorem ne_disconnect_rollback : (("disconnect" : Str) = "rollback") = False := eq_false (by decide +kernel)
@[simp] theorem ne_disconnect_listen : (("disconnect" : Str) = "listen") = False := eq_false (by decide +kernel)
@[simp] theorem ne_disconnect_unlisten : (("disconnect" : Str) = "unlisten") = False := eq_false (by decide +kernel)
@[simp] theorem ne_disconnect_read : (("disconnect" : Str) = "read") = False := eq_false (by decide +kernel)
@[simp] theorem ne_disconnect_receive : (("disconnect" : Str) = "receive") = False := eq_false (by decide +kernel)
@[simp] theorem ne_graph_begun : (("graph" : Str) = "begun") = False := eq_false (by decide +kernel)
@[simp] theorem ne_graph_lost : (("graph" : Str) = "lost") = False := eq_false (by decide +kernel)
@[simp] theorem ne_graph_copied : (("graph" : Str) = "copied") = False := eq_false (by decide +kernel)
@[simp] theorem ne_graph_received : (("graph" : Str) = "received") = False := eq_false (by decide +kernel)
@[simp] theorem ne_graph_told : (("graph" : Str) = "told") = False := eq_false (by decide +kernel)
@[simp] theorem ne_graph_alone : (("graph" : Str) = "alone") = False := eq_false (by decide +kernel)
@[simp] theorem ne_graph_within : (("graph" : Str) = "within") = False := eq_false (by decide +kernel)
@[simp] theorem ne_graph_behind : (("graph" : Str) = "behind") = False := eq_false (by decide +kernel)
@[simp] theorem ne_graph_first : (("graph" : Str) = "first") = False := eq_false (by decide +kernel)
@[simp] theorem ne_graph_moves : (("graph" : Str) = "moves") = False := eq_false (by decide +kernel)
@[simp] theorem ne_graph_reached : (("graph" : Str) = "reached") = False := eq_false (by decide +kernel)
@[simp] theorem ne_graph_is_bad : (("graph" : Str) = "is_bad") = False := eq_false (by decide +kernel)
@[simp] theorem ne_graph_run : (("graph" : Str) = "run") = False := eq_false (by decide +kernel)
@[simp] theorem ne_graph_is_state : (("graph" : Str) = "is_state") = False := eq_false (by decide +kernel)
@[simp] theorem ne_graph_table : (("graph" : Str) = "table") = False := eq_false (by decide +kernel)
@[simp] theorem ne_graph_holds : (("graph" : Str) = "holds") = False := eq_false (by decide +kernel)
@[simp] theorem ne_graph_question : (("graph" : Str) = "question") = False := eq_false (by decide +kernel)
@[simp] theorem ne_nodes_question : (("nodes" : Str) = "question") = False := eq_false (by decide +kernel)
@[simp] theorem ne_finals_question : (("finals" : Str) = "question") = False := eq_false (by decide +kernel)
@[simp] theorem ne_Stale_Back : (("Stale" : Str) = "Back") = False := eq_false (by decide +kernel)
@[simp] theorem ne_Back_Stale : (("Back" : Str) = "Stale") = False := eq_false (by decide +kernel)
@[simp] theorem ne_nodes_finals : (("nodes" : Str) = "finals") = False := eq_false (by decide +kernel)
@[simp] theorem ne_finals_nodes : (("finals" : Str) = "nodes") = False := eq_false (by decide +kernel)
@[simp] theorem ne_stale_back : (("stale" : Str) = "back") = False := eq_false (by decide +kernel)
@[simp] theorem ne_back_stale : (("back" : Str) = "stale") = False := eq_false (by decide +kernel)
/-! ### what the methods compute -/
/-- a state without its node: snapshot, pending, listens, and the pair -/
structure Wk where
  s : Int
  p : Int
  l : Int
  x : Int
  y : Int
def lostF (b : Bool) (x : Int) : Int × Int := if b then (0, 0) else (x, 0)
def copiedF (b : Bool) (s x y : Int) : Int × Int := if b then (x, if (if s = 0 then x else s - 1) = 2 then 1 else 0) else (if s = 2 then 0 else 1, y)
def receivedF (b : Bool) (x y : Int) : Int × Int := if b then (0, 0) else if y = 1 then (1, 0) else (x, y)
def begunF (b : Bool) (x : Int) : Int := if b then 1 + x else 1
def toldF (b : Bool) (w : Wk) : Wk := if b then ⟨w.s, w.p, w.l, min 2 (w.x + w.l), w.y⟩ else ⟨if 0 < w.s then 2 else 0, w.p, w.l, 0, w.l⟩
def aloneF (b : Bool) (st : Str) (w : Wk) : Wk :=
  if st = "begin" then ⟨begunF b w.x, 0, w.l, w.x, w.y⟩ else if st = "listen" then ⟨0, 0, 1, w.x, w.y⟩ else if st = "unlisten" then ⟨0, 0, 0, (lostF b w.x).1, (lostF b w.x).2⟩
  else if st = "receive" then ⟨0, 0, w.l, (receivedF b w.x w.y).1, (receivedF b w.x w.y).2⟩ else ⟨0, 0, w.l, w.x, w.y⟩
def withinF (b : Bool) (st : Str) (w : Wk) : Wk :=
  if st = "rollback" then ⟨0, 0, w.l, w.x, w.y⟩ else if st = "listen" then ⟨w.s, 1, w.l, w.x, w.y⟩ else if st = "unlisten" then ⟨w.s, 2, w.l, w.x, w.y⟩ else if ¬ st = "commit" then w
  else if w.p = 2 then ⟨0, 0, 0, (lostF b w.x).1, (lostF b w.x).2⟩ else ⟨0, 0, if w.p = 1 then 1 else w.l, w.x, w.y⟩
def behindF (b : Bool) (st : Str) (w : Wk) : Wk :=
  if st = "disconnect" then ⟨0, 0, 0, (lostF b w.x).1, (lostF b w.x).2⟩ else if st = "read" then ⟨w.s, w.p, w.l, (copiedF b w.s w.x w.y).1, (copiedF b w.s w.x w.y).2⟩
  else if w.s = 0 then aloneF b st w else withinF b st w
def qC (b : Bool) : Str := if b then "Back" else "Stale"
abbrev qO (b : Bool) (n : Nd) (f : List Nat) : D := .ins (qC b) [("graph", mirrorO n f)]
abbrev workD (w : Wk) : D := .tup [.int w.s, .int w.p, .int w.l]
abbrev pairD (w : Wk) : D := .tup [.int w.x, .int w.y]
section
variable {a b c d e g : D} {l : List D}
theorem at0 : atI (a :: l) 0 = some a := PV.atI_nat (k := 0) rfl
theorem at1 : atI (a :: b :: l) 1 = some b := PV.atI_nat (k := 1) rfl
theorem at2 : atI (a :: b :: c :: l) 2 = some c := PV.atI_nat (k := 2) rfl
theorem at5 : atI (a :: b :: c :: d :: e :: g :: l) 5 = some g := PV.atI_nat (k := 5) rfl
end
section
variable {b : Bool} {n : Nd} {f : List Nat} {w : Wk} {st : Str} {q : D} {x y s : Int}
theorem lost_okS : ph_p_Stale_lost [.val q, .val (.tup [.int x, .int y])] = .ret (.tup [.int x, .int 0]) [.val q, .val (.tup [.int x, .int y])] := by
  unfold ph_p_Stale_lost F_p_Stale_lost
  simp [ev_fn, at0]
theorem lost_okW : ph_p_Watch_lost [.val q, .val (.tup [.int x, .int y])] = .ret (.tup [.int 0, .int 0]) [.val q, .val (.tup [.int x, .int y])] := by
  unfold ph_p_Watch_lost F_p_Watch_lost
  simp [ev_fn]
theorem copied_okS : ph_p_Stale_copied [.val q, .val (.int s), .val (.tup [.int x, .int y])] = .ret (.tup [.int (if s = 2 then 0 else 1), .int y]) [.val q, .val (.int s), .val (.tup [.int x, .int y])] := by
  unfold ph_p_Stale_copied F_p_Stale_copied
  by_cases h : s = 2 <;> simp [ev_fn, at1, h]
theorem copied_okB : ph_p_Back_copied [.val q, .val (.int s), .val (.tup [.int x, .int y])] = .ret (.tup [.int x, .int (if (if s = 0 then x else s - 1) = 2 then 1 else 0)]) [.val q, .val (.int s), .val (.tup [.int x, .int y])] := by
  unfold ph_p_Back_copied F_p_Back_copied
  by_cases h : s = 0
  · by_cases h2 : x = 2 <;> simp [ev_fn, at0, h, h2]
  · by_cases h2 : s - 1 = 2 <;> simp [ev_fn, at0, h, h2]
theorem received_okS : ph_p_Stale_received [.val q, .val (.tup [.int x, .int y])] = .ret (.tup [.int (receivedF false x y).1, .int (receivedF false x y).2]) [.val q, .val (.tup [.int x, .int y])] := by
  unfold ph_p_Stale_received F_p_Stale_received receivedF
  by_cases h : y = 1 <;> simp [ev_fn, at1, h]
theorem received_okB : ph_p_Back_received [.val q, .val (.tup [.int x, .int y])] = .ret (.tup [.int 0, .int 0]) [.val q, .val (.tup [.int x, .int y])] := by
  unfold ph_p_Back_received F_p_Back_received
  simp [ev_fn]
theorem begun_okW : ph_p_Watch_begun [.val q, .val (.tup [.int x, .int y])] = .ret (.int 1) [.val q, .val (.tup [.int x, .int y])] := by
  unfold ph_p_Watch_begun F_p_Watch_begun
  simp [ev_fn]
theorem begun_okB : ph_p_Back_begun [.val q, .val (.tup [.int x, .int y])] = .ret (.int (1 + x)) [.val q, .val (.tup [.int x, .int y])] := by
  unfold ph_p_Back_begun F_p_Back_begun
  simp [ev_fn, at0]
theorem told_okS : ph_p_Stale_told [.val q, .val (workD w), .val (pairD w)] = .ret (.tup [workD (toldF false w), pairD (toldF false w)]) [.val q, .val (workD w), .val (pairD w)] := by
  unfold ph_p_Stale_told F_p_Stale_told toldF
  by_cases h : 0 < w.s <;> simp [ev_fn, h]
theorem told_okB : ph_p_Back_told [.val q, .val (workD w), .val (pairD w)] = .ret (.tup [workD (toldF true w), pairD (toldF true w)]) [.val q, .val (workD w), .val (pairD w)] := by
  unfold ph_p_Back_told F_p_Back_told toldF
  have e : min2D [.int 2, .int (w.x + w.l)] = some (.int (min 2 (w.x + w.l))) := by unfold min2D; simp; split <;> omega
  simp [ev_fn, at0, at1, at2, e]
theorem alone_ok : ph_p_Watch_alone [.val (qO b n f), .val (.str st), .val (.int w.l), .val (pairD w)] = .ret (.tup [workD (aloneF b st w), pairD (aloneF b st w)]) [.val (qO b n f), .val (.str st), .val (.int w.l), .val (pairD w)] := by
  unfold ph_p_Watch_alone F_p_Watch_alone aloneF
  by_cases h1 : st = "begin"
  · subst h1; cases b <;> simp [ev_fn, meK, lkT, lkF, qC, begun_okW, begun_okB, begunF]
  by_cases h2 : st = "listen"
  · subst h2; simp [ev_fn]
  by_cases h3 : st = "unlisten"
  · subst h3; cases b <;> simp [ev_fn, meK, lkT, lkF, qC, lost_okS, lost_okW, lostF]
  by_cases h4 : st = "receive"
  · subst h4; cases b <;> simp [ev_fn, meK, lkT, lkF, qC, received_okS, received_okB, receivedF]
  · simp [ev_fn, h1, h2, h3, h4]
theorem within_ok : ph_p_Watch_within [.val (qO b n f), .val (.str st), .val (workD w), .val (pairD w)] = .ret (.tup [workD (withinF b st w), pairD (withinF b st w)]) [.val (qO b n f), .val (.str st), .val (workD w), .val (pairD w)] := by
  unfold ph_p_Watch_within F_p_Watch_within withinF
  by_cases h1 : st = "rollback"
  · subst h1; simp [ev_fn]
  by_cases h2 : st = "listen"
  · subst h2; simp [ev_fn]
  by_cases h3 : st = "unlisten"
  · subst h3; simp [ev_fn]
  by_cases h4 : st = "commit"
  · subst h4
    by_cases h5 : w.p = 2
    · cases b <;> simp [ev_fn, meK, lkT, lkF, qC, lost_okS, lost_okW, lostF, h5]
    · by_cases h6 : w.p = 1 <;> simp [ev_fn, h5, h6]
  · simp [ev_fn, h1, h2, h3, h4]
theorem alone_Stale : ph_p_Watch_alone [.val (.ins "Stale" [("graph", mirrorO n f)]), .val (.str st), .val (.int w.l), .val (pairD w)] = .ret (.tup [workD (aloneF false st w), pairD (aloneF false st w)]) [.val (.ins "Stale" [("graph", mirrorO n f)]), .val (.str st), .val (.int w.l), .val (pairD w)] := alone_ok (b := false)
theorem alone_Back : ph_p_Watch_alone [.val (.ins "Back" [("graph", mirrorO n f)]), .val (.str st), .val (.int w.l), .val (pairD w)] = .ret (.tup [workD (aloneF true st w), pairD (aloneF true st w)]) [.val (.ins "Back" [("graph", mirrorO n f)]), .val (.str st), .val (.int w.l), .val (pairD w)] := alone_ok (b := true)
theorem within_Stale : ph_p_Watch_within [.val (.ins "Stale" [("graph", mirrorO n f)]), .val (.str st), .val (workD w), .val (pairD w)] = .ret (.tup [workD (withinF false st w), pairD (withinF false st w)]) [.val (.ins "Stale" [("graph", mirrorO n f)]), .val (.str st), .val (workD w), .val (pairD w)] := within_ok (b := false)
theorem within_Back : ph_p_Watch_within [.val (.ins "Back" [("graph", mirrorO n f)]), .val (.str st), .val (workD w), .val (pairD w)] = .ret (.tup [workD (withinF true st w), pairD (withinF true st w)]) [.val (.ins "Back" [("graph", mirrorO n f)]), .val (.str st), .val (workD w), .val (pairD w)] := within_ok (b := true)
theorem behind_ok : ph_p_Watch_behind [.val (qO b n f), .val (.str st), .val (workD w), .val (pairD w)] = .ret (.tup [workD (behindF b st w), pairD (behindF b st w)]) [.val (qO b n f), .val (.str st), .val (workD w), .val (pairD w)] := by
  unfold ph_p_Watch_behind F_p_Watch_behind behindF
  by_cases h1 : st = "disconnect"
  · subst h1; cases b <;> simp [ev_fn, meK, lkT, lkF, qC, lost_okS, lost_okW, lostF]
  by_cases h2 : st = "read"
  · subst h2; cases b <;> simp [ev_fn, meK, lkT, lkF, qC, at0, copied_okS, copied_okB, copiedF]
  by_cases h3 : w.s = 0
  · cases b
    · have ha := alone_Stale (n := n) (f := f) (w := w) (st := st)
      simp [ev_fn, meK, lkT, lkF, qC, at0, at2, h1, h2, h3, ha]
    · have ha := alone_Back (n := n) (f := f) (w := w) (st := st)
      simp [ev_fn, meK, lkT, lkF, qC, at0, at2, h1, h2, h3, ha]
  · cases b
    · have ha := within_Stale (n := n) (f := f) (w := w) (st := st)
      simp [ev_fn, meK, lkT, lkF, qC, at0, at2, h1, h2, h3, ha]
    · have ha := within_Back (n := n) (f := f) (w := w) (st := st)
      simp [ev_fn, meK, lkT, lkF, qC, at0, at2, h1, h2, h3, ha]
theorem behind_Stale : ph_p_Watch_behind [.val (.ins "Stale" [("graph", mirrorO n f)]), .val (.str st), .val (workD w), .val (pairD w)] = .ret (.tup [workD (behindF false st w), pairD (behindF false st w)]) [.val (.ins "Stale" [("graph", mirrorO n f)]), .val (.str st), .val (workD w), .val (pairD w)] := behind_ok (b := false)
theorem behind_Back : ph_p_Watch_behind [.val (.ins "Back" [("graph", mirrorO n f)]), .val (.str st), .val (workD w), .val (pairD w)] = .ret (.tup [workD (behindF true st w), pairD (behindF true st w)]) [.val (.ins "Back" [("graph", mirrorO n f)]), .val (.str st), .val (workD w), .val (pairD w)] := behind_ok (b := true)
abbrev stD (m : Nat) (w : Wk) : D := .tup [.int (m : Nat), .int w.s, .int w.p, .int w.l, .int w.x, .int w.y]
theorem cut14 {a b c d e g : D} : cutD [a, b, c, d, e, g] (some 1) (some 4) = [b, c, d] := rfl
theorem cut46 {a b c d e g : D} : cutD [a, b, c, d, e, g] (some 4) none = [e, g] := rfl
theorem pairs_map {α : Type} (enc : α → D) (l : List α) : pairsD (l.map enc) = l.zipIdx.map fun p => .tup [.int (p.2 : Nat), enc p.1] := by
  apply List.ext_getElem?
  intro i
  unfold pairsD
  rw [List.getElem?_zipWith, List.getElem?_map, List.getElem?_map, List.getElem?_zipIdx, List.length_map]
  cases h : l[i]? with
  | none =>
    simp
  | some x =>
    have hl := (List.getElem?_eq_some_iff.mp h).1
    rw [List.getElem?_range hl]
    simp
def mvF (b : Bool) (n : Nd) (m : Nat) (w : Wk) : List (Int × (Nat × Wk)) := (-1, (m, toldF b w)) :: (n.getD m []).zipIdx.map fun p => ((p.2 : Int), (p.1.2, behindF b p.1.1 w))
abbrev mvD (p : Int × (Nat × Wk)) : D := .tup [.int p.1, stD p.2.1 p.2.2]
abbrev MV (q : D) (m : Nat) (w : Wk) (acc : List D) : DE := [some (.val q), some (.val (stD m w)), some (.own (.lst acc)), none, none, none, none, none]
theorem runL_app {α β : Type} (h : α → β) : ∀ (as : List α) (s : List β), runL (fun s a => .go (s ++ [h a])) as s = .go (s ++ as.map h)
  | [], s => by unfold runL; simp
  | a :: as, s => by unfold runL; simp only; rw [runL_app h as]; simp
theorem moves_turn {m : Nat} {acc : List D} {p : (Str × Nat) × Nat} (hl : acc.length < 1000) : ∃ δ1, (tupG 2 (consG (nmG 5) (consG (tupG 2 (consG (nmG 6) (consG (nmG 7) nilG))) nilG))) (.tup [.int (p.2 : Nat), edgeD p.1]) (MV (qO b n f) m w acc) = some δ1 ∧
    L_p_Watch_moves_1 δ1 = .nx (MV (qO b n f) m w (acc ++ [mvD ((p.2 : Int), (p.1.2, behindF b p.1.1 w))])) := by
  have hl' : acc.length < 1000000 := by omega
  refine ⟨_, rfl, ?_⟩
  unfold L_p_Watch_moves_1
  cases b
  · have e := behind_Stale (n := n) (f := f) (w := w) (st := p.1.1)
    simp [meK, lkT, lkF, qC, cut14, cut46, e, hl']
  · have e := behind_Back (n := n) (f := f) (w := w) (st := p.1.1)
    simp [meK, lkT, lkF, qC, cut14, cut46, e, hl']
theorem node_mem {n : Nd} {k : Nat} (h : k < List.length n) : n.getD k [] ∈ n := by
  rw [List.getD_eq_getElem?_getD, List.getElem?_eq_getElem h]; exact List.getElem_mem h
theorem ix_node {n : Nd} {k : Nat} (h : k < List.length n) : ixD (nodesD n) (.int k) = some (nodeD (n.getD k [])) := by
  unfold nodesD
  rw [op_ixT]
  exact PV.atI_nat (by rw [List.getElem?_map, List.getElem?_eq_getElem h, List.getD_eq_getElem?_getD, List.getElem?_eq_getElem h]; rfl)
theorem moves_ok {m : Nat} (hm : m < List.length n) (hw : (n.getD m []).length ≤ 3) : ph_p_Watch_moves [.val (qO b n f), .val (stD m w)] = .ret (.lst ((mvF b n m w).map mvD)) [.val (qO b n f), .val (stD m w)] := by
  have hx := ix_node hm
  unfold mvF
  generalize n.getD m [] = nd at hx hw
  have ei : enumItems [.val (nodeD nd)] = fun δ => .ok ((nd.zipIdx).map fun p => D.tup [.int (p.2 : Nat), edgeD p.1]) δ := by
    funext δ
    unfold nodeD
    rw [enumI_tup, pairs_map]
  have hl := loop_runI (t := tupG 2 (consG (nmG 5) (consG (tupG 2 (consG (nmG 6) (consG (nmG 7) nilG))) nilG))) (g := L_p_Watch_moves_1) (fun p : (Str × Nat) × Nat => D.tup [.int (p.2 : Nat), edgeD p.1]) (fun acc => MV (qO b n f) m w acc) (fun _ => [])
    (fun acc p => .go (acc ++ [mvD ((p.2 : Int), (p.1.2, behindF b p.1.1 w))])) (fun as acc => acc.length + as.length < 1000)
    (fun acc p as h => by
      rw [List.length_cons] at h
      obtain ⟨δ1, h1, h2⟩ := moves_turn (b := b) (n := n) (f := f) (w := w) (m := m) (acc := acc) (p := p) (by omega)
      exact ⟨δ1, h1, by simp; omega, .inl h2⟩) nd.zipIdx [mvD (-1, (m, toldF b w))] (by rw [List.length_zipIdx]; simp; omega)
  rw [runL_app] at hl
  have hl : loopF (tupG 2 (consG (nmG 5) (consG (tupG 2 (consG (nmG 6) (consG (nmG 7) nilG))) nilG))) L_p_Watch_moves_1 ((nd.zipIdx).map fun p => D.tup [.int (p.2 : Nat), edgeD p.1]) (MV (qO b n f) m w [mvD (-1, (m, toldF b w))]) = .nx (MV (qO b n f) m w (mvD (-1, (m, toldF b w)) :: nd.zipIdx.map fun p => mvD ((p.2 : Int), (p.1.2, behindF b p.1.1 w)))) := hl
  unfold ph_p_Watch_moves F_p_Watch_moves
  cases b
  · have e := told_okS (q := .ins "Stale" [("graph", mirrorO n f)]) (w := w)
    simp only [qO, qC, Bool.false_eq_true, if_false] at hl ⊢
    simp [ev_fn, meK, lkT, lkF, qC, cut14, cut46, at0, e, hx, ei, hl, preS]
  · have e := told_okB (q := .ins "Back" [("graph", mirrorO n f)]) (w := w)
    simp only [qO, qC, if_true] at hl ⊢
    simp [ev_fn, meK, lkT, lkF, qC, cut14, cut46, at0, e, hx, ei, hl, preS]
theorem inF_fin {m : Nat} {l : List Nat} : inF false (.int (m : Nat)) (finD l) = some (.bl (decide (m ∈ l))) := by
  unfold finD
  have e : (l.map fun i => D.int (i : Nat)) = (l.map fun i : Nat => (i : Int)).map D.int := by rw [List.map_map]; rfl
  have h : inF false (.int (m : Nat)) (.tup ((l.map fun i : Nat => (i : Int)).map D.int)) = _ := inF_int (k := (m : Nat)) (l := l.map fun i : Nat => (i : Int))
  rw [e, h]
  congr 2
  refine decide_eq_decide.mpr ⟨fun h => ?_, fun h => List.mem_map.mpr ⟨m, h, rfl⟩⟩
  obtain ⟨a, h1, h2⟩ := List.mem_map.mp h
  have : a = m := by omega
  rw [← this]; exact h1
def badF (b : Bool) (n : Nd) (f : List Nat) (m : Nat) (w : Wk) : Bool := if b then decide (w.s = 0) && decide (w.y = 1) && (decide (m ∈ f) || (n.getD m []).any fun e => decide (e.1 = "receive")) else decide (m ∈ f) && decide (w.s = 0) && decide (w.x = 0) && decide (w.y = 0)
theorem bad_okS {m : Nat} : ph_p_Stale_is_bad [.val (.ins "Stale" [("graph", mirrorO n f)]), .val (stD m w)] = .ret (.bl (badF false n f m w)) [.val (.ins "Stale" [("graph", mirrorO n f)]), .val (stD m w)] := by
  unfold ph_p_Stale_is_bad F_p_Stale_is_bad badF
  by_cases h1 : m ∈ f <;> by_cases h2 : w.s = 0 <;> by_cases h3 : w.x = 0 <;> by_cases h4 : w.y = 0 <;> simp [ev_fn, lkF, inF_fin, h1, h2, h3, h4]
theorem bad_okB {m : Nat} (hm : m < List.length n) (hw : (n.getD m []).length ≤ 3) : ph_p_Back_is_bad [.val (.ins "Back" [("graph", mirrorO n f)]), .val (stD m w)] = .ret (.bl (badF true n f m w)) [.val (.ins "Back" [("graph", mirrorO n f)]), .val (stD m w)] := by
  have hx := ix_node hm
  unfold ph_p_Back_is_bad F_p_Back_is_bad badF
  generalize n.getD m [] = nd at hx hw
  have e1 := lcE_map (f := seqE (op2 ixD (fldE ["Mirror"] "nodes" (fldE ["Stale", "Back"] "graph" (var 0))) (op2 ixD (var 1) (cst (.int 0))))) (t := tupG 2 (consG (nmG 2) (consG (nmG 3) nilG))) (elt := op2 eqD (var 2) (cst (.str "receive"))) (vs := [2, 3]) (δ := [some (.val (.ins "Back" [("graph", mirrorO n f)])), some (.val (stD m w)), none, none])
    (δ0 := [some (.val (.ins "Back" [("graph", mirrorO n f)])), some (.val (stD m w)), none, none]) (δw := [some (.val (.ins "Back" [("graph", mirrorO n f)])), some (.val (stD m w)), none, none]) (as := nd) edgeD (fun e => .bl (decide (e.1 = "receive")))
    (by simp [lkF, at0, hx, nodeD]) rfl (by rw [lim_eq]; omega) (fun a ha => ⟨[some (.val (.ins "Back" [("graph", mirrorO n f)])), some (.val (stD m w)), some (.val (.str a.1)), some (.val (.int (a.2 : Nat)))], _, rfl, by simp; rfl, rfl⟩)
  have eb : nd.map (fun e : Str × Nat => D.bl (decide (e.1 = ("receive" : Str)))) = (nd.map fun e : Str × Nat => decide (e.1 = ("receive" : Str))).map D.bl := by rw [List.map_map]; rfl
  have e2 : anyD [.lst (nd.map fun e : Str × Nat => D.bl (decide (e.1 = ("receive" : Str))))] = some (.bl (nd.any fun e : Str × Nat => decide (e.1 = ("receive" : Str)))) := by
    rw [eb, anyD_bls, List.any_map]; rfl
  generalize nd.map (fun e : Str × Nat => D.bl (decide (e.1 = ("receive" : Str)))) = zs at e1 e2
  by_cases h2 : w.s = 0
  · by_cases h4 : w.y = 1
    · by_cases h1 : m ∈ f
      · simp [ev_fn, lkF, inF_fin, at0, at1, at5, h1, h2, h4]
      · simp [ev_fn, lkF, inF_fin, at0, at1, at5, h1, h2, h4, e1, e2]
    · simp [ev_fn, at1, at5, h2, h4]
  · simp [ev_fn, at1, at5, h2]
end
/-! ### all that is reached -/
abbrev keyS (m : Nat) (w : Wk) : List Key := [.inl (m : Nat), .inl w.s, .inl w.p, .inl w.l, .inl w.x, .inl w.y]
def WkOk (w : Wk) : Prop := (0 ≤ w.s ∧ w.s ≤ 3) ∧ (0 ≤ w.p ∧ w.p ≤ 2) ∧ (0 ≤ w.l ∧ w.l ≤ 1) ∧ (0 ≤ w.x ∧ w.x ≤ 2) ∧ (0 ≤ w.y ∧ w.y ≤ 1)
def InU (n : Nat) (k : List Key) : Prop := ∃ m w, k = keyS m w ∧ m < n ∧ WkOk w
def mvK (b : Bool) (n : Nd) : List Key → List (Int × List Key)
  | [.inl m, .inl s, .inl p, .inl l, .inl x, .inl y] => (mvF b n m.toNat ⟨s, p, l, x, y⟩).map fun q => (q.1, keyS q.2.1 q.2.2)
  | _ => []
theorem mvK_st {b : Bool} {n : Nd} {m : Nat} {w : Wk} : mvK b n (keyS m w) = (mvF b n m w).map fun q => (q.1, keyS q.2.1 q.2.2) := by
  unfold mvK
  simp only [Int.toNat_natCast]
def codeK : List Key → Nat
  | [.inl m, .inl s, .inl p, .inl l, .inl x, .inl y] => ((((m.toNat * 4 + s.toNat) * 3 + p.toNat) * 2 + l.toNat) * 3 + x.toNat) * 2 + y.toNat
  | _ => 0
theorem code_lt {n : Nat} {k : List Key} (h : InU n k) : codeK k < n * 144 := by
  obtain ⟨m, w, rfl, hm, h1, h2, h3, h4, h5⟩ := h
  show ((((((m : Nat) : Int).toNat * 4 + w.s.toNat) * 3 + w.p.toNat) * 2 + w.l.toNat) * 3 + w.x.toNat) * 2 + w.y.toNat < n * 144
  omega
theorem code_inj {n : Nat} {k k' : List Key} (h : InU n k) (h' : InU n k') (e : codeK k = codeK k') : k = k' := by
  obtain ⟨m, w, rfl, hm, h1, h2, h3, h4, h5⟩ := h
  obtain ⟨m', w', rfl, hm', g1, g2, g3, g4, g5⟩ := h'
  have e : ((((((m : Nat) : Int).toNat * 4 + w.s.toNat) * 3 + w.p.toNat) * 2 + w.l.toNat) * 3 + w.x.toNat) * 2 + w.y.toNat = ((((((m' : Nat) : Int).toNat * 4 + w'.s.toNat) * 3 + w'.p.toNat) * 2 + w'.l.toNat) * 3 + w'.x.toNat) * 2 + w'.y.toNat := e
  have a1 : m = m' := by omega
  have a2 : w.s = w'.s := by omega
  have a3 : w.p = w'.p := by omega
  have a4 : w.l = w'.l := by omega
  have a5 : w.x = w'.x := by omega
  have a6 : w.y = w'.y := by omega
  simp only [keyS, a1, a2, a3, a4, a5, a6]
theorem few_keys {n : Nat} {t : Tab} (hn : (keysT t).Nodup) (h : ∀ k ∈ keysT t, InU n k) : t.length ≤ n * 144 := by
  have := nodup_le (n * 144) ((keysT t).map codeK) (List.pairwise_map.mpr (List.Pairwise.imp_of_mem (fun {a b} ha hb hne e => hne (code_inj (h a ha) (h b hb) e)) hn)) fun x hx => by
    obtain ⟨k, hk, rfl⟩ := List.mem_map.mp hx
    exact code_lt (h k hk)
  rw [List.length_map] at this
  unfold keysT at this
  rw [List.length_map] at this
  exact this
theorem told_in {b : Bool} {w : Wk} (h : WkOk w) : WkOk (toldF b w) := by
  obtain ⟨h1, h2, h3, h4, h5⟩ := h
  unfold toldF WkOk
  cases b
  · simp only [Bool.false_eq_true, if_false]
    refine ⟨?_, h2, h3, by omega, h3⟩
    split <;> omega
  · simp only [if_true]
    exact ⟨h1, h2, h3, by omega, h5⟩
theorem behind_in {b : Bool} {w : Wk} {st : Str} (h : WkOk w) : WkOk (behindF b st w) := by
  obtain ⟨h1, h2, h3, h4, h5⟩ := h
  unfold behindF aloneF withinF WkOk
  have z : ((0 : Int) ≤ 0 ∧ (0 : Int) ≤ 3) ∧ ((0 : Int) ≤ 0 ∧ (0 : Int) ≤ 2) ∧ ((0 : Int) ≤ 0 ∧ (0 : Int) ≤ 1) := by omega
  have hl : (0 ≤ (lostF b w.x).1 ∧ (lostF b w.x).1 ≤ 2) ∧ (0 ≤ (lostF b w.x).2 ∧ (lostF b w.x).2 ≤ 1) := by
    unfold lostF; cases b <;> simp <;> omega
  have hc : (0 ≤ (copiedF b w.s w.x w.y).1 ∧ (copiedF b w.s w.x w.y).1 ≤ 2) ∧ (0 ≤ (copiedF b w.s w.x w.y).2 ∧ (copiedF b w.s w.x w.y).2 ≤ 1) := by
    unfold copiedF
    cases b
    · simp only [Bool.false_eq_true, if_false]
      refine ⟨?_, h5⟩
      split <;> omega
    · simp only [if_true]
      refine ⟨h4, ?_⟩
      generalize (if w.s = 0 then w.x else w.s - 1) = a
      split <;> omega
  have hr : (0 ≤ (receivedF b w.x w.y).1 ∧ (receivedF b w.x w.y).1 ≤ 2) ∧ (0 ≤ (receivedF b w.x w.y).2 ∧ (receivedF b w.x w.y).2 ≤ 1) := by
    unfold receivedF
    cases b
    · simp only [Bool.false_eq_true, if_false]
      split
      · simp
      · exact ⟨h4, h5⟩
    · simp
  have hb : 0 ≤ begunF b w.x ∧ begunF b w.x ≤ 3 := by
    unfold begunF; cases b <;> simp <;> omega
  split
  · exact ⟨z.1, z.2.1, z.2.2, hl.1, hl.2⟩
  split
  · exact ⟨h1, h2, h3, hc.1, hc.2⟩
  split
  · split
    · exact ⟨hb, z.2.1, h3, h4, h5⟩
    split
    · exact ⟨z.1, z.2.1, by simp, h4, h5⟩
    split
    · exact ⟨z.1, z.2.1, z.2.2, hl.1, hl.2⟩
    split
    · exact ⟨z.1, z.2.1, h3, hr.1, hr.2⟩
    · exact ⟨z.1, z.2.1, h3, h4, h5⟩
  · split
    · exact ⟨z.1, z.2.1, h3, h4, h5⟩
    split
    · exact ⟨h1, by simp, h3, h4, h5⟩
    split
    · exact ⟨h1, by simp, h3, h4, h5⟩
    split
    · exact ⟨h1, h2, h3, h4, h5⟩
    split
    · exact ⟨z.1, z.2.1, z.2.2, hl.1, hl.2⟩
    · refine ⟨z.1, z.2.1, ?_, h4, h5⟩
      show 0 ≤ (if w.p = 1 then 1 else w.l) ∧ (if w.p = 1 then 1 else w.l) ≤ 1
      split <;> omega
theorem mv_in {b : Bool} {n : Nd} {f : List Nat} {k : List Key} (hn : RelOk n f) (h : InU n.length k) : ∀ p ∈ mvK b n k, InU n.length p.2 ∧ -1 ≤ p.1 ∧ p.1 ≤ 2 := by
  obtain ⟨m, w, rfl, hm, hw⟩ := h
  rw [mvK_st]
  intro p hp
  obtain ⟨q, hq, rfl⟩ := List.mem_map.mp hp
  unfold mvF at hq
  rcases List.mem_cons.mp hq with rfl | hq
  · exact ⟨⟨m, _, rfl, hm, told_in hw⟩, by omega, by omega⟩
  · obtain ⟨r, hr, rfl⟩ := List.mem_map.mp hq
    have h1 := List.mem_zipIdx hr
    have h2 : r.1 ∈ n.getD m [] := by rw [h1.2.2]; exact List.getElem_mem _
    have h3 := hn.wid _ (node_mem hm)
    refine ⟨⟨r.1.2, _, rfl, hn.thr _ (node_mem hm) _ h2, behind_in hw⟩, by omega, ?_⟩
    have := h1.2.1
    show (r.2 : Int) ≤ 2
    omega
theorem mv_len {b : Bool} {n : Nd} {f : List Nat} {m : Nat} {w : Wk} (hn : RelOk n f) (hm : m < n.length) : (mvF b n m w).length ≤ 4 := by
  unfold mvF
  rw [List.length_cons, List.length_map, List.length_zipIdx]
  have := hn.wid _ (node_mem hm)
  omega
end PV

/-! Qn: questions of mirrors: all that is reached, and the least run. -/
namespace PV
open PySem PySem.Spec PyProof.Rows L2
abbrev lineD (t : Tab) : List D := t.map fun p => kTup p.1
abbrev RE (q : D) (t : Tab) (i : Nat) (x y : Option Sl) : DE := [some (.val q), some (.own (.dcT (tabD t))), some (.own (.lst (lineD t))), some (.val (.int (i : Nat))), x, y]
theorem line_at {t : Tab} {i : Nat} {k : List Key} {run : List Int} (h : t[i]? = some (k, run)) : atI (lineD t) (i : Int) = some (kTup k) := PV.atI_nat (by rw [List.getElem?_map, h]; rfl)
theorem reached_in {q : D} {t : Tab} {i : Nat} {k k' : List Key} {run : List Int} {lab : Int} (hi : t[i]? = some (k, run)) (hn : (keysT t).Nodup) (hl : t.length ≤ 5000) (hr : run.length ≤ 5000) :
    L_p_Question_reached_1 (RE q t i (some (.val (.int lab))) (some (.val (kTup k')))) = .nx (RE q (grow run t (lab, k')) i none none) := by
  have ha := line_at hi
  have hv := val_tab_at hn hi
  unfold L_p_Question_reached_1
  by_cases hk : k' ∈ keysT t
  · have e := val_tab_some.mpr hk
    have eg : grow run t (lab, k') = t := by unfold grow; rw [if_pos hk]
    rw [eg]
    simp [e]
  · have e := val_tab_no hk
    have eg : grow run t (lab, k') = t ++ [(k', run ++ [lab])] := by unfold grow; rw [if_neg hk]
    rw [eg]
    have er : (D.tup (run.map D.int ++ [.int lab])) = runD (run ++ [lab]) := by simp
    have ep : putT (tabD t) k' (.tup (run.map D.int ++ [.int lab])) = tabD (t ++ [(k', run ++ [lab])]) := by rw [er]; exact put_tab hk
    have h1 : run.length + 1 ≤ 1000000 := by omega
    have h2 : (tabD t).length < 1000000 := by rw [tabD_len]; omega
    have h3 : t.length < 1000000 := by omega
    simp [e, ha, hv, h1, h2, h3, ep]
/-- what holds behind i turns -/
structure BI (n : Nd) (t : Tab) (i : Nat) : Prop where
  nd : (keysT t).Nodup
  inn : ∀ x ∈ t, InU n.length x.1
  run : ∀ x ∈ t, x.2.length ≤ i ∧ ∀ a ∈ x.2, -1 ≤ a ∧ a ≤ 2
theorem BI.len {n : Nd} {t : Tab} {i : Nat} (h : BI n t i) (h6 : n.length ≤ 6) : t.length ≤ 864 := by
  have := few_keys h.nd fun k hk => by
    obtain ⟨p, hp, rfl⟩ := List.mem_map.mp hk
    exact h.inn p hp
  omega
theorem BI.up {n : Nd} {t : Tab} {i : Nat} (h : BI n t i) : BI n t (i + 1) := ⟨h.nd, h.inn, fun x hx => ⟨Nat.le_succ_of_le (h.run x hx).1, (h.run x hx).2⟩⟩
theorem BI.grow1 {n : Nd} {t : Tab} {i : Nat} {run : List Int} {p : Int × List Key} (h : BI n t (i + 1)) (hr : run.length ≤ i ∧ ∀ a ∈ run, -1 ≤ a ∧ a ≤ 2) (hp : InU n.length p.2 ∧ -1 ≤ p.1 ∧ p.1 ≤ 2) : BI n (grow run t p) (i + 1) := by
  refine ⟨grow_nodup h.nd, grow_all (P := fun k _ => InU n.length k) h.inn hp.1, grow_all (P := fun _ r => r.length ≤ i + 1 ∧ ∀ a ∈ r, -1 ≤ a ∧ a ≤ 2) h.run ⟨?_, fun a ha => ?_⟩⟩
  · rw [List.length_append]; simp; exact hr.1
  · rcases List.mem_append.mp ha with ha | ha
    · exact hr.2 a ha
    · have : a = p.1 := by simpa using ha
      rw [this]
      exact hp.2
theorem BI.all {n : Nd} {i : Nat} {run : List Int} (hr : run.length ≤ i ∧ ∀ a ∈ run, -1 ≤ a ∧ a ≤ 2) : ∀ (ms : List (Int × List Key)) (t : Tab), BI n t (i + 1) → (∀ p ∈ ms, InU n.length p.2 ∧ -1 ≤ p.1 ∧ p.1 ≤ 2) → BI n (growAll run t ms) (i + 1)
  | [], t, h, _ => h
  | p :: ms, t, h, hp => BI.all hr ms (grow run t p) (h.grow1 hr (hp p List.mem_cons_self)) fun x hx => hp x (List.mem_cons_of_mem _ hx)
theorem reached_moves {n : Nd} {q : D} {i : Nat} {k : List Key} {run : List Int} (h6 : n.length ≤ 6) (hr : run.length ≤ i ∧ ∀ a ∈ run, -1 ≤ a ∧ a ≤ 2) :
    ∀ (ms : List (Int × List Key)) (t : Tab), (∀ p ∈ ms, InU n.length p.2 ∧ -1 ≤ p.1 ∧ p.1 ≤ 2) → BI n t (i + 1) → t[i]? = some (k, run) →
      loopF (tupG 2 (consG (nmG 4) (consG (nmG 5) nilG))) L_p_Question_reached_1 (ms.map fun p => D.tup [.int p.1, kTup p.2]) (RE q t i none none) = .nx (RE q (growAll run t ms) i none none)
  | [], t, _, _, _ => rfl
  | p :: ms, t, hms, hb, hi => by
    have h1 := hb.len h6
    have hi1 : i < t.length := (List.getElem?_eq_some_iff.mp hi).1
    have e1 := reached_in (q := q) (lab := p.1) (k' := p.2) hi hb.nd (by omega) (by have := hr.1; omega)
    have ih := reached_moves (q := q) h6 hr ms (grow run t p) (fun x hx => hms x (List.mem_cons_of_mem _ hx)) (hb.grow1 hr (hms p List.mem_cons_self)) (grow_pre hi)
    rw [List.map_cons]
    unfold loopF
    show (match L_p_Question_reached_1 (RE q t i (some (.val (.int p.1))) (some (.val (kTup p.2)))) with
      | .nx δ => loopF _ _ _ δ
      | .cnt δ => loopF _ _ _ δ
      | .brk δ => .nx δ
      | o => o) = _
    rw [e1]
    exact ih
theorem kTup_st {m : Nat} {w : Wk} : kTup (keyS m w) = stD m w := rfl
theorem moves_map {b : Bool} {n : Nd} {m : Nat} {w : Wk} : (mvF b n m w).map mvD = (mvK b n (keyS m w)).map fun p => D.tup [.int p.1, kTup p.2] := by
  rw [mvK_st, List.map_map]; rfl
theorem moves_Stale {n : Nd} {f : List Nat} {m : Nat} {w : Wk} (hm : m < List.length n) (hw : (n.getD m []).length ≤ 3) : ph_p_Watch_moves [.val (.ins "Stale" [("graph", mirrorO n f)]), .val (stD m w)] = .ret (.lst ((mvK false n (keyS m w)).map fun p => D.tup [.int p.1, kTup p.2])) [.val (.ins "Stale" [("graph", mirrorO n f)]), .val (stD m w)] := by
  rw [← moves_map]; exact moves_ok (b := false) hm hw
theorem moves_Back {n : Nd} {f : List Nat} {m : Nat} {w : Wk} (hm : m < List.length n) (hw : (n.getD m []).length ≤ 3) : ph_p_Watch_moves [.val (.ins "Back" [("graph", mirrorO n f)]), .val (stD m w)] = .ret (.lst ((mvK true n (keyS m w)).map fun p => D.tup [.int p.1, kTup p.2])) [.val (.ins "Back" [("graph", mirrorO n f)]), .val (stD m w)] := by
  rw [← moves_map]; exact moves_ok (b := true) hm hw
theorem reached_turn {b : Bool} {n : Nd} {f : List Nat} {t : Tab} {i : Nat} {k : List Key} {run : List Int} (hn : RelOk n f) (h : BI n t i) (hi : t[i]? = some (k, run)) :
    L_p_Question_reached_2 (RE (qO b n f) t i none none) = .nx (RE (qO b n f) (growAll run t (mvK b n k)) (i + 1) none none) := by
  have hm := List.mem_of_getElem? hi
  have hp := mv_in (b := b) hn (h.inn _ hm)
  have hl := reached_moves (q := qO b n f) hn.few (h.run _ hm) (mvK b n k) t hp h.up hi
  have ha := line_at hi
  obtain ⟨m, w, rfl, hm1, hw⟩ := h.inn _ hm
  have hnd := hn.wid _ (node_mem hm1)
  rw [kTup_st] at ha
  cases b
  · have e := moves_Stale (f := f) (w := w) hm1 hnd
    generalize mvK false n (keyS m w) = ms at *
    have hl : loopF (tupG 2 (consG (nmG 4) (consG (nmG 5) nilG))) L_p_Question_reached_1 (ms.map fun p => D.tup [.int p.1, kTup p.2]) (RE (.ins "Stale" [("graph", mirrorO n f)]) t i none none) = .nx (RE (.ins "Stale" [("graph", mirrorO n f)]) (growAll run t ms) i none none) := hl
    show L_p_Question_reached_2 (RE (.ins "Stale" [("graph", mirrorO n f)]) t i none none) = .nx (RE (.ins "Stale" [("graph", mirrorO n f)]) (growAll run t ms) (i + 1) none none)
    unfold L_p_Question_reached_2
    simp [meK, lkT, lkF, ha, e, hl]
  · have e := moves_Back (f := f) (w := w) hm1 hnd
    generalize mvK true n (keyS m w) = ms at *
    have hl : loopF (tupG 2 (consG (nmG 4) (consG (nmG 5) nilG))) L_p_Question_reached_1 (ms.map fun p => D.tup [.int p.1, kTup p.2]) (RE (.ins "Back" [("graph", mirrorO n f)]) t i none none) = .nx (RE (.ins "Back" [("graph", mirrorO n f)]) (growAll run t ms) i none none) := hl
    show L_p_Question_reached_2 (RE (.ins "Back" [("graph", mirrorO n f)]) t i none none) = .nx (RE (.ins "Back" [("graph", mirrorO n f)]) (growAll run t ms) (i + 1) none none)
    unfold L_p_Question_reached_2
    simp [meK, lkT, lkF, ha, e, hl]
theorem reached_while {b : Bool} {n : Nd} {f : List Nat} (hn : RelOk n f) : ∀ (fu i : Nat) (t : Tab), BI n t i → i ≤ t.length → 864 < fu + i →
    BI n (bfs (mvK b n) fu i t) (bfs (mvK b n) fu i t).length ∧ whileF (tst (op2 ilt (var 3) (callB lenD (slotA 2 noA)))) L_p_Question_reached_2 fu (RE (qO b n f) t i none none) = .nx (RE (qO b n f) (bfs (mvK b n) fu i t) (bfs (mvK b n) fu i t).length none none)
  | 0, i, t, h, hi, hf => by
    have := h.len hn.few
    omega
  | fu + 1, i, t, h, hi, hf => by
    have hc : tst (op2 ilt (var 3) (callB lenD (slotA 2 noA))) (RE (qO b n f) t i none none) = .ok (decide (i < t.length)) (RE (qO b n f) t i none none) := by
      simp
    unfold bfs
    cases q : t[i]? with
    | none =>
      have hl : t.length ≤ i := List.getElem?_eq_none_iff.mp q
      have e : i = t.length := by omega
      rw [decide_eq_false (by omega)] at hc
      subst e
      exact ⟨h, while_end hc⟩
    | some p =>
      obtain ⟨k, run⟩ := p
      have hl : i < t.length := (List.getElem?_eq_some_iff.mp q).1
      rw [decide_eq_true hl] at hc
      have e2 := reached_turn (b := b) hn h q
      have hm := List.mem_of_getElem? q
      have hb := BI.all (h.run _ hm) (mvK b n k) t h.up (mv_in (b := b) hn (h.inn _ hm))
      have ih := reached_while (b := b) hn fu (i + 1) (growAll run t (mvK b n k)) hb (by have := growAll_len (run := run) (ms := mvK b n k) (t := t); omega) (by omega)
      rw [while_go hc e2]
      exact ih
/-- all states that runs reach, with their least shortest runs -/
noncomputable def allR (b : Bool) (n : Nd) : Tab := bfs (mvK b n) 4096 0 [(keyS 0 ⟨0, 0, 0, 0, 0⟩, [])]
theorem first_ok {q : D} : ph_p_Question_first [.val q] = .ret (stD 0 ⟨0, 0, 0, 0, 0⟩) [.val q] := by
  unfold ph_p_Question_first F_p_Question_first
  simp [ev_fn]
theorem start_in {n : Nd} (h : 1 ≤ n.length) : BI n [(keyS 0 ⟨0, 0, 0, 0, 0⟩, [])] 0 := by
  refine ⟨by simp [keysT], fun x hx => ?_, fun x hx => ?_⟩
  · have : x = (keyS 0 ⟨0, 0, 0, 0, 0⟩, []) := by simpa using hx
    subst this
    exact ⟨0, _, rfl, h, by unfold WkOk; simp⟩
  · have : x = (keyS 0 ⟨0, 0, 0, 0, 0⟩, []) := by simpa using hx
    subst this
    exact ⟨Nat.le_refl _, fun a ha => by cases ha⟩
theorem allR_in {b : Bool} {n : Nd} {f : List Nat} (hn : RelOk n f) : BI n (allR b n) (allR b n).length := (reached_while (b := b) hn 4096 0 _ (start_in hn.pos) (by simp) (by omega)).1
theorem reached_ok {b : Bool} {n : Nd} {f : List Nat} (hn : RelOk n f) : ph_p_Question_reached [.val (qO b n f)] = .ret (.dcF (tabD (allR b n))) [.val (qO b n f)] := by
  have hw := (reached_while (b := b) hn 4096 0 _ (start_in hn.pos) (by simp) (by omega)).2
  have ek : keyT (stD 0 ⟨0, 0, 0, 0, 0⟩) = some (keyS 0 ⟨0, 0, 0, 0, 0⟩) := rfl
  unfold ph_p_Question_reached F_p_Question_reached
  have hw : whileF (tst (op2 ilt (var 3) (callB lenD (slotA 2 noA)))) L_p_Question_reached_2 4096 [some (.val (qO b n f)), some (.own (.dcT [(keyS 0 ⟨0, 0, 0, 0, 0⟩, .tup [])])), some (.own (.lst [stD 0 ⟨0, 0, 0, 0, 0⟩])), some (.val (.int 0)), none, none] = .nx (RE (qO b n f) (allR b n) (allR b n).length none none) := hw
  generalize allR b n = T at hw
  cases b
  · have hw : whileF (tst (op2 ilt (var 3) (callB lenD (slotA 2 noA)))) L_p_Question_reached_2 4096 [some (.val (.ins "Stale" [("graph", mirrorO n f)])), some (.own (.dcT [(keyS 0 ⟨0, 0, 0, 0, 0⟩, .tup [])])), some (.own (.lst [stD 0 ⟨0, 0, 0, 0, 0⟩])), some (.val (.int 0)), none, none] = .nx (RE (.ins "Stale" [("graph", mirrorO n f)]) T T.length none none) := hw
    show fnF 1 6 _ [.val (.ins "Stale" [("graph", mirrorO n f)])] = .ret _ [.val (.ins "Stale" [("graph", mirrorO n f)])]
    simp [ev_fn, meK, lkT, lkF, first_ok, ek, hw]
  · have hw : whileF (tst (op2 ilt (var 3) (callB lenD (slotA 2 noA)))) L_p_Question_reached_2 4096 [some (.val (.ins "Back" [("graph", mirrorO n f)])), some (.own (.dcT [(keyS 0 ⟨0, 0, 0, 0, 0⟩, .tup [])])), some (.own (.lst [stD 0 ⟨0, 0, 0, 0, 0⟩])), some (.val (.int 0)), none, none] = .nx (RE (.ins "Back" [("graph", mirrorO n f)]) T T.length none none) := hw
    show fnF 1 6 _ [.val (.ins "Back" [("graph", mirrorO n f)])] = .ret _ [.val (.ins "Back" [("graph", mirrorO n f)])]
    simp [ev_fn, meK, lkT, lkF, first_ok, ek, hw]
/-! ### the least run -/
def badK (b : Bool) (n : Nd) (f : List Nat) : List Key → Bool
  | [.inl m, .inl s, .inl p, .inl l, .inl x, .inl y] => badF b n f m.toNat ⟨s, p, l, x, y⟩
  | _ => false
theorem badK_st {b : Bool} {n : Nd} {f : List Nat} {m : Nat} {w : Wk} : badK b n f (keyS m w) = badF b n f m w := by
  unfold badK
  simp only [Int.toNat_natCast]
abbrev RU3 (q : D) (x y : Option Sl) : DE := [some (.val q), x, y]
theorem run_turn {b : Bool} {n : Nd} {f : List Nat} {k : List Key} {run : List Int} (hn : RelOk n f) (hk : InU n.length k) :
    L_p_Question_run_1 (RU3 (qO b n f) (some (.val (kTup k))) (some (.val (runD run)))) = if badK b n f k = true then .ret (runD run) [none, none, none] else .nx (RU3 (qO b n f) none none) := by
  obtain ⟨m, w, rfl, hm, hw⟩ := hk
  rw [badK_st, kTup_st]
  have hnd := hn.wid _ (node_mem hm)
  unfold L_p_Question_run_1
  cases b
  · have e := bad_okS (n := n) (f := f) (w := w) (m := m)
    show killS _ _ _ (RU3 (.ins "Stale" [("graph", mirrorO n f)]) _ _) = if _ then _ else .nx (RU3 (.ins "Stale" [("graph", mirrorO n f)]) _ _)
    cases q : badF false n f m w <;> rw [q] at e <;> simp [meK, lkT, lkF, e]
  · have e := bad_okB (n := n) (f := f) (w := w) (m := m) hm hnd
    show killS _ _ _ (RU3 (.ins "Back" [("graph", mirrorO n f)]) _ _) = if _ then _ else .nx (RU3 (.ins "Back" [("graph", mirrorO n f)]) _ _)
    cases q : badF true n f m w <;> rw [q] at e <;> simp [meK, lkT, lkF, e]
def endR (q : D) : Option (List Key × List Int) → O
  | some p => .ret (runD p.2) [none, none, none]
  | none => .nx (RU3 q none none)
theorem run_loop {b : Bool} {n : Nd} {f : List Nat} (hn : RelOk n f) : ∀ (t : Tab), (∀ p ∈ t, InU n.length p.1) →
    loopF (tupG 2 (consG (nmG 1) (consG (nmG 2) nilG))) L_p_Question_run_1 ((tabD t).map fun kv => D.tup [kTup kv.1, kv.2]) (RU3 (qO b n f) none none) = endR (qO b n f) (t.find? fun p => badK b n f p.1)
  | [], _ => rfl
  | p :: t, h => by
    have e1 := run_turn (b := b) (run := p.2) hn (h p List.mem_cons_self)
    have ih := run_loop (b := b) hn t fun x hx => h x (List.mem_cons_of_mem _ hx)
    unfold tabD at ih ⊢
    rw [List.map_cons, List.map_cons]
    unfold loopF
    show (match L_p_Question_run_1 (RU3 (qO b n f) (some (.val (kTup p.1))) (some (.val (runD p.2)))) with
      | .nx δ => loopF _ _ _ δ
      | .cnt δ => loopF _ _ _ δ
      | .brk δ => .nx δ
      | o => o) = _
    rw [e1]
    by_cases q : badK b n f p.1 = true
    · rw [if_pos q, List.find?_cons_of_pos (p := fun p : List Key × List Int => badK b n f p.1) q]; rfl
    · rw [if_neg q, List.find?_cons_of_neg (p := fun p : List Key × List Int => badK b n f p.1) q]
      exact ih
noncomputable def leastR (b : Bool) (n : Nd) (f : List Nat) : Option (List Int) := ((allR b n).find? fun p => badK b n f p.1).map (·.2)
def optR : Option (List Int) → D
  | some l => runD l
  | none => .non
theorem run_ok {b : Bool} {n : Nd} {f : List Nat} (hn : RelOk n f) : ph_p_Question_run [.val (qO b n f)] = .ret (optR (leastR b n f)) [.val (qO b n f)] := by
  have hl := run_loop (b := b) hn (allR b n) fun p hp => (allR_in hn).inn p hp
  have hr := reached_ok (b := b) hn
  unfold ph_p_Question_run F_p_Question_run leastR
  generalize (allR b n).find? (fun p => badK b n f p.1) = z at hl
  generalize allR b n = T at hl hr
  cases b
  · have hr : ph_p_Question_reached [.val (.ins "Stale" [("graph", mirrorO n f)])] = .ret (.dcF (tabD T)) [.val (.ins "Stale" [("graph", mirrorO n f)])] := hr
    have hl : loopF (tupG 2 (consG (nmG 1) (consG (nmG 2) nilG))) L_p_Question_run_1 ((tabD T).map fun kv => D.tup [kTup kv.1, kv.2]) [some (.val (.ins "Stale" [("graph", mirrorO n f)])), none, none] = endR (.ins "Stale" [("graph", mirrorO n f)]) z := hl
    show fnF 1 3 _ [.val (.ins "Stale" [("graph", mirrorO n f)])] = .ret _ [.val (.ins "Stale" [("graph", mirrorO n f)])]
    cases z <;> simp [ev_fn, meK, lkT, lkF, hr, hl, optR, endR]
  · have hr : ph_p_Question_reached [.val (.ins "Back" [("graph", mirrorO n f)])] = .ret (.dcF (tabD T)) [.val (.ins "Back" [("graph", mirrorO n f)])] := hr
    have hl : loopF (tupG 2 (consG (nmG 1) (consG (nmG 2) nilG))) L_p_Question_run_1 ((tabD T).map fun kv => D.tup [kTup kv.1, kv.2]) [some (.val (.ins "Back" [("graph", mirrorO n f)])), none, none] = endR (.ins "Back" [("graph", mirrorO n f)]) z := hl
    show fnF 1 3 _ [.val (.ins "Back" [("graph", mirrorO n f)])] = .ret _ [.val (.ins "Back" [("graph", mirrorO n f)])]
    cases z <;> simp [ev_fn, meK, lkT, lkF, hr, hl, optR, endR]
end PV

/-! Qo: questions of mirrors: what is reached is closed under steps; a mirror that can rest has a run of one of both questions. -/
namespace PV
open PySem PySem.Spec PyProof.Rows L2
theorem keys_grow {run : List Int} {t : Tab} {p : Int × List Key} {k : List Key} (h : k ∈ keysT t) : k ∈ keysT (grow run t p) := by
  unfold grow
  split
  · exact h
  · unfold keysT at *; rw [List.map_append]; exact List.mem_append_left _ h
theorem mem_grow {run : List Int} {t : Tab} {p : Int × List Key} : p.2 ∈ keysT (grow run t p) := by
  unfold grow
  split
  · assumption
  · unfold keysT; rw [List.map_append]; exact List.mem_append_right _ (by simp)
theorem keys_growAll {run : List Int} {k : List Key} : ∀ {ms : List (Int × List Key)} {t : Tab}, k ∈ keysT t → k ∈ keysT (growAll run t ms)
  | [], t, h => h
  | m :: ms, t, h => keys_growAll (ms := ms) (t := grow run t m) (keys_grow h)
theorem mem_growAll {run : List Int} : ∀ {ms : List (Int × List Key)} {t : Tab} {p : Int × List Key}, p ∈ ms → p.2 ∈ keysT (growAll run t ms)
  | [], _, _, h => by cases h
  | m :: ms, t, p, h => by
    rcases List.mem_cons.mp h with rfl | h
    · exact keys_growAll (ms := ms) (t := grow run t p) mem_grow
    · exact mem_growAll (ms := ms) (t := grow run t m) h
theorem bfs_keys {mv : List Key → List (Int × List Key)} {k : List Key} : ∀ (fu i : Nat) (t : Tab), k ∈ keysT t → k ∈ keysT (bfs mv fu i t)
  | 0, _, _, h => h
  | fu + 1, i, t, h => by
    unfold bfs
    cases t[i]? with
    | none => exact h
    | some p => exact bfs_keys fu (i + 1) _ (keys_growAll h)
theorem bfs_closed {b : Bool} {n : Nd} {f : List Nat} (hn : RelOk n f) : ∀ (fu i : Nat) (t : Tab), BI n t i → i ≤ t.length → 864 < fu + i → (∀ (j : Nat) x, j < i → t[j]? = some x → ∀ p ∈ mvK b n x.1, p.2 ∈ keysT t) →
    ∀ x ∈ bfs (mvK b n) fu i t, ∀ p ∈ mvK b n x.1, p.2 ∈ keysT (bfs (mvK b n) fu i t)
  | 0, i, t, h, hi, hf, _ => by
    have := h.len hn.few
    omega
  | fu + 1, i, t, h, hi, hf, hc => by
    unfold bfs
    cases q : t[i]? with
    | none =>
      have hl : t.length ≤ i := List.getElem?_eq_none_iff.mp q
      show ∀ x ∈ t, ∀ p ∈ mvK b n x.1, p.2 ∈ keysT t
      intro x hx p hp
      obtain ⟨j, hj, e⟩ := List.mem_iff_getElem.mp hx
      exact hc j x (by omega) (by rw [List.getElem?_eq_getElem hj, e]) p hp
    | some y =>
      obtain ⟨k, run⟩ := y
      have hl : i < t.length := (List.getElem?_eq_some_iff.mp q).1
      have hm := List.mem_of_getElem? q
      have hb := BI.all (h.run _ hm) (mvK b n k) t h.up (mv_in (b := b) hn (h.inn _ hm))
      refine bfs_closed hn fu (i + 1) (growAll run t (mvK b n k)) hb (by have := growAll_len (run := run) (ms := mvK b n k) (t := t); omega) (by omega) fun j x hj ex p hp => ?_
      rcases Nat.lt_succ_iff_lt_or_eq.mp hj with hj | rfl
      · have : t[j]? = some x := by
          have hjl : j < t.length := by omega
          have e2 := growAll_pre (run := run) (ms := mvK b n k) (List.getElem?_eq_getElem hjl)
          rw [ex] at e2
          rw [List.getElem?_eq_getElem hjl, Option.some.inj e2]
        exact keys_growAll (hc j x hj this p hp)
      · rw [growAll_pre (run := run) q] at ex
        cases ex
        exact mem_growAll hp
/-- a state that some run reaches -/
def Rch (b : Bool) (n : Nd) (m : Nat) (w : Wk) : Prop := keyS m w ∈ keysT (allR b n)
section
variable {b : Bool} {n : Nd} {f : List Nat} {m : Nat} {w : Wk}
theorem rch_first : Rch b n 0 ⟨0, 0, 0, 0, 0⟩ := bfs_keys _ _ _ (by simp [keysT])
theorem rch_in (hn : RelOk n f) (h : Rch b n m w) : m < n.length ∧ WkOk w := by
  obtain ⟨p, hp, e⟩ := List.mem_map.mp h
  obtain ⟨m', w', e', h1, h2⟩ := (allR_in (b := b) hn).inn p hp
  have e : p.1 = keyS m w := e
  rw [e'] at e
  simp only [keyS, List.cons.injEq, Sum.inl.injEq, and_true] at e
  obtain ⟨a1, a2, a3, a4, a5, a6⟩ := e
  have : w' = w := by cases w; cases w'; simp only at a2 a3 a4 a5 a6; subst a2 a3 a4 a5 a6; rfl
  subst this
  have : m' = m := by omega
  subst this
  exact ⟨h1, h2⟩
theorem rch_mv (hn : RelOk n f) (h : Rch b n m w) {q : Int × (Nat × Wk)} (hq : q ∈ mvF b n m w) : Rch b n q.2.1 q.2.2 := by
  obtain ⟨p, hp, e⟩ := List.mem_map.mp h
  have e : p.1 = keyS m w := e
  have hc := bfs_closed (b := b) hn 4096 0 [(keyS 0 ⟨0, 0, 0, 0, 0⟩, [])] (start_in hn.pos) (by simp) (by omega) (fun j x hj => absurd hj (Nat.not_lt_zero _)) p hp
  rw [e, mvK_st] at hc
  exact hc (q.1, keyS q.2.1 q.2.2) (List.mem_map.mpr ⟨q, hq, rfl⟩)
theorem rch_told (hn : RelOk n f) (h : Rch b n m w) : Rch b n m (toldF b w) := rch_mv hn h (q := (-1, (m, toldF b w))) (by unfold mvF; exact List.mem_cons_self)
theorem rch_step (hn : RelOk n f) (h : Rch b n m w) {e : Str × Nat} (he : e ∈ n.getD m []) : Rch b n e.2 (behindF b e.1 w) := by
  obtain ⟨j, hj, ej⟩ := List.mem_iff_getElem.mp he
  refine rch_mv hn h (q := ((j : Int), (e.2, behindF b e.1 w))) ?_
  unfold mvF
  refine List.mem_cons_of_mem _ (List.mem_map.mpr ⟨(e, j), ?_, rfl⟩)
  rw [List.mem_zipIdx_iff_getElem?]
  rw [List.getElem?_eq_getElem hj, ej]
end
/-! ### never both -/
def oF (st : Str) (o : Bool) : Bool := decide (st = "begin") || (o && !(decide (st = "commit") || decide (st = "rollback") || decide (st = "disconnect")))
def pF (st : Str) (o : Bool) (p : Int) : Int := if st = "disconnect" then 0 else if st = "read" then p else if o = false then 0 else if st = "rollback" then 0 else if st = "listen" then 1 else if st = "unlisten" then 2 else if st = "commit" then 0 else p
def lF (st : Str) (o : Bool) (p l : Int) : Int := if st = "disconnect" then 0 else if st = "read" then l else if o = false then (if st = "listen" then 1 else if st = "unlisten" then 0 else l) else if st = "commit" then (if p = 2 then 0 else if p = 1 then 1 else l) else l
def Ctl (o : Bool) (p l : Int) (w : Wk) : Prop := (w.s = 0 ↔ o = false) ∧ w.p = p ∧ w.l = l
theorem ctl_step {b o : Bool} {p l : Int} {st : Str} {w : Wk} (h : Ctl o p l w) (hx : 0 ≤ w.x) (hs : st ∈ rSteps) : Ctl (oF st o) (pF st o p) (lF st o p l) (behindF b st w) := by
  obtain ⟨h1, rfl, rfl⟩ := h
  have hb : ¬ begunF b w.x = 0 := by unfold begunF; cases b <;> simp <;> omega
  simp only [rSteps, List.mem_cons, List.not_mem_nil, or_false] at hs
  cases o
  · have h0 : w.s = 0 := h1.mpr rfl
    rcases hs with rfl | rfl | rfl | rfl | rfl | rfl | rfl | rfl <;> simp [Ctl, oF, pF, lF, behindF, aloneF, h0, hb]
  · have h0 : ¬ w.s = 0 := fun z => by have := h1.mp z; cases this
    rcases hs with rfl | rfl | rfl | rfl | rfl | rfl | rfl | rfl <;> simp [Ctl, oF, pF, lF, behindF, withinF, h0]
    by_cases q1 : w.p = 2
    · simp [q1]
    · simp [q1]
/-- a bad state is reached, by one of both questions -/
def BadR (n : Nd) (f : List Nat) : Prop := ∃ b m w, Rch b n m w ∧ badF b n f m w = true
/-- what is known of a node that the mirror reaches alone -/
def Alone (n : Nd) (m : Nat) (o : Bool) : Prop := ∃ p l, (∃ w, Rch false n m w ∧ Ctl o p l w) ∧ (∃ w, Rch true n m w ∧ Ctl o p l w) ∧ (l = 1 → o = true → ∃ w, Rch true n m w ∧ Ctl o p l w ∧ w.s = 3) ∧
  (l = 1 → (∃ w, Rch false n m w ∧ Ctl o p l w ∧ w.x = 0 ∧ w.y = 0) ∨ ∃ w, Rch true n m w ∧ Ctl o p l w ∧ w.y = 1)
section
variable {n : Nd} {f : List Nat} {m : Nat} {o : Bool} {p l : Int} {w : Wk} {st : Str}
theorem ctl_told {b : Bool} (h : Ctl o p l w) (hs : 0 ≤ w.s) : Ctl o p l (toldF b w) := by
  obtain ⟨h1, h2, h3⟩ := h
  unfold toldF
  cases b
  · refine ⟨?_, h2, h3⟩
    simp only [Bool.false_eq_true, if_false]
    rw [← h1]
    constructor
    · intro z; split at z <;> omega
    · intro z; rw [if_neg (by omega)]
  · exact ⟨h1, h2, h3⟩
/-- two notices that wait -/
theorem two_told (hn : RelOk n f) (h : Rch true n m w) (hc : Ctl o p 1 w) : ∃ w', Rch true n m w' ∧ Ctl o p 1 w' ∧ w'.x = 2 ∧ w'.s = w.s ∧ w'.y = w.y := by
  obtain ⟨_, h1, h2, h3, h4, h5⟩ := rch_in hn h
  have k1 := rch_told hn h
  have k2 := rch_told hn k1
  have c1 := ctl_told (b := true) hc h1.1
  have s1 : (toldF true w).s = w.s := rfl
  have c2 := ctl_told (b := true) c1 (by rw [s1]; exact h1.1)
  refine ⟨_, k2, c2, ?_, rfl, rfl⟩
  have hl : w.l = 1 := hc.2.2
  show min 2 (min 2 (w.x + w.l) + w.l) = 2
  omega
theorem keep0 (hx : w.x = 0) (hy : w.y = 0) (hs : st ∈ rSteps) (hr : st ≠ "read") : (behindF false st w).x = 0 ∧ (behindF false st w).y = 0 := by
  simp only [rSteps, List.mem_cons, List.not_mem_nil, or_false] at hs
  by_cases h0 : w.s = 0
  · rcases hs with rfl | rfl | rfl | rfl | rfl | rfl | rfl | rfl <;> first | exact absurd rfl hr | simp [behindF, aloneF, lostF, receivedF, h0, hx, hy]
  · rcases hs with rfl | rfl | rfl | rfl | rfl | rfl | rfl | rfl <;> first | exact absurd rfl hr | (simp [behindF, withinF, lostF, h0, hx, hy]; done) | skip
    by_cases q1 : w.p = 2 <;> simp [behindF, withinF, lostF, h0, hx, hy, q1]
theorem keep1 (hc : Ctl o p l w) (hy : w.y = 1) (hs : st ∈ rSteps) (hr : st ≠ "read") (hv : st = "receive" → o = true) (hl : lF st o p l = 1) : (behindF true st w).y = 1 := by
  obtain ⟨h1, rfl, rfl⟩ := hc
  simp only [rSteps, List.mem_cons, List.not_mem_nil, or_false] at hs
  cases o
  · have h0 : w.s = 0 := h1.mpr rfl
    rcases hs with rfl | rfl | rfl | rfl | rfl | rfl | rfl | rfl <;> first | exact absurd rfl hr | (have := hv rfl; cases this; done) | (simp [lF] at hl; done) | simp [behindF, aloneF, lostF, h0, hy]
  · have h0 : ¬ w.s = 0 := fun z => by have := h1.mp z; cases this
    rcases hs with rfl | rfl | rfl | rfl | rfl | rfl | rfl | rfl <;> first | exact absurd rfl hr | (simp [lF] at hl; done) | (simp [behindF, withinF, lostF, h0, hy]; done) | skip
    have q1 : ¬ w.p = 2 := fun z => by simp [lF, z] at hl
    simp [behindF, withinF, h0, hy, q1]
theorem alone_step (hn : RelOk n f) (ha : Alone n m o) {e : Str × Nat} (he : e ∈ n.getD m []) : Alone n e.2 (oF e.1 o) ∨ BadR n f := by
  obtain ⟨p, l, ⟨ws, rs, cs⟩, ⟨wb, rb, cb⟩, h3, h4⟩ := ha
  obtain ⟨hm, hsI⟩ := rch_in hn rs
  obtain ⟨_, hbI⟩ := rch_in hn rb
  have hst : e.1 ∈ rSteps := hn.stp _ (node_mem hm) _ he
  have hl01 : l = 0 ∨ l = 1 := by
    have := hsI.2.2.1
    have e1 : ws.l = l := cs.2.2
    omega
  -- both questions go on
  have ks := rch_step hn rs he
  have kb := rch_step hn rb he
  have cs' := ctl_step (b := false) (st := e.1) cs hsI.2.2.2.1.1 hst
  have cb' := ctl_step (b := true) (st := e.1) cb hbI.2.2.2.1.1 hst
  -- a read with notices that wait
  have read : l = 1 → e.1 = "read" → ∃ w, Rch true n e.2 w ∧ Ctl (oF e.1 o) (pF e.1 o p) (lF e.1 o p l) w ∧ w.y = 1 := fun hl1 hr => by
    subst hl1
    cases o
    · obtain ⟨w', r', c', hx, hs', _⟩ := two_told hn rb cb
      obtain ⟨_, hI⟩ := rch_in hn r'
      refine ⟨_, rch_step hn r' he, ctl_step (b := true) c' hI.2.2.2.1.1 hst, ?_⟩
      have h0 : w'.s = 0 := c'.1.mpr rfl
      rw [hr]
      simp [behindF, copiedF, h0, hx]
    · obtain ⟨w', r', c', hs'⟩ := h3 rfl rfl
      obtain ⟨_, hI⟩ := rch_in hn r'
      refine ⟨_, rch_step hn r' he, ctl_step (b := true) c' hI.2.2.2.1.1 hst, ?_⟩
      rw [hr]
      simp [behindF, copiedF, hs']
  by_cases bad : ∃ w, Rch true n m w ∧ w.s = 0 ∧ w.y = 1 ∧ e.1 = "receive"
  · obtain ⟨w', r', hs', hy, hrv⟩ := bad
    refine .inr ⟨true, m, w', r', ?_⟩
    unfold badF
    simp only [if_true, hs', hy, decide_true, Bool.true_and, Bool.or_eq_true, decide_eq_true_eq]
    exact .inr (List.any_eq_true.mpr ⟨e, he, by simpa using hrv⟩)
  refine .inl ⟨_, _, ⟨_, ks, cs'⟩, ⟨_, kb, cb'⟩, fun hl ho => ?_, fun hl => ?_⟩
  · -- open, and listening
    by_cases hb : e.1 = "begin" ∧ o = false
    · obtain ⟨hb, rfl⟩ := hb
      have hl1 : l = 1 := by rw [hb] at hl; simpa [lF] using hl
      subst hl1
      obtain ⟨w', r', c', hx, hs', _⟩ := two_told hn rb cb
      obtain ⟨_, hI⟩ := rch_in hn r'
      refine ⟨_, rch_step hn r' he, ctl_step (b := true) c' hI.2.2.2.1.1 hst, ?_⟩
      have h0 : w'.s = 0 := c'.1.mpr rfl
      rw [hb]
      simp [behindF, aloneF, begunF, h0, hx]
    · have hot : o = true := by
        cases o with
        | true => rfl
        | false =>
          simp only [oF, Bool.false_and, Bool.or_false, decide_eq_true_eq] at ho
          exact absurd ⟨ho, rfl⟩ hb
      subst hot
      have nc : ¬ e.1 = "commit" ∧ ¬ e.1 = "rollback" ∧ ¬ e.1 = "disconnect" := by
        by_cases hbg : e.1 = "begin"
        · rw [hbg]; simp
        · simp only [oF, hbg, decide_false, Bool.false_or, Bool.true_and, Bool.not_eq_true', Bool.or_eq_false_iff, decide_eq_false_iff_not] at ho
          exact ⟨ho.1.1, ho.1.2, ho.2⟩
      have hl1 : l = 1 := by simpa [lF, nc.1, nc.2.2] using hl
      subst hl1
      obtain ⟨w', r', c', hs'⟩ := h3 rfl rfl
      obtain ⟨_, hI⟩ := rch_in hn r'
      refine ⟨_, rch_step hn r' he, ctl_step (b := true) c' hI.2.2.2.1.1 hst, ?_⟩
      have h0 : ¬ w'.s = 0 := by omega
      have hst' := hst
      simp only [rSteps, List.mem_cons, List.not_mem_nil, or_false] at hst'
      rcases hst' with q | q | q | q | q | q | q | q <;> rw [q] at nc ⊢ <;> first | (simp at nc; done) | simp [behindF, withinF, h0, hs']
  · rcases hl01 with rfl | rfl
    · -- it begins to listen
      left
      have r1 := rch_told hn rs
      have c1 := ctl_told (b := false) cs hsI.1.1
      obtain ⟨_, hI⟩ := rch_in hn r1
      have hnr : e.1 ≠ "read" := fun z => by rw [z] at hl; simp [lF] at hl
      have x0 : (toldF false ws).x = 0 := rfl
      have y0 : (toldF false ws).y = 0 := cs.2.2
      have := keep0 x0 y0 hst hnr
      exact ⟨_, rch_step hn r1 he, ctl_step (b := false) c1 hI.2.2.2.1.1 hst, this.1, this.2⟩
    · by_cases hr : e.1 = "read"
      · exact .inr (read rfl hr)
      · rcases h4 rfl with ⟨w', r', c', hx, hy⟩ | ⟨w', r', c', hy⟩
        · obtain ⟨_, hI⟩ := rch_in hn r'
          have := keep0 hx hy hst hr
          exact .inl ⟨_, rch_step hn r' he, ctl_step (b := false) c' hI.2.2.2.1.1 hst, this.1, this.2⟩
        · obtain ⟨_, hI⟩ := rch_in hn r'
          refine .inr ⟨_, rch_step hn r' he, ctl_step (b := true) c' hI.2.2.2.1.1 hst, keep1 c' hy hst hr (fun hrv => ?_) hl⟩
          cases o with
          | true => rfl
          | false => exact absurd ⟨w', r', c'.1.mpr rfl, hy, hrv⟩ bad
theorem alone_first (hn : RelOk n f) : Alone n 0 false := ⟨0, 0, ⟨_, rch_first, by simp [Ctl]⟩, ⟨_, rch_first, by simp [Ctl]⟩, fun h => by omega, fun h => by omega⟩
theorem alone_end (hn : RelOk n f) (ha : Alone n m false) (hf : m ∈ f) : BadR n f := by
  obtain ⟨p, l, ⟨ws, rs, cs⟩, ⟨wb, rb, cb⟩, h3, h4⟩ := ha
  obtain ⟨hm, hsI⟩ := rch_in hn rs
  have hl01 : l = 0 ∨ l = 1 := by
    have := hsI.2.2.1
    have e1 : ws.l = l := cs.2.2
    omega
  rcases hl01 with rfl | rfl
  · refine ⟨false, m, _, rch_told hn rs, ?_⟩
    have h0 : ws.s = 0 := cs.1.mpr rfl
    have hl : ws.l = 0 := cs.2.2
    simp [badF, toldF, h0, hl, hf]
  · rcases h4 rfl with ⟨w', r', c', hx, hy⟩ | ⟨w', r', c', hy⟩
    · refine ⟨false, m, w', r', ?_⟩
      have h0 : w'.s = 0 := c'.1.mpr rfl
      simp [badF, h0, hx, hy, hf]
    · refine ⟨true, m, w', r', ?_⟩
      have h0 : w'.s = 0 := c'.1.mpr rfl
      simp [badF, h0, hy, hf]
/-- then one of both questions has a run -/
theorem bad_run (hn : RelOk n f) (h : BadR n f) : ∃ b, (leastR b n f).isSome = true := by
  obtain ⟨b, m, w, r, hb⟩ := h
  obtain ⟨p, hp, e⟩ := List.mem_map.mp r
  refine ⟨b, ?_⟩
  unfold leastR
  rw [Option.isSome_map, List.find?_isSome]
  refine ⟨p, hp, ?_⟩
  have e : p.1 = keyS m w := e
  rw [e, badK_st]
  exact hb
end
end PV

namespace K54
open PySem PySem.Spec PyProof.Rows L2 PV
noncomputable def L_can_rest_1 : DE → O := (killS true [false, false, false, false, false, false, true, true, true] (thenS (setS 8 (tupE (valA (var 7) (valA (orE (op2 eqD (var 6) (cst (.str "begin"))) (andE (var 5) (op2 (inF true) (var 6) (tupE (valA (cst (.str "commit")) (valA (cst (.str "rollback")) (valA (cst (.str "disconnect")) noA))))))) noA)))) (ifS (tst (inSl true 2 (var 8))) (thenS (appS 2 (var 8)) (appS 3 (var 8))) skipS)))
noncomputable def L_can_rest_2 : DE → O := (killS true [false, false, false, false, true, true, true, true, true] (thenS (asgS (tupG 2 (consG (nmG 4) (consG (nmG 5) nilG))) (popE 3)) (forS (seqE (op2 ixD (var 0) (var 4))) (tupG 2 (consG (nmG 6) (consG (nmG 7) nilG))) L_can_rest_1)))
noncomputable def F_can_rest : DE → O := (killS true [] (thenS (parS [2, 3] (ownI (lstN (valA (tupE (valA (cst (.int 0)) (valA (cst (.bl false)) noA))) noA)) (ownI (lstN (valA (tupE (valA (cst (.int 0)) (valA (cst (.bl false)) noA))) noA)) noI))) (thenS (whileS 4096 (tst (neSl 3)) L_can_rest_2) (retS (op2 neZ (ofN (lcN (seqE (var 2)) (tupG 2 (consG (nmG 4) (consG (nmG 5) nilG))) (andT (tst (op2 (inF false) (var 4) (var 1))) (notT (tst (var 5)))) (cst (.int 1)) [4, 5])) (ofN (lstN noA)))))))
noncomputable def ph_can_rest : List Sl → FR := fnF 2 9 F_can_rest
noncomputable def F_line : DE → O := (killS true [] (thenS (setS 1 (callF ph_pick (slotA 0 (valA (ofN (lstN (valA (ofN (lstN (valA (cst (.str "listen")) (valA (cst (.str "read")) noA)))) (valA (ofN (lstN (valA (cst (.str "listen")) (valA (cst (.str "begin")) (valA (cst (.str "read")) (valA (cst (.str "commit")) noA)))))) (valA (ofN (lstN (valA (cst (.str "read")) (valA (cst (.str "listen")) (valA (cst (.str "read")) noA))))) noA))))) noA)))) (thenS (setS 2 (callF ph_draw (slotA 0 (valA (op2 addA (callB lenD (valA (var 1) noA)) (cst (.int 1))) noA)))) (thenS (setS 1 (op2 addA (op2 addA (slE (var 1) oNo (oSome (var 2))) (callF ph_pick (slotA 0 (valA (ofN (lstN (valA (ofN (lstN noA)) (valA (ofN (lstN (valA (callF ph_mirror_step (slotA 0 noA)) noA))) noA)))) noA)))) (slE (var 1) (oSome (var 2)) oNo))) (thenS (setS 3 (ofN (lcN (enumE (valA (var 1) noA)) (tupG 2 (consG (nmG 2) (consG (nmG 4) nilG))) noCond (tupE (valA (tupE (valA (var 4) (valA (op2 addA (var 2) (cst (.int 1))) noA))) noA)) [2, 4]))) (retS (op2 addA (callB tupleD (valA (var 3) noA)) (tupE (valA (tupE (valA (tupE (valA (cst (.str "receive")) (valA (callB lenD (valA (var 1) noA)) noA))) (valA (tupE (valA (callF ph_mirror_step (slotA 0 noA)) (valA (cst (.int 0)) noA))) noA))) noA)))))))))
noncomputable def ph_line : List Sl → FR := fnF 1 5 F_line
noncomputable def F_p_Question_table : DE → O := (killS true [] (thenS (setS 1 (ofN (callN sortedT (valA (callM "reached" [("Stale", ph_p_Question_reached), ("Back", ph_p_Question_reached)] (var 0) noA) noA)))) (retS (ifE (tst (callB anyD (valA (ofN (lcN (seqE (var 1)) (nmG 2) noCond (callM "is_bad" [("Stale", ph_p_Stale_is_bad), ("Back", ph_p_Back_is_bad)] (var 0) (valA (var 2) noA)) [2])) noA))) (cst .non) (callB tupleD (valA (var 1) noA))))))
noncomputable def ph_p_Question_table : List Sl → FR := fnF 1 3 F_p_Question_table
noncomputable def F_right : DE → O := (killS true [] (thenS (setS 2 (ofN (makeN "Mirror" ph_p_Mirror_init (valA (var 0) (valA (var 1) noA))))) (thenS (setS 3 (ofN (lstN (valA (callM "run" [("Stale", ph_p_Question_run), ("Back", ph_p_Question_run)] (callM "question" [("Mirror", ph_p_Mirror_question)] (var 2) (valA (cst (.str "stale")) noA)) noA) (valA (callM "run" [("Stale", ph_p_Question_run), ("Back", ph_p_Question_run)] (callM "question" [("Mirror", ph_p_Mirror_question)] (var 2) (valA (cst (.str "back")) noA)) noA) noA))))) (thenS (setS 4 (ofN (lstN (valA (callM "table" [("Stale", ph_p_Question_table), ("Back", ph_p_Question_table)] (callM "question" [("Mirror", ph_p_Mirror_question)] (var 2) (valA (cst (.str "stale")) noA)) noA) (valA (callM "table" [("Stale", ph_p_Question_table), ("Back", ph_p_Question_table)] (callM "question" [("Mirror", ph_p_Mirror_question)] (var 2) (valA (cst (.str "back")) noA)) noA) noA))))) (thenS (ifS (tst (op2 neD (ofN (lcN (seqE (var 3)) (nmG 5) noCond (op2 isNo (var 5) (cst .non)) [5])) (ofN (lcN (seqE (var 4)) (nmG 6) noCond (op2 notNo (var 6) (cst .non)) [6])))) (retS (cst (.bl false))) skipS) (retS (orE (op2 neD (var 3) (ofN (lstN (valA (cst .non) (valA (cst .non) noA))))) (notE (callF ph_can_rest (valA (var 0) (valA (var 1) noA)))))))))))
noncomputable def ph_right : List Sl → FR := fnF 2 7 F_right
noncomputable def L_law_1 : DE → O := (killS true [false, false, true, true] (thenS (setS 3 (callF ph_mirror_nodes (slotA 1 (valA (cst (.int 6)) noA)))) (thenS (ifS (notT (tst (callF ph_right (valA (var 3) (valA (callF ph_pick (slotA 1 (valA (ofN (lstN (valA (callF ph_finals (slotA 1 (valA (callB lenD (valA (var 3) noA)) noA))) (valA (tupE (valA (op2 isub (callB lenD (valA (var 3) noA)) (cst (.int 1))) noA)) noA)))) noA))) noA))))) (retS (cst (.bl false))) skipS) (thenS (setS 3 (callF ph_line (slotA 1 noA))) (ifS (notT (tst (callF ph_right (valA (var 3) (valA (tupE (valA (op2 isub (callB lenD (valA (var 3) noA)) (cst (.int 1))) noA)) noA))))) (retS (cst (.bl false))) skipS)))))
noncomputable def L_law_2 : DE → O := (killS true [false, true, true, true] (forS (rng1 (valA (cst (.int 4)) noA)) (nmG 2) L_law_1))
noncomputable def F_law : DE → O := (killS true [] (thenS (forPens 0 4 1 L_law_2) (retS (cst (.bl true)))))
noncomputable def ph_law : List Sl → FR := fnF 1 4 F_law
end K54

namespace K54
open PySem PySem.Spec PyProof.Rows L2 PV
/-! ### questions -/
theorem init_ok {c : Str} {d : D} (h : c = "Stale" ∨ c = "Back") : ph_p_Question_init [.bor (.ins c []), .val d] = .ret .non [.bor (.ins c [("graph", d)]), .val d] := by
  unfold ph_p_Question_init F_p_Question_init
  rcases h with rfl | rfl <;> simp [ev_fn, fldS, ptF]
theorem question_stale {n : Nd} {f : List Nat} : ph_p_Mirror_question [.val (mirrorO n f), .val (.str "stale")] = .ret (qO false n f) [.val (mirrorO n f), .val (.str "stale")] := by
  unfold ph_p_Mirror_question F_p_Mirror_question
  simp [ev_fn, isi_str, D.bStr, init_ok (.inl rfl), qC]
theorem question_back {n : Nd} {f : List Nat} : ph_p_Mirror_question [.val (mirrorO n f), .val (.str "back")] = .ret (qO true n f) [.val (mirrorO n f), .val (.str "back")] := by
  unfold ph_p_Mirror_question F_p_Mirror_question
  simp [ev_fn, isi_str, D.bStr, init_ok (.inr rfl), qC]
/-! ### tables -/
theorem ok_inU {n : Nat} {k : List Key} (h : InU n k) (h6 : n ≤ 6) : okK 6 k = true := by
  obtain ⟨m, w, rfl, hm, h1, h2, h3, h4, h5⟩ := h
  have e : intsK (keyS m w) = some [(m : Int), w.s, w.p, w.l, w.x, w.y] := rfl
  unfold okK
  rw [e]
  simp only [List.length_cons, List.length_nil, decide_true, Bool.true_and, List.all_cons, List.all_nil, Bool.and_true, Bool.and_eq_true, decide_eq_true_eq, BB]
  omega
theorem ok_all {b : Bool} {n : Nd} {f : List Nat} (hn : RelOk n f) : ∀ k ∈ keysT (allR b n), okK 6 k = true := fun k hk => by
  obtain ⟨p, hp, rfl⟩ := List.mem_map.mp hk
  exact ok_inU ((allR_in (b := b) hn).inn p hp) hn.few
theorem sort_all {b : Bool} {n : Nd} {f : List Nat} (hn : RelOk n f) : sortedT [.dcF (tabD (allR b n))] = some (.lst ((sortT (keysT (allR b n))).map fun k => kTup k)) := by
  have hok := ok_all (b := b) hn
  have hr : keyS 0 ⟨0, 0, 0, 0, 0⟩ ∈ keysT (allR b n) := rch_first (b := b) (n := n)
  show sortKs (tabD (allR b n)) = _
  unfold sortKs
  have e : (tabD (allR b n)).map (·.1) = keysT (allR b n) := by unfold tabD keysT; rw [List.map_map]; rfl
  rw [e]
  cases q : keysT (allR b n) with
  | nil => rw [q] at hr; cases hr
  | cons k ks =>
    rw [q] at hok
    have hk := hok k List.mem_cons_self
    have hl : k.length = 6 := by
      obtain ⟨ns, rfl, h1, _⟩ := okK_is hk
      rw [List.length_map]; exact h1
    simp only
    rw [if_pos ⟨by omega, by rw [hl]; exact List.all_eq_true.mpr hok⟩]
noncomputable def tblD (b : Bool) (n : Nd) (f : List Nat) : D := if (sortT (keysT (allR b n))).any (badK b n f) = true then .non else .tup ((sortT (keysT (allR b n))).map fun k => kTup k)
theorem tbl_isN {b : Bool} {n : Nd} {f : List Nat} : (tblD b n f).isN = (leastR b n f).isSome := by
  have e : (sortT (keysT (allR b n))).any (badK b n f) = (leastR b n f).isSome := by
    unfold leastR
    rw [Option.isSome_map]
    rw [Bool.eq_iff_iff, List.any_eq_true, List.find?_isSome]
    constructor
    · rintro ⟨k, hk, hb⟩
      obtain ⟨p, hp, rfl⟩ := List.mem_map.mp ((sortT_perm _).mem_iff.mp hk)
      exact ⟨p, hp, hb⟩
    · rintro ⟨p, hp, hb⟩
      exact ⟨p.1, (sortT_perm _).mem_iff.mpr (List.mem_map.mpr ⟨p, hp, rfl⟩), hb⟩
  unfold tblD
  rw [e]
  cases (leastR b n f).isSome <;> rfl
theorem bad_ok {b : Bool} {n : Nd} {f : List Nat} {k : List Key} (hn : RelOk n f) (h : InU n.length k) : (if b = true then ph_p_Back_is_bad else ph_p_Stale_is_bad) [.val (qO b n f), .val (kTup k)] = .ret (.bl (badK b n f k)) [.val (qO b n f), .val (kTup k)] := by
  obtain ⟨m, w, rfl, hm, hw⟩ := h
  rw [badK_st, kTup_st]
  cases b
  · exact bad_okS
  · exact bad_okB hm (hn.wid _ (node_mem hm))
theorem sort_inU {b : Bool} {n : Nd} {f : List Nat} (hn : RelOk n f) : ∀ k ∈ sortT (keysT (allR b n)), InU n.length k := fun k hk => by
  obtain ⟨p, hp, rfl⟩ := List.mem_map.mp ((sortT_perm _).mem_iff.mp hk)
  exact (allR_in (b := b) hn).inn p hp
theorem sort_len {b : Bool} {n : Nd} {f : List Nat} (hn : RelOk n f) : (sortT (keysT (allR b n))).length ≤ 864 := by
  rw [(sortT_perm _).length_eq]
  unfold keysT
  rw [List.length_map]
  exact (allR_in (b := b) hn).len hn.few
theorem table_ok {b : Bool} {n : Nd} {f : List Nat} (hn : RelOk n f) : ph_p_Question_table [.val (qO b n f)] = .ret (tblD b n f) [.val (qO b n f)] := by
  have hr := reached_ok (b := b) hn
  have hs := sort_all (b := b) hn
  have hU := sort_inU (b := b) hn
  have hl := sort_len (b := b) hn
  unfold ph_p_Question_table F_p_Question_table tblD
  generalize sortT (keysT (allR b n)) = ks at hs hU hl
  generalize tabD (allR b n) = T at hr hs
  have eb : ks.map (fun k => D.bl (badK b n f k)) = (ks.map fun k => badK b n f k).map D.bl := by rw [List.map_map]; rfl
  have e2 : anyD [.lst (ks.map fun k => D.bl (badK b n f k))] = some (.bl (ks.any (badK b n f))) := by
    rw [eb, anyD_bls, List.any_map]; rfl
  cases b
  · have hr : ph_p_Question_reached [.val (.ins "Stale" [("graph", mirrorO n f)])] = .ret (.dcF T) [.val (.ins "Stale" [("graph", mirrorO n f)])] := hr
    have e1 := lcE_map (f := seqE (var 1)) (t := nmG 2) (elt := callM "is_bad" [("Stale", ph_p_Stale_is_bad), ("Back", ph_p_Back_is_bad)] (var 0) (valA (var 2) noA)) (vs := [2]) (δ := [some (.val (.ins "Stale" [("graph", mirrorO n f)])), some (.val (.lst (ks.map fun k => kTup k))), none])
      (δ0 := [some (.val (.ins "Stale" [("graph", mirrorO n f)])), some (.val (.lst (ks.map fun k => kTup k))), none]) (δw := [some (.val (.ins "Stale" [("graph", mirrorO n f)])), some (.val (.lst (ks.map fun k => kTup k))), none]) (as := ks) (fun k => kTup k) (fun k => .bl (badK false n f k))
      (by simp) rfl (by rw [lim_eq]; omega) (fun k hk => by
        have e : ph_p_Stale_is_bad [.val (.ins "Stale" [("graph", mirrorO n f)]), .val (kTup k)] = .ret (.bl (badK false n f k)) [.val (.ins "Stale" [("graph", mirrorO n f)]), .val (kTup k)] := bad_ok (b := false) hn (hU k hk)
        exact ⟨[some (.val (.ins "Stale" [("graph", mirrorO n f)])), some (.val (.lst (ks.map fun k => kTup k))), some (.val (kTup k))], _, rfl, by simp [meK, lkT, lkF, e]; rfl, rfl⟩)
    show fnF 1 3 _ [.val (.ins "Stale" [("graph", mirrorO n f)])] = .ret _ [.val (.ins "Stale" [("graph", mirrorO n f)])]
    generalize ks.map (fun k => D.bl (badK false n f k)) = zs at e1 e2
    generalize ks.map (fun k => PV.kTup k) = L at *
    cases q : ks.any (badK false n f) <;> rw [q] at e2 <;> simp [ev_fn, meK, lkT, lkF, hr, hs, e1, e2]
  · have hr : ph_p_Question_reached [.val (.ins "Back" [("graph", mirrorO n f)])] = .ret (.dcF T) [.val (.ins "Back" [("graph", mirrorO n f)])] := hr
    have e1 := lcE_map (f := seqE (var 1)) (t := nmG 2) (elt := callM "is_bad" [("Stale", ph_p_Stale_is_bad), ("Back", ph_p_Back_is_bad)] (var 0) (valA (var 2) noA)) (vs := [2]) (δ := [some (.val (.ins "Back" [("graph", mirrorO n f)])), some (.val (.lst (ks.map fun k => kTup k))), none])
      (δ0 := [some (.val (.ins "Back" [("graph", mirrorO n f)])), some (.val (.lst (ks.map fun k => kTup k))), none]) (δw := [some (.val (.ins "Back" [("graph", mirrorO n f)])), some (.val (.lst (ks.map fun k => kTup k))), none]) (as := ks) (fun k => kTup k) (fun k => .bl (badK true n f k))
      (by simp) rfl (by rw [lim_eq]; omega) (fun k hk => by
        have e : ph_p_Back_is_bad [.val (.ins "Back" [("graph", mirrorO n f)]), .val (kTup k)] = .ret (.bl (badK true n f k)) [.val (.ins "Back" [("graph", mirrorO n f)]), .val (kTup k)] := bad_ok (b := true) hn (hU k hk)
        exact ⟨[some (.val (.ins "Back" [("graph", mirrorO n f)])), some (.val (.lst (ks.map fun k => kTup k))), some (.val (kTup k))], _, rfl, by simp [meK, lkT, lkF, e]; rfl, rfl⟩)
    show fnF 1 3 _ [.val (.ins "Back" [("graph", mirrorO n f)])] = .ret _ [.val (.ins "Back" [("graph", mirrorO n f)])]
    generalize ks.map (fun k => D.bl (badK true n f k)) = zs at e1 e2
    generalize ks.map (fun k => PV.kTup k) = L at *
    cases q : ks.any (badK true n f) <;> rw [q] at e2 <;> simp [ev_fn, meK, lkT, lkF, hr, hs, e1, e2]
/-! ### whether it can rest -/
abbrev Pr := Nat × Bool
abbrev prD (p : Pr) : D := .tup [.int (p.1 : Nat), .bl p.2]
abbrev prP (p : Pr) : PyData := .tuple [.int (p.1 : Nat), .bool p.2]
theorem pr_py (p : Pr) : (prD p).py = some (prP p) := by simp [prD, prP, D.py, D.pys]
theorem prs_py : ∀ (l : List Pr), D.pys (l.map prD) = some (l.map prP)
  | [] => by unfold D.pys; rfl
  | p :: l => by
    rw [List.map_cons, List.map_cons]
    unfold D.pys
    rw [pr_py, prs_py l]
    rfl
theorem pr_shaped (p : Pr) : SeqAt.shaped (prP p) = true := by simp [SeqAt.shaped, prP, PyData.canLay0, PyData.canLayAll0, PyData.depth, PyData.depthAll]
theorem prs_lay : ∀ (l : List Pr), PyData.canLayAll0 (l.map prP) = true ∧ PyData.depthAll (l.map prP) ≤ 2
  | [] => by simp [PyData.canLayAll0, PyData.depthAll]
  | p :: l => by
    have ih := prs_lay l
    rw [List.map_cons]
    constructor
    · simp [PyData.canLayAll0, prP, PyData.canLay0, ih.1]
    · simp only [PyData.depthAll, prP, PyData.depth]
      omega
theorem prs_shaped (l : List Pr) : SeqAt.shaped (.list (l.map prP)) = true := by
  have := prs_lay l
  have hd : (PyData.list (l.map prP)).depth ≤ 64 := by simp only [PyData.depth]; omega
  have hc : (PyData.list (l.map prP)).canLay0 = true := by simp only [PyData.canLay0]; exact this.1
  unfold SeqAt.shaped
  rw [hc, decide_eq_true hd]; rfl
theorem pr_eqv (p q : Pr) : PyData.eqv (prP p) (prP q) = decide (p = q) := by
  obtain ⟨a, b⟩ := p
  obtain ⟨c, d⟩ := q
  by_cases h : a = c
  · subst h
    cases b <;> cases d <;> simp [prP, PyData.eqv, PyData.eqvAll]
  · have h' : ¬ (a : Int) = (c : Int) := by omega
    simp [prP, PyData.eqv, PyData.eqvAll, h, h']
theorem any_eqv (l : List Pr) (p : Pr) : ((l.map prP).any fun z => PyData.eqv z (prP p)) = decide (p ∈ l) := by
  induction l with
  | nil => simp
  | cons q l ih =>
    rw [List.map_cons, List.any_cons, ih, pr_eqv]
    by_cases h : p = q
    · subst h; simp
    · have h' : ¬ q = p := fun z => h z.symm
      simp [h, h']
theorem inSK_pr {s : Sl} {l : List Pr} {p : Pr} {δ : DE} : inSK true (some (s, .lst (l.map prD))) (prD p) δ = .ok (.bl (!decide (p ∈ l))) δ := by
  unfold inSK
  simp only
  rw [pr_py, prs_py]
  simp only
  rw [if_pos ⟨pr_shaped p, prs_shaped l, by simp [prP, PyData.depth, PyData.depthAll]⟩, any_eqv]
  rfl
theorem inF_strN {k : Str} {l : List Str} : inF true (.str k) (.tup (l.map D.str)) = some (.bl (!decide (k ∈ l))) := by
  unfold inF
  show (match some (V.str k), flats (l.map D.str) with | some u, some us => _ | _, _ => none) = _
  rw [flats_strs]
  show some (D.bl (if true = true then !inV (V.str k) (l.map V.str) else inV (V.str k) (l.map V.str))) = _
  rw [if_pos rfl, inV_str]
abbrev CR (n : Nd) (f : List Nat) (fd ln : List Pr) (a b c d e : Option Sl) : DE := [some (.val (nodesD n)), some (.val (finD f)), some (.own (.lst (fd.map prD))), some (.own (.lst (ln.map prD))), a, b, c, d, e]
/-- a pair that comes up -/
def adF (s : List Pr × List Pr) (p : Pr) : List Pr × List Pr := if p ∈ s.1 then s else (s.1 ++ [p], s.2 ++ [p])
theorem rest_turn {n : Nd} {f : List Nat} {fd ln : List Pr} {m : Nat} {o : Bool} {e : Str × Nat} (h1 : fd.length ≤ 1000) (h2 : ln.length ≤ 1000) :
    L_can_rest_1 (CR n f fd ln (some (.val (.int (m : Nat)))) (some (.val (.bl o))) (some (.val (.str e.1))) (some (.val (.int (e.2 : Nat)))) none) = .nx (CR n f (adF (fd, ln) (e.2, oF e.1 o)).1 (adF (fd, ln) (e.2, oF e.1 o)).2 (some (.val (.int (m : Nat)))) (some (.val (.bl o))) none none none) := by
  have l1 : fd.length < 1000000 := by omega
  have l2 : ln.length < 1000000 := by omega
  have hi := fun s δ => inSK_pr (s := s) (l := fd) (p := (e.2, oF e.1 o)) (δ := δ)
  have ht : inF true (.str e.1) (.tup [.str "commit", .str "rollback", .str "disconnect"]) = some (.bl (!(decide (e.1 = "commit") || decide (e.1 = "rollback") || decide (e.1 = "disconnect")))) := by
    have := inF_strN (k := e.1) (l := ["commit", "rollback", "disconnect"])
    simp only [List.map_cons, List.map_nil] at this
    rw [this]
    congr 3
    simp [Bool.or_assoc]
  unfold L_can_rest_1 adF
  by_cases hb : e.1 = "begin"
  · have ho : oF e.1 o = true := by unfold oF; rw [hb]; simp
    rw [ho] at hi ⊢
    by_cases hm : ((e.2, true) : Pr) ∈ fd
    · have hi : ∀ s δ, inSK true (some (s, .lst (fd.map prD))) (.tup [.int (e.2 : Nat), .bl true]) δ = .ok (.bl false) δ := fun s δ => by rw [hi s δ, decide_eq_true hm]; rfl
      simp [hb, hi, hm]
    · have hi : ∀ s δ, inSK true (some (s, .lst (fd.map prD))) (.tup [.int (e.2 : Nat), .bl true]) δ = .ok (.bl true) δ := fun s δ => by rw [hi s δ, decide_eq_false hm]; rfl
      simp [hb, hi, hm, l1, l2]
  · cases o
    · have ho : oF e.1 false = false := by unfold oF; simp [hb]
      rw [ho] at hi ⊢
      by_cases hm : ((e.2, false) : Pr) ∈ fd
      · have hi : ∀ s δ, inSK true (some (s, .lst (fd.map prD))) (.tup [.int (e.2 : Nat), .bl false]) δ = .ok (.bl false) δ := fun s δ => by rw [hi s δ, decide_eq_true hm]; rfl
        simp [hb, hi, hm]
      · have hi : ∀ s δ, inSK true (some (s, .lst (fd.map prD))) (.tup [.int (e.2 : Nat), .bl false]) δ = .ok (.bl true) δ := fun s δ => by rw [hi s δ, decide_eq_false hm]; rfl
        simp [hb, hi, hm, l1, l2]
    · have ho : oF e.1 true = (!(decide (e.1 = "commit") || decide (e.1 = "rollback") || decide (e.1 = "disconnect"))) := by unfold oF; simp [hb]
      rw [← ho] at ht
      generalize oF e.1 true = bb at ht hi
      by_cases hm : ((e.2, bb) : Pr) ∈ fd
      · have hi : ∀ s δ, inSK true (some (s, .lst (fd.map prD))) (.tup [.int (e.2 : Nat), .bl bb]) δ = .ok (.bl false) δ := fun s δ => by rw [hi s δ, decide_eq_true hm]; rfl
        simp [hb, hi, hm, ht]
      · have hi : ∀ s δ, inSK true (some (s, .lst (fd.map prD))) (.tup [.int (e.2 : Nat), .bl bb]) δ = .ok (.bl true) δ := fun s δ => by rw [hi s δ, decide_eq_false hm]; rfl
        simp [hb, hi, hm, ht, l1, l2]
def foA (o : Bool) (es : List (Str × Nat)) (s : List Pr × List Pr) : List Pr × List Pr := es.foldl (fun s e => adF s (e.2, oF e.1 o)) s
theorem ad_len (s : List Pr × List Pr) (p : Pr) : (adF s p).1.length ≤ s.1.length + 1 ∧ (adF s p).2.length ≤ s.2.length + 1 := by
  unfold adF
  split
  · exact ⟨Nat.le_succ _, Nat.le_succ _⟩
  · simp
theorem rest_edges {n : Nd} {f : List Nat} {m : Nat} {o : Bool} : ∀ (es : List (Str × Nat)) (fd ln : List Pr), fd.length + es.length ≤ 1000 → ln.length + es.length ≤ 1000 →
    loopF (tupG 2 (consG (nmG 6) (consG (nmG 7) nilG))) L_can_rest_1 (es.map edgeD) (CR n f fd ln (some (.val (.int (m : Nat)))) (some (.val (.bl o))) none none none) = .nx (CR n f (foA o es (fd, ln)).1 (foA o es (fd, ln)).2 (some (.val (.int (m : Nat)))) (some (.val (.bl o))) none none none)
  | [], fd, ln, _, _ => rfl
  | e :: es, fd, ln, h1, h2 => by
    rw [List.length_cons] at h1 h2
    have e1 := rest_turn (n := n) (f := f) (fd := fd) (ln := ln) (m := m) (o := o) (e := e) (by omega) (by omega)
    obtain ⟨a1, a2⟩ := ad_len (fd, ln) (e.2, oF e.1 o)
    have ih := rest_edges (n := n) (f := f) (m := m) (o := o) es (adF (fd, ln) (e.2, oF e.1 o)).1 (adF (fd, ln) (e.2, oF e.1 o)).2 (by simp only at a1; omega) (by simp only at a2; omega)
    rw [List.map_cons]
    unfold loopF
    show (match L_can_rest_1 (CR n f fd ln (some (.val (.int (m : Nat)))) (some (.val (.bl o))) (some (.val (.str e.1))) (some (.val (.int (e.2 : Nat)))) none) with
      | .nx δ => loopF _ _ _ δ
      | .cnt δ => loopF _ _ _ δ
      | .brk δ => .nx δ
      | o => o) = _
    rw [e1]
    exact ih
/-- what holds while it walks -/
structure CI (n : Nd) (f : List Nat) (s : List Pr × List Pr) : Prop where
  nd : s.1.Nodup
  gd : ∀ p ∈ s.1, p.1 < n.length ∧ (Alone n p.1 p.2 ∨ BadR n f)
  sub : ∀ p ∈ s.2, p ∈ s.1
def mu (s : List Pr × List Pr) : Nat := 2 * (12 - s.1.length) + s.2.length
theorem CI.len {n : Nd} {f : List Nat} {s : List Pr × List Pr} (h : CI n f s) (h6 : n.length ≤ 6) : s.1.length ≤ 12 := by
  have hinj : ∀ a b : Pr, a ≠ b → 2 * a.1 + (if a.2 = true then 1 else 0) ≠ 2 * b.1 + (if b.2 = true then 1 else 0) := fun a b hne e => hne (by
    obtain ⟨a1, a2⟩ := a
    obtain ⟨b1, b2⟩ := b
    cases a2 <;> cases b2 <;> simp at e
    · rw [show a1 = b1 by omega]
    · omega
    · omega
    · rw [show a1 = b1 by omega])
  have := nodup_le 12 (s.1.map fun p => 2 * p.1 + (if p.2 = true then 1 else 0)) (List.pairwise_map.mpr (h.nd.imp fun {a b} hne => hinj a b hne)) fun x hx => by
    obtain ⟨p, hp, rfl⟩ := List.mem_map.mp hx
    have := (h.gd p hp).1
    split <;> omega
  rw [List.length_map] at this
  exact this
theorem CI.ad {n : Nd} {f : List Nat} {s : List Pr × List Pr} {p : Pr} (h : CI n f s) (hp : p.1 < n.length ∧ (Alone n p.1 p.2 ∨ BadR n f)) (h6 : n.length ≤ 6) : CI n f (adF s p) ∧ mu (adF s p) ≤ mu s ∧ ∀ x ∈ s.1, x ∈ (adF s p).1 := by
  by_cases q : p ∈ s.1
  · have e : adF s p = s := by unfold adF; rw [if_pos q]
    rw [e]
    exact ⟨h, Nat.le_refl _, fun x hx => hx⟩
  · have e : adF s p = (s.1 ++ [p], s.2 ++ [p]) := by unfold adF; rw [if_neg q]
    have hc : CI n f (adF s p) := by
      rw [e]
      refine ⟨List.nodup_append.mpr ⟨h.nd, by simp, fun a ha b hb => ?_⟩, fun x hx => ?_, fun x hx => ?_⟩
      · have : b = p := by simpa using hb
        subst this
        exact fun z => q (z ▸ ha)
      · rcases List.mem_append.mp hx with hx | hx
        · exact h.gd x hx
        · have : x = p := by simpa using hx
          rw [this]; exact hp
      · rcases List.mem_append.mp hx with hx | hx
        · exact List.mem_append_left _ (h.sub x hx)
        · exact List.mem_append_right _ hx
    have hl := hc.len h6
    rw [e] at hl
    refine ⟨hc, ?_, fun x hx => by rw [e]; exact List.mem_append_left _ hx⟩
    rw [e]
    unfold mu
    simp only [List.length_append, List.length_cons, List.length_nil] at hl ⊢
    omega
theorem CI.fo {n : Nd} {f : List Nat} {m : Nat} {o : Bool} (hn : RelOk n f) : ∀ (es : List (Str × Nat)) (s : List Pr × List Pr), CI n f s → (m, o) ∈ s.1 → (∀ e ∈ es, e ∈ n.getD m []) → CI n f (foA o es s) ∧ mu (foA o es s) ≤ mu s
  | [], s, h, _, _ => ⟨h, Nat.le_refl _⟩
  | e :: es, s, h, hm, he => by
    obtain ⟨g1, g2⟩ := h.gd _ hm
    have g1 : m < n.length := g1
    have hp : ((e.2, oF e.1 o) : Pr).1 < n.length ∧ (Alone n ((e.2, oF e.1 o) : Pr).1 ((e.2, oF e.1 o) : Pr).2 ∨ BadR n f) := by
      refine ⟨hn.thr _ (node_mem g1) _ (he e List.mem_cons_self), ?_⟩
      rcases g2 with g2 | g2
      · exact alone_step hn g2 (he e List.mem_cons_self)
      · exact .inr g2
    obtain ⟨k1, k2, k3⟩ := h.ad hp hn.few
    obtain ⟨i1, i2⟩ := CI.fo hn es (adF s (e.2, oF e.1 o)) k1 (k3 _ hm) fun x hx => he x (List.mem_cons_of_mem _ hx)
    exact ⟨i1, Nat.le_trans i2 k2⟩
theorem rest_while {n : Nd} {f : List Nat} (hn : RelOk n f) : ∀ (fu : Nat) (s : List Pr × List Pr), CI n f s → mu s < fu → mu s ≤ 100 →
    ∃ fd, CI n f (fd, []) ∧ whileF (tst (neSl 3)) L_can_rest_2 fu (CR n f s.1 s.2 none none none none none) = .nx (CR n f fd [] none none none none none)
  | 0, s, _, h, _ => absurd h (Nat.not_lt_zero _)
  | fu + 1, (fd, ln), hc, hf, hm100 => by
    have hle := hc.len hn.few
    rcases List.eq_nil_or_concat ln with rfl | ⟨ln', p, ec⟩
    · exact ⟨fd, hc, while_end (by simp)⟩
    · rw [List.concat_eq_append] at ec
      subst ec
      obtain ⟨m, o⟩ := p
      have hmem : (m, o) ∈ fd := hc.sub _ (List.mem_append_right _ (by simp))
      have hm : m < n.length := (hc.gd _ hmem).1
      have hc' : CI n f (fd, ln') := ⟨hc.nd, hc.gd, fun x hx => hc.sub x (List.mem_append_left _ hx)⟩
      obtain ⟨k1, k2⟩ := CI.fo hn (n.getD m []) (fd, ln') hc' hmem fun e he => he
      have hw := hn.wid _ (node_mem hm)
      have hmu : mu (fd, ln') + 1 = mu (fd, ln' ++ [(m, o)]) := by
        show 2 * (12 - fd.length) + ln'.length + 1 = 2 * (12 - fd.length) + (ln' ++ [(m, o)]).length
        rw [List.length_append, List.length_singleton]; omega
      have hll : ln'.length ≤ 100 := by
        have : 2 * (12 - fd.length) + (ln' ++ [(m, o)]).length ≤ 100 := hm100
        rw [List.length_append] at this; omega
      have e1 := rest_edges (n := n) (f := f) (m := m) (o := o) (n.getD m []) fd ln' (by simp only at hle; omega) (by omega)
      have hx := ix_node hm
      have et : L_can_rest_2 (CR n f fd (ln' ++ [(m, o)]) none none none none none) = .nx (CR n f (foA o (n.getD m []) (fd, ln')).1 (foA o (n.getD m []) (fd, ln')).2 none none none none none) := by
        unfold L_can_rest_2
        generalize n.getD m [] = nd at *
        simp [hx, nodeD, e1]
      obtain ⟨fd', i1, i2⟩ := rest_while hn fu (foA o (n.getD m []) (fd, ln')) k1 (by omega) (by omega)
      refine ⟨fd', i1, ?_⟩
      have hcnd : tst (neSl 3) (CR n f fd (ln' ++ [(m, o)]) none none none none none) = .ok true (CR n f fd (ln' ++ [(m, o)]) none none none none none) := by simp
      rw [while_go hcnd et]
      exact i2
theorem can_rest_ok {n : Nd} {f : List Nat} (hn : RelOk n f) : ∃ bv, ph_can_rest [.val (nodesD n), .val (finD f)] = .ret (.bl bv) [.val (nodesD n), .val (finD f)] ∧ (bv = true → BadR n f) := by
  have hc0 : CI n f ([(0, false)], [(0, false)]) := ⟨by simp, fun p hp => by
    have : p = (0, false) := by simpa using hp
    subst this
    exact ⟨hn.pos, .inl (alone_first hn)⟩, fun p hp => hp⟩
  obtain ⟨fd, i1, i2⟩ := rest_while hn 4096 ([(0, false)], [(0, false)]) hc0 (by decide) (by decide)
  have i2 : whileF (tst (neSl 3)) L_can_rest_2 4096 [some (.val (nodesD n)), some (.val (finD f)), some (.own (.lst [.tup [.int 0, .bl false]])), some (.own (.lst [.tup [.int 0, .bl false]])), none, none, none, none, none] = .nx (CR n f fd [] none none none none none) := i2
  have hle := i1.len hn.few
  have e1 := lcE_fm (f := seqE (var 2)) (t := tupG 2 (consG (nmG 4) (consG (nmG 5) nilG))) (cond := andT (tst (op2 (inF false) (var 4) (var 1))) (notT (tst (var 5)))) (elt := cst (.int 1)) (vs := [4, 5])
    (δ := CR n f fd [] none none none none none) (δ0 := [some (.val (nodesD n)), some (.val (finD f)), some (.val (.lst (fd.map prD))), some (.own (.lst [])), none, none, none, none, none]) (δw := [some (.val (nodesD n)), some (.val (finD f)), some (.val (.lst (fd.map prD))), some (.own (.lst [])), none, none, none, none, none])
    (as := fd) prD (fun p => if p.1 ∈ f ∧ p.2 = false then some (.int 1) else none) (by simp) rfl (by rw [lim_eq]; simp only at hle; omega) (fun p hp => by
      refine ⟨[some (.val (nodesD n)), some (.val (finD f)), some (.val (.lst (fd.map prD))), some (.own (.lst [])), some (.val (.int (p.1 : Nat))), some (.val (.bl p.2)), none, none, none], rfl, ?_⟩
      obtain ⟨m, o⟩ := p
      by_cases h1 : m ∈ f
      · cases o
        · exact .inr ⟨.int 1, _, _, by simp [h1], by simp [inF_fin, h1]; rfl, rfl, rfl⟩
        · exact .inl ⟨by simp, _, by simp [inF_fin, h1]; rfl, rfl⟩
      · exact .inl ⟨by simp [h1], _, by simp [inF_fin, h1]; rfl, rfl⟩)
  refine ⟨!(fd.filterMap fun p => if p.1 ∈ f ∧ p.2 = false then some (D.int 1) else none).isEmpty, ?_, fun h => ?_⟩
  · generalize fd.filterMap (fun p => if p.1 ∈ f ∧ p.2 = false then some (D.int 1) else none) = zs at e1
    unfold ph_can_rest F_can_rest
    simp [ev_fn, i2, e1]
  · cases q : fd.filterMap (fun p => if p.1 ∈ f ∧ p.2 = false then some (D.int 1) else none) with
    | nil => rw [q] at h; cases h
    | cons z zs =>
      have hz : z ∈ fd.filterMap (fun p => if p.1 ∈ f ∧ p.2 = false then some (D.int 1) else none) := by rw [q]; exact List.mem_cons_self
      obtain ⟨p, hp, e⟩ := List.mem_filterMap.mp hz
      split at e
      · rename_i hc
        obtain ⟨m, o⟩ := p
        obtain ⟨h1, h2⟩ := hc
        have h2 : o = false := h2
        subst h2
        rcases (i1.gd _ hp).2 with g | g
        · exact alone_end hn g h1
        · exact g
      · cases e
/-! ### one mirror -/
def optP : Option (List Int) → PyData
  | some l => .tuple (l.map .int)
  | none => .none
theorem ints_pys : ∀ (l : List Int), D.pys (l.map D.int) = some (l.map PyData.int)
  | [] => by unfold D.pys; rfl
  | i :: l => by
    rw [List.map_cons, List.map_cons]
    unfold D.pys
    rw [ints_pys l]
    unfold D.py
    rfl
theorem opt_py (z : Option (List Int)) : (optR z).py = some (optP z) := by
  cases z with
  | none => unfold optR D.py; rfl
  | some l =>
    show (D.tup (l.map D.int)).py = _
    unfold D.py
    rw [ints_pys]
    rfl
theorem ints_lay : ∀ (l : List Int), PyData.canLayAll0 (l.map PyData.int) = true ∧ PyData.depthAll (l.map PyData.int) ≤ 2
  | [] => by simp [PyData.canLayAll0, PyData.depthAll]
  | i :: l => by
    have ih := ints_lay l
    rw [List.map_cons]
    constructor
    · simp [PyData.canLayAll0, PyData.canLay0, ih.1]
    · simp only [PyData.depthAll, PyData.depth]
      omega
theorem opt_lay (z : Option (List Int)) : (optP z).canLay0 = true ∧ (optP z).depth ≤ 4 := by
  cases z with
  | none => simp [optP, PyData.canLay0, PyData.depth]
  | some l =>
    have := ints_lay l
    constructor
    · simp only [optP, PyData.canLay0]; exact this.1
    · simp only [optP, PyData.depth]; omega
theorem ne_opts (z0 z1 : Option (List Int)) : neD (.lst [optR z0, optR z1]) (.lst [.non, .non]) = some (.bl (z0.isSome || z1.isSome)) := by
  have e1 : (D.lst [optR z0, optR z1]).py = some (.list [optP z0, optP z1]) := by
    unfold D.py D.pys
    rw [opt_py]
    unfold D.pys
    rw [opt_py]
    unfold D.pys
    rfl
  have e2 : (D.lst [.non, .non]).py = some (.list [.none, .none]) := by simp [D.py, D.pys]
  have s1 : SeqAt.shaped (.list [optP z0, optP z1]) = true := by
    have h0 := opt_lay z0
    have h1 := opt_lay z1
    have hd : (PyData.list [optP z0, optP z1]).depth ≤ 64 := by simp only [PyData.depth, PyData.depthAll]; omega
    have hc : (PyData.list [optP z0, optP z1]).canLay0 = true := by simp [PyData.canLay0, PyData.canLayAll0, h0.1, h1.1]
    unfold SeqAt.shaped
    rw [hc, decide_eq_true hd]; rfl
  have s2 : SeqAt.shaped (.list [.none, .none]) = true := by decide
  have ev : PyData.eqv (.list [optP z0, optP z1]) (.list [.none, .none]) = !(z0.isSome || z1.isSome) := by
    cases z0 <;> cases z1 <;> simp [optP, PyData.eqv, PyData.eqvAll]
  unfold neD eqP
  rw [e1, e2]
  simp only [eqS, Option.none_or, s1, s2, and_self, if_true, Option.map_some, ev, Bool.not_not]
theorem ne_same (a b : Bool) : neD (.lst [.bl a, .bl b]) (.lst [.bl a, .bl b]) = some (.bl false) := by
  have e1 : (D.lst [.bl a, .bl b]).py = some (.list [.bool a, .bool b]) := by simp [D.py, D.pys]
  have s1 : SeqAt.shaped (.list [.bool a, .bool b]) = true := by cases a <;> cases b <;> decide
  have ev : PyData.eqv (.list [.bool a, .bool b]) (.list [.bool a, .bool b]) = true := by
    cases a <;> cases b <;> simp [PyData.eqv, PyData.eqvAll]
  unfold neD eqP
  rw [e1]
  simp only [eqS, Option.none_or, s1, and_self, if_true, Option.map_some, ev, Bool.not_true]
theorem opt_isN (z : Option (List Int)) : (optR z).isN = !z.isSome := by cases z <;> rfl
theorem right_ok {n : Nd} {f : List Nat} (hn : RelOk n f) : ph_right [.val (nodesD n), .val (finD f)] = .ret (.bl true) [.val (nodesD n), .val (finD f)] := by
  have e0 := mirror_init_ok hn
  have q1 := question_stale (n := n) (f := f)
  have q2 := question_back (n := n) (f := f)
  have r1 : ph_p_Question_run [.val (.ins "Stale" [("graph", mirrorO n f)])] = .ret (optR (leastR false n f)) [.val (.ins "Stale" [("graph", mirrorO n f)])] := run_ok (b := false) hn
  have r2 : ph_p_Question_run [.val (.ins "Back" [("graph", mirrorO n f)])] = .ret (optR (leastR true n f)) [.val (.ins "Back" [("graph", mirrorO n f)])] := run_ok (b := true) hn
  have t1 : ph_p_Question_table [.val (.ins "Stale" [("graph", mirrorO n f)])] = .ret (tblD false n f) [.val (.ins "Stale" [("graph", mirrorO n f)])] := table_ok (b := false) hn
  have t2 : ph_p_Question_table [.val (.ins "Back" [("graph", mirrorO n f)])] = .ret (tblD true n f) [.val (.ins "Back" [("graph", mirrorO n f)])] := table_ok (b := true) hn
  have n1 := tbl_isN (b := false) (n := n) (f := f)
  have n2 := tbl_isN (b := true) (n := n) (f := f)
  obtain ⟨bv, hb1, hb2⟩ := can_rest_ok hn
  have hbv : (leastR false n f).isSome = false → (leastR true n f).isSome = false → bv = false := fun h1 h2 => by
    cases bv with
    | false => rfl
    | true =>
      obtain ⟨b, hb⟩ := bad_run hn (hb2 rfl)
      cases b
      · rw [h1] at hb; cases hb
      · rw [h2] at hb; cases hb
  have hne := ne_opts (leastR false n f) (leastR true n f)
  have o1 := opt_isN (leastR false n f)
  have o2 := opt_isN (leastR true n f)
  generalize leastR false n f = z0 at *
  generalize leastR true n f = z1 at *
  generalize tblD false n f = d0 at *
  generalize tblD true n f = d1 at *
  have hs := ne_same (!z0.isSome) (!z1.isSome)
  generalize optR z0 = x0 at *
  generalize optR z1 = x1 at *
  let E0 : DE := [some (.val (nodesD n)), some (.val (finD f)), some (.val (mirrorO n f)), some (.val (.lst [x0, x1])), some (.val (.lst [d0, d1])), none, none]
  have l1 := lcE_map (f := seqE (var 3)) (t := nmG 5) (elt := op2 isNo (var 5) (cst .non)) (vs := [5]) (δ := E0) (δ0 := E0) (δw := E0) (as := [x0, x1]) id (fun d => .bl d.isN) (by simp [E0]) rfl (by simp) (fun d hd => ⟨[some (.val (nodesD n)), some (.val (finD f)), some (.val (mirrorO n f)), some (.val (.lst [x0, x1])), some (.val (.lst [d0, d1])), some (.val d), none], _, rfl, by simp; rfl, rfl⟩)
  have l2 := lcE_map (f := seqE (var 4)) (t := nmG 6) (elt := op2 notNo (var 6) (cst .non)) (vs := [6]) (δ := E0) (δ0 := E0) (δw := E0) (as := [d0, d1]) id (fun d => .bl (!d.isN)) (by simp [E0]) rfl (by simp) (fun d hd => ⟨[some (.val (nodesD n)), some (.val (finD f)), some (.val (mirrorO n f)), some (.val (.lst [x0, x1])), some (.val (.lst [d0, d1])), none, some (.val d)], _, rfl, by simp; rfl, rfl⟩)
  simp only [List.map_cons, List.map_nil, o1, o2, n1, n2] at l1 l2
  have u1 : unwipe E0 E0 [5] = E0 := rfl
  have u2 : unwipe E0 E0 [6] = E0 := rfl
  rw [u1] at l1
  rw [u2] at l2
  simp only [E0] at l1 l2
  clear_value E0
  unfold ph_right F_right
  cases h0 : z0.isSome <;> cases h1 : z1.isSome <;> simp only [h0, h1, Bool.or_self, Bool.or_true, Bool.or_false, Bool.true_or, Bool.not_true, Bool.not_false] at l1 l2 hs hne
  · have hbf := hbv h0 h1
    subst hbf
    simp [ev_fn, e0, meK, lkT, lkF, q1, q2, qC, r1, r2, t1, t2, l1, l2, hs, hne, hb1]
  all_goals simp [ev_fn, e0, meK, lkT, lkF, q1, q2, qC, r1, r2, t1, t2, l1, l2, hs, hne]
/-! ### mirrors in a row -/
def rowN (S : List Str) (t : Str) : Nd := S.zipIdx.map (fun p => [(p.1, p.2 + 1)]) ++ [[(("receive" : Str), S.length), (t, 0)]]
theorem row_ok {S : List Str} {t : Str} (h5 : S.length ≤ 5) (hs : ∀ s ∈ S, s ∈ rSteps) (ht : t ∈ rSteps) : RelOk (rowN S t) [S.length] := by
  have hl : (rowN S t).length = S.length + 1 := by unfold rowN; simp
  have hmem : ∀ nd ∈ rowN S t, (∃ p ∈ S.zipIdx, nd = [(p.1, p.2 + 1)]) ∨ nd = [(("receive" : Str), S.length), (t, 0)] := fun nd h => by
    unfold rowN at h
    rcases List.mem_append.mp h with h | h
    · obtain ⟨p, hp, rfl⟩ := List.mem_map.mp h
      exact .inl ⟨p, hp, rfl⟩
    · exact .inr (by simpa using h)
  have hz : ∀ p ∈ S.zipIdx, p.1 ∈ S ∧ p.2 < S.length := fun p hp => by
    have h1 := List.mem_zipIdx hp
    exact ⟨by rw [h1.2.2]; exact List.getElem_mem _, by have := h1.2.1; omega⟩
  refine ⟨by omega, by omega, fun nd h => ?_, fun nd h e he => ?_, fun nd h e he => ?_, fun i hi => ?_, by simp⟩
  · rcases hmem nd h with ⟨p, _, rfl⟩ | rfl <;> simp
  · rcases hmem nd h with ⟨p, hp, rfl⟩ | rfl
    · have : e = (p.1, p.2 + 1) := by simpa using he
      rw [this]; exact hs _ (hz p hp).1
    · simp only [List.mem_cons, List.not_mem_nil, or_false] at he
      rcases he with rfl | rfl
      · simp
      · exact ht
  · rw [hl]
    rcases hmem nd h with ⟨p, hp, rfl⟩ | rfl
    · have : e = (p.1, p.2 + 1) := by simpa using he
      rw [this]
      have := (hz p hp).2
      show p.2 + 1 < S.length + 1
      omega
    · simp only [List.mem_cons, List.not_mem_nil, or_false] at he
      rcases he with rfl | rfl
      · show S.length < S.length + 1; omega
      · show 0 < S.length + 1; omega
  · have : i = S.length := by simpa using hi
    rw [hl]; omega
theorem line_ok {m : MD} (hp : IsPen m) : ∃ S t m', IsPen m' ∧ S.length ≤ 5 ∧ (∀ s ∈ S, s ∈ rSteps) ∧ t ∈ rSteps ∧ ph_line [.bor m] = .ret (nodesD (rowN S t)) [.bor m'] := by
  obtain ⟨d, m1, p1, hd, e1⟩ := pick_in (l := [.lst [.str "listen", .str "read"], .lst [.str "listen", .str "begin", .str "read", .str "commit"], .lst [.str "read", .str "listen", .str "read"]]) hp (by simp) (by simp)
  have hS0 : ∃ S0 : List Str, d = .lst (S0.map D.str) ∧ S0.length ≤ 4 ∧ ∀ s ∈ S0, s ∈ rSteps := by
    simp only [List.mem_cons, List.not_mem_nil, or_false] at hd
    rcases hd with rfl | rfl | rfl
    · exact ⟨["listen", "read"], rfl, by simp, by simp⟩
    · exact ⟨["listen", "begin", "read", "commit"], rfl, by simp, by simp⟩
    · exact ⟨["read", "listen", "read"], rfl, by simp, by simp⟩
  obtain ⟨S0, rfl, h4, hin⟩ := hS0
  obtain ⟨r, m2, p2, hr, e2⟩ := draw_in (k := S0.length + 1) p1 (by omega) (by omega)
  have e2 : ph_draw [.bor m1, .val (.int ((S0.length : Int) + 1))] = .ret (.int r) [.bor m2, .val (.int ((S0.length : Int) + 1))] := e2
  obtain ⟨s, m3, p3, hs, e3⟩ := mirror_step_ok p2
  obtain ⟨d2, m4, p4, hd2, e4⟩ := pick_in (l := [.lst [], .lst [.str s]]) p3 (by simp) (by simp)
  have hI : ∃ I : List Str, d2 = .lst (I.map D.str) ∧ I.length ≤ 1 ∧ ∀ x ∈ I, x ∈ rSteps := by
    simp only [List.mem_cons, List.not_mem_nil, or_false] at hd2
    rcases hd2 with rfl | rfl
    · exact ⟨[], rfl, by simp, by simp⟩
    · exact ⟨[s], rfl, by simp, fun x hx => by rw [List.mem_singleton.mp hx]; exact hs⟩
  obtain ⟨I, rfl, hI1, hI2⟩ := hI
  obtain ⟨t, m5, p5, ht, e5⟩ := mirror_step_ok p4
  let S := S0.take r ++ I ++ S0.drop r
  have hSl : S.length ≤ 5 := by
    show (S0.take r ++ I ++ S0.drop r).length ≤ 5
    rw [List.length_append, List.length_append, List.length_take, List.length_drop]; omega
  have hSi : ∀ x ∈ S, x ∈ rSteps := fun x hx => by
    rcases List.mem_append.mp hx with hx | hx
    · rcases List.mem_append.mp hx with hx | hx
      · exact hin x (List.mem_of_mem_take hx)
      · exact hI2 x hx
    · exact hin x (List.mem_of_mem_drop hx)
  refine ⟨S, t, m5, p5, hSl, hSi, ht, ?_⟩
  have c1 : cutD (S0.map D.str) none (some (r : Int)) = (S0.take r).map D.str := by rw [cut_to, List.map_take]
  have c2 : cutD (S0.map D.str) (some (r : Int)) none = (S0.drop r).map D.str := by rw [cut_from, List.map_drop]
  have hS : (S0.take r).map D.str ++ (I.map D.str ++ (S0.drop r).map D.str) = S.map D.str := by
    show _ = (S0.take r ++ I ++ S0.drop r).map D.str
    rw [List.map_append, List.map_append, List.append_assoc]
  have hS' : (S0.take r).map D.str ++ I.map D.str ++ (S0.drop r).map D.str = S.map D.str := by rw [List.append_assoc]; exact hS
  have hS2 : List.take r (S0.map D.str) ++ (I.map D.str ++ List.drop r (S0.map D.str)) = S.map D.str := by rw [← List.map_take, ← List.map_drop]; exact hS
  have n1 : min r S0.length + I.length ≤ 1000000 := by omega
  have n2 : min r S0.length + I.length + (S0.length - r) ≤ 1000000 := by omega
  have hlc := lcE_map (f := enumE (valA (var 1) noA)) (t := tupG 2 (consG (nmG 2) (consG (nmG 4) nilG))) (elt := tupE (valA (tupE (valA (var 4) (valA (op2 addA (var 2) (cst (.int 1))) noA))) noA)) (vs := [2, 4])
    (δ := [some (.bor m4), some (.val (.lst (S.map D.str))), some (.val (.int r)), none, none]) (δ0 := [some (.bor m4), some (.val (.lst (S.map D.str))), some (.val (.int r)), none, none]) (δw := [some (.bor m4), some (.val (.lst (S.map D.str))), none, none, none])
    (as := S.zipIdx) (fun p => .tup [.int (p.2 : Nat), .str p.1]) (fun p => nodeD [(p.1, p.2 + 1)]) (by simp [pairs_map]) rfl (by rw [lim_eq, List.length_zipIdx]; omega)
    (fun p hp => ⟨[some (.bor m4), some (.val (.lst (S.map D.str))), some (.val (.int (p.2 : Nat))), none, some (.val (.str p.1))], _, rfl, by simp [nodeD, edgeD]; rfl, rfl⟩)
  have hu : unwipe [some (.bor m4), some (.val (.lst (S.map D.str))), some (.val (.int r)), none, none] [some (.bor m4), some (.val (.lst (S.map D.str))), none, none, none] [2, 4] = [some (.bor m4), some (.val (.lst (S.map D.str))), some (.val (.int r)), none, none] := rfl
  rw [hu] at hlc
  have hN : nodesD (rowN S t) = .tup (S.zipIdx.map (fun p => nodeD [(p.1, p.2 + 1)]) ++ [.tup [.tup [.str "receive", .int (S.length : Nat)], .tup [.str t, .int 0]]]) := by
    unfold nodesD rowN
    rw [List.map_append, List.map_map]
    rfl
  rw [hN]
  have n3 : (S.zipIdx.map fun p => nodeD [(p.1, p.2 + 1)]).length + 1 ≤ 1000000 := by rw [List.length_map, List.length_zipIdx]; omega
  have hlS : (S.map D.str).length = S.length := List.length_map _
  clear_value S
  generalize S.zipIdx.map (fun p => nodeD [(p.1, p.2 + 1)]) = Z at hlc n3
  unfold ph_line F_line
  simp [ev_fn, e1, e2, e3, e4, e5, c1, c2, n1, n2, hS2, hlc, n3]
/-! ### the law -/
abbrev LW (ns : List Int) (m : MD) (t : Option Sl) (n : Option Sl) : DE := [some (.val (.scr ns)), some (.own m), t, n]
theorem turn_ok {ns : List Int} {m : MD} {t : Int} (hp : IsPen m) : ∃ m', IsPen m' ∧ L_law_1 (LW ns m (some (.val (.int t))) none) = .nx (LW ns m' none none) := by
  obtain ⟨n, m1, p1, g1, g2, g3, e1⟩ := mirror_nodes_ok (most := 6) hp (by omega) (by omega)
  have e1 : ph_mirror_nodes [.bor m, .val (.int 6)] = .ret (nodesD n) [.bor m1, .val (.int 6)] := e1
  obtain ⟨f, m2, p2, k1, k2, e2⟩ := finals_ok (n := List.length n) p1 (by omega)
  have hlen : lenD [nodesD n] = some (.int (List.length n)) := by simp [nodesD]
  obtain ⟨d, m3, p3, hd, e3⟩ := pick_in (l := [finD f, .tup [.int ((List.length n : Int) - 1)]]) p2 (by simp) (by simp)
  have hf : ∃ f', d = finD f' ∧ RelOk n f' := by
    simp only [List.mem_cons, List.not_mem_nil, or_false] at hd
    rcases hd with rfl | rfl
    · exact ⟨f, rfl, g1, by omega, g3.wid, g3.stp, g3.thr, k2, k1⟩
    · refine ⟨[List.length n - 1], ?_, g1, by omega, g3.wid, g3.stp, g3.thr, fun i hi => ?_, by simp⟩
      · unfold finD
        simp only [List.map_cons, List.map_nil]
        rw [show ((List.length n : Int) - 1) = ((List.length n - 1 : Nat) : Int) by omega]
      · have : i = List.length n - 1 := by simpa using hi
        omega
  obtain ⟨f', rfl, hn⟩ := hf
  have e4 := right_ok hn
  obtain ⟨S, u, m4, p4, h5, hs, hu, e5⟩ := line_ok p3
  have hn2 := row_ok h5 hs hu
  have e6 := right_ok hn2
  have hlen2 : lenD [nodesD (rowN S u)] = some (.int ((S.length : Int) + 1)) := by
    have : (rowN S u).length = S.length + 1 := by unfold rowN; simp
    simp [nodesD, this]
  have hfin : finD [S.length] = .tup [.int (S.length : Nat)] := rfl
  rw [hfin] at e6
  refine ⟨m4, p4, ?_⟩
  generalize nodesD n = N1 at *
  generalize nodesD (rowN S u) = N2 at *
  generalize finD f = F1 at *
  generalize finD f' = F2 at *
  unfold L_law_1
  simp [e1, e2, e3, e4, e5, e6, hlen, hlen2]
abbrev E1 (ns : List Int) (x : Option Sl) : DE := [some (.val (.scr ns)), x, none, none]
theorem pen_turn {ns : List Int} {m : MD} (hp : IsPen m) : L_law_2 (E1 ns (some (.own m))) = .nx (E1 ns none) := by
  obtain ⟨δ', e3, m3, p3, rfl⟩ := loop_ok (t := nmG 2) (g := L_law_1) (ds := (List.range 4).map fun i : Nat => D.int (i : Nat)) (fun k δ => ∃ m, IsPen m ∧ δ = E1 ns (some (.own m)))
    (fun k d δ hk hI => by
      obtain ⟨m, p, rfl⟩ := hI
      rw [List.getElem?_map] at hk
      obtain ⟨j, hj, rfl⟩ := Option.map_eq_some_iff.mp hk
      obtain ⟨m', q1, q2⟩ := turn_ok (ns := ns) (m := m) (t := (j : Int)) p
      exact ⟨_, _, rfl, q2, m', q1, rfl⟩) (E1 ns (some (.own m))) ⟨m, hp, rfl⟩
  have eg := rgK_nat (n := 4) (δ := E1 ns (some (.own m))) (by omega)
  have eg : rgK [.val (.int 4)] (E1 ns (some (.own m))) = _ := eg
  unfold L_law_2
  generalize (List.range 4).map (fun i : Nat => D.int (i : Nat)) = L at e3 eg
  simp [eg, e3]
theorem law_true : ∀ ns : List Int, ns.length ≤ 63 → ∃ as', ph_law [.val (.scr ns)] = .ret (.bl true) as' := by
  intro ns hl
  obtain ⟨δ', e1, rfl⟩ := penLoop_ok (i := 1) (g := L_law_2) (ps := pensOf ns 4) (fun δ => δ = E1 ns none)
    (fun p δ hp hI => by
      subst hI
      exact ⟨E1 ns (some (.own (.lst (penD p)))), E1 ns none, rfl, pen_turn (pens_are hp), rfl⟩) (E1 ns none) rfl
  have ef : forPens 0 4 1 L_law_2 (E1 ns none) = .nx (E1 ns none) := by
    unfold forPens
    show (if ns.length ≤ 1000 ∧ 4 ≤ 1000 then penLoop 1 L_law_2 (pensOf ns 4) (E1 ns none) else .stuck) = _
    rw [if_pos ⟨by omega, by omega⟩]
    exact e1
  refine ⟨[.val (.scr ns)], ?_⟩
  unfold ph_law F_law
  simp [ev_fn, ef]
end K54

namespace K54
open PySem PySem.Spec PyProof.Rows L2 PV
abbrev topS (i : Nat) : Stmt := PySem.Challenge.pw_closenews_k54_whole_never_both.main.body.getD i (.Pass ⟨0, 0, 0, 0⟩)
abbrev s_p_is_between : Stmt := topS 7
theorem sc_p_is_between : FnScope ["thing", "low", "high"] ["thing", "low", "high"] (defScope s_p_is_between) := ⟨rfl, rfl, rfl, by decide +kernel, rfl, by decide +kernel, by decide +kernel⟩
abbrev s_p_are_nodes : Stmt := topS 12
theorem sc_p_are_nodes : FnScope ["thing", "is_step", "node", "edge"] ["thing", "is_step"] (defScope s_p_are_nodes) := ⟨rfl, rfl, rfl, by decide +kernel, rfl, by decide +kernel, by decide +kernel⟩
abbrev s_p_are_finals : Stmt := topS 13
theorem sc_p_are_finals : FnScope ["thing", "many", "one", "other"] ["thing", "many"] (defScope s_p_are_finals) := ⟨rfl, rfl, rfl, by decide +kernel, rfl, by decide +kernel, by decide +kernel⟩
abbrev s_p_Graph_init : Stmt := inClass (topS 14) 0
theorem sc_p_Graph_init : FnScope ["self", "nodes", "finals"] ["self", "nodes", "finals"] (defScope s_p_Graph_init) := ⟨rfl, rfl, rfl, by decide +kernel, rfl, by decide +kernel, by decide +kernel⟩
abbrev s_p_Question_init : Stmt := inClass (topS 15) 0
theorem sc_p_Question_init : FnScope ["self", "graph"] ["self", "graph"] (defScope s_p_Question_init) := ⟨rfl, rfl, rfl, by decide +kernel, rfl, by decide +kernel, by decide +kernel⟩
abbrev s_p_Question_first : Stmt := inClass (topS 15) 1
theorem sc_p_Question_first : FnScope ["self"] ["self"] (defScope s_p_Question_first) := ⟨rfl, rfl, rfl, by decide +kernel, rfl, by decide +kernel, by decide +kernel⟩
abbrev s_p_Question_reached : Stmt := inClass (topS 15) 5
theorem sc_p_Question_reached : FnScope ["self", "found", "line", "at", "label", "later"] ["self"] (defScope s_p_Question_reached) := ⟨rfl, rfl, rfl, by decide +kernel, rfl, by decide +kernel, by decide +kernel⟩
abbrev s_p_Question_run : Stmt := inClass (topS 15) 6
theorem sc_p_Question_run : FnScope ["self", "state", "run"] ["self"] (defScope s_p_Question_run) := ⟨rfl, rfl, rfl, by decide +kernel, rfl, by decide +kernel, by decide +kernel⟩
abbrev s_p_Question_table : Stmt := inClass (topS 15) 7
theorem sc_p_Question_table : FnScope ["self", "found", "state"] ["self"] (defScope s_p_Question_table) := ⟨rfl, rfl, rfl, by decide +kernel, rfl, by decide +kernel, by decide +kernel⟩
abbrev s_p_is_mirror_step : Stmt := topS 20
theorem sc_p_is_mirror_step : FnScope ["thing"] ["thing"] (defScope s_p_is_mirror_step) := ⟨rfl, rfl, rfl, by decide +kernel, rfl, by decide +kernel, by decide +kernel⟩
abbrev s_p_Mirror_init : Stmt := inClass (topS 21) 0
theorem sc_p_Mirror_init : FnScopeS ["self", "nodes", "finals"] ["self", "nodes", "finals"] (defScope s_p_Mirror_init) := ⟨rfl, rfl, rfl, by decide +kernel, rfl, by decide +kernel, by decide +kernel, by decide +kernel, rfl, rfl⟩
abbrev s_p_Mirror_question : Stmt := inClass (topS 21) 2
theorem sc_p_Mirror_question : FnScope ["self", "way"] ["self", "way"] (defScope s_p_Mirror_question) := ⟨rfl, rfl, rfl, by decide +kernel, rfl, by decide +kernel, by decide +kernel⟩
abbrev s_p_Watch_begun : Stmt := inClass (topS 22) 0
theorem sc_p_Watch_begun : FnScope ["self", "pair"] ["self", "pair"] (defScope s_p_Watch_begun) := ⟨rfl, rfl, rfl, by decide +kernel, rfl, by decide +kernel, by decide +kernel⟩
abbrev s_p_Watch_lost : Stmt := inClass (topS 22) 1
theorem sc_p_Watch_lost : FnScope ["self", "pair"] ["self", "pair"] (defScope s_p_Watch_lost) := ⟨rfl, rfl, rfl, by decide +kernel, rfl, by decide +kernel, by decide +kernel⟩
abbrev s_p_Watch_behind : Stmt := inClass (topS 22) 5
theorem sc_p_Watch_behind : FnScope ["self", "step", "work", "pair"] ["self", "step", "work", "pair"] (defScope s_p_Watch_behind) := ⟨rfl, rfl, rfl, by decide +kernel, rfl, by decide +kernel, by decide +kernel⟩
abbrev s_p_Watch_alone : Stmt := inClass (topS 22) 6
theorem sc_p_Watch_alone : FnScope ["self", "step", "listens", "pair"] ["self", "step", "listens", "pair"] (defScope s_p_Watch_alone) := ⟨rfl, rfl, rfl, by decide +kernel, rfl, by decide +kernel, by decide +kernel⟩
abbrev s_p_Watch_within : Stmt := inClass (topS 22) 7
theorem sc_p_Watch_within : FnScope ["self", "step", "work", "pair", "snapshot", "pending", "listens"] ["self", "step", "work", "pair"] (defScope s_p_Watch_within) := ⟨rfl, rfl, rfl, by decide +kernel, rfl, by decide +kernel, by decide +kernel⟩
abbrev s_p_Watch_moves : Stmt := inClass (topS 22) 8
theorem sc_p_Watch_moves : FnScope ["self", "state", "found", "work", "pair", "label", "step", "there"] ["self", "state"] (defScope s_p_Watch_moves) := ⟨rfl, rfl, rfl, by decide +kernel, rfl, by decide +kernel, by decide +kernel⟩
abbrev s_p_Stale_lost : Stmt := inClass (topS 23) 0
theorem sc_p_Stale_lost : FnScope ["self", "pair"] ["self", "pair"] (defScope s_p_Stale_lost) := ⟨rfl, rfl, rfl, by decide +kernel, rfl, by decide +kernel, by decide +kernel⟩
abbrev s_p_Stale_copied : Stmt := inClass (topS 23) 1
theorem sc_p_Stale_copied : FnScope ["self", "snapshot", "pair"] ["self", "snapshot", "pair"] (defScope s_p_Stale_copied) := ⟨rfl, rfl, rfl, by decide +kernel, rfl, by decide +kernel, by decide +kernel⟩
abbrev s_p_Stale_received : Stmt := inClass (topS 23) 2
theorem sc_p_Stale_received : FnScope ["self", "pair"] ["self", "pair"] (defScope s_p_Stale_received) := ⟨rfl, rfl, rfl, by decide +kernel, rfl, by decide +kernel, by decide +kernel⟩
abbrev s_p_Stale_told : Stmt := inClass (topS 23) 3
theorem sc_p_Stale_told : FnScope ["self", "work", "pair", "snapshot", "pending", "listens"] ["self", "work", "pair"] (defScope s_p_Stale_told) := ⟨rfl, rfl, rfl, by decide +kernel, rfl, by decide +kernel, by decide +kernel⟩
abbrev s_p_Stale_is_bad : Stmt := inClass (topS 23) 4
theorem sc_p_Stale_is_bad : FnScope ["self", "state", "node", "snapshot", "pending", "listens", "right", "waits"] ["self", "state"] (defScope s_p_Stale_is_bad) := ⟨rfl, rfl, rfl, by decide +kernel, rfl, by decide +kernel, by decide +kernel⟩
abbrev s_p_Back_begun : Stmt := inClass (topS 24) 0
theorem sc_p_Back_begun : FnScope ["self", "pair"] ["self", "pair"] (defScope s_p_Back_begun) := ⟨rfl, rfl, rfl, by decide +kernel, rfl, by decide +kernel, by decide +kernel⟩
abbrev s_p_Back_copied : Stmt := inClass (topS 24) 1
theorem sc_p_Back_copied : FnScope ["self", "snapshot", "pair", "seen"] ["self", "snapshot", "pair"] (defScope s_p_Back_copied) := ⟨rfl, rfl, rfl, by decide +kernel, rfl, by decide +kernel, by decide +kernel⟩
abbrev s_p_Back_received : Stmt := inClass (topS 24) 2
theorem sc_p_Back_received : FnScope ["self", "pair"] ["self", "pair"] (defScope s_p_Back_received) := ⟨rfl, rfl, rfl, by decide +kernel, rfl, by decide +kernel, by decide +kernel⟩
abbrev s_p_Back_told : Stmt := inClass (topS 24) 3
theorem sc_p_Back_told : FnScope ["self", "work", "pair"] ["self", "work", "pair"] (defScope s_p_Back_told) := ⟨rfl, rfl, rfl, by decide +kernel, rfl, by decide +kernel, by decide +kernel⟩
abbrev s_p_Back_is_bad : Stmt := inClass (topS 24) 4
theorem sc_p_Back_is_bad : FnScope ["self", "state", "step", "there"] ["self", "state"] (defScope s_p_Back_is_bad) := ⟨rfl, rfl, rfl, by decide +kernel, rfl, by decide +kernel, by decide +kernel⟩
abbrev s_rest : Stmt := topS 26
theorem sc_rest : FnScope ["_law_number", "_law_by"] ["_law_number", "_law_by"] (defScope s_rest) := ⟨rfl, rfl, rfl, by decide +kernel, rfl, by decide +kernel, by decide +kernel⟩
abbrev s_draw : Stmt := topS 27
theorem sc_draw : FnScope ["_law_pen_here", "_law_many", "_law_mixed", "_law_found"] ["_law_pen_here", "_law_many"] (defScope s_draw) := ⟨rfl, rfl, rfl, by decide +kernel, rfl, by decide +kernel, by decide +kernel⟩
abbrev s_pick : Stmt := topS 28
theorem sc_pick : FnScope ["_law_pen_here", "_law_some"] ["_law_pen_here", "_law_some"] (defScope s_pick) := ⟨rfl, rfl, rfl, by decide +kernel, rfl, by decide +kernel, by decide +kernel⟩
abbrev s_mirror_step : Stmt := topS 29
theorem sc_mirror_step : FnScope ["_law_pen_here", "_law_some"] ["_law_pen_here"] (defScope s_mirror_step) := ⟨rfl, rfl, rfl, by decide +kernel, rfl, by decide +kernel, by decide +kernel⟩
abbrev s_pen : Stmt := topS 30
theorem sc_pen : FnScope ["_law_cell"] ["_law_cell"] (defScope s_pen) := ⟨rfl, rfl, rfl, by decide +kernel, rfl, by decide +kernel, by decide +kernel⟩
abbrev s_cell_at : Stmt := topS 31
theorem sc_cell_at : FnScope ["_law_script", "_law_k"] ["_law_script", "_law_k"] (defScope s_cell_at) := ⟨rfl, rfl, rfl, by decide +kernel, rfl, by decide +kernel, by decide +kernel⟩
abbrev s_pens : Stmt := topS 32
theorem sc_pens : FnScope ["_law_script", "_law_many", "_law_k"] ["_law_script", "_law_many"] (defScope s_pens) := ⟨rfl, rfl, rfl, by decide +kernel, rfl, by decide +kernel, by decide +kernel⟩
abbrev s_mirror_nodes : Stmt := topS 33
theorem sc_mirror_nodes : FnScope ["_law_pen_here", "_law_most", "_law_at", "_law_many", "_law_nodes", "_law_line_here", "_law_wide", "_law_edges", "_law_lap"] ["_law_pen_here", "_law_most"] (defScope s_mirror_nodes) := ⟨rfl, rfl, rfl, by decide +kernel, rfl, by decide +kernel, by decide +kernel⟩
abbrev s_finals : Stmt := topS 34
theorem sc_finals : FnScope ["_law_pen_here", "_law_many", "_law_at"] ["_law_pen_here", "_law_many"] (defScope s_finals) := ⟨rfl, rfl, rfl, by decide +kernel, rfl, by decide +kernel, by decide +kernel⟩
abbrev s_can_rest : Stmt := topS 35
theorem sc_can_rest : FnScope ["_law_nodes", "_law_finals_here", "_law_found", "_law_line_here", "_law_node", "_law_is_open", "_law_step", "_law_there", "_law_later"] ["_law_nodes", "_law_finals_here"] (defScope s_can_rest) := ⟨rfl, rfl, rfl, by decide +kernel, rfl, by decide +kernel, by decide +kernel⟩
abbrev s_line : Stmt := topS 36
theorem sc_line : FnScope ["_law_pen_here", "_law_steps", "_law_at", "_law_nodes", "_law_step"] ["_law_pen_here"] (defScope s_line) := ⟨rfl, rfl, rfl, by decide +kernel, rfl, by decide +kernel, by decide +kernel⟩
abbrev s_right : Stmt := topS 37
theorem sc_right : FnScope ["_law_nodes", "_law_finals_here", "_law_mirror", "_law_runs", "_law_tables", "_law_run", "_law_table"] ["_law_nodes", "_law_finals_here"] (defScope s_right) := ⟨rfl, rfl, rfl, by decide +kernel, rfl, by decide +kernel, by decide +kernel⟩
abbrev s_law : Stmt := topS 38
theorem sc_law : FnScope ["_law_script", "_law_pen_here", "_law_turn", "_law_nodes"] ["_law_script"] (defScope s_law) := ⟨rfl, rfl, rfl, by decide +kernel, rfl, by decide +kernel, by decide +kernel⟩
abbrev file : Str := PySem.Challenge.pw_closenews_k54_whole_never_both.main.file
abbrev HPf (P : Program) : Prop := ((P.main.file : Str) == file) = true ∧ (P.main.scope.names.lookup ("super" : Str)).isSome = false
structure Txt (K : PySem.W.Frag) (mg : Str → Option Value) where
  K_Mirror : Addr
  K_Stale : Addr
  K_Back : Addr
  C_InvalidGraph : Addr
  C_InvalidWay : Addr
  a_STEPS : Addr
  f_p_is_between : Addr
  d_p_is_between : FuncData
  f_p_are_nodes : Addr
  d_p_are_nodes : FuncData
  f_p_are_finals : Addr
  d_p_are_finals : FuncData
  f_p_Graph_init : Addr
  d_p_Graph_init : FuncData
  f_p_Question_init : Addr
  d_p_Question_init : FuncData
  f_p_Question_first : Addr
  d_p_Question_first : FuncData
  f_p_Question_reached : Addr
  d_p_Question_reached : FuncData
  f_p_Question_run : Addr
  d_p_Question_run : FuncData
  f_p_Question_table : Addr
  d_p_Question_table : FuncData
  f_p_is_mirror_step : Addr
  d_p_is_mirror_step : FuncData
  f_p_Mirror_init : Addr
  d_p_Mirror_init : FuncData
  cc_p_Mirror_init : Addr
  Dc_p_Mirror_init : Addr
  cda_p_Mirror_init : Addr
  f_p_Mirror_question : Addr
  d_p_Mirror_question : FuncData
  f_p_Watch_begun : Addr
  d_p_Watch_begun : FuncData
  f_p_Watch_lost : Addr
  d_p_Watch_lost : FuncData
  f_p_Watch_behind : Addr
  d_p_Watch_behind : FuncData
  f_p_Watch_alone : Addr
  d_p_Watch_alone : FuncData
  f_p_Watch_within : Addr
  d_p_Watch_within : FuncData
  f_p_Watch_moves : Addr
  d_p_Watch_moves : FuncData
  f_p_Stale_lost : Addr
  d_p_Stale_lost : FuncData
  f_p_Stale_copied : Addr
  d_p_Stale_copied : FuncData
  f_p_Stale_received : Addr
  d_p_Stale_received : FuncData
  f_p_Stale_told : Addr
  d_p_Stale_told : FuncData
  f_p_Stale_is_bad : Addr
  d_p_Stale_is_bad : FuncData
  f_p_Back_begun : Addr
  d_p_Back_begun : FuncData
  f_p_Back_copied : Addr
  d_p_Back_copied : FuncData
  f_p_Back_received : Addr
  d_p_Back_received : FuncData
  f_p_Back_told : Addr
  d_p_Back_told : FuncData
  f_p_Back_is_bad : Addr
  d_p_Back_is_bad : FuncData
  f_rest : Addr
  d_rest : FuncData
  f_draw : Addr
  d_draw : FuncData
  f_pick : Addr
  d_pick : FuncData
  f_mirror_step : Addr
  d_mirror_step : FuncData
  f_pen : Addr
  d_pen : FuncData
  f_cell_at : Addr
  d_cell_at : FuncData
  f_pens : Addr
  d_pens : FuncData
  f_mirror_nodes : Addr
  d_mirror_nodes : FuncData
  f_finals : Addr
  d_finals : FuncData
  f_can_rest : Addr
  d_can_rest : FuncData
  f_line : Addr
  d_line : FuncData
  f_right : Addr
  d_right : FuncData
  f_law : Addr
  d_law : FuncData
  gK_Mirror : mg "Mirror" = some (.ref K_Mirror)
  k_Mirror : ClsT K "Mirror" K_Mirror
  kns_Mirror : PySem.W.nsIn K mainGlobals "Mirror" = some (some (.ref K_Mirror))
  mk_Mirror : Mk K K_Mirror f_p_Mirror_init
  gK_Stale : mg "Stale" = some (.ref K_Stale)
  k_Stale : ClsT K "Stale" K_Stale
  kns_Stale : PySem.W.nsIn K mainGlobals "Stale" = some (some (.ref K_Stale))
  mk_Stale : Mk K K_Stale f_p_Question_init
  gK_Back : mg "Back" = some (.ref K_Back)
  k_Back : ClsT K "Back" K_Back
  kns_Back : PySem.W.nsIn K mainGlobals "Back" = some (some (.ref K_Back))
  mk_Back : Mk K K_Back f_p_Question_init
  na_Back_graph : NoAttr K K_Back "graph"
  na_Mirror_finals : NoAttr K K_Mirror "finals"
  na_Mirror_nodes : NoAttr K K_Mirror "nodes"
  na_Stale_graph : NoAttr K K_Stale "graph"
  m_Back_alone : Meth K K_Back "alone" f_p_Watch_alone
  m_Back_begun : Meth K K_Back "begun" f_p_Back_begun
  m_Back_behind : Meth K K_Back "behind" f_p_Watch_behind
  m_Back_copied : Meth K K_Back "copied" f_p_Back_copied
  m_Back_first : Meth K K_Back "first" f_p_Question_first
  m_Back_is_bad : Meth K K_Back "is_bad" f_p_Back_is_bad
  m_Back_lost : Meth K K_Back "lost" f_p_Watch_lost
  m_Back_moves : Meth K K_Back "moves" f_p_Watch_moves
  m_Back_reached : Meth K K_Back "reached" f_p_Question_reached
  m_Back_received : Meth K K_Back "received" f_p_Back_received
  m_Back_run : Meth K K_Back "run" f_p_Question_run
  m_Back_table : Meth K K_Back "table" f_p_Question_table
  m_Back_told : Meth K K_Back "told" f_p_Back_told
  m_Back_within : Meth K K_Back "within" f_p_Watch_within
  m_Mirror_question : Meth K K_Mirror "question" f_p_Mirror_question
  m_Stale_alone : Meth K K_Stale "alone" f_p_Watch_alone
  m_Stale_begun : Meth K K_Stale "begun" f_p_Watch_begun
  m_Stale_behind : Meth K K_Stale "behind" f_p_Watch_behind
  m_Stale_copied : Meth K K_Stale "copied" f_p_Stale_copied
  m_Stale_first : Meth K K_Stale "first" f_p_Question_first
  m_Stale_is_bad : Meth K K_Stale "is_bad" f_p_Stale_is_bad
  m_Stale_lost : Meth K K_Stale "lost" f_p_Stale_lost
  m_Stale_moves : Meth K K_Stale "moves" f_p_Watch_moves
  m_Stale_reached : Meth K K_Stale "reached" f_p_Question_reached
  m_Stale_received : Meth K K_Stale "received" f_p_Stale_received
  m_Stale_run : Meth K K_Stale "run" f_p_Question_run
  m_Stale_table : Meth K K_Stale "table" f_p_Question_table
  m_Stale_told : Meth K K_Stale "told" f_p_Stale_told
  m_Stale_within : Meth K K_Stale "within" f_p_Watch_within
  gC_InvalidGraph : mg "InvalidGraph" = some (.ref C_InvalidGraph)
  nC_InvalidGraph : PySem.W.nsIn K mainGlobals "InvalidGraph" = some (some (.ref C_InvalidGraph))
  xC_InvalidGraph : PySem.W.excIn K C_InvalidGraph [.type "ValueError", .type "Exception", .type "BaseException", .type "object"] "ValueError.__new__" = true
  kC_InvalidGraph : PySem.W.keepIn K (.ref C_InvalidGraph) = true
  bC_InvalidGraph : PySem.W.subIn K (.ref C_InvalidGraph) (.type "BaseException") = some true
  tC_InvalidGraph : PySem.W.typeIn K (.ref C_InvalidGraph) = some (.type "type")
  gC_InvalidWay : mg "InvalidWay" = some (.ref C_InvalidWay)
  nC_InvalidWay : PySem.W.nsIn K mainGlobals "InvalidWay" = some (some (.ref C_InvalidWay))
  xC_InvalidWay : PySem.W.excIn K C_InvalidWay [.type "ValueError", .type "Exception", .type "BaseException", .type "object"] "ValueError.__new__" = true
  kC_InvalidWay : PySem.W.keepIn K (.ref C_InvalidWay) = true
  bC_InvalidWay : PySem.W.subIn K (.ref C_InvalidWay) (.type "BaseException") = some true
  tC_InvalidWay : PySem.W.typeIn K (.ref C_InvalidWay) = some (.type "type")
  n_all : mg "all" = none
  n_any : mg "any" = none
  n_bool : mg "bool" = none
  n_enumerate : mg "enumerate" = none
  n_int : mg "int" = none
  n_isinstance : mg "isinstance" = none
  n_len : mg "len" = none
  n_max : mg "max" = none
  n_min : mg "min" = none
  n_range : mg "range" = none
  n_sorted : mg "sorted" = none
  n_str : mg "str" = none
  s_super : mg "super" = none
  s_any : PySem.W.nsIn K cStatics "thirdparty.any" = some none
  n_tuple : mg "tuple" = none
  n_zip : mg "zip" = none
  t_kMANY : Tok
  c_MANY : mg "MANY" = some (.int 2 t_kMANY)
  t_kMOST_EDGES : Tok
  c_MOST_EDGES : mg "MOST_EDGES" = some (.int 3 t_kMOST_EDGES)
  t_kMOST_NODES : Tok
  c_MOST_NODES : mg "MOST_NODES" = some (.int 6 t_kMOST_NODES)
  t_kOTHER : Tok
  c_OTHER : mg "OTHER" = some (.int (-1) t_kOTHER)
  t_kREAD : Tok
  c_READ : mg "READ" = some (.str "read" t_kREAD)
  c_STEPS : mg "STEPS" = some (.ref a_STEPS)
  v_STEPS : ∀ F, Den K F (.ctp [(.str "begin"), (.str "commit"), (.str "rollback"), (.str "listen"), (.str "unlisten"), (.str "read"), (.str "receive"), (.str "disconnect")]) (.ref a_STEPS)
  g_p_is_between : mg "is_between" = some (.ref f_p_is_between)
  t_p_is_between : Fun K "is_between" "is_between" s_p_is_between f_p_is_between d_p_is_between
  b_p_is_between : Binds K d_p_is_between ["thing", "low", "high"] []
  g_p_are_nodes : mg "are_nodes" = some (.ref f_p_are_nodes)
  t_p_are_nodes : Fun K "are_nodes" "are_nodes" s_p_are_nodes f_p_are_nodes d_p_are_nodes
  b_p_are_nodes : Binds K d_p_are_nodes ["thing", "is_step"] []
  g_p_are_finals : mg "are_finals" = some (.ref f_p_are_finals)
  t_p_are_finals : Fun K "are_finals" "are_finals" s_p_are_finals f_p_are_finals d_p_are_finals
  b_p_are_finals : Binds K d_p_are_finals ["thing", "many"] []
  t_p_Graph_init : Fun K "__init__" "Graph.__init__" s_p_Graph_init f_p_Graph_init d_p_Graph_init
  b_p_Graph_init : Binds K d_p_Graph_init ["self", "nodes", "finals"] []
  t_p_Question_init : Fun K "__init__" "Question.__init__" s_p_Question_init f_p_Question_init d_p_Question_init
  b_p_Question_init : Binds K d_p_Question_init ["self", "graph"] []
  t_p_Question_first : Fun K "first" "Question.first" s_p_Question_first f_p_Question_first d_p_Question_first
  b_p_Question_first : Binds K d_p_Question_first ["self"] []
  t_p_Question_reached : Fun K "reached" "Question.reached" s_p_Question_reached f_p_Question_reached d_p_Question_reached
  b_p_Question_reached : Binds K d_p_Question_reached ["self"] []
  t_p_Question_run : Fun K "run" "Question.run" s_p_Question_run f_p_Question_run d_p_Question_run
  b_p_Question_run : Binds K d_p_Question_run ["self"] []
  t_p_Question_table : Fun K "table" "Question.table" s_p_Question_table f_p_Question_table d_p_Question_table
  b_p_Question_table : Binds K d_p_Question_table ["self"] []
  g_p_is_mirror_step : mg "is_mirror_step" = some (.ref f_p_is_mirror_step)
  ns_p_is_mirror_step : PySem.W.nsIn K mainGlobals "is_mirror_step" = some (some (.ref f_p_is_mirror_step))
  t_p_is_mirror_step : Fun K "is_mirror_step" "is_mirror_step" s_p_is_mirror_step f_p_is_mirror_step d_p_is_mirror_step
  b_p_is_mirror_step : Binds K d_p_is_mirror_step ["thing"] []
  t_p_Mirror_init : FunS K "__init__" "Mirror.__init__" s_p_Mirror_init f_p_Mirror_init d_p_Mirror_init cc_p_Mirror_init Dc_p_Mirror_init cda_p_Mirror_init file
  sd_p_Mirror_init : ∃ cd, PySem.W.clsIn K Dc_p_Mirror_init = some cd
  sy_p_Mirror_init : PySem.W.typeIn K (.ref f_p_Graph_init) = some (.type "function")
  sn_p_Mirror_init : PySem.W.fnIn K f_p_Graph_init = true
  su_p_Mirror_init_Mirror : SupC K "Mirror" Dc_p_Mirror_init f_p_Graph_init
  b_p_Mirror_init : Binds K d_p_Mirror_init ["self", "nodes", "finals"] []
  t_p_Mirror_question : Fun K "question" "Mirror.question" s_p_Mirror_question f_p_Mirror_question d_p_Mirror_question
  b_p_Mirror_question : Binds K d_p_Mirror_question ["self", "way"] []
  t_p_Watch_begun : Fun K "begun" "Watch.begun" s_p_Watch_begun f_p_Watch_begun d_p_Watch_begun
  b_p_Watch_begun : Binds K d_p_Watch_begun ["self", "pair"] []
  t_p_Watch_lost : Fun K "lost" "Watch.lost" s_p_Watch_lost f_p_Watch_lost d_p_Watch_lost
  b_p_Watch_lost : Binds K d_p_Watch_lost ["self", "pair"] []
  t_p_Watch_behind : Fun K "behind" "Watch.behind" s_p_Watch_behind f_p_Watch_behind d_p_Watch_behind
  b_p_Watch_behind : Binds K d_p_Watch_behind ["self", "step", "work", "pair"] []
  t_p_Watch_alone : Fun K "alone" "Watch.alone" s_p_Watch_alone f_p_Watch_alone d_p_Watch_alone
  b_p_Watch_alone : Binds K d_p_Watch_alone ["self", "step", "listens", "pair"] []
  t_p_Watch_within : Fun K "within" "Watch.within" s_p_Watch_within f_p_Watch_within d_p_Watch_within
  b_p_Watch_within : Binds K d_p_Watch_within ["self", "step", "work", "pair"] []
  t_p_Watch_moves : Fun K "moves" "Watch.moves" s_p_Watch_moves f_p_Watch_moves d_p_Watch_moves
  b_p_Watch_moves : Binds K d_p_Watch_moves ["self", "state"] []
  t_p_Stale_lost : Fun K "lost" "Stale.lost" s_p_Stale_lost f_p_Stale_lost d_p_Stale_lost
  b_p_Stale_lost : Binds K d_p_Stale_lost ["self", "pair"] []
  t_p_Stale_copied : Fun K "copied" "Stale.copied" s_p_Stale_copied f_p_Stale_copied d_p_Stale_copied
  b_p_Stale_copied : Binds K d_p_Stale_copied ["self", "snapshot", "pair"] []
  t_p_Stale_received : Fun K "received" "Stale.received" s_p_Stale_received f_p_Stale_received d_p_Stale_received
  b_p_Stale_received : Binds K d_p_Stale_received ["self", "pair"] []
  t_p_Stale_told : Fun K "told" "Stale.told" s_p_Stale_told f_p_Stale_told d_p_Stale_told
  b_p_Stale_told : Binds K d_p_Stale_told ["self", "work", "pair"] []
  t_p_Stale_is_bad : Fun K "is_bad" "Stale.is_bad" s_p_Stale_is_bad f_p_Stale_is_bad d_p_Stale_is_bad
  b_p_Stale_is_bad : Binds K d_p_Stale_is_bad ["self", "state"] []
  t_p_Back_begun : Fun K "begun" "Back.begun" s_p_Back_begun f_p_Back_begun d_p_Back_begun
  b_p_Back_begun : Binds K d_p_Back_begun ["self", "pair"] []
  t_p_Back_copied : Fun K "copied" "Back.copied" s_p_Back_copied f_p_Back_copied d_p_Back_copied
  b_p_Back_copied : Binds K d_p_Back_copied ["self", "snapshot", "pair"] []
  t_p_Back_received : Fun K "received" "Back.received" s_p_Back_received f_p_Back_received d_p_Back_received
  b_p_Back_received : Binds K d_p_Back_received ["self", "pair"] []
  t_p_Back_told : Fun K "told" "Back.told" s_p_Back_told f_p_Back_told d_p_Back_told
  b_p_Back_told : Binds K d_p_Back_told ["self", "work", "pair"] []
  t_p_Back_is_bad : Fun K "is_bad" "Back.is_bad" s_p_Back_is_bad f_p_Back_is_bad d_p_Back_is_bad
  b_p_Back_is_bad : Binds K d_p_Back_is_bad ["self", "state"] []
  g_rest : mg "_law_rest" = some (.ref f_rest)
  t_rest : Fun K "_law_rest" "_law_rest" s_rest f_rest d_rest
  b_rest : Binds K d_rest ["_law_number", "_law_by"] []
  g_draw : mg "_law_draw" = some (.ref f_draw)
  t_draw : Fun K "_law_draw" "_law_draw" s_draw f_draw d_draw
  b_draw : Binds K d_draw ["_law_pen_here", "_law_many"] []
  g_pick : mg "_law_pick" = some (.ref f_pick)
  t_pick : Fun K "_law_pick" "_law_pick" s_pick f_pick d_pick
  b_pick : Binds K d_pick ["_law_pen_here", "_law_some"] []
  g_mirror_step : mg "_law_mirror_step" = some (.ref f_mirror_step)
  t_mirror_step : Fun K "_law_mirror_step" "_law_mirror_step" s_mirror_step f_mirror_step d_mirror_step
  b_mirror_step : Binds K d_mirror_step ["_law_pen_here"] []
  g_pen : mg "_law_pen" = some (.ref f_pen)
  t_pen : Fun K "_law_pen" "_law_pen" s_pen f_pen d_pen
  b_pen : Binds K d_pen ["_law_cell"] []
  g_cell_at : mg "_law_cell_at" = some (.ref f_cell_at)
  t_cell_at : Fun K "_law_cell_at" "_law_cell_at" s_cell_at f_cell_at d_cell_at
  b_cell_at : Binds K d_cell_at ["_law_script", "_law_k"] []
  g_pens : mg "_law_pens" = some (.ref f_pens)
  t_pens : Fun K "_law_pens" "_law_pens" s_pens f_pens d_pens
  b_pens : Binds K d_pens ["_law_script", "_law_many"] []
  g_mirror_nodes : mg "_law_mirror_nodes" = some (.ref f_mirror_nodes)
  t_mirror_nodes : Fun K "_law_mirror_nodes" "_law_mirror_nodes" s_mirror_nodes f_mirror_nodes d_mirror_nodes
  b_mirror_nodes : Binds K d_mirror_nodes ["_law_pen_here", "_law_most"] []
  g_finals : mg "_law_finals" = some (.ref f_finals)
  t_finals : Fun K "_law_finals" "_law_finals" s_finals f_finals d_finals
  b_finals : Binds K d_finals ["_law_pen_here", "_law_many"] []
  g_can_rest : mg "_law_can_rest" = some (.ref f_can_rest)
  t_can_rest : Fun K "_law_can_rest" "_law_can_rest" s_can_rest f_can_rest d_can_rest
  b_can_rest : Binds K d_can_rest ["_law_nodes", "_law_finals_here"] []
  g_line : mg "_law_line" = some (.ref f_line)
  t_line : Fun K "_law_line" "_law_line" s_line f_line d_line
  b_line : Binds K d_line ["_law_pen_here"] []
  g_right : mg "_law_right" = some (.ref f_right)
  t_right : Fun K "_law_right" "_law_right" s_right f_right d_right
  b_right : Binds K d_right ["_law_nodes", "_law_finals_here"] []
  g_law : mg "law" = some (.ref f_law)
  t_law : Fun K "law" "law" s_law f_law d_law
  b_law : Binds K d_law ["_law_script"] []
section
variable {P : Program} {w : World} {K : PySem.W.Frag} {mg : Str → Option Value} {base : Heap} [Tbl]
theorem na_finals (T : Txt K mg) : NoA K ["Mirror"] "finals" := fun c h => by
  simp only [List.mem_cons, List.not_mem_nil, or_false] at h
  subst h
  exact ⟨_, T.k_Mirror, T.na_Mirror_finals⟩
theorem na_graph (T : Txt K mg) : NoA K ["Stale", "Back"] "graph" := fun c h => by
  simp only [List.mem_cons, List.not_mem_nil, or_false] at h
  rcases h with rfl | rfl
  · exact ⟨_, T.k_Stale, T.na_Stale_graph⟩
  · exact ⟨_, T.k_Back, T.na_Back_graph⟩
theorem na_nodes (T : Txt K mg) : NoA K ["Mirror"] "nodes" := fun c h => by
  simp only [List.mem_cons, List.not_mem_nil, or_false] at h
  subst h
  exact ⟨_, T.k_Mirror, T.na_Mirror_nodes⟩
theorem sup_p_Mirror_init (T : Txt K mg) : ∀ c ∈ (["Mirror"] : List Str), SupC K c T.Dc_p_Mirror_init T.f_p_Graph_init := fun c h => by
  simp only [List.mem_cons, List.not_mem_nil, or_false] at h
  subst h
  exact T.su_p_Mirror_init_Mirror
theorem ok_p_is_between (hP : HPf P) (T : Txt K mg) : VOk false P w K mg base 1 T.f_p_is_between T.d_p_is_between ["thing", "low", "high"] ph_p_is_between := PV.Fun.val T.t_p_is_between sc_p_is_between rfl fun cd A outer s H E hcd hr gd tk => (vss_kill true [] (vss_one (vs_ret (ve_and (ve_bf b_isi (by rfl) T.n_isinstance (by decide +kernel) (va_val (ve_var 0) (va_val (ve_bltn (d := .ty "int") (v := .ty "int") (by rfl) T.n_int (by decide +kernel) rfl (fun _ => rfl)) va_nil))) (ve_and (ve_not (ve_bf b_isi (by rfl) T.n_isinstance (by decide +kernel) (va_val (ve_var 0) (va_val (ve_bltn (d := .ty "bool") (v := .ty "bool") (by rfl) T.n_bool (by decide +kernel) rfl (fun _ => rfl)) va_nil)))) (ve_one (ve_chain o_ile o_ile (ve_var 1) (ve_var 0) (ve_var 2))))))))
theorem ok_p_Graph_init (hP : HPf P) (T : Txt K mg) : VOk false P w K mg base 1 T.f_p_Graph_init T.d_p_Graph_init ["self", "nodes", "finals"] ph_p_Graph_init := PV.Fun.val T.t_p_Graph_init sc_p_Graph_init rfl fun cd A outer s H E hcd hr gd tk => (vss_kill true [] (vss_cons (vs_fld ["Mirror"] (na_nodes T) 0 (ve_var 1)) (vss_one (vs_fld ["Mirror"] (na_finals T) 0 (ve_var 2)))))
theorem ok_p_Question_init (hP : HPf P) (T : Txt K mg) : VOk false P w K mg base 1 T.f_p_Question_init T.d_p_Question_init ["self", "graph"] ph_p_Question_init := PV.Fun.val T.t_p_Question_init sc_p_Question_init rfl fun cd A outer s H E hcd hr gd tk => (vss_kill true [] (vss_one (vs_fld ["Stale", "Back"] (na_graph T) 0 (ve_var 1))))
theorem ok_p_Question_first (hP : HPf P) (T : Txt K mg) : VOk false P w K mg base 1 T.f_p_Question_first T.d_p_Question_first ["self"] ph_p_Question_first := PV.Fun.val T.t_p_Question_first sc_p_Question_first rfl fun cd A outer s H E hcd hr gd tk => (vss_kill true [] (vss_one (vs_ret (ve_tup (va_val ve_int (va_val ve_int (va_val ve_int (va_val ve_int (va_val ve_int (va_val ve_int va_nil))))))))))
theorem ok_p_is_mirror_step (hP : HPf P) (T : Txt K mg) : VOk false P w K mg base 1 T.f_p_is_mirror_step T.d_p_is_mirror_step ["thing"] ph_p_is_mirror_step := PV.Fun.val T.t_p_is_mirror_step sc_p_is_mirror_step rfl fun cd A outer s H E hcd hr gd tk => (vss_kill true [] (vss_one (vs_ret (ve_and (ve_bf b_isi (by rfl) T.n_isinstance (by decide +kernel) (va_val (ve_var 0) (va_val (ve_bltn (d := .ty "str") (v := .ty "str") (by rfl) T.n_str (by decide +kernel) rfl (fun _ => rfl)) va_nil))) (ve_one (ve_cmp o_in (ve_var 0) (ve_glob (d := (.ctp [(.str "begin"), (.str "commit"), (.str "rollback"), (.str "listen"), (.str "unlisten"), (.str "read"), (.str "receive"), (.str "disconnect")])) (v := .ref T.a_STEPS) (by rfl) T.c_STEPS rfl T.v_STEPS) (by rfl)))))))
theorem ok_p_Watch_begun (hP : HPf P) (T : Txt K mg) : VOk false P w K mg base 1 T.f_p_Watch_begun T.d_p_Watch_begun ["self", "pair"] ph_p_Watch_begun := PV.Fun.val T.t_p_Watch_begun sc_p_Watch_begun rfl fun cd A outer s H E hcd hr gd tk => (vss_kill true [] (vss_one (vs_ret ve_int)))
theorem ok_p_Watch_lost (hP : HPf P) (T : Txt K mg) : VOk false P w K mg base 1 T.f_p_Watch_lost T.d_p_Watch_lost ["self", "pair"] ph_p_Watch_lost := PV.Fun.val T.t_p_Watch_lost sc_p_Watch_lost rfl fun cd A outer s H E hcd hr gd tk => (vss_kill true [] (vss_one (vs_ret (ve_tup (va_val ve_int (va_val ve_int va_nil))))))
theorem ok_p_Stale_lost (hP : HPf P) (T : Txt K mg) : VOk false P w K mg base 1 T.f_p_Stale_lost T.d_p_Stale_lost ["self", "pair"] ph_p_Stale_lost := PV.Fun.val T.t_p_Stale_lost sc_p_Stale_lost rfl fun cd A outer s H E hcd hr gd tk => (vss_kill true [] (vss_one (vs_ret (ve_tup (va_val (ve_ix (ve_var 1) ve_int (fun _ _ => rfl)) (va_val ve_int va_nil))))))
theorem ok_p_Stale_copied (hP : HPf P) (T : Txt K mg) : VOk false P w K mg base 1 T.f_p_Stale_copied T.d_p_Stale_copied ["self", "snapshot", "pair"] ph_p_Stale_copied := PV.Fun.val T.t_p_Stale_copied sc_p_Stale_copied rfl fun cd A outer s H E hcd hr gd tk => (vss_kill true [] (vss_one (vs_ret (ve_tup (va_val (ve_if (vt_cmp (o_eq hr.units) (ve_var 1) ve_int (nomark _)) ve_int ve_int) (va_val (ve_ix (ve_var 2) ve_int (fun _ _ => rfl)) va_nil))))))
theorem ok_p_Stale_received (hP : HPf P) (T : Txt K mg) : VOk false P w K mg base 1 T.f_p_Stale_received T.d_p_Stale_received ["self", "pair"] ph_p_Stale_received := PV.Fun.val T.t_p_Stale_received sc_p_Stale_received rfl fun cd A outer s H E hcd hr gd tk => (vss_kill true [] (vss_one (vs_ret (ve_if (vt_cmp (o_eq hr.units) (ve_ix (ve_var 1) ve_int (fun _ _ => rfl)) ve_int (nomark _)) (ve_tup (va_val ve_int (va_val ve_int va_nil))) (ve_var 1)))))
theorem ok_p_Stale_told (hP : HPf P) (T : Txt K mg) : VOk false P w K mg base 1 T.f_p_Stale_told T.d_p_Stale_told ["self", "work", "pair"] ph_p_Stale_told := PV.Fun.val T.t_p_Stale_told sc_p_Stale_told rfl fun cd A outer s H E hcd hr gd tk => (vss_kill true [] (vss_cons (vs_asg (ve_var 1) (vg_tup (n := 3) rfl (vgs_cons (vg_name (i := 3) sc_p_Stale_told.nd rfl (by first | exact Or.inl rfl | exact Or.inr rfl)) (vgs_cons (vg_name (i := 4) sc_p_Stale_told.nd rfl (by first | exact Or.inl rfl | exact Or.inr rfl)) (vgs_cons (vg_name (i := 5) sc_p_Stale_told.nd rfl (by first | exact Or.inl rfl | exact Or.inr rfl)) vgs_nil))))) (vss_one (vs_ret (ve_tup (va_val (ve_tup (va_val (ve_if (vt_cmp o_igt (ve_var 3) ve_int (nomark _)) ve_int ve_int) (va_val (ve_var 4) (va_val (ve_var 5) va_nil)))) (va_val (ve_tup (va_val ve_int (va_val (ve_var 5) va_nil))) va_nil)))))))
theorem ok_p_Stale_is_bad (hP : HPf P) (T : Txt K mg) : VOk false P w K mg base 1 T.f_p_Stale_is_bad T.d_p_Stale_is_bad ["self", "state"] ph_p_Stale_is_bad := PV.Fun.val T.t_p_Stale_is_bad sc_p_Stale_is_bad rfl fun cd A outer s H E hcd hr gd tk => (vss_kill true [] (vss_cons (vs_asg (ve_var 1) (vg_tup (n := 6) rfl (vgs_cons (vg_name (i := 2) sc_p_Stale_is_bad.nd rfl (by first | exact Or.inl rfl | exact Or.inr rfl)) (vgs_cons (vg_name (i := 3) sc_p_Stale_is_bad.nd rfl (by first | exact Or.inl rfl | exact Or.inr rfl)) (vgs_cons (vg_name (i := 4) sc_p_Stale_is_bad.nd rfl (by first | exact Or.inl rfl | exact Or.inr rfl)) (vgs_cons (vg_name (i := 5) sc_p_Stale_is_bad.nd rfl (by first | exact Or.inl rfl | exact Or.inr rfl)) (vgs_cons (vg_name (i := 6) sc_p_Stale_is_bad.nd rfl (by first | exact Or.inl rfl | exact Or.inr rfl)) (vgs_cons (vg_name (i := 7) sc_p_Stale_is_bad.nd rfl (by first | exact Or.inl rfl | exact Or.inr rfl)) vgs_nil)))))))) (vss_one (vs_ret (ve_and (ve_cmp o_in (ve_var 2) (ve_fld ["Mirror"] (na_finals T) (ve_fld ["Stale", "Back"] (na_graph T) (ve_var 0))) (by rfl)) (ve_and (ve_cmp (o_eq hr.units) (ve_var 3) ve_int (nomark _)) (ve_and (ve_cmp (o_eq hr.units) (ve_var 6) ve_int (nomark _)) (ve_one (ve_cmp (o_eq hr.units) (ve_var 7) ve_int (nomark _))))))))))
theorem ok_p_Back_begun (hP : HPf P) (T : Txt K mg) : VOk false P w K mg base 1 T.f_p_Back_begun T.d_p_Back_begun ["self", "pair"] ph_p_Back_begun := PV.Fun.val T.t_p_Back_begun sc_p_Back_begun rfl fun cd A outer s H E hcd hr gd tk => (vss_kill true [] (vss_one (vs_ret (ve_op o_add ve_int (ve_ix (ve_var 1) ve_int (fun _ _ => rfl))))))
theorem ok_p_Back_copied (hP : HPf P) (T : Txt K mg) : VOk false P w K mg base 1 T.f_p_Back_copied T.d_p_Back_copied ["self", "snapshot", "pair"] ph_p_Back_copied := PV.Fun.val T.t_p_Back_copied sc_p_Back_copied rfl fun cd A outer s H E hcd hr gd tk => (vss_kill true [] (vss_cons (vs_set (i := 3) sc_p_Back_copied.nd rfl (by first | exact Or.inl rfl | exact Or.inr rfl) (ve_if (vt_cmp (o_eq hr.units) (ve_var 1) ve_int (nomark _)) (ve_ix (ve_var 2) ve_int (fun _ _ => rfl)) (ve_op o_isub (ve_var 1) ve_int))) (vss_one (vs_ret (ve_tup (va_val (ve_ix (ve_var 2) ve_int (fun _ _ => rfl)) (va_val (ve_if (vt_cmp (o_eq hr.units) (ve_var 3) (ve_glob (d := (.int 2)) (v := (.int 2)) (by rfl) T.c_MANY ⟨_, rfl⟩ (fun _ => rfl)) (nomark _)) ve_int ve_int) va_nil)))))))
theorem ok_p_Back_received (hP : HPf P) (T : Txt K mg) : VOk false P w K mg base 1 T.f_p_Back_received T.d_p_Back_received ["self", "pair"] ph_p_Back_received := PV.Fun.val T.t_p_Back_received sc_p_Back_received rfl fun cd A outer s H E hcd hr gd tk => (vss_kill true [] (vss_one (vs_ret (ve_tup (va_val ve_int (va_val ve_int va_nil))))))
theorem ok_p_Back_told (hP : HPf P) (T : Txt K mg) : VOk false P w K mg base 1 T.f_p_Back_told T.d_p_Back_told ["self", "work", "pair"] ph_p_Back_told := PV.Fun.val T.t_p_Back_told sc_p_Back_told rfl fun cd A outer s H E hcd hr gd tk => (vss_kill true [] (vss_one (vs_ret (ve_tup (va_val (ve_var 1) (va_val (ve_tup (va_val (ve_bf (b_min2 rfl) (by rfl) T.n_min (by decide +kernel) (va_val (ve_glob (d := (.int 2)) (v := (.int 2)) (by rfl) T.c_MANY ⟨_, rfl⟩ (fun _ => rfl)) (va_val (ve_op o_add (ve_ix (ve_var 2) ve_int (fun _ _ => rfl)) (ve_ix (ve_var 1) ve_int (fun _ _ => rfl))) va_nil))) (va_val (ve_ix (ve_var 2) ve_int (fun _ _ => rfl)) va_nil))) va_nil))))))
theorem ok_p_Back_is_bad (hP : HPf P) (T : Txt K mg) : VOk false P w K mg base 1 T.f_p_Back_is_bad T.d_p_Back_is_bad ["self", "state"] ph_p_Back_is_bad := PV.Fun.val T.t_p_Back_is_bad sc_p_Back_is_bad rfl fun cd A outer s H E hcd hr gd tk => (vss_kill true [] (vss_cons (vs_if (vt_w (vw_or (vt_cmp (o_ne hr.units) (ve_ix (ve_var 1) ve_int (fun _ _ => rfl)) ve_int (nomark _)) (vw_or1 (vt_cmp (o_ne hr.units) (ve_ix (ve_var 1) ve_int (fun _ _ => rfl)) ve_int (nomark _))))) (vss_one (vs_ret ve_bl)) vss_nil) (vss_cons (vs_if (vt_cmp o_in (ve_ix (ve_var 1) ve_int (fun _ _ => rfl)) (ve_fld ["Mirror"] (na_finals T) (ve_fld ["Stale", "Back"] (na_graph T) (ve_var 0))) (by rfl)) (vss_one (vs_ret ve_bl)) vss_nil) (vss_one (vs_ret (ve_bf (b_any rfl) (by rfl) T.n_any (by decide +kernel) (va_val (ve_new (vn_lc (own := [("step", 2), ("there", 3)]) rfl sc_p_Back_is_bad.nd (vi_seq (ve_ix (ve_fld ["Mirror"] (na_nodes T) (ve_fld ["Stale", "Back"] (na_graph T) (ve_var 0))) (ve_ix (ve_var 1) ve_int (fun _ _ => rfl)) (fun _ _ => rfl))) (blkOk_by (N := ["self", "state", "step", "there"]) (sc := defScope s_p_Back_is_bad) (by decide +kernel)) (by decide) (fun _ _ _ _ _ => (vg_tup (n := 2) rfl (vgs_cons (vg_name (i := 2) sc_p_Back_is_bad.nd rfl (by first | exact Or.inl rfl | exact Or.inr rfl)) (vgs_cons (vg_name (i := 3) sc_p_Back_is_bad.nd rfl (by first | exact Or.inl rfl | exact Or.inr rfl)) vgs_nil)))) (fun _ _ _ _ _ => vts_nil) (fun _ _ _ _ _ => (ve_cmp (o_eq hr.units) (ve_var 2) ve_str (nomark _))))) va_nil)))))))
theorem ok_rest (hP : HPf P) (T : Txt K mg) : VOk false P w K mg base 1 T.f_rest T.d_rest ["_law_number", "_law_by"] ph_rest := PV.Fun.val T.t_rest sc_rest rfl fun cd A outer s H E hcd hr gd tk => (vss_one (vs_ret (ve_op o_isub (ve_var 0) (ve_op o_mul (ve_op o_idiv (ve_var 0) (ve_var 1)) (ve_var 1)))))
theorem ok_cell_at (hP : HPf P) (T : Txt K mg) : VOk false P w K mg base 1 T.f_cell_at T.d_cell_at ["_law_script", "_law_k"] ph_cell_at := PV.Fun.val T.t_cell_at sc_cell_at rfl fun cd A outer s H E hcd hr gd tk => (vss_cons (vs_if (vt_cmp o_ilt (ve_var 1) (ve_bf b_len (by rfl) T.n_len (by decide +kernel) (va_val (ve_var 0) va_nil)) (nomark _)) (vss_one (vs_ret (ve_ix (ve_var 0) (ve_var 1) (fun _ _ => rfl)))) vss_nil) (vss_one (vs_ret ve_int)))
theorem ok_can_rest (hP : HPf P) (T : Txt K mg) : VOk false P w K mg base 1 T.f_can_rest T.d_can_rest ["_law_nodes", "_law_finals_here"] ph_can_rest := PV.Fun.val T.t_can_rest sc_can_rest rfl fun cd A outer s H E hcd hr gd tk => (vss_kill true [] (vss_cons (vs_par2 (i := 2) (j := 3) rfl sc_can_rest.nd rfl rfl (by decide) rfl rfl (vl_own (vn_lst (va_val (ve_tup (va_val ve_int (va_val ve_bl va_nil))) va_nil)) (vl_own (vn_lst (va_val (ve_tup (va_val ve_int (va_val ve_bl va_nil))) va_nil)) vl_nil))) (vss_cons (vs_while 4096 (passes_of rfl) (vt_neSl hr.units 3) (show VSs _ _ _ L_can_rest_2 from vss_kill true [false, false, false, false, true, true, true, true, true] (vss_cons (vs_asg (ve_pop 3) (vg_tup (n := 2) rfl (vgs_cons (vg_name (i := 4) sc_can_rest.nd rfl (by first | exact Or.inl rfl | exact Or.inr rfl)) (vgs_cons (vg_name (i := 5) sc_can_rest.nd rfl (by first | exact Or.inl rfl | exact Or.inr rfl)) vgs_nil)))) (vss_one (vs_for (passes_of rfl) rfl (vi_seq (ve_ix (ve_var 0) (ve_var 4) (fun _ _ => rfl))) (vg_tup (n := 2) rfl (vgs_cons (vg_name (i := 6) sc_can_rest.nd rfl (by first | exact Or.inl rfl | exact Or.inr rfl)) (vgs_cons (vg_name (i := 7) sc_can_rest.nd rfl (by first | exact Or.inl rfl | exact Or.inr rfl)) vgs_nil))) (show VSs _ _ _ L_can_rest_1 from vss_kill true [false, false, false, false, false, false, true, true, true] (vss_cons (vs_set (i := 8) sc_can_rest.nd rfl (by first | exact Or.inl rfl | exact Or.inr rfl) (ve_tup (va_val (ve_var 7) (va_val (ve_or (ve_cmp (o_eq hr.units) (ve_var 6) ve_str (nomark _)) (ve_one (ve_and (ve_var 5) (ve_one (ve_cmp o_notIn (ve_var 6) (ve_tup (va_val ve_str (va_val ve_str (va_val ve_str va_nil)))) (by rfl)))))) va_nil)))) (vss_one (vs_if (vt_notInSl hr.units 2 (ve_var 8)) (vss_cons (vs_append 2 (ve_var 8)) (vss_one (vs_append 3 (ve_var 8)))) vss_nil))))))))) (vss_one (vs_ret (ve_cmp (o_neZ hr.units) (ve_new (vn_lc (own := [("_law_node", 4), ("_law_is_open", 5)]) rfl sc_can_rest.nd (vi_seq (ve_var 2)) (blkOk_by (N := ["_law_nodes", "_law_finals_here", "_law_found", "_law_line_here", "_law_node", "_law_is_open", "_law_step", "_law_there", "_law_later"]) (sc := defScope s_can_rest) (by decide +kernel)) (by decide) (fun _ _ _ _ _ => (vg_tup (n := 2) rfl (vgs_cons (vg_name (i := 4) sc_can_rest.nd rfl (by first | exact Or.inl rfl | exact Or.inr rfl)) (vgs_cons (vg_name (i := 5) sc_can_rest.nd rfl (by first | exact Or.inl rfl | exact Or.inr rfl)) vgs_nil)))) (fun _ _ _ _ _ => vts_one (vt_w (vw_and (vt_cmp o_in (ve_var 4) (ve_var 1) (by rfl)) (vw_and1 (vt_not (vt_val (ve_var 5))))))) (fun _ _ _ _ _ => ve_int))) (ve_new (vn_lst va_nil)) (nomark _)))))))
theorem ok_p_are_nodes (hP : HPf P) (T : Txt K mg) : VOk false P w K mg base 2 T.f_p_are_nodes T.d_p_are_nodes ["thing", "is_step"] ph_p_are_nodes := PV.Fun.val T.t_p_are_nodes sc_p_are_nodes rfl fun cd A outer s H E hcd hr gd tk => (vss_kill true [] (vss_cons (vs_if (vt_w (vw_or (vt_not (vt_val (ve_bf b_isi (by rfl) T.n_isinstance (by decide +kernel) (va_val (ve_var 0) (va_val (ve_bltn (d := .ty "tuple") (v := .ty "tuple") (by rfl) T.n_tuple (by decide +kernel) rfl (fun _ => rfl)) va_nil))))) (vw_or1 (vt_not (vt_chain o_ile o_ile ve_int (ve_bf b_len (by rfl) T.n_len (by decide +kernel) (va_val (ve_var 0) va_nil)) (ve_glob (d := (.int 6)) (v := (.int 6)) (by rfl) T.c_MOST_NODES ⟨_, rfl⟩ (fun _ => rfl))))))) (vss_one (vs_ret ve_bl)) vss_nil) (vss_cons (vs_for (passes_of rfl) rfl (vi_seq (ve_var 0)) (vg_name (i := 2) sc_p_are_nodes.nd rfl (by first | exact Or.inl rfl | exact Or.inr rfl)) (show VSs _ _ _ L_p_are_nodes_2 from vss_kill true [false, false, true, true] (vss_cons (vs_if (vt_w (vw_or (vt_not (vt_val (ve_bf b_isi (by rfl) T.n_isinstance (by decide +kernel) (va_val (ve_var 2) (va_val (ve_bltn (d := .ty "tuple") (v := .ty "tuple") (by rfl) T.n_tuple (by decide +kernel) rfl (fun _ => rfl)) va_nil))))) (vw_or1 (vt_cmp o_igt (ve_bf b_len (by rfl) T.n_len (by decide +kernel) (va_val (ve_var 2) va_nil)) (ve_glob (d := (.int 3)) (v := (.int 3)) (by rfl) T.c_MOST_EDGES ⟨_, rfl⟩ (fun _ => rfl)) (nomark _))))) (vss_one (vs_ret ve_bl)) vss_nil) (vss_one (vs_for (passes_of rfl) rfl (vi_seq (ve_var 2)) (vg_name (i := 3) sc_p_are_nodes.nd rfl (by first | exact Or.inl rfl | exact Or.inr rfl)) (show VSs _ _ _ L_p_are_nodes_1 from vss_kill true [false, false, false, true] (vss_cons (vs_if (vt_w (vw_or (vt_not (vt_val (ve_bf b_isi (by rfl) T.n_isinstance (by decide +kernel) (va_val (ve_var 3) (va_val (ve_bltn (d := .ty "tuple") (v := .ty "tuple") (by rfl) T.n_tuple (by decide +kernel) rfl (fun _ => rfl)) va_nil))))) (vw_or (vt_cmp (o_ne hr.units) (ve_bf b_len (by rfl) T.n_len (by decide +kernel) (va_val (ve_var 3) va_nil)) ve_int (nomark _)) (vw_or1 (vt_not (vt_val (ve_callL (k := 1) (g := false) 1 (FnV.cons T.ns_p_is_mirror_step (ok_p_is_mirror_step hP T) (by decide) T.t_p_is_mirror_step.kp T.b_p_is_mirror_step FnV.nil) (hr.mono (by decide)) (fun z => absurd z Bool.false_ne_true) tk (va_val (ve_ix (ve_var 3) ve_int (fun _ _ => rfl)) va_nil)))))))) (vss_one (vs_ret ve_bl)) vss_nil) (vss_one (vs_if (vt_not (vt_val (ve_call (ok_p_is_between hP T) (hr.mono (by decide)) (fun z => absurd z Bool.false_ne_true) tk (by rfl) T.g_p_is_between T.t_p_is_between.kp T.b_p_is_between (va_val (ve_ix (ve_var 3) ve_int (fun _ _ => rfl)) (va_val ve_int (va_val (ve_op o_isub (ve_bf b_len (by rfl) T.n_len (by decide +kernel) (va_val (ve_var 0) va_nil)) ve_int) va_nil)))))) (vss_one (vs_ret ve_bl)) vss_nil))))))))) (vss_one (vs_ret ve_bl)))))
theorem ok_p_are_finals (hP : HPf P) (T : Txt K mg) : VOk false P w K mg base 2 T.f_p_are_finals T.d_p_are_finals ["thing", "many"] ph_p_are_finals := PV.Fun.val T.t_p_are_finals sc_p_are_finals rfl fun cd A outer s H E hcd hr gd tk => (vss_kill true [] (vss_cons (vs_if (vt_w (vw_or (vt_not (vt_val (ve_bf b_isi (by rfl) T.n_isinstance (by decide +kernel) (va_val (ve_var 0) (va_val (ve_bltn (d := .ty "tuple") (v := .ty "tuple") (by rfl) T.n_tuple (by decide +kernel) rfl (fun _ => rfl)) va_nil))))) (vw_or1 (vt_not (vt_val (ve_bf (b_all rfl) (by rfl) T.n_all (by decide +kernel) (va_val (ve_new (vn_lc (own := [("one", 2)]) rfl sc_p_are_finals.nd (vi_seq (ve_var 0)) (blkOk_by (N := ["thing", "many", "one", "other"]) (sc := defScope s_p_are_finals) (by decide +kernel)) (by decide) (fun _ _ _ _ _ => (vg_name (i := 2) sc_p_are_finals.nd rfl (by first | exact Or.inl rfl | exact Or.inr rfl))) (fun _ _ _ _ _ => vts_nil) (fun _ _ _ _ _ => (ve_call (ok_p_is_between hP T) (hr.mono (by decide)) (fun z => absurd z Bool.false_ne_true) takes0 (by rfl) T.g_p_is_between T.t_p_is_between.kp T.b_p_is_between (va_val (ve_var 2) (va_val ve_int (va_val (ve_op o_isub (ve_var 1) ve_int) va_nil))))))) va_nil))))))) (vss_one (vs_ret ve_bl)) vss_nil) (vss_one (vs_ret (ve_bf (b_all rfl) (by rfl) T.n_all (by decide +kernel) (va_val (ve_new (vn_lc (own := [("one", 2), ("other", 3)]) rfl sc_p_are_finals.nd (vi_zip (by rfl) T.n_zip (va_val (ve_var 0) (va_val (ve_slice (ve_var 0) (vo_some ve_int) vo_none) va_nil))) (blkOk_by (N := ["thing", "many", "one", "other"]) (sc := defScope s_p_are_finals) (by decide +kernel)) (by decide) (fun _ _ _ _ _ => (vg_tup (n := 2) rfl (vgs_cons (vg_name (i := 2) sc_p_are_finals.nd rfl (by first | exact Or.inl rfl | exact Or.inr rfl)) (vgs_cons (vg_name (i := 3) sc_p_are_finals.nd rfl (by first | exact Or.inl rfl | exact Or.inr rfl)) vgs_nil)))) (fun _ _ _ _ _ => vts_nil) (fun _ _ _ _ _ => (ve_cmp o_ilt (ve_var 2) (ve_var 3) (nomark _))))) va_nil))))))
theorem ok_p_Watch_alone (hP : HPf P) (T : Txt K mg) : VOk false P w K mg base 2 T.f_p_Watch_alone T.d_p_Watch_alone ["self", "step", "listens", "pair"] ph_p_Watch_alone := PV.Fun.val T.t_p_Watch_alone sc_p_Watch_alone rfl fun cd A outer s H E hcd hr gd tk => (vss_kill true [] (vss_cons (vs_if (vt_cmp (o_eq hr.units) (ve_var 1) ve_str (nomark _)) (vss_one (vs_ret (ve_tup (va_val (ve_tup (va_val (ve_meth (k := 1) (g := false) (ve_var 0) (MethV.cons T.k_Stale T.m_Stale_begun (ok_p_Watch_begun hP T) (by decide) T.b_p_Watch_begun (MethV.cons T.k_Back T.m_Back_begun (ok_p_Back_begun hP T) (by decide) T.b_p_Back_begun MethV.nil)) (hr.mono (by decide)) (fun z => absurd z Bool.false_ne_true) tk (va_val (ve_var 3) va_nil)) (va_val ve_int (va_val (ve_var 2) va_nil)))) (va_val (ve_var 3) va_nil))))) vss_nil) (vss_cons (vs_if (vt_cmp (o_eq hr.units) (ve_var 1) ve_str (nomark _)) (vss_one (vs_ret (ve_tup (va_val (ve_tup (va_val ve_int (va_val ve_int (va_val ve_int va_nil)))) (va_val (ve_var 3) va_nil))))) vss_nil) (vss_cons (vs_if (vt_cmp (o_eq hr.units) (ve_var 1) ve_str (nomark _)) (vss_one (vs_ret (ve_tup (va_val (ve_tup (va_val ve_int (va_val ve_int (va_val ve_int va_nil)))) (va_val (ve_meth (k := 1) (g := false) (ve_var 0) (MethV.cons T.k_Stale T.m_Stale_lost (ok_p_Stale_lost hP T) (by decide) T.b_p_Stale_lost (MethV.cons T.k_Back T.m_Back_lost (ok_p_Watch_lost hP T) (by decide) T.b_p_Watch_lost MethV.nil)) (hr.mono (by decide)) (fun z => absurd z Bool.false_ne_true) tk (va_val (ve_var 3) va_nil)) va_nil))))) vss_nil) (vss_cons (vs_if (vt_cmp (o_eq hr.units) (ve_var 1) ve_str (nomark _)) (vss_one (vs_ret (ve_tup (va_val (ve_tup (va_val ve_int (va_val ve_int (va_val (ve_var 2) va_nil)))) (va_val (ve_meth (k := 1) (g := false) (ve_var 0) (MethV.cons T.k_Stale T.m_Stale_received (ok_p_Stale_received hP T) (by decide) T.b_p_Stale_received (MethV.cons T.k_Back T.m_Back_received (ok_p_Back_received hP T) (by decide) T.b_p_Back_received MethV.nil)) (hr.mono (by decide)) (fun z => absurd z Bool.false_ne_true) tk (va_val (ve_var 3) va_nil)) va_nil))))) vss_nil) (vss_one (vs_ret (ve_tup (va_val (ve_tup (va_val ve_int (va_val ve_int (va_val (ve_var 2) va_nil)))) (va_val (ve_var 3) va_nil))))))))))
theorem ok_p_Watch_within (hP : HPf P) (T : Txt K mg) : VOk false P w K mg base 2 T.f_p_Watch_within T.d_p_Watch_within ["self", "step", "work", "pair"] ph_p_Watch_within := PV.Fun.val T.t_p_Watch_within sc_p_Watch_within rfl fun cd A outer s H E hcd hr gd tk => (vss_kill true [] (vss_cons (vs_asg (ve_var 2) (vg_tup (n := 3) rfl (vgs_cons (vg_name (i := 4) sc_p_Watch_within.nd rfl (by first | exact Or.inl rfl | exact Or.inr rfl)) (vgs_cons (vg_name (i := 5) sc_p_Watch_within.nd rfl (by first | exact Or.inl rfl | exact Or.inr rfl)) (vgs_cons (vg_name (i := 6) sc_p_Watch_within.nd rfl (by first | exact Or.inl rfl | exact Or.inr rfl)) vgs_nil))))) (vss_cons (vs_if (vt_cmp (o_eq hr.units) (ve_var 1) ve_str (nomark _)) (vss_one (vs_ret (ve_tup (va_val (ve_tup (va_val ve_int (va_val ve_int (va_val (ve_var 6) va_nil)))) (va_val (ve_var 3) va_nil))))) vss_nil) (vss_cons (vs_if (vt_cmp (o_eq hr.units) (ve_var 1) ve_str (nomark _)) (vss_one (vs_ret (ve_tup (va_val (ve_tup (va_val (ve_var 4) (va_val ve_int (va_val (ve_var 6) va_nil)))) (va_val (ve_var 3) va_nil))))) vss_nil) (vss_cons (vs_if (vt_cmp (o_eq hr.units) (ve_var 1) ve_str (nomark _)) (vss_one (vs_ret (ve_tup (va_val (ve_tup (va_val (ve_var 4) (va_val ve_int (va_val (ve_var 6) va_nil)))) (va_val (ve_var 3) va_nil))))) vss_nil) (vss_cons (vs_if (vt_cmp (o_ne hr.units) (ve_var 1) ve_str (nomark _)) (vss_one (vs_ret (ve_tup (va_val (ve_var 2) (va_val (ve_var 3) va_nil))))) vss_nil) (vss_cons (vs_if (vt_cmp (o_eq hr.units) (ve_var 5) ve_int (nomark _)) (vss_one (vs_ret (ve_tup (va_val (ve_tup (va_val ve_int (va_val ve_int (va_val ve_int va_nil)))) (va_val (ve_meth (k := 1) (g := false) (ve_var 0) (MethV.cons T.k_Stale T.m_Stale_lost (ok_p_Stale_lost hP T) (by decide) T.b_p_Stale_lost (MethV.cons T.k_Back T.m_Back_lost (ok_p_Watch_lost hP T) (by decide) T.b_p_Watch_lost MethV.nil)) (hr.mono (by decide)) (fun z => absurd z Bool.false_ne_true) tk (va_val (ve_var 3) va_nil)) va_nil))))) vss_nil) (vss_one (vs_ret (ve_tup (va_val (ve_tup (va_val ve_int (va_val ve_int (va_val (ve_if (vt_cmp (o_eq hr.units) (ve_var 5) ve_int (nomark _)) ve_int (ve_var 6)) va_nil)))) (va_val (ve_var 3) va_nil))))))))))))
theorem ok_draw (hP : HPf P) (T : Txt K mg) : VOk false P w K mg base 2 T.f_draw T.d_draw ["_law_pen_here", "_law_many"] ph_draw := PV.Fun.val T.t_draw sc_draw rfl fun cd A outer s H E hcd hr gd tk => (vss_cons (vs_if (vt_cmp o_igt (ve_ixSl 0 ve_int (fun _ _ => rfl)) ve_int (nomark _)) (vss_cons (vs_set (i := 3) sc_draw.nd rfl (by first | exact Or.inl rfl | exact Or.inr rfl) (ve_call (ok_rest hP T) (hr.mono (by decide)) (fun z => absurd z Bool.false_ne_true) tk (by rfl) T.g_rest T.t_rest.kp T.b_rest (va_val (ve_ixSl 0 ve_int (fun _ _ => rfl)) (va_val (ve_var 1) va_nil)))) (vss_cons (vs_put 0 (ve_op o_idiv (ve_ixSl 0 ve_int (fun _ _ => rfl)) (ve_var 1)) ve_int) (vss_one (vs_ret (ve_var 3))))) vss_nil) (vss_cons (vs_put 0 (ve_op o_add (ve_ixSl 0 ve_int (fun _ _ => rfl)) ve_int) ve_int) (vss_cons (vs_put 0 (ve_call (ok_rest hP T) (hr.mono (by decide)) (fun z => absurd z Bool.false_ne_true) tk (by rfl) T.g_rest T.t_rest.kp T.b_rest (va_val (ve_op o_add (ve_op o_add (ve_op o_mul (ve_ixSl 0 ve_int (fun _ _ => rfl)) ve_int) (ve_op o_mul ve_int (ve_ixSl 0 ve_int (fun _ _ => rfl)))) ve_int) (va_val ve_int va_nil))) ve_int) (vss_cons (vs_set (i := 2) sc_draw.nd rfl (by first | exact Or.inl rfl | exact Or.inr rfl) (ve_call (ok_rest hP T) (hr.mono (by decide)) (fun z => absurd z Bool.false_ne_true) tk (by rfl) T.g_rest T.t_rest.kp T.b_rest (va_val (ve_op o_add (ve_op o_add (ve_op o_mul (ve_ixSl 0 ve_int (fun _ _ => rfl)) (ve_ixSl 0 ve_int (fun _ _ => rfl))) (ve_op o_mul ve_int (ve_ixSl 0 ve_int (fun _ _ => rfl)))) ve_int) (va_val ve_int va_nil)))) (vss_cons (vs_set (i := 2) sc_draw.nd rfl (by first | exact Or.inl rfl | exact Or.inr rfl) (ve_call (ok_rest hP T) (hr.mono (by decide)) (fun z => absurd z Bool.false_ne_true) tk (by rfl) T.g_rest T.t_rest.kp T.b_rest (va_val (ve_op o_add (ve_op o_mul (ve_var 2) (ve_var 2)) (ve_op o_mul ve_int (ve_var 2))) (va_val ve_int va_nil)))) (vss_one (vs_ret (ve_call (ok_rest hP T) (hr.mono (by decide)) (fun z => absurd z Bool.false_ne_true) tk (by rfl) T.g_rest T.t_rest.kp T.b_rest (va_val (ve_op o_idiv (ve_var 2) ve_int) (va_val (ve_var 1) va_nil))))))))))
theorem ok_pen (hP : HPf P) (T : Txt K mg) : FnOk P w K mg base (L2.CX P w) 2 T.f_pen T.d_pen ["_law_cell"] (spNew K 1 1 F_pen) := PV.Fun.new T.t_pen sc_pen rfl fun cd A outer s H E hr tk => ⟨_, _, rfl, (vn_lst (va_val (ve_bf (b_max2 rfl) (by rfl) T.n_max (by decide +kernel) (va_val ve_int (va_val (ve_op o_isub (ve_var 0) (ve_op o_ipow ve_int ve_int)) va_nil))) (va_val (ve_op o_add (ve_call (ok_rest hP T) (hr.mono (by decide)) (fun z => absurd z Bool.false_ne_true) tk (by rfl) T.g_rest T.t_rest.kp T.b_rest (va_val (ve_var 0) (va_val ve_int va_nil))) ve_int) (va_val ve_int va_nil))))⟩
theorem ok_p_Mirror_init (hP : HPf P) (T : Txt K mg) : VOk false P w K mg base 3 T.f_p_Mirror_init T.d_p_Mirror_init ["self", "nodes", "finals"] ph_p_Mirror_init := PV.FunS.val T.t_p_Mirror_init sc_p_Mirror_init rfl fun A outer s H E hr gd tk => (vsa_cons (vsa1_of (vs_if (vt_w (vw_or (vt_not (vt_val (ve_call (ok_p_are_nodes hP T) (hr.mono (by decide)) (fun z => absurd z Bool.false_ne_true) tk (by rfl) T.g_p_are_nodes T.t_p_are_nodes.kp T.b_p_are_nodes (va_val (ve_var 1) (va_val (ve_fn (by rfl) T.g_p_is_mirror_step T.ns_p_is_mirror_step) va_nil))))) (vw_or1 (vt_not (vt_val (ve_call (ok_p_are_finals hP T) (hr.mono (by decide)) (fun z => absurd z Bool.false_ne_true) tk (by rfl) T.g_p_are_finals T.t_p_are_finals.kp T.b_p_are_finals (va_val (ve_var 2) (va_val (ve_bf b_len (by rfl) T.n_len (by decide +kernel) (va_val (ve_var 1) va_nil)) va_nil)))))))) (vss_one (vs_raise rfl tk PySem.F.excBase_ValueError T.xC_InvalidGraph T.gC_InvalidGraph T.kC_InvalidGraph T.bC_InvalidGraph T.tC_InvalidGraph T.nC_InvalidGraph (by rfl))) vss_nil)) (vsa_one (vsa_super (ar := _) T.t_p_Mirror_init sc_p_Mirror_init rfl rfl rfl rfl ⟨T.sd_p_Mirror_init, T.s_super, T.s_any, T.sy_p_Mirror_init, T.sn_p_Mirror_init, hP.1, hP.2⟩ (fun c hc => sup_p_Mirror_init T c hc) (ok_p_Graph_init hP T) (hr.mono (by decide)) (fun z => absurd z Bool.false_ne_true) T.b_p_Graph_init tk (va_val (ve_var 1) (va_val (ve_var 2) va_nil)))))
theorem ok_p_Mirror_question (hP : HPf P) (T : Txt K mg) : VOk false P w K mg base 3 T.f_p_Mirror_question T.d_p_Mirror_question ["self", "way"] ph_p_Mirror_question := PV.Fun.val T.t_p_Mirror_question sc_p_Mirror_question rfl fun cd A outer s H E hcd hr gd tk => (vss_kill true [] (vss_cons (vs_if (vt_w (vw_and (vt_val (ve_bf b_isi (by rfl) T.n_isinstance (by decide +kernel) (va_val (ve_var 1) (va_val (ve_bltn (d := .ty "str") (v := .ty "str") (by rfl) T.n_str (by decide +kernel) rfl (fun _ => rfl)) va_nil)))) (vw_and1 (vt_cmp (o_eq hr.units) (ve_var 1) ve_str (nomark _))))) (vss_one (vs_ret (ve_new (vn_make T.mk_Stale (ok_p_Question_init hP T) (hr.mono (by decide)) (fun z => absurd z Bool.false_ne_true) tk (by rfl) T.gK_Stale T.k_Stale.ns T.b_p_Question_init (va_val (ve_var 0) va_nil))))) vss_nil) (vss_cons (vs_if (vt_w (vw_and (vt_val (ve_bf b_isi (by rfl) T.n_isinstance (by decide +kernel) (va_val (ve_var 1) (va_val (ve_bltn (d := .ty "str") (v := .ty "str") (by rfl) T.n_str (by decide +kernel) rfl (fun _ => rfl)) va_nil)))) (vw_and1 (vt_cmp (o_eq hr.units) (ve_var 1) ve_str (nomark _))))) (vss_one (vs_ret (ve_new (vn_make T.mk_Back (ok_p_Question_init hP T) (hr.mono (by decide)) (fun z => absurd z Bool.false_ne_true) tk (by rfl) T.gK_Back T.k_Back.ns T.b_p_Question_init (va_val (ve_var 0) va_nil))))) vss_nil) (vss_one (vs_raise rfl tk PySem.F.excBase_ValueError T.xC_InvalidWay T.gC_InvalidWay T.kC_InvalidWay T.bC_InvalidWay T.tC_InvalidWay T.nC_InvalidWay (by rfl))))))
theorem ok_p_Watch_behind (hP : HPf P) (T : Txt K mg) : VOk false P w K mg base 3 T.f_p_Watch_behind T.d_p_Watch_behind ["self", "step", "work", "pair"] ph_p_Watch_behind := PV.Fun.val T.t_p_Watch_behind sc_p_Watch_behind rfl fun cd A outer s H E hcd hr gd tk => (vss_kill true [] (vss_cons (vs_if (vt_cmp (o_eq hr.units) (ve_var 1) ve_str (nomark _)) (vss_one (vs_ret (ve_tup (va_val (ve_tup (va_val ve_int (va_val ve_int (va_val ve_int va_nil)))) (va_val (ve_meth (k := 1) (g := false) (ve_var 0) (MethV.cons T.k_Stale T.m_Stale_lost (ok_p_Stale_lost hP T) (by decide) T.b_p_Stale_lost (MethV.cons T.k_Back T.m_Back_lost (ok_p_Watch_lost hP T) (by decide) T.b_p_Watch_lost MethV.nil)) (hr.mono (by decide)) (fun z => absurd z Bool.false_ne_true) tk (va_val (ve_var 3) va_nil)) va_nil))))) vss_nil) (vss_cons (vs_if (vt_cmp (o_eq hr.units) (ve_var 1) (ve_glob (d := (.str "read")) (v := (.str "read")) (by rfl) T.c_READ ⟨_, rfl⟩ (fun _ => rfl)) (nomark _)) (vss_one (vs_ret (ve_tup (va_val (ve_var 2) (va_val (ve_meth (k := 1) (g := false) (ve_var 0) (MethV.cons T.k_Stale T.m_Stale_copied (ok_p_Stale_copied hP T) (by decide) T.b_p_Stale_copied (MethV.cons T.k_Back T.m_Back_copied (ok_p_Back_copied hP T) (by decide) T.b_p_Back_copied MethV.nil)) (hr.mono (by decide)) (fun z => absurd z Bool.false_ne_true) tk (va_val (ve_ix (ve_var 2) ve_int (fun _ _ => rfl)) (va_val (ve_var 3) va_nil))) va_nil))))) vss_nil) (vss_cons (vs_if (vt_cmp (o_eq hr.units) (ve_ix (ve_var 2) ve_int (fun _ _ => rfl)) ve_int (nomark _)) (vss_one (vs_ret (ve_meth (k := 2) (g := false) (ve_var 0) (MethV.cons T.k_Stale T.m_Stale_alone (ok_p_Watch_alone hP T) (by decide) T.b_p_Watch_alone (MethV.cons T.k_Back T.m_Back_alone (ok_p_Watch_alone hP T) (by decide) T.b_p_Watch_alone MethV.nil)) (hr.mono (by decide)) (fun z => absurd z Bool.false_ne_true) tk (va_val (ve_var 1) (va_val (ve_ix (ve_var 2) ve_int (fun _ _ => rfl)) (va_val (ve_var 3) va_nil)))))) vss_nil) (vss_one (vs_ret (ve_meth (k := 2) (g := false) (ve_var 0) (MethV.cons T.k_Stale T.m_Stale_within (ok_p_Watch_within hP T) (by decide) T.b_p_Watch_within (MethV.cons T.k_Back T.m_Back_within (ok_p_Watch_within hP T) (by decide) T.b_p_Watch_within MethV.nil)) (hr.mono (by decide)) (fun z => absurd z Bool.false_ne_true) tk (va_val (ve_var 1) (va_val (ve_var 2) (va_val (ve_var 3) va_nil))))))))))
theorem ok_pick (hP : HPf P) (T : Txt K mg) : VOk false P w K mg base 3 T.f_pick T.d_pick ["_law_pen_here", "_law_some"] ph_pick := PV.Fun.val T.t_pick sc_pick rfl fun cd A outer s H E hcd hr gd tk => (vss_one (vs_ret (ve_ix (ve_var 1) (ve_call (ok_draw hP T) (hr.mono (by decide)) (fun z => absurd z Bool.false_ne_true) tk (by rfl) T.g_draw T.t_draw.kp T.b_draw (va_slot 0 (va_val (ve_bf b_len (by rfl) T.n_len (by decide +kernel) (va_val (ve_var 1) va_nil)) va_nil))) (fun _ _ => rfl))))
theorem ok_pens (hP : HPf P) (T : Txt K mg) : FnOk P w K mg base (L2.CX P w) 3 T.f_pens T.d_pens ["_law_script", "_law_many"] (spPens K) := T.t_pens.okX sc_pens (fun vs H Q E h => by obtain ⟨a, ns, m, rfl, _⟩ := h; rfl) fun cd A outer s H vs Q E hr h =>
  ⟨_, pss_one (ps_ret (pe_lc (own := [("_law_k", 2)]) (g := gName 2) (tt := tYes) rfl sc_pens.nd (pi_range1 rfl T.n_range (pa_cons (show VE _ W0 _ (callB max2D (valA (cst (.int 1)) (valA (callB min2D (valA (callB lenD (valA (var 0) noA)) (valA (var 1) noA))) noA))) from
      ve_bf (b_max2 rfl) (by rfl) T.n_max (by decide +kernel) (va_val ve_int (va_val (ve_bf (b_min2 rfl) (by rfl) T.n_min (by decide +kernel) (va_val (ve_bf b_len (by rfl) T.n_len (by decide +kernel) (va_val (ve_var 0) va_nil)) (va_val (ve_var 1) va_nil))) va_nil))) pa_nil))
      (blkOk_by (N := ["_law_script", "_law_many", "_law_k"]) (sc := defScope s_pens) (by decide +kernel)) (fun _ _ _ _ _ => pg_name (i := 2) sc_pens.nd rfl (by first | exact Or.inl rfl | exact Or.inr rfl)) (fun _ _ _ _ _ => pts_nil)
      (fun _ _ _ _ _ => pe_callS (ok_pen hP T) (hr.mono (by decide)) (by rfl) T.g_pen T.t_pen.kp T.b_pen (fun σ => passAt takes0 σ) (pa_cons (pe_callS (ok_cell_at hP T).fn (hr.mono (by decide)) (by rfl) T.g_cell_at T.t_cell_at.kp T.b_cell_at (fun σ => passAt takes0 σ) (pa_cons (pv 0) (pa_cons (pv 2) pa_nil))) pa_nil)))),
    pens_read rfl (fun ns m => by simp [callB, valA, cst, var, noA, R.bind, R.of, peeks, peekA, lenD, min2D, max2D]; split <;> split <;> omega) h⟩

theorem ok_finals (hP : HPf P) (T : Txt K mg) : VOk false P w K mg base 3 T.f_finals T.d_finals ["_law_pen_here", "_law_many"] ph_finals := PV.Fun.val T.t_finals sc_finals rfl fun cd A outer s H E hcd hr gd tk => (vss_kill true [] (vss_one (vs_ret (ve_bty b_tuple (by rfl) T.n_tuple (by decide +kernel) (va_val (ve_new (vn_lc (own := [("_law_at", 2)]) rfl sc_finals.nd (vi_range1 (by rfl) T.n_range (va_val (ve_var 1) va_nil)) (blkOk_by (N := ["_law_pen_here", "_law_many", "_law_at"]) (sc := defScope s_finals) (by decide +kernel)) (by decide) (fun _ _ _ _ _ => (vg_name (i := 2) sc_finals.nd rfl (by first | exact Or.inl rfl | exact Or.inr rfl))) (fun _ _ _ _ _ => vts_one (vt_cmp o_igt (ve_call (ok_draw hP T) (hr.mono (by decide)) (fun z => absurd z Bool.false_ne_true) takes0 (by rfl) T.g_draw T.t_draw.kp T.b_draw (va_slot 0 (va_val ve_int va_nil))) ve_int (nomark _))) (fun _ _ _ _ _ => (ve_var 2)))) va_nil)))))
theorem ok_p_Watch_moves (hP : HPf P) (T : Txt K mg) : VOk false P w K mg base 4 T.f_p_Watch_moves T.d_p_Watch_moves ["self", "state"] ph_p_Watch_moves := PV.Fun.val T.t_p_Watch_moves sc_p_Watch_moves rfl fun cd A outer s H E hcd hr gd tk => (vss_kill true [] (vss_cons (vs_asg (ve_meth (k := 1) (g := false) (ve_var 0) (MethV.cons T.k_Stale T.m_Stale_told (ok_p_Stale_told hP T) (by decide) T.b_p_Stale_told (MethV.cons T.k_Back T.m_Back_told (ok_p_Back_told hP T) (by decide) T.b_p_Back_told MethV.nil)) (hr.mono (by decide)) (fun z => absurd z Bool.false_ne_true) tk (va_val (ve_slice (ve_var 1) (vo_some ve_int) (vo_some ve_int)) (va_val (ve_slice (ve_var 1) (vo_some ve_int) vo_none) va_nil))) (vg_tup (n := 2) rfl (vgs_cons (vg_name (i := 3) sc_p_Watch_moves.nd rfl (by first | exact Or.inl rfl | exact Or.inr rfl)) (vgs_cons (vg_name (i := 4) sc_p_Watch_moves.nd rfl (by first | exact Or.inl rfl | exact Or.inr rfl)) vgs_nil)))) (vss_cons (vs_own (i := 2) sc_p_Watch_moves.nd rfl (by first | exact Or.inl rfl | exact Or.inr rfl) (vn_lst (va_val (ve_tup (va_val (ve_glob (d := (.int (-1))) (v := (.int (-1))) (by rfl) T.c_OTHER ⟨_, rfl⟩ (fun _ => rfl)) (va_val (ve_tup (va_val (ve_ix (ve_var 1) ve_int (fun _ _ => rfl)) (va_star (ve_var 3) (va_star (ve_var 4) va_nil)))) va_nil))) va_nil))) (vss_cons (vs_pre [false, false, false, true, true, true, true, true] (vs_for (passes_of rfl) rfl (vi_enum (by rfl) T.n_enumerate (va_val (ve_ix (ve_fld ["Mirror"] (na_nodes T) (ve_fld ["Stale", "Back"] (na_graph T) (ve_var 0))) (ve_ix (ve_var 1) ve_int (fun _ _ => rfl)) (fun _ _ => rfl)) va_nil)) (vg_tup (n := 2) rfl (vgs_cons (vg_name (i := 5) sc_p_Watch_moves.nd rfl (by first | exact Or.inl rfl | exact Or.inr rfl)) (vgs_cons (vg_tup (n := 2) rfl (vgs_cons (vg_name (i := 6) sc_p_Watch_moves.nd rfl (by first | exact Or.inl rfl | exact Or.inr rfl)) (vgs_cons (vg_name (i := 7) sc_p_Watch_moves.nd rfl (by first | exact Or.inl rfl | exact Or.inr rfl)) vgs_nil))) vgs_nil))) (show VSs _ _ _ L_p_Watch_moves_1 from vss_kill true [false, false, false, true, true, true, true, true] (vss_cons (vs_asg (ve_meth (k := 3) (g := false) (ve_var 0) (MethV.cons T.k_Stale T.m_Stale_behind (ok_p_Watch_behind hP T) (by decide) T.b_p_Watch_behind (MethV.cons T.k_Back T.m_Back_behind (ok_p_Watch_behind hP T) (by decide) T.b_p_Watch_behind MethV.nil)) (hr.mono (by decide)) (fun z => absurd z Bool.false_ne_true) tk (va_val (ve_var 6) (va_val (ve_slice (ve_var 1) (vo_some ve_int) (vo_some ve_int)) (va_val (ve_slice (ve_var 1) (vo_some ve_int) vo_none) va_nil)))) (vg_tup (n := 2) rfl (vgs_cons (vg_name (i := 3) sc_p_Watch_moves.nd rfl (by first | exact Or.inl rfl | exact Or.inr rfl)) (vgs_cons (vg_name (i := 4) sc_p_Watch_moves.nd rfl (by first | exact Or.inl rfl | exact Or.inr rfl)) vgs_nil)))) (vss_one (vs_append 2 (ve_tup (va_val (ve_var 5) (va_val (ve_tup (va_val (ve_var 7) (va_star (ve_var 3) (va_star (ve_var 4) va_nil)))) va_nil))))))))) (vss_one (vs_ret (ve_var 2)))))))
theorem ok_mirror_step (hP : HPf P) (T : Txt K mg) : VOk false P w K mg base 4 T.f_mirror_step T.d_mirror_step ["_law_pen_here"] ph_mirror_step := PV.Fun.val T.t_mirror_step sc_mirror_step rfl fun cd A outer s H E hcd hr gd tk => (vss_kill true [] (vss_cons (vs_set (i := 1) sc_mirror_step.nd rfl (by first | exact Or.inl rfl | exact Or.inr rfl) (ve_new (vn_lst (va_val ve_str (va_val ve_str (va_val ve_str (va_val ve_str (va_val ve_str (va_val ve_str (va_val ve_str (va_val ve_str va_nil))))))))))) (vss_one (vs_ret (ve_call (ok_pick hP T) (hr.mono (by decide)) (fun z => absurd z Bool.false_ne_true) tk (by rfl) T.g_pick T.t_pick.kp T.b_pick (va_slot 0 (va_val (ve_op o_add (ve_var 1) (ve_new (vn_lst (va_val ve_str (va_val ve_str (va_val ve_str (va_val ve_str (va_val ve_str (va_val ve_str (va_val ve_str va_nil)))))))))) va_nil)))))))
theorem ok_p_Question_reached (hP : HPf P) (T : Txt K mg) : VOk false P w K mg base 5 T.f_p_Question_reached T.d_p_Question_reached ["self"] ph_p_Question_reached := PV.Fun.val T.t_p_Question_reached sc_p_Question_reached rfl fun cd A outer s H E hcd hr gd tk => (vss_kill true [] (vss_cons (vs_own (i := 1) sc_p_Question_reached.nd rfl (by first | exact Or.inl rfl | exact Or.inr rfl) (vn_dOneT (u1 hr.units) (ve_meth0 (k := 1) (g := false) (ve_var 0) (MethV.cons T.k_Stale T.m_Stale_first (ok_p_Question_first hP T) (by decide) T.b_p_Question_first (MethV.cons T.k_Back T.m_Back_first (ok_p_Question_first hP T) (by decide) T.b_p_Question_first MethV.nil)) (hr.mono (by decide)) (fun z => absurd z Bool.false_ne_true) tk) (ve_tup va_nil))) (vss_cons (vs_own (i := 2) sc_p_Question_reached.nd rfl (by first | exact Or.inl rfl | exact Or.inr rfl) (vn_lst (va_val (ve_meth0 (k := 1) (g := false) (ve_var 0) (MethV.cons T.k_Stale T.m_Stale_first (ok_p_Question_first hP T) (by decide) T.b_p_Question_first (MethV.cons T.k_Back T.m_Back_first (ok_p_Question_first hP T) (by decide) T.b_p_Question_first MethV.nil)) (hr.mono (by decide)) (fun z => absurd z Bool.false_ne_true) tk) va_nil))) (vss_cons (vs_set (i := 3) sc_p_Question_reached.nd rfl (by first | exact Or.inl rfl | exact Or.inr rfl) ve_int) (vss_cons (vs_while 4096 (passes_of rfl) (vt_cmp o_ilt (ve_var 3) (ve_bf b_len (by rfl) T.n_len (by decide +kernel) (va_slot 2 va_nil)) (nomark _)) (show VSs _ _ _ L_p_Question_reached_2 from vss_kill true [false, false, false, false, true, true] (vss_cons (vs_for (passes_of rfl) rfl (vi_seq (ve_meth (k := 4) (g := false) (ve_var 0) (MethV.cons T.k_Stale T.m_Stale_moves (ok_p_Watch_moves hP T) (by decide) T.b_p_Watch_moves (MethV.cons T.k_Back T.m_Back_moves (ok_p_Watch_moves hP T) (by decide) T.b_p_Watch_moves MethV.nil)) (hr.mono (by decide)) (fun z => absurd z Bool.false_ne_true) tk (va_val (ve_ixSl 2 (ve_var 3) (fun _ _ => rfl)) va_nil))) (vg_tup (n := 2) rfl (vgs_cons (vg_name (i := 4) sc_p_Question_reached.nd rfl (by first | exact Or.inl rfl | exact Or.inr rfl)) (vgs_cons (vg_name (i := 5) sc_p_Question_reached.nd rfl (by first | exact Or.inl rfl | exact Or.inr rfl)) vgs_nil))) (show VSs _ _ _ L_p_Question_reached_1 from vss_kill true [false, false, false, false, true, true] (vss_one (vs_if (vt_pc (vp_dnotinT (u1 hr.units) 1 (ve_var 5))) (vss_cons (vs_dputT (u1 hr.units) 1 (ve_tup (va_star (ve_dgetT (u1 hr.units) 1 (ve_ixSl 2 (ve_var 3) (fun _ _ => rfl)) (fun _ _ => rfl)) (va_val (ve_var 4) va_nil))) (ve_var 5)) (vss_one (vs_append 2 (ve_var 5)))) vss_nil)))) (vss_one (vs_aug (i := 3) sc_p_Question_reached.nd rfl (by first | exact Or.inl rfl | exact Or.inr rfl) ve_int (ip_int ip_add)))))) (vss_one (vs_ret (ve_lock 1))))))))
theorem ok_mirror_nodes (hP : HPf P) (T : Txt K mg) : VOk false P w K mg base 5 T.f_mirror_nodes T.d_mirror_nodes ["_law_pen_here", "_law_most"] ph_mirror_nodes := PV.Fun.val T.t_mirror_nodes sc_mirror_nodes rfl fun cd A outer s H E hcd hr gd tk => (vss_kill true [] (vss_cons (vs_parT (n := 3) rfl (gn_cons (i := 3) sc_mirror_nodes.nd rfl (by first | exact Or.inl rfl | exact Or.inr rfl) (gn_cons (i := 4) sc_mirror_nodes.nd rfl (by first | exact Or.inl rfl | exact Or.inr rfl) (gn_cons (i := 5) sc_mirror_nodes.nd rfl (by first | exact Or.inl rfl | exact Or.inr rfl) gn_nil))) (vl_val (ve_op o_add ve_int (ve_call (ok_draw hP T) (hr.mono (by decide)) (fun z => absurd z Bool.false_ne_true) tk (by rfl) T.g_draw T.t_draw.kp T.b_draw (va_slot 0 (va_val (ve_var 1) va_nil)))) (vl_own (vn_lst va_nil) (vl_val (ve_call (ok_draw hP T) (hr.mono (by decide)) (fun z => absurd z Bool.false_ne_true) tk (by rfl) T.g_draw T.t_draw.kp T.b_draw (va_slot 0 (va_val ve_int va_nil))) vl_nil)))) (vss_cons (vs_for (passes_of rfl) rfl (vi_range1 (by rfl) T.n_range (va_val (ve_var 3) va_nil)) (vg_name (i := 2) sc_mirror_nodes.nd rfl (by first | exact Or.inl rfl | exact Or.inr rfl)) (show VSs _ _ _ L_mirror_nodes_1 from vss_kill true [false, false, true, false, false, false, true, true, false] (vss_cons (vs_set (i := 6) sc_mirror_nodes.nd rfl (by first | exact Or.inl rfl | exact Or.inr rfl) (ve_call (ok_pick hP T) (hr.mono (by decide)) (fun z => absurd z Bool.false_ne_true) tk (by rfl) T.g_pick T.t_pick.kp T.b_pick (va_slot 0 (va_val (ve_new (vn_lst (va_val ve_int (va_val ve_int (va_val ve_int (va_val ve_int (va_val ve_int (va_val ve_int (va_val ve_int va_nil))))))))) va_nil)))) (vss_cons (vs_setLc (i := 7) (own := [("_law_lap", 8)]) rfl sc_mirror_nodes.nd rfl rfl (sw_true rfl rfl rfl (by decide +kernel)) (vi_range1 (by rfl) T.n_range (va_val (ve_var 6) va_nil)) (blkOk_by (N := ["_law_pen_here", "_law_most", "_law_at", "_law_many", "_law_nodes", "_law_line_here", "_law_wide", "_law_edges", "_law_lap"]) (sc := defScope s_mirror_nodes) (by decide +kernel)) (by decide) (fun _ _ _ _ _ => (vg_name (i := 8) sc_mirror_nodes.nd rfl (by first | exact Or.inl rfl | exact Or.inr rfl))) (fun _ _ _ _ _ => vts_nil) (fun _ _ _ _ _ => (ve_tup (va_val (ve_call (ok_mirror_step hP T) (hr.mono (by decide)) (fun z => absurd z Bool.false_ne_true) takes0 (by rfl) T.g_mirror_step T.t_mirror_step.kp T.b_mirror_step (va_slot 0 va_nil)) (va_val (ve_call (ok_draw hP T) (hr.mono (by decide)) (fun z => absurd z Bool.false_ne_true) takes0 (by rfl) T.g_draw T.t_draw.kp T.b_draw (va_slot 0 (va_val (ve_var 3) va_nil))) va_nil))))) (vss_cons (vs_if (vt_w (vw_and (vt_cmp (o_eq hr.units) (ve_var 5) ve_int (nomark _)) (vw_and1 (vt_cmp o_ilt (ve_op o_add (ve_var 2) ve_int) (ve_var 3) (nomark _))))) (vss_one (vs_set (i := 7) sc_mirror_nodes.nd rfl (by first | exact Or.inl rfl | exact Or.inr rfl) (ve_op o_add (ve_new (vn_lst (va_val (ve_tup (va_val (ve_call (ok_mirror_step hP T) (hr.mono (by decide)) (fun z => absurd z Bool.false_ne_true) tk (by rfl) T.g_mirror_step T.t_mirror_step.kp T.b_mirror_step (va_slot 0 va_nil)) (va_val (ve_op o_add (ve_var 2) ve_int) va_nil))) va_nil))) (ve_slice (ve_var 7) (vo_some ve_int) vo_none)))) vss_nil) (vss_one (vs_append 4 (ve_bty b_tuple (by rfl) T.n_tuple (by decide +kernel) (va_val (ve_var 7) va_nil))))))))) (vss_one (vs_ret (ve_bty b_tuple (by rfl) T.n_tuple (by decide +kernel) (va_slot 4 va_nil)))))))
theorem ok_line (hP : HPf P) (T : Txt K mg) : VOk false P w K mg base 5 T.f_line T.d_line ["_law_pen_here"] ph_line := PV.Fun.val T.t_line sc_line rfl fun cd A outer s H E hcd hr gd tk => (vss_kill true [] (vss_cons (vs_set (i := 1) sc_line.nd rfl (by first | exact Or.inl rfl | exact Or.inr rfl) (ve_call (ok_pick hP T) (hr.mono (by decide)) (fun z => absurd z Bool.false_ne_true) tk (by rfl) T.g_pick T.t_pick.kp T.b_pick (va_slot 0 (va_val (ve_new (vn_lst (va_val (ve_new (vn_lst (va_val ve_str (va_val ve_str va_nil)))) (va_val (ve_new (vn_lst (va_val ve_str (va_val ve_str (va_val ve_str (va_val ve_str va_nil)))))) (va_val (ve_new (vn_lst (va_val ve_str (va_val ve_str (va_val ve_str va_nil))))) va_nil))))) va_nil)))) (vss_cons (vs_set (i := 2) sc_line.nd rfl (by first | exact Or.inl rfl | exact Or.inr rfl) (ve_call (ok_draw hP T) (hr.mono (by decide)) (fun z => absurd z Bool.false_ne_true) tk (by rfl) T.g_draw T.t_draw.kp T.b_draw (va_slot 0 (va_val (ve_op o_add (ve_bf b_len (by rfl) T.n_len (by decide +kernel) (va_val (ve_var 1) va_nil)) ve_int) va_nil)))) (vss_cons (vs_set (i := 1) sc_line.nd rfl (by first | exact Or.inl rfl | exact Or.inr rfl) (ve_op o_add (ve_op o_add (ve_slice (ve_var 1) vo_none (vo_some (ve_var 2))) (ve_call (ok_pick hP T) (hr.mono (by decide)) (fun z => absurd z Bool.false_ne_true) tk (by rfl) T.g_pick T.t_pick.kp T.b_pick (va_slot 0 (va_val (ve_new (vn_lst (va_val (ve_new (vn_lst va_nil)) (va_val (ve_new (vn_lst (va_val (ve_call (ok_mirror_step hP T) (hr.mono (by decide)) (fun z => absurd z Bool.false_ne_true) tk (by rfl) T.g_mirror_step T.t_mirror_step.kp T.b_mirror_step (va_slot 0 va_nil)) va_nil))) va_nil)))) va_nil)))) (ve_slice (ve_var 1) (vo_some (ve_var 2)) vo_none))) (vss_cons (vs_setLc (i := 3) (own := [("_law_at", 2), ("_law_step", 4)]) rfl sc_line.nd rfl rfl (sw_true rfl rfl rfl (by decide +kernel)) (vi_enum (by rfl) T.n_enumerate (va_val (ve_var 1) va_nil)) (blkOk_by (N := ["_law_pen_here", "_law_steps", "_law_at", "_law_nodes", "_law_step"]) (sc := defScope s_line) (by decide +kernel)) (by decide) (fun _ _ _ _ _ => (vg_tup (n := 2) rfl (vgs_cons (vg_name (i := 2) sc_line.nd rfl (by first | exact Or.inl rfl | exact Or.inr rfl)) (vgs_cons (vg_name (i := 4) sc_line.nd rfl (by first | exact Or.inl rfl | exact Or.inr rfl)) vgs_nil)))) (fun _ _ _ _ _ => vts_nil) (fun _ _ _ _ _ => (ve_tup (va_val (ve_tup (va_val (ve_var 4) (va_val (ve_op o_add (ve_var 2) ve_int) va_nil))) va_nil)))) (vss_one (vs_ret (ve_op o_add (ve_bty b_tuple (by rfl) T.n_tuple (by decide +kernel) (va_val (ve_var 3) va_nil)) (ve_tup (va_val (ve_tup (va_val (ve_tup (va_val ve_str (va_val (ve_bf b_len (by rfl) T.n_len (by decide +kernel) (va_val (ve_var 1) va_nil)) va_nil))) (va_val (ve_tup (va_val (ve_call (ok_mirror_step hP T) (hr.mono (by decide)) (fun z => absurd z Bool.false_ne_true) tk (by rfl) T.g_mirror_step T.t_mirror_step.kp T.b_mirror_step (va_slot 0 va_nil)) (va_val ve_int va_nil))) va_nil))) va_nil))))))))))
theorem ok_p_Question_run (hP : HPf P) (T : Txt K mg) : VOk false P w K mg base 6 T.f_p_Question_run T.d_p_Question_run ["self"] ph_p_Question_run := PV.Fun.val T.t_p_Question_run sc_p_Question_run rfl fun cd A outer s H E hcd hr gd tk => (vss_kill true [] (vss_cons (vs_for (passes_of rfl) rfl (vi_itemsT (ve_meth0 (k := 5) (g := false) (ve_var 0) (MethV.cons T.k_Stale T.m_Stale_reached (ok_p_Question_reached hP T) (by decide) T.b_p_Question_reached (MethV.cons T.k_Back T.m_Back_reached (ok_p_Question_reached hP T) (by decide) T.b_p_Question_reached MethV.nil)) (hr.mono (by decide)) (fun z => absurd z Bool.false_ne_true) tk)) (vg_tup (n := 2) rfl (vgs_cons (vg_name (i := 1) sc_p_Question_run.nd rfl (by first | exact Or.inl rfl | exact Or.inr rfl)) (vgs_cons (vg_name (i := 2) sc_p_Question_run.nd rfl (by first | exact Or.inl rfl | exact Or.inr rfl)) vgs_nil))) (show VSs _ _ _ L_p_Question_run_1 from vss_kill true [false, true, true] (vss_one (vs_if (vt_val (ve_meth (k := 1) (g := false) (ve_var 0) (MethV.cons T.k_Stale T.m_Stale_is_bad (ok_p_Stale_is_bad hP T) (by decide) T.b_p_Stale_is_bad (MethV.cons T.k_Back T.m_Back_is_bad (ok_p_Back_is_bad hP T) (by decide) T.b_p_Back_is_bad MethV.nil)) (hr.mono (by decide)) (fun z => absurd z Bool.false_ne_true) tk (va_val (ve_var 1) va_nil))) (vss_one (vs_ret (ve_var 2))) vss_nil)))) (vss_one (vs_ret ve_non))))
theorem ok_p_Question_table (hP : HPf P) (T : Txt K mg) : VOk false P w K mg base 6 T.f_p_Question_table T.d_p_Question_table ["self"] ph_p_Question_table := PV.Fun.val T.t_p_Question_table sc_p_Question_table rfl fun cd A outer s H E hcd hr gd tk => (vss_kill true [] (vss_cons (vs_set (i := 1) sc_p_Question_table.nd rfl (by first | exact Or.inl rfl | exact Or.inr rfl) (ve_new (vn_bf (b_sortedT rfl) (by rfl) T.n_sorted (by decide +kernel) (va_val (ve_meth0 (k := 5) (g := false) (ve_var 0) (MethV.cons T.k_Stale T.m_Stale_reached (ok_p_Question_reached hP T) (by decide) T.b_p_Question_reached (MethV.cons T.k_Back T.m_Back_reached (ok_p_Question_reached hP T) (by decide) T.b_p_Question_reached MethV.nil)) (hr.mono (by decide)) (fun z => absurd z Bool.false_ne_true) tk) va_nil)))) (vss_one (vs_ret (ve_if (vt_val (ve_bf (b_any rfl) (by rfl) T.n_any (by decide +kernel) (va_val (ve_new (vn_lc (own := [("state", 2)]) rfl sc_p_Question_table.nd (vi_seq (ve_var 1)) (blkOk_by (N := ["self", "found", "state"]) (sc := defScope s_p_Question_table) (by decide +kernel)) (by decide) (fun _ _ _ _ _ => (vg_name (i := 2) sc_p_Question_table.nd rfl (by first | exact Or.inl rfl | exact Or.inr rfl))) (fun _ _ _ _ _ => vts_nil) (fun _ _ _ _ _ => (ve_meth (k := 1) (g := false) (ve_var 0) (MethV.cons T.k_Stale T.m_Stale_is_bad (ok_p_Stale_is_bad hP T) (by decide) T.b_p_Stale_is_bad (MethV.cons T.k_Back T.m_Back_is_bad (ok_p_Back_is_bad hP T) (by decide) T.b_p_Back_is_bad MethV.nil)) (hr.mono (by decide)) (fun z => absurd z Bool.false_ne_true) takes0 (va_val (ve_var 2) va_nil))))) va_nil))) ve_non (ve_bty b_tuple (by rfl) T.n_tuple (by decide +kernel) (va_val (ve_var 1) va_nil)))))))
theorem ok_right (hP : HPf P) (T : Txt K mg) : VOk false P w K mg base 7 T.f_right T.d_right ["_law_nodes", "_law_finals_here"] ph_right := PV.Fun.val T.t_right sc_right rfl fun cd A outer s H E hcd hr gd tk => (vss_kill true [] (vss_cons (vs_set (i := 2) sc_right.nd rfl (by first | exact Or.inl rfl | exact Or.inr rfl) (ve_new (vn_make T.mk_Mirror (ok_p_Mirror_init hP T) (hr.mono (by decide)) (fun z => absurd z Bool.false_ne_true) tk (by rfl) T.gK_Mirror T.k_Mirror.ns T.b_p_Mirror_init (va_val (ve_var 0) (va_val (ve_var 1) va_nil))))) (vss_cons (vs_set (i := 3) sc_right.nd rfl (by first | exact Or.inl rfl | exact Or.inr rfl) (ve_new (vn_lst (va_val (ve_meth0 (k := 6) (g := false) (ve_meth (k := 3) (g := false) (ve_var 2) (MethV.cons T.k_Mirror T.m_Mirror_question (ok_p_Mirror_question hP T) (by decide) T.b_p_Mirror_question MethV.nil) (hr.mono (by decide)) (fun z => absurd z Bool.false_ne_true) tk (va_val ve_str va_nil)) (MethV.cons T.k_Stale T.m_Stale_run (ok_p_Question_run hP T) (by decide) T.b_p_Question_run (MethV.cons T.k_Back T.m_Back_run (ok_p_Question_run hP T) (by decide) T.b_p_Question_run MethV.nil)) (hr.mono (by decide)) (fun z => absurd z Bool.false_ne_true) tk) (va_val (ve_meth0 (k := 6) (g := false) (ve_meth (k := 3) (g := false) (ve_var 2) (MethV.cons T.k_Mirror T.m_Mirror_question (ok_p_Mirror_question hP T) (by decide) T.b_p_Mirror_question MethV.nil) (hr.mono (by decide)) (fun z => absurd z Bool.false_ne_true) tk (va_val ve_str va_nil)) (MethV.cons T.k_Stale T.m_Stale_run (ok_p_Question_run hP T) (by decide) T.b_p_Question_run (MethV.cons T.k_Back T.m_Back_run (ok_p_Question_run hP T) (by decide) T.b_p_Question_run MethV.nil)) (hr.mono (by decide)) (fun z => absurd z Bool.false_ne_true) tk) va_nil))))) (vss_cons (vs_set (i := 4) sc_right.nd rfl (by first | exact Or.inl rfl | exact Or.inr rfl) (ve_new (vn_lst (va_val (ve_meth0 (k := 6) (g := false) (ve_meth (k := 3) (g := false) (ve_var 2) (MethV.cons T.k_Mirror T.m_Mirror_question (ok_p_Mirror_question hP T) (by decide) T.b_p_Mirror_question MethV.nil) (hr.mono (by decide)) (fun z => absurd z Bool.false_ne_true) tk (va_val ve_str va_nil)) (MethV.cons T.k_Stale T.m_Stale_table (ok_p_Question_table hP T) (by decide) T.b_p_Question_table (MethV.cons T.k_Back T.m_Back_table (ok_p_Question_table hP T) (by decide) T.b_p_Question_table MethV.nil)) (hr.mono (by decide)) (fun z => absurd z Bool.false_ne_true) tk) (va_val (ve_meth0 (k := 6) (g := false) (ve_meth (k := 3) (g := false) (ve_var 2) (MethV.cons T.k_Mirror T.m_Mirror_question (ok_p_Mirror_question hP T) (by decide) T.b_p_Mirror_question MethV.nil) (hr.mono (by decide)) (fun z => absurd z Bool.false_ne_true) tk (va_val ve_str va_nil)) (MethV.cons T.k_Stale T.m_Stale_table (ok_p_Question_table hP T) (by decide) T.b_p_Question_table (MethV.cons T.k_Back T.m_Back_table (ok_p_Question_table hP T) (by decide) T.b_p_Question_table MethV.nil)) (hr.mono (by decide)) (fun z => absurd z Bool.false_ne_true) tk) va_nil))))) (vss_cons (vs_if (vt_cmp (o_ne hr.units) (ve_new (vn_lc (own := [("_law_run", 5)]) rfl sc_right.nd (vi_seq (ve_var 3)) (blkOk_by (N := ["_law_nodes", "_law_finals_here", "_law_mirror", "_law_runs", "_law_tables", "_law_run", "_law_table"]) (sc := defScope s_right) (by decide +kernel)) (by decide) (fun _ _ _ _ _ => (vg_name (i := 5) sc_right.nd rfl (by first | exact Or.inl rfl | exact Or.inr rfl))) (fun _ _ _ _ _ => vts_nil) (fun _ _ _ _ _ => (ve_cmp o_isN (ve_var 5) ve_non (nomark _))))) (ve_new (vn_lc (own := [("_law_table", 6)]) rfl sc_right.nd (vi_seq (ve_var 4)) (blkOk_by (N := ["_law_nodes", "_law_finals_here", "_law_mirror", "_law_runs", "_law_tables", "_law_run", "_law_table"]) (sc := defScope s_right) (by decide +kernel)) (by decide) (fun _ _ _ _ _ => (vg_name (i := 6) sc_right.nd rfl (by first | exact Or.inl rfl | exact Or.inr rfl))) (fun _ _ _ _ _ => vts_nil) (fun _ _ _ _ _ => (ve_cmp o_notN (ve_var 6) ve_non (nomark _))))) (nomark _)) (vss_one (vs_ret ve_bl)) vss_nil) (vss_one (vs_ret (ve_or (ve_cmp (o_ne hr.units) (ve_var 3) (ve_new (vn_lst (va_val ve_non (va_val ve_non va_nil)))) (nomark _)) (ve_one (ve_not (ve_call (ok_can_rest hP T) (hr.mono (by decide)) (fun z => absurd z Bool.false_ne_true) tk (by rfl) T.g_can_rest T.t_can_rest.kp T.b_can_rest (va_val (ve_var 0) (va_val (ve_var 1) va_nil)))))))))))))
theorem ok_law (hP : HPf P) (T : Txt K mg) : VOk false P w K mg base 8 T.f_law T.d_law ["_law_script"] ph_law := PV.Fun.val T.t_law sc_law rfl fun cd A outer s H E hcd hr gd tk => (vss_kill true [] (vss_cons (PS.to (ps_for (passes_of rfl) rfl (pi_list (pe_callS (ok_pens hP T) (hr.mono (by decide)) (by rfl) T.g_pens T.t_pens.kp T.b_pens (fun σ => passAt tk σ) (pa_cons (pv 0) (pa_cons pe_int pa_nil)))) (pg_name (i := 1) sc_law.nd rfl (by first | exact Or.inl rfl | exact Or.inr rfl)) (show VSs _ _ _ L_law_2 from vss_kill true [false, true, true, true] (vss_one (vs_for (passes_of rfl) rfl (vi_range1 (by rfl) T.n_range (va_val ve_int va_nil)) (vg_name (i := 2) sc_law.nd rfl (by first | exact Or.inl rfl | exact Or.inr rfl)) (show VSs _ _ _ L_law_1 from vss_kill true [false, false, true, true] (vss_cons (vs_set (i := 3) sc_law.nd rfl (by first | exact Or.inl rfl | exact Or.inr rfl) (ve_call (ok_mirror_nodes hP T) (hr.mono (by decide)) (fun z => absurd z Bool.false_ne_true) tk (by rfl) T.g_mirror_nodes T.t_mirror_nodes.kp T.b_mirror_nodes (va_slot 1 (va_val ve_int va_nil)))) (vss_cons (vs_if (vt_not (vt_val (ve_call (ok_right hP T) (hr.mono (by decide)) (fun z => absurd z Bool.false_ne_true) tk (by rfl) T.g_right T.t_right.kp T.b_right (va_val (ve_var 3) (va_val (ve_call (ok_pick hP T) (hr.mono (by decide)) (fun z => absurd z Bool.false_ne_true) tk (by rfl) T.g_pick T.t_pick.kp T.b_pick (va_slot 1 (va_val (ve_new (vn_lst (va_val (ve_call (ok_finals hP T) (hr.mono (by decide)) (fun z => absurd z Bool.false_ne_true) tk (by rfl) T.g_finals T.t_finals.kp T.b_finals (va_slot 1 (va_val (ve_bf b_len (by rfl) T.n_len (by decide +kernel) (va_val (ve_var 3) va_nil)) va_nil))) (va_val (ve_tup (va_val (ve_op o_isub (ve_bf b_len (by rfl) T.n_len (by decide +kernel) (va_val (ve_var 3) va_nil)) ve_int) va_nil)) va_nil)))) va_nil))) va_nil))))) (vss_one (vs_ret ve_bl)) vss_nil) (vss_cons (vs_set (i := 3) sc_law.nd rfl (by first | exact Or.inl rfl | exact Or.inr rfl) (ve_call (ok_line hP T) (hr.mono (by decide)) (fun z => absurd z Bool.false_ne_true) tk (by rfl) T.g_line T.t_line.kp T.b_line (va_slot 1 va_nil))) (vss_one (vs_if (vt_not (vt_val (ve_call (ok_right hP T) (hr.mono (by decide)) (fun z => absurd z Bool.false_ne_true) tk (by rfl) T.g_right T.t_right.kp T.b_right (va_val (ve_var 3) (va_val (ve_tup (va_val (ve_op o_isub (ve_bf b_len (by rfl) T.n_len (by decide +kernel) (va_val (ve_var 3) va_nil)) ve_int) va_nil)) va_nil))))) (vss_one (vs_ret ve_bl)) vss_nil)))))))))) fun _ _ _ z => rd_pens z) (vss_one (vs_ret ve_bl))))
end
end K54

namespace K54
open PySem PySem.Spec PyProof.Rows L2 PV
theorem all_mk {l : PySem.W.OpenLaw} {q : Program} {w : World} {K : PySem.W.Frag} {h : Heap} {mg : Str → Option Value} {fa : Addr} (hP : HPf l.prog) (X : K.In h) (G : h.Ns mainGlobals mg) (hfa : mg "law" = some (.ref fa))
    {K_Mirror : Addr}
    {K_Stale : Addr}
    {K_Back : Addr}
    {C_InvalidGraph : Addr}
    {C_InvalidWay : Addr}
    {tk_MANY : Tok}
    {tk_MOST_EDGES : Tok}
    {tk_MOST_NODES : Tok}
    {tk_OTHER : Tok}
    {tk_READ : Tok}
    {a_STEPS : Addr} {od_STEPS : Option Addr} {n_STEPS : Nat} {sl_STEPS : Array (Option Value)} {tSTEPS_0 tSTEPS_1 tSTEPS_2 tSTEPS_3 tSTEPS_4 tSTEPS_5 tSTEPS_6 tSTEPS_7 : Tok}
    {f_p_is_between : Addr} {od_p_is_between an_p_is_between : Option Addr} {sl_p_is_between : Array (Option Value)} {oc_p_is_between kV_p_is_between dc_p_is_between pm_p_is_between cd_p_is_between ct_p_is_between : Value}
    {f_p_are_nodes : Addr} {od_p_are_nodes an_p_are_nodes : Option Addr} {sl_p_are_nodes : Array (Option Value)} {oc_p_are_nodes kV_p_are_nodes dc_p_are_nodes pm_p_are_nodes cd_p_are_nodes ct_p_are_nodes : Value}
    {f_p_are_finals : Addr} {od_p_are_finals an_p_are_finals : Option Addr} {sl_p_are_finals : Array (Option Value)} {oc_p_are_finals kV_p_are_finals dc_p_are_finals pm_p_are_finals cd_p_are_finals ct_p_are_finals : Value}
    {f_p_Graph_init : Addr} {od_p_Graph_init an_p_Graph_init : Option Addr} {sl_p_Graph_init : Array (Option Value)} {oc_p_Graph_init kV_p_Graph_init dc_p_Graph_init pm_p_Graph_init cd_p_Graph_init ct_p_Graph_init : Value}
    {f_p_Question_init : Addr} {od_p_Question_init an_p_Question_init : Option Addr} {sl_p_Question_init : Array (Option Value)} {oc_p_Question_init kV_p_Question_init dc_p_Question_init pm_p_Question_init cd_p_Question_init ct_p_Question_init : Value}
    {f_p_Question_first : Addr} {od_p_Question_first an_p_Question_first : Option Addr} {sl_p_Question_first : Array (Option Value)} {oc_p_Question_first kV_p_Question_first dc_p_Question_first pm_p_Question_first cd_p_Question_first ct_p_Question_first : Value}
    {f_p_Question_reached : Addr} {od_p_Question_reached an_p_Question_reached : Option Addr} {sl_p_Question_reached : Array (Option Value)} {oc_p_Question_reached kV_p_Question_reached dc_p_Question_reached pm_p_Question_reached cd_p_Question_reached ct_p_Question_reached : Value}
    {f_p_Question_run : Addr} {od_p_Question_run an_p_Question_run : Option Addr} {sl_p_Question_run : Array (Option Value)} {oc_p_Question_run kV_p_Question_run dc_p_Question_run pm_p_Question_run cd_p_Question_run ct_p_Question_run : Value}
    {f_p_Question_table : Addr} {od_p_Question_table an_p_Question_table : Option Addr} {sl_p_Question_table : Array (Option Value)} {oc_p_Question_table kV_p_Question_table dc_p_Question_table pm_p_Question_table cd_p_Question_table ct_p_Question_table : Value}
    {f_p_is_mirror_step : Addr} {od_p_is_mirror_step an_p_is_mirror_step : Option Addr} {sl_p_is_mirror_step : Array (Option Value)} {oc_p_is_mirror_step kV_p_is_mirror_step dc_p_is_mirror_step pm_p_is_mirror_step cd_p_is_mirror_step ct_p_is_mirror_step : Value}
    {f_p_Mirror_init : Addr} {od_p_Mirror_init an_p_Mirror_init : Option Addr} {sl_p_Mirror_init : Array (Option Value)} {oc_p_Mirror_init kV_p_Mirror_init dc_p_Mirror_init pm_p_Mirror_init ct_p_Mirror_init : Value}
    {cc_p_Mirror_init Dc_p_Mirror_init cda_p_Mirror_init : Addr} {ocl_p_Mirror_init : Value} {ocd_p_Mirror_init : Option Addr} {ocs_p_Mirror_init : Array (Option Value)} {cl2_p_Mirror_init : Value} {cd2_p_Mirror_init : Option Addr} {vs_p_Mirror_init : Array Value} {cs2_p_Mirror_init : Array (Option Value)} {tf_p_Mirror_init : Tok} {cdD_p_Mirror_init : ClassData}
    {cdC_p_Mirror_init_Mirror : ClassData}
    {f_p_Mirror_question : Addr} {od_p_Mirror_question an_p_Mirror_question : Option Addr} {sl_p_Mirror_question : Array (Option Value)} {oc_p_Mirror_question kV_p_Mirror_question dc_p_Mirror_question pm_p_Mirror_question cd_p_Mirror_question ct_p_Mirror_question : Value}
    {f_p_Watch_begun : Addr} {od_p_Watch_begun an_p_Watch_begun : Option Addr} {sl_p_Watch_begun : Array (Option Value)} {oc_p_Watch_begun kV_p_Watch_begun dc_p_Watch_begun pm_p_Watch_begun cd_p_Watch_begun ct_p_Watch_begun : Value}
    {f_p_Watch_lost : Addr} {od_p_Watch_lost an_p_Watch_lost : Option Addr} {sl_p_Watch_lost : Array (Option Value)} {oc_p_Watch_lost kV_p_Watch_lost dc_p_Watch_lost pm_p_Watch_lost cd_p_Watch_lost ct_p_Watch_lost : Value}
    {f_p_Watch_behind : Addr} {od_p_Watch_behind an_p_Watch_behind : Option Addr} {sl_p_Watch_behind : Array (Option Value)} {oc_p_Watch_behind kV_p_Watch_behind dc_p_Watch_behind pm_p_Watch_behind cd_p_Watch_behind ct_p_Watch_behind : Value}
    {f_p_Watch_alone : Addr} {od_p_Watch_alone an_p_Watch_alone : Option Addr} {sl_p_Watch_alone : Array (Option Value)} {oc_p_Watch_alone kV_p_Watch_alone dc_p_Watch_alone pm_p_Watch_alone cd_p_Watch_alone ct_p_Watch_alone : Value}
    {f_p_Watch_within : Addr} {od_p_Watch_within an_p_Watch_within : Option Addr} {sl_p_Watch_within : Array (Option Value)} {oc_p_Watch_within kV_p_Watch_within dc_p_Watch_within pm_p_Watch_within cd_p_Watch_within ct_p_Watch_within : Value}
    {f_p_Watch_moves : Addr} {od_p_Watch_moves an_p_Watch_moves : Option Addr} {sl_p_Watch_moves : Array (Option Value)} {oc_p_Watch_moves kV_p_Watch_moves dc_p_Watch_moves pm_p_Watch_moves cd_p_Watch_moves ct_p_Watch_moves : Value}
    {f_p_Stale_lost : Addr} {od_p_Stale_lost an_p_Stale_lost : Option Addr} {sl_p_Stale_lost : Array (Option Value)} {oc_p_Stale_lost kV_p_Stale_lost dc_p_Stale_lost pm_p_Stale_lost cd_p_Stale_lost ct_p_Stale_lost : Value}
    {f_p_Stale_copied : Addr} {od_p_Stale_copied an_p_Stale_copied : Option Addr} {sl_p_Stale_copied : Array (Option Value)} {oc_p_Stale_copied kV_p_Stale_copied dc_p_Stale_copied pm_p_Stale_copied cd_p_Stale_copied ct_p_Stale_copied : Value}
    {f_p_Stale_received : Addr} {od_p_Stale_received an_p_Stale_received : Option Addr} {sl_p_Stale_received : Array (Option Value)} {oc_p_Stale_received kV_p_Stale_received dc_p_Stale_received pm_p_Stale_received cd_p_Stale_received ct_p_Stale_received : Value}
    {f_p_Stale_told : Addr} {od_p_Stale_told an_p_Stale_told : Option Addr} {sl_p_Stale_told : Array (Option Value)} {oc_p_Stale_told kV_p_Stale_told dc_p_Stale_told pm_p_Stale_told cd_p_Stale_told ct_p_Stale_told : Value}
    {f_p_Stale_is_bad : Addr} {od_p_Stale_is_bad an_p_Stale_is_bad : Option Addr} {sl_p_Stale_is_bad : Array (Option Value)} {oc_p_Stale_is_bad kV_p_Stale_is_bad dc_p_Stale_is_bad pm_p_Stale_is_bad cd_p_Stale_is_bad ct_p_Stale_is_bad : Value}
    {f_p_Back_begun : Addr} {od_p_Back_begun an_p_Back_begun : Option Addr} {sl_p_Back_begun : Array (Option Value)} {oc_p_Back_begun kV_p_Back_begun dc_p_Back_begun pm_p_Back_begun cd_p_Back_begun ct_p_Back_begun : Value}
    {f_p_Back_copied : Addr} {od_p_Back_copied an_p_Back_copied : Option Addr} {sl_p_Back_copied : Array (Option Value)} {oc_p_Back_copied kV_p_Back_copied dc_p_Back_copied pm_p_Back_copied cd_p_Back_copied ct_p_Back_copied : Value}
    {f_p_Back_received : Addr} {od_p_Back_received an_p_Back_received : Option Addr} {sl_p_Back_received : Array (Option Value)} {oc_p_Back_received kV_p_Back_received dc_p_Back_received pm_p_Back_received cd_p_Back_received ct_p_Back_received : Value}
    {f_p_Back_told : Addr} {od_p_Back_told an_p_Back_told : Option Addr} {sl_p_Back_told : Array (Option Value)} {oc_p_Back_told kV_p_Back_told dc_p_Back_told pm_p_Back_told cd_p_Back_told ct_p_Back_told : Value}
    {f_p_Back_is_bad : Addr} {od_p_Back_is_bad an_p_Back_is_bad : Option Addr} {sl_p_Back_is_bad : Array (Option Value)} {oc_p_Back_is_bad kV_p_Back_is_bad dc_p_Back_is_bad pm_p_Back_is_bad cd_p_Back_is_bad ct_p_Back_is_bad : Value}
    {f_rest : Addr} {od_rest an_rest : Option Addr} {sl_rest : Array (Option Value)} {oc_rest kV_rest dc_rest pm_rest cd_rest ct_rest : Value}
    {f_draw : Addr} {od_draw an_draw : Option Addr} {sl_draw : Array (Option Value)} {oc_draw kV_draw dc_draw pm_draw cd_draw ct_draw : Value}
    {f_pick : Addr} {od_pick an_pick : Option Addr} {sl_pick : Array (Option Value)} {oc_pick kV_pick dc_pick pm_pick cd_pick ct_pick : Value}
    {f_mirror_step : Addr} {od_mirror_step an_mirror_step : Option Addr} {sl_mirror_step : Array (Option Value)} {oc_mirror_step kV_mirror_step dc_mirror_step pm_mirror_step cd_mirror_step ct_mirror_step : Value}
    {f_pen : Addr} {od_pen an_pen : Option Addr} {sl_pen : Array (Option Value)} {oc_pen kV_pen dc_pen pm_pen cd_pen ct_pen : Value}
    {f_cell_at : Addr} {od_cell_at an_cell_at : Option Addr} {sl_cell_at : Array (Option Value)} {oc_cell_at kV_cell_at dc_cell_at pm_cell_at cd_cell_at ct_cell_at : Value}
    {f_pens : Addr} {od_pens an_pens : Option Addr} {sl_pens : Array (Option Value)} {oc_pens kV_pens dc_pens pm_pens cd_pens ct_pens : Value}
    {f_mirror_nodes : Addr} {od_mirror_nodes an_mirror_nodes : Option Addr} {sl_mirror_nodes : Array (Option Value)} {oc_mirror_nodes kV_mirror_nodes dc_mirror_nodes pm_mirror_nodes cd_mirror_nodes ct_mirror_nodes : Value}
    {f_finals : Addr} {od_finals an_finals : Option Addr} {sl_finals : Array (Option Value)} {oc_finals kV_finals dc_finals pm_finals cd_finals ct_finals : Value}
    {f_can_rest : Addr} {od_can_rest an_can_rest : Option Addr} {sl_can_rest : Array (Option Value)} {oc_can_rest kV_can_rest dc_can_rest pm_can_rest cd_can_rest ct_can_rest : Value}
    {f_line : Addr} {od_line an_line : Option Addr} {sl_line : Array (Option Value)} {oc_line kV_line dc_line pm_line cd_line ct_line : Value}
    {f_right : Addr} {od_right an_right : Option Addr} {sl_right : Array (Option Value)} {oc_right kV_right dc_right pm_right cd_right ct_right : Value}
    {f_law : Addr} {od_law an_law : Option Addr} {sl_law : Array (Option Value)} {oc_law kV_law dc_law pm_law cd_law ct_law : Value}
    (kn_Mirror : PySem.W.nsIn K mainGlobals "Mirror" = some (some (.ref K_Mirror)))
    (kg_Mirror : PySem.W.plainGet K K_Mirror Str.empty = true)
    (kd_Mirror : PySem.W.hasDictIn K K_Mirror = true)
    (ko_Mirror : PySem.W.plainOver K K_Mirror = true)
    (ks_Mirror : PySem.W.findIn K (.ref K_Mirror) "__setattr__" = some (some (.builtin "object.__setattr__")))
    (kc_Mirror : PySem.W.findIn K (.ref K_Mirror) "__class__" = some (some (.builtin "object.__class__")))
    (km_Mirror : PySem.W.mroIn K K_Mirror (.type "object") = some true)
    (ki_Mirror : PySem.W.findIn K (.ref K_Mirror) "__init__" = some (some (.ref f_p_Mirror_init)))
    (kk_Mirror : PySem.W.makesIn K K_Mirror = true)
    (kp_Mirror : PySem.W.keepIn K (.ref K_Mirror) = true)
    (kn_Stale : PySem.W.nsIn K mainGlobals "Stale" = some (some (.ref K_Stale)))
    (kg_Stale : PySem.W.plainGet K K_Stale Str.empty = true)
    (kd_Stale : PySem.W.hasDictIn K K_Stale = true)
    (ko_Stale : PySem.W.plainOver K K_Stale = true)
    (ks_Stale : PySem.W.findIn K (.ref K_Stale) "__setattr__" = some (some (.builtin "object.__setattr__")))
    (kc_Stale : PySem.W.findIn K (.ref K_Stale) "__class__" = some (some (.builtin "object.__class__")))
    (km_Stale : PySem.W.mroIn K K_Stale (.type "object") = some true)
    (ki_Stale : PySem.W.findIn K (.ref K_Stale) "__init__" = some (some (.ref f_p_Question_init)))
    (kk_Stale : PySem.W.makesIn K K_Stale = true)
    (kp_Stale : PySem.W.keepIn K (.ref K_Stale) = true)
    (kn_Back : PySem.W.nsIn K mainGlobals "Back" = some (some (.ref K_Back)))
    (kg_Back : PySem.W.plainGet K K_Back Str.empty = true)
    (kd_Back : PySem.W.hasDictIn K K_Back = true)
    (ko_Back : PySem.W.plainOver K K_Back = true)
    (ks_Back : PySem.W.findIn K (.ref K_Back) "__setattr__" = some (some (.builtin "object.__setattr__")))
    (kc_Back : PySem.W.findIn K (.ref K_Back) "__class__" = some (some (.builtin "object.__class__")))
    (km_Back : PySem.W.mroIn K K_Back (.type "object") = some true)
    (ki_Back : PySem.W.findIn K (.ref K_Back) "__init__" = some (some (.ref f_p_Question_init)))
    (kk_Back : PySem.W.makesIn K K_Back = true)
    (kp_Back : PySem.W.keepIn K (.ref K_Back) = true)
    (na_Back_graph : PySem.W.findIn K (.ref K_Back) "graph" = some none)
    (na_Mirror_finals : PySem.W.findIn K (.ref K_Mirror) "finals" = some none)
    (na_Mirror_nodes : PySem.W.findIn K (.ref K_Mirror) "nodes" = some none)
    (na_Stale_graph : PySem.W.findIn K (.ref K_Stale) "graph" = some none)
    (mt_Back_alone : PySem.W.findIn K (.ref K_Back) "alone" = some (some (.ref f_p_Watch_alone)))
    (mt_Back_begun : PySem.W.findIn K (.ref K_Back) "begun" = some (some (.ref f_p_Back_begun)))
    (mt_Back_behind : PySem.W.findIn K (.ref K_Back) "behind" = some (some (.ref f_p_Watch_behind)))
    (mt_Back_copied : PySem.W.findIn K (.ref K_Back) "copied" = some (some (.ref f_p_Back_copied)))
    (mt_Back_first : PySem.W.findIn K (.ref K_Back) "first" = some (some (.ref f_p_Question_first)))
    (mt_Back_is_bad : PySem.W.findIn K (.ref K_Back) "is_bad" = some (some (.ref f_p_Back_is_bad)))
    (mt_Back_lost : PySem.W.findIn K (.ref K_Back) "lost" = some (some (.ref f_p_Watch_lost)))
    (mt_Back_moves : PySem.W.findIn K (.ref K_Back) "moves" = some (some (.ref f_p_Watch_moves)))
    (mt_Back_reached : PySem.W.findIn K (.ref K_Back) "reached" = some (some (.ref f_p_Question_reached)))
    (mt_Back_received : PySem.W.findIn K (.ref K_Back) "received" = some (some (.ref f_p_Back_received)))
    (mt_Back_run : PySem.W.findIn K (.ref K_Back) "run" = some (some (.ref f_p_Question_run)))
    (mt_Back_table : PySem.W.findIn K (.ref K_Back) "table" = some (some (.ref f_p_Question_table)))
    (mt_Back_told : PySem.W.findIn K (.ref K_Back) "told" = some (some (.ref f_p_Back_told)))
    (mt_Back_within : PySem.W.findIn K (.ref K_Back) "within" = some (some (.ref f_p_Watch_within)))
    (mt_Mirror_question : PySem.W.findIn K (.ref K_Mirror) "question" = some (some (.ref f_p_Mirror_question)))
    (mt_Stale_alone : PySem.W.findIn K (.ref K_Stale) "alone" = some (some (.ref f_p_Watch_alone)))
    (mt_Stale_begun : PySem.W.findIn K (.ref K_Stale) "begun" = some (some (.ref f_p_Watch_begun)))
    (mt_Stale_behind : PySem.W.findIn K (.ref K_Stale) "behind" = some (some (.ref f_p_Watch_behind)))
    (mt_Stale_copied : PySem.W.findIn K (.ref K_Stale) "copied" = some (some (.ref f_p_Stale_copied)))
    (mt_Stale_first : PySem.W.findIn K (.ref K_Stale) "first" = some (some (.ref f_p_Question_first)))
    (mt_Stale_is_bad : PySem.W.findIn K (.ref K_Stale) "is_bad" = some (some (.ref f_p_Stale_is_bad)))
    (mt_Stale_lost : PySem.W.findIn K (.ref K_Stale) "lost" = some (some (.ref f_p_Stale_lost)))
    (mt_Stale_moves : PySem.W.findIn K (.ref K_Stale) "moves" = some (some (.ref f_p_Watch_moves)))
    (mt_Stale_reached : PySem.W.findIn K (.ref K_Stale) "reached" = some (some (.ref f_p_Question_reached)))
    (mt_Stale_received : PySem.W.findIn K (.ref K_Stale) "received" = some (some (.ref f_p_Stale_received)))
    (mt_Stale_run : PySem.W.findIn K (.ref K_Stale) "run" = some (some (.ref f_p_Question_run)))
    (mt_Stale_table : PySem.W.findIn K (.ref K_Stale) "table" = some (some (.ref f_p_Question_table)))
    (mt_Stale_told : PySem.W.findIn K (.ref K_Stale) "told" = some (some (.ref f_p_Stale_told)))
    (mt_Stale_within : PySem.W.findIn K (.ref K_Stale) "within" = some (some (.ref f_p_Watch_within)))
    (en_InvalidGraph : PySem.W.nsIn K mainGlobals "InvalidGraph" = some (some (.ref C_InvalidGraph)))
    (ex_InvalidGraph : PySem.W.excIn K C_InvalidGraph [.type "ValueError", .type "Exception", .type "BaseException", .type "object"] "ValueError.__new__" = true)
    (ek_InvalidGraph : PySem.W.keepIn K (.ref C_InvalidGraph) = true)
    (eb_InvalidGraph : PySem.W.subIn K (.ref C_InvalidGraph) (.type "BaseException") = some true)
    (et_InvalidGraph : PySem.W.typeIn K (.ref C_InvalidGraph) = some (.type "type"))
    (en_InvalidWay : PySem.W.nsIn K mainGlobals "InvalidWay" = some (some (.ref C_InvalidWay)))
    (ex_InvalidWay : PySem.W.excIn K C_InvalidWay [.type "ValueError", .type "Exception", .type "BaseException", .type "object"] "ValueError.__new__" = true)
    (ek_InvalidWay : PySem.W.keepIn K (.ref C_InvalidWay) = true)
    (eb_InvalidWay : PySem.W.subIn K (.ref C_InvalidWay) (.type "BaseException") = some true)
    (et_InvalidWay : PySem.W.typeIn K (.ref C_InvalidWay) = some (.type "type"))
    (z_all : PySem.W.nsIn K mainGlobals "all" = some none)
    (z_any : PySem.W.nsIn K mainGlobals "any" = some none)
    (z_bool : PySem.W.nsIn K mainGlobals "bool" = some none)
    (z_enumerate : PySem.W.nsIn K mainGlobals "enumerate" = some none)
    (z_int : PySem.W.nsIn K mainGlobals "int" = some none)
    (z_isinstance : PySem.W.nsIn K mainGlobals "isinstance" = some none)
    (z_len : PySem.W.nsIn K mainGlobals "len" = some none)
    (z_max : PySem.W.nsIn K mainGlobals "max" = some none)
    (z_min : PySem.W.nsIn K mainGlobals "min" = some none)
    (z_range : PySem.W.nsIn K mainGlobals "range" = some none)
    (z_sorted : PySem.W.nsIn K mainGlobals "sorted" = some none)
    (z_str : PySem.W.nsIn K mainGlobals "str" = some none)
    (z_super : PySem.W.nsIn K mainGlobals "super" = some none)
    (zst_any : PySem.W.nsIn K cStatics "thirdparty.any" = some none)
    (z_tuple : PySem.W.nsIn K mainGlobals "tuple" = some none)
    (z_zip : PySem.W.nsIn K mainGlobals "zip" = some none)
    (q_MANY : PySem.W.nsIn K mainGlobals "MANY" = some (some (.int 2 tk_MANY)))
    (q_MOST_EDGES : PySem.W.nsIn K mainGlobals "MOST_EDGES" = some (some (.int 3 tk_MOST_EDGES)))
    (q_MOST_NODES : PySem.W.nsIn K mainGlobals "MOST_NODES" = some (some (.int 6 tk_MOST_NODES)))
    (q_OTHER : PySem.W.nsIn K mainGlobals "OTHER" = some (some (.int (-1) tk_OTHER)))
    (q_READ : PySem.W.nsIn K mainGlobals "READ" = some (some (.str "read" tk_READ)))
    (q_STEPS : PySem.W.nsIn K mainGlobals "STEPS" = some (some (.ref a_STEPS)))
    (ql_STEPS : K.lookup a_STEPS = some ⟨.type "tuple", od_STEPS, .seq #[.str "begin" tSTEPS_0, .str "commit" tSTEPS_1, .str "rollback" tSTEPS_2, .str "listen" tSTEPS_3, .str "unlisten" tSTEPS_4, .str "read" tSTEPS_5, .str "receive" tSTEPS_6, .str "disconnect" tSTEPS_7] n_STEPS, sl_STEPS⟩)
    (l_p_Mirror_init : K.lookup f_p_Mirror_init = some ⟨oc_p_Mirror_init, od_p_Mirror_init, .func (PySem.W.fnX "__init__" "Mirror.__init__" (defArgs s_p_Mirror_init) (defBody s_p_Mirror_init) (defScope s_p_Mirror_init) [("__class__", cc_p_Mirror_init)] .none kV_p_Mirror_init dc_p_Mirror_init pm_p_Mirror_init an_p_Mirror_init (.ref cda_p_Mirror_init) ct_p_Mirror_init), sl_p_Mirror_init⟩)
    (c_p_Mirror_init : PySem.W.codeIn K (.ref cda_p_Mirror_init) "Mirror.__init__" = true)
    (k_p_Mirror_init : PySem.W.keepIn K (.ref f_p_Mirror_init) = true)
    (u_p_Mirror_init : K.lookup cc_p_Mirror_init = some ⟨ocl_p_Mirror_init, ocd_p_Mirror_init, .cell (some (.ref Dc_p_Mirror_init)), ocs_p_Mirror_init⟩)
    (w_p_Mirror_init : K.lookup cda_p_Mirror_init = some ⟨cl2_p_Mirror_init, cd2_p_Mirror_init, .fields vs_p_Mirror_init, cs2_p_Mirror_init⟩)
    (x_p_Mirror_init : vs_p_Mirror_init[2]? = some (.str file tf_p_Mirror_init))
    (y_p_Mirror_init : PySem.W.clsIn K Dc_p_Mirror_init = some cdD_p_Mirror_init)
    (sc1_p_Mirror_init_Mirror : PySem.W.clsIn K K_Mirror = some cdC_p_Mirror_init_Mirror)
    (sc2_p_Mirror_init_Mirror : PySem.W.mroIn K K_Mirror (.ref Dc_p_Mirror_init) = some true)
    (sc3_p_Mirror_init_Mirror : PySem.W.ks_superIn K K_Mirror Dc_p_Mirror_init "__init__" = some (some (.ref f_p_Graph_init)))
    (a_p_is_between : PySem.W.nsIn K mainGlobals "is_between" = some (some (.ref f_p_is_between)))
    (l_p_is_between : K.lookup f_p_is_between = some ⟨oc_p_is_between, od_p_is_between, .func (PySem.W.fnOf "is_between" "is_between" (defArgs s_p_is_between) (defBody s_p_is_between) (defScope s_p_is_between) .none kV_p_is_between dc_p_is_between pm_p_is_between an_p_is_between cd_p_is_between ct_p_is_between), sl_p_is_between⟩)
    (c_p_is_between : PySem.W.codeIn K cd_p_is_between "is_between" = true)
    (k_p_is_between : PySem.W.keepIn K (.ref f_p_is_between) = true)
    (a_p_are_nodes : PySem.W.nsIn K mainGlobals "are_nodes" = some (some (.ref f_p_are_nodes)))
    (l_p_are_nodes : K.lookup f_p_are_nodes = some ⟨oc_p_are_nodes, od_p_are_nodes, .func (PySem.W.fnOf "are_nodes" "are_nodes" (defArgs s_p_are_nodes) (defBody s_p_are_nodes) (defScope s_p_are_nodes) .none kV_p_are_nodes dc_p_are_nodes pm_p_are_nodes an_p_are_nodes cd_p_are_nodes ct_p_are_nodes), sl_p_are_nodes⟩)
    (c_p_are_nodes : PySem.W.codeIn K cd_p_are_nodes "are_nodes" = true)
    (k_p_are_nodes : PySem.W.keepIn K (.ref f_p_are_nodes) = true)
    (a_p_are_finals : PySem.W.nsIn K mainGlobals "are_finals" = some (some (.ref f_p_are_finals)))
    (l_p_are_finals : K.lookup f_p_are_finals = some ⟨oc_p_are_finals, od_p_are_finals, .func (PySem.W.fnOf "are_finals" "are_finals" (defArgs s_p_are_finals) (defBody s_p_are_finals) (defScope s_p_are_finals) .none kV_p_are_finals dc_p_are_finals pm_p_are_finals an_p_are_finals cd_p_are_finals ct_p_are_finals), sl_p_are_finals⟩)
    (c_p_are_finals : PySem.W.codeIn K cd_p_are_finals "are_finals" = true)
    (k_p_are_finals : PySem.W.keepIn K (.ref f_p_are_finals) = true)
    (fn_p_Graph_init : PySem.W.isFn K (.ref f_p_Graph_init) = true)
    (l_p_Graph_init : K.lookup f_p_Graph_init = some ⟨oc_p_Graph_init, od_p_Graph_init, .func (PySem.W.fnOf "__init__" "Graph.__init__" (defArgs s_p_Graph_init) (defBody s_p_Graph_init) (defScope s_p_Graph_init) .none kV_p_Graph_init dc_p_Graph_init pm_p_Graph_init an_p_Graph_init cd_p_Graph_init ct_p_Graph_init), sl_p_Graph_init⟩)
    (c_p_Graph_init : PySem.W.codeIn K cd_p_Graph_init "Graph.__init__" = true)
    (k_p_Graph_init : PySem.W.keepIn K (.ref f_p_Graph_init) = true)
    (fn_p_Question_init : PySem.W.isFn K (.ref f_p_Question_init) = true)
    (l_p_Question_init : K.lookup f_p_Question_init = some ⟨oc_p_Question_init, od_p_Question_init, .func (PySem.W.fnOf "__init__" "Question.__init__" (defArgs s_p_Question_init) (defBody s_p_Question_init) (defScope s_p_Question_init) .none kV_p_Question_init dc_p_Question_init pm_p_Question_init an_p_Question_init cd_p_Question_init ct_p_Question_init), sl_p_Question_init⟩)
    (c_p_Question_init : PySem.W.codeIn K cd_p_Question_init "Question.__init__" = true)
    (k_p_Question_init : PySem.W.keepIn K (.ref f_p_Question_init) = true)
    (fn_p_Question_first : PySem.W.isFn K (.ref f_p_Question_first) = true)
    (l_p_Question_first : K.lookup f_p_Question_first = some ⟨oc_p_Question_first, od_p_Question_first, .func (PySem.W.fnOf "first" "Question.first" (defArgs s_p_Question_first) (defBody s_p_Question_first) (defScope s_p_Question_first) .none kV_p_Question_first dc_p_Question_first pm_p_Question_first an_p_Question_first cd_p_Question_first ct_p_Question_first), sl_p_Question_first⟩)
    (c_p_Question_first : PySem.W.codeIn K cd_p_Question_first "Question.first" = true)
    (k_p_Question_first : PySem.W.keepIn K (.ref f_p_Question_first) = true)
    (fn_p_Question_reached : PySem.W.isFn K (.ref f_p_Question_reached) = true)
    (l_p_Question_reached : K.lookup f_p_Question_reached = some ⟨oc_p_Question_reached, od_p_Question_reached, .func (PySem.W.fnOf "reached" "Question.reached" (defArgs s_p_Question_reached) (defBody s_p_Question_reached) (defScope s_p_Question_reached) .none kV_p_Question_reached dc_p_Question_reached pm_p_Question_reached an_p_Question_reached cd_p_Question_reached ct_p_Question_reached), sl_p_Question_reached⟩)
    (c_p_Question_reached : PySem.W.codeIn K cd_p_Question_reached "Question.reached" = true)
    (k_p_Question_reached : PySem.W.keepIn K (.ref f_p_Question_reached) = true)
    (fn_p_Question_run : PySem.W.isFn K (.ref f_p_Question_run) = true)
    (l_p_Question_run : K.lookup f_p_Question_run = some ⟨oc_p_Question_run, od_p_Question_run, .func (PySem.W.fnOf "run" "Question.run" (defArgs s_p_Question_run) (defBody s_p_Question_run) (defScope s_p_Question_run) .none kV_p_Question_run dc_p_Question_run pm_p_Question_run an_p_Question_run cd_p_Question_run ct_p_Question_run), sl_p_Question_run⟩)
    (c_p_Question_run : PySem.W.codeIn K cd_p_Question_run "Question.run" = true)
    (k_p_Question_run : PySem.W.keepIn K (.ref f_p_Question_run) = true)
    (fn_p_Question_table : PySem.W.isFn K (.ref f_p_Question_table) = true)
    (l_p_Question_table : K.lookup f_p_Question_table = some ⟨oc_p_Question_table, od_p_Question_table, .func (PySem.W.fnOf "table" "Question.table" (defArgs s_p_Question_table) (defBody s_p_Question_table) (defScope s_p_Question_table) .none kV_p_Question_table dc_p_Question_table pm_p_Question_table an_p_Question_table cd_p_Question_table ct_p_Question_table), sl_p_Question_table⟩)
    (c_p_Question_table : PySem.W.codeIn K cd_p_Question_table "Question.table" = true)
    (k_p_Question_table : PySem.W.keepIn K (.ref f_p_Question_table) = true)
    (a_p_is_mirror_step : PySem.W.nsIn K mainGlobals "is_mirror_step" = some (some (.ref f_p_is_mirror_step)))
    (l_p_is_mirror_step : K.lookup f_p_is_mirror_step = some ⟨oc_p_is_mirror_step, od_p_is_mirror_step, .func (PySem.W.fnOf "is_mirror_step" "is_mirror_step" (defArgs s_p_is_mirror_step) (defBody s_p_is_mirror_step) (defScope s_p_is_mirror_step) .none kV_p_is_mirror_step dc_p_is_mirror_step pm_p_is_mirror_step an_p_is_mirror_step cd_p_is_mirror_step ct_p_is_mirror_step), sl_p_is_mirror_step⟩)
    (c_p_is_mirror_step : PySem.W.codeIn K cd_p_is_mirror_step "is_mirror_step" = true)
    (k_p_is_mirror_step : PySem.W.keepIn K (.ref f_p_is_mirror_step) = true)
    (fn_p_Mirror_init : PySem.W.isFn K (.ref f_p_Mirror_init) = true)
    (fi_p_Mirror_init : PySem.W.fnIn K f_p_Graph_init = true)
    (fn_p_Mirror_question : PySem.W.isFn K (.ref f_p_Mirror_question) = true)
    (l_p_Mirror_question : K.lookup f_p_Mirror_question = some ⟨oc_p_Mirror_question, od_p_Mirror_question, .func (PySem.W.fnOf "question" "Mirror.question" (defArgs s_p_Mirror_question) (defBody s_p_Mirror_question) (defScope s_p_Mirror_question) .none kV_p_Mirror_question dc_p_Mirror_question pm_p_Mirror_question an_p_Mirror_question cd_p_Mirror_question ct_p_Mirror_question), sl_p_Mirror_question⟩)
    (c_p_Mirror_question : PySem.W.codeIn K cd_p_Mirror_question "Mirror.question" = true)
    (k_p_Mirror_question : PySem.W.keepIn K (.ref f_p_Mirror_question) = true)
    (fn_p_Watch_begun : PySem.W.isFn K (.ref f_p_Watch_begun) = true)
    (l_p_Watch_begun : K.lookup f_p_Watch_begun = some ⟨oc_p_Watch_begun, od_p_Watch_begun, .func (PySem.W.fnOf "begun" "Watch.begun" (defArgs s_p_Watch_begun) (defBody s_p_Watch_begun) (defScope s_p_Watch_begun) .none kV_p_Watch_begun dc_p_Watch_begun pm_p_Watch_begun an_p_Watch_begun cd_p_Watch_begun ct_p_Watch_begun), sl_p_Watch_begun⟩)
    (c_p_Watch_begun : PySem.W.codeIn K cd_p_Watch_begun "Watch.begun" = true)
    (k_p_Watch_begun : PySem.W.keepIn K (.ref f_p_Watch_begun) = true)
    (fn_p_Watch_lost : PySem.W.isFn K (.ref f_p_Watch_lost) = true)
    (l_p_Watch_lost : K.lookup f_p_Watch_lost = some ⟨oc_p_Watch_lost, od_p_Watch_lost, .func (PySem.W.fnOf "lost" "Watch.lost" (defArgs s_p_Watch_lost) (defBody s_p_Watch_lost) (defScope s_p_Watch_lost) .none kV_p_Watch_lost dc_p_Watch_lost pm_p_Watch_lost an_p_Watch_lost cd_p_Watch_lost ct_p_Watch_lost), sl_p_Watch_lost⟩)
    (c_p_Watch_lost : PySem.W.codeIn K cd_p_Watch_lost "Watch.lost" = true)
    (k_p_Watch_lost : PySem.W.keepIn K (.ref f_p_Watch_lost) = true)
    (fn_p_Watch_behind : PySem.W.isFn K (.ref f_p_Watch_behind) = true)
    (l_p_Watch_behind : K.lookup f_p_Watch_behind = some ⟨oc_p_Watch_behind, od_p_Watch_behind, .func (PySem.W.fnOf "behind" "Watch.behind" (defArgs s_p_Watch_behind) (defBody s_p_Watch_behind) (defScope s_p_Watch_behind) .none kV_p_Watch_behind dc_p_Watch_behind pm_p_Watch_behind an_p_Watch_behind cd_p_Watch_behind ct_p_Watch_behind), sl_p_Watch_behind⟩)
    (c_p_Watch_behind : PySem.W.codeIn K cd_p_Watch_behind "Watch.behind" = true)
    (k_p_Watch_behind : PySem.W.keepIn K (.ref f_p_Watch_behind) = true)
    (fn_p_Watch_alone : PySem.W.isFn K (.ref f_p_Watch_alone) = true)
    (l_p_Watch_alone : K.lookup f_p_Watch_alone = some ⟨oc_p_Watch_alone, od_p_Watch_alone, .func (PySem.W.fnOf "alone" "Watch.alone" (defArgs s_p_Watch_alone) (defBody s_p_Watch_alone) (defScope s_p_Watch_alone) .none kV_p_Watch_alone dc_p_Watch_alone pm_p_Watch_alone an_p_Watch_alone cd_p_Watch_alone ct_p_Watch_alone), sl_p_Watch_alone⟩)
    (c_p_Watch_alone : PySem.W.codeIn K cd_p_Watch_alone "Watch.alone" = true)
    (k_p_Watch_alone : PySem.W.keepIn K (.ref f_p_Watch_alone) = true)
    (fn_p_Watch_within : PySem.W.isFn K (.ref f_p_Watch_within) = true)
    (l_p_Watch_within : K.lookup f_p_Watch_within = some ⟨oc_p_Watch_within, od_p_Watch_within, .func (PySem.W.fnOf "within" "Watch.within" (defArgs s_p_Watch_within) (defBody s_p_Watch_within) (defScope s_p_Watch_within) .none kV_p_Watch_within dc_p_Watch_within pm_p_Watch_within an_p_Watch_within cd_p_Watch_within ct_p_Watch_within), sl_p_Watch_within⟩)
    (c_p_Watch_within : PySem.W.codeIn K cd_p_Watch_within "Watch.within" = true)
    (k_p_Watch_within : PySem.W.keepIn K (.ref f_p_Watch_within) = true)
    (fn_p_Watch_moves : PySem.W.isFn K (.ref f_p_Watch_moves) = true)
    (l_p_Watch_moves : K.lookup f_p_Watch_moves = some ⟨oc_p_Watch_moves, od_p_Watch_moves, .func (PySem.W.fnOf "moves" "Watch.moves" (defArgs s_p_Watch_moves) (defBody s_p_Watch_moves) (defScope s_p_Watch_moves) .none kV_p_Watch_moves dc_p_Watch_moves pm_p_Watch_moves an_p_Watch_moves cd_p_Watch_moves ct_p_Watch_moves), sl_p_Watch_moves⟩)
    (c_p_Watch_moves : PySem.W.codeIn K cd_p_Watch_moves "Watch.moves" = true)
    (k_p_Watch_moves : PySem.W.keepIn K (.ref f_p_Watch_moves) = true)
    (fn_p_Stale_lost : PySem.W.isFn K (.ref f_p_Stale_lost) = true)
    (l_p_Stale_lost : K.lookup f_p_Stale_lost = some ⟨oc_p_Stale_lost, od_p_Stale_lost, .func (PySem.W.fnOf "lost" "Stale.lost" (defArgs s_p_Stale_lost) (defBody s_p_Stale_lost) (defScope s_p_Stale_lost) .none kV_p_Stale_lost dc_p_Stale_lost pm_p_Stale_lost an_p_Stale_lost cd_p_Stale_lost ct_p_Stale_lost), sl_p_Stale_lost⟩)
    (c_p_Stale_lost : PySem.W.codeIn K cd_p_Stale_lost "Stale.lost" = true)
    (k_p_Stale_lost : PySem.W.keepIn K (.ref f_p_Stale_lost) = true)
    (fn_p_Stale_copied : PySem.W.isFn K (.ref f_p_Stale_copied) = true)
    (l_p_Stale_copied : K.lookup f_p_Stale_copied = some ⟨oc_p_Stale_copied, od_p_Stale_copied, .func (PySem.W.fnOf "copied" "Stale.copied" (defArgs s_p_Stale_copied) (defBody s_p_Stale_copied) (defScope s_p_Stale_copied) .none kV_p_Stale_copied dc_p_Stale_copied pm_p_Stale_copied an_p_Stale_copied cd_p_Stale_copied ct_p_Stale_copied), sl_p_Stale_copied⟩)
    (c_p_Stale_copied : PySem.W.codeIn K cd_p_Stale_copied "Stale.copied" = true)
    (k_p_Stale_copied : PySem.W.keepIn K (.ref f_p_Stale_copied) = true)
    (fn_p_Stale_received : PySem.W.isFn K (.ref f_p_Stale_received) = true)
    (l_p_Stale_received : K.lookup f_p_Stale_received = some ⟨oc_p_Stale_received, od_p_Stale_received, .func (PySem.W.fnOf "received" "Stale.received" (defArgs s_p_Stale_received) (defBody s_p_Stale_received) (defScope s_p_Stale_received) .none kV_p_Stale_received dc_p_Stale_received pm_p_Stale_received an_p_Stale_received cd_p_Stale_received ct_p_Stale_received), sl_p_Stale_received⟩)
    (c_p_Stale_received : PySem.W.codeIn K cd_p_Stale_received "Stale.received" = true)
    (k_p_Stale_received : PySem.W.keepIn K (.ref f_p_Stale_received) = true)
    (fn_p_Stale_told : PySem.W.isFn K (.ref f_p_Stale_told) = true)
    (l_p_Stale_told : K.lookup f_p_Stale_told = some ⟨oc_p_Stale_told, od_p_Stale_told, .func (PySem.W.fnOf "told" "Stale.told" (defArgs s_p_Stale_told) (defBody s_p_Stale_told) (defScope s_p_Stale_told) .none kV_p_Stale_told dc_p_Stale_told pm_p_Stale_told an_p_Stale_told cd_p_Stale_told ct_p_Stale_told), sl_p_Stale_told⟩)
    (c_p_Stale_told : PySem.W.codeIn K cd_p_Stale_told "Stale.told" = true)
    (k_p_Stale_told : PySem.W.keepIn K (.ref f_p_Stale_told) = true)
    (fn_p_Stale_is_bad : PySem.W.isFn K (.ref f_p_Stale_is_bad) = true)
    (l_p_Stale_is_bad : K.lookup f_p_Stale_is_bad = some ⟨oc_p_Stale_is_bad, od_p_Stale_is_bad, .func (PySem.W.fnOf "is_bad" "Stale.is_bad" (defArgs s_p_Stale_is_bad) (defBody s_p_Stale_is_bad) (defScope s_p_Stale_is_bad) .none kV_p_Stale_is_bad dc_p_Stale_is_bad pm_p_Stale_is_bad an_p_Stale_is_bad cd_p_Stale_is_bad ct_p_Stale_is_bad), sl_p_Stale_is_bad⟩)
    (c_p_Stale_is_bad : PySem.W.codeIn K cd_p_Stale_is_bad "Stale.is_bad" = true)
    (k_p_Stale_is_bad : PySem.W.keepIn K (.ref f_p_Stale_is_bad) = true)
    (fn_p_Back_begun : PySem.W.isFn K (.ref f_p_Back_begun) = true)
    (l_p_Back_begun : K.lookup f_p_Back_begun = some ⟨oc_p_Back_begun, od_p_Back_begun, .func (PySem.W.fnOf "begun" "Back.begun" (defArgs s_p_Back_begun) (defBody s_p_Back_begun) (defScope s_p_Back_begun) .none kV_p_Back_begun dc_p_Back_begun pm_p_Back_begun an_p_Back_begun cd_p_Back_begun ct_p_Back_begun), sl_p_Back_begun⟩)
    (c_p_Back_begun : PySem.W.codeIn K cd_p_Back_begun "Back.begun" = true)
    (k_p_Back_begun : PySem.W.keepIn K (.ref f_p_Back_begun) = true)
    (fn_p_Back_copied : PySem.W.isFn K (.ref f_p_Back_copied) = true)
    (l_p_Back_copied : K.lookup f_p_Back_copied = some ⟨oc_p_Back_copied, od_p_Back_copied, .func (PySem.W.fnOf "copied" "Back.copied" (defArgs s_p_Back_copied) (defBody s_p_Back_copied) (defScope s_p_Back_copied) .none kV_p_Back_copied dc_p_Back_copied pm_p_Back_copied an_p_Back_copied cd_p_Back_copied ct_p_Back_copied), sl_p_Back_copied⟩)
    (c_p_Back_copied : PySem.W.codeIn K cd_p_Back_copied "Back.copied" = true)
    (k_p_Back_copied : PySem.W.keepIn K (.ref f_p_Back_copied) = true)
    (fn_p_Back_received : PySem.W.isFn K (.ref f_p_Back_received) = true)
    (l_p_Back_received : K.lookup f_p_Back_received = some ⟨oc_p_Back_received, od_p_Back_received, .func (PySem.W.fnOf "received" "Back.received" (defArgs s_p_Back_received) (defBody s_p_Back_received) (defScope s_p_Back_received) .none kV_p_Back_received dc_p_Back_received pm_p_Back_received an_p_Back_received cd_p_Back_received ct_p_Back_received), sl_p_Back_received⟩)
    (c_p_Back_received : PySem.W.codeIn K cd_p_Back_received "Back.received" = true)
    (k_p_Back_received : PySem.W.keepIn K (.ref f_p_Back_received) = true)
    (fn_p_Back_told : PySem.W.isFn K (.ref f_p_Back_told) = true)
    (l_p_Back_told : K.lookup f_p_Back_told = some ⟨oc_p_Back_told, od_p_Back_told, .func (PySem.W.fnOf "told" "Back.told" (defArgs s_p_Back_told) (defBody s_p_Back_told) (defScope s_p_Back_told) .none kV_p_Back_told dc_p_Back_told pm_p_Back_told an_p_Back_told cd_p_Back_told ct_p_Back_told), sl_p_Back_told⟩)
    (c_p_Back_told : PySem.W.codeIn K cd_p_Back_told "Back.told" = true)
    (k_p_Back_told : PySem.W.keepIn K (.ref f_p_Back_told) = true)
    (fn_p_Back_is_bad : PySem.W.isFn K (.ref f_p_Back_is_bad) = true)
    (l_p_Back_is_bad : K.lookup f_p_Back_is_bad = some ⟨oc_p_Back_is_bad, od_p_Back_is_bad, .func (PySem.W.fnOf "is_bad" "Back.is_bad" (defArgs s_p_Back_is_bad) (defBody s_p_Back_is_bad) (defScope s_p_Back_is_bad) .none kV_p_Back_is_bad dc_p_Back_is_bad pm_p_Back_is_bad an_p_Back_is_bad cd_p_Back_is_bad ct_p_Back_is_bad), sl_p_Back_is_bad⟩)
    (c_p_Back_is_bad : PySem.W.codeIn K cd_p_Back_is_bad "Back.is_bad" = true)
    (k_p_Back_is_bad : PySem.W.keepIn K (.ref f_p_Back_is_bad) = true)
    (a_rest : PySem.W.nsIn K mainGlobals "_law_rest" = some (some (.ref f_rest)))
    (l_rest : K.lookup f_rest = some ⟨oc_rest, od_rest, .func (PySem.W.fnOf "_law_rest" "_law_rest" (defArgs s_rest) (defBody s_rest) (defScope s_rest) .none kV_rest dc_rest pm_rest an_rest cd_rest ct_rest), sl_rest⟩)
    (c_rest : PySem.W.codeIn K cd_rest "_law_rest" = true)
    (k_rest : PySem.W.keepIn K (.ref f_rest) = true)
    (a_draw : PySem.W.nsIn K mainGlobals "_law_draw" = some (some (.ref f_draw)))
    (l_draw : K.lookup f_draw = some ⟨oc_draw, od_draw, .func (PySem.W.fnOf "_law_draw" "_law_draw" (defArgs s_draw) (defBody s_draw) (defScope s_draw) .none kV_draw dc_draw pm_draw an_draw cd_draw ct_draw), sl_draw⟩)
    (c_draw : PySem.W.codeIn K cd_draw "_law_draw" = true)
    (k_draw : PySem.W.keepIn K (.ref f_draw) = true)
    (a_pick : PySem.W.nsIn K mainGlobals "_law_pick" = some (some (.ref f_pick)))
    (l_pick : K.lookup f_pick = some ⟨oc_pick, od_pick, .func (PySem.W.fnOf "_law_pick" "_law_pick" (defArgs s_pick) (defBody s_pick) (defScope s_pick) .none kV_pick dc_pick pm_pick an_pick cd_pick ct_pick), sl_pick⟩)
    (c_pick : PySem.W.codeIn K cd_pick "_law_pick" = true)
    (k_pick : PySem.W.keepIn K (.ref f_pick) = true)
    (a_mirror_step : PySem.W.nsIn K mainGlobals "_law_mirror_step" = some (some (.ref f_mirror_step)))
    (l_mirror_step : K.lookup f_mirror_step = some ⟨oc_mirror_step, od_mirror_step, .func (PySem.W.fnOf "_law_mirror_step" "_law_mirror_step" (defArgs s_mirror_step) (defBody s_mirror_step) (defScope s_mirror_step) .none kV_mirror_step dc_mirror_step pm_mirror_step an_mirror_step cd_mirror_step ct_mirror_step), sl_mirror_step⟩)
    (c_mirror_step : PySem.W.codeIn K cd_mirror_step "_law_mirror_step" = true)
    (k_mirror_step : PySem.W.keepIn K (.ref f_mirror_step) = true)
    (a_pen : PySem.W.nsIn K mainGlobals "_law_pen" = some (some (.ref f_pen)))
    (l_pen : K.lookup f_pen = some ⟨oc_pen, od_pen, .func (PySem.W.fnOf "_law_pen" "_law_pen" (defArgs s_pen) (defBody s_pen) (defScope s_pen) .none kV_pen dc_pen pm_pen an_pen cd_pen ct_pen), sl_pen⟩)
    (c_pen : PySem.W.codeIn K cd_pen "_law_pen" = true)
    (k_pen : PySem.W.keepIn K (.ref f_pen) = true)
    (a_cell_at : PySem.W.nsIn K mainGlobals "_law_cell_at" = some (some (.ref f_cell_at)))
    (l_cell_at : K.lookup f_cell_at = some ⟨oc_cell_at, od_cell_at, .func (PySem.W.fnOf "_law_cell_at" "_law_cell_at" (defArgs s_cell_at) (defBody s_cell_at) (defScope s_cell_at) .none kV_cell_at dc_cell_at pm_cell_at an_cell_at cd_cell_at ct_cell_at), sl_cell_at⟩)
    (c_cell_at : PySem.W.codeIn K cd_cell_at "_law_cell_at" = true)
    (k_cell_at : PySem.W.keepIn K (.ref f_cell_at) = true)
    (a_pens : PySem.W.nsIn K mainGlobals "_law_pens" = some (some (.ref f_pens)))
    (l_pens : K.lookup f_pens = some ⟨oc_pens, od_pens, .func (PySem.W.fnOf "_law_pens" "_law_pens" (defArgs s_pens) (defBody s_pens) (defScope s_pens) .none kV_pens dc_pens pm_pens an_pens cd_pens ct_pens), sl_pens⟩)
    (c_pens : PySem.W.codeIn K cd_pens "_law_pens" = true)
    (k_pens : PySem.W.keepIn K (.ref f_pens) = true)
    (a_mirror_nodes : PySem.W.nsIn K mainGlobals "_law_mirror_nodes" = some (some (.ref f_mirror_nodes)))
    (l_mirror_nodes : K.lookup f_mirror_nodes = some ⟨oc_mirror_nodes, od_mirror_nodes, .func (PySem.W.fnOf "_law_mirror_nodes" "_law_mirror_nodes" (defArgs s_mirror_nodes) (defBody s_mirror_nodes) (defScope s_mirror_nodes) .none kV_mirror_nodes dc_mirror_nodes pm_mirror_nodes an_mirror_nodes cd_mirror_nodes ct_mirror_nodes), sl_mirror_nodes⟩)
    (c_mirror_nodes : PySem.W.codeIn K cd_mirror_nodes "_law_mirror_nodes" = true)
    (k_mirror_nodes : PySem.W.keepIn K (.ref f_mirror_nodes) = true)
    (a_finals : PySem.W.nsIn K mainGlobals "_law_finals" = some (some (.ref f_finals)))
    (l_finals : K.lookup f_finals = some ⟨oc_finals, od_finals, .func (PySem.W.fnOf "_law_finals" "_law_finals" (defArgs s_finals) (defBody s_finals) (defScope s_finals) .none kV_finals dc_finals pm_finals an_finals cd_finals ct_finals), sl_finals⟩)
    (c_finals : PySem.W.codeIn K cd_finals "_law_finals" = true)
    (k_finals : PySem.W.keepIn K (.ref f_finals) = true)
    (a_can_rest : PySem.W.nsIn K mainGlobals "_law_can_rest" = some (some (.ref f_can_rest)))
    (l_can_rest : K.lookup f_can_rest = some ⟨oc_can_rest, od_can_rest, .func (PySem.W.fnOf "_law_can_rest" "_law_can_rest" (defArgs s_can_rest) (defBody s_can_rest) (defScope s_can_rest) .none kV_can_rest dc_can_rest pm_can_rest an_can_rest cd_can_rest ct_can_rest), sl_can_rest⟩)
    (c_can_rest : PySem.W.codeIn K cd_can_rest "_law_can_rest" = true)
    (k_can_rest : PySem.W.keepIn K (.ref f_can_rest) = true)
    (a_line : PySem.W.nsIn K mainGlobals "_law_line" = some (some (.ref f_line)))
    (l_line : K.lookup f_line = some ⟨oc_line, od_line, .func (PySem.W.fnOf "_law_line" "_law_line" (defArgs s_line) (defBody s_line) (defScope s_line) .none kV_line dc_line pm_line an_line cd_line ct_line), sl_line⟩)
    (c_line : PySem.W.codeIn K cd_line "_law_line" = true)
    (k_line : PySem.W.keepIn K (.ref f_line) = true)
    (a_right : PySem.W.nsIn K mainGlobals "_law_right" = some (some (.ref f_right)))
    (l_right : K.lookup f_right = some ⟨oc_right, od_right, .func (PySem.W.fnOf "_law_right" "_law_right" (defArgs s_right) (defBody s_right) (defScope s_right) .none kV_right dc_right pm_right an_right cd_right ct_right), sl_right⟩)
    (c_right : PySem.W.codeIn K cd_right "_law_right" = true)
    (k_right : PySem.W.keepIn K (.ref f_right) = true)
    (a_law : PySem.W.nsIn K mainGlobals "law" = some (some (.ref f_law)))
    (l_law : K.lookup f_law = some ⟨oc_law, od_law, .func (PySem.W.fnOf "law" "law" (defArgs s_law) (defBody s_law) (defScope s_law) .none kV_law dc_law pm_law an_law cd_law ct_law), sl_law⟩)
    (c_law : PySem.W.codeIn K cd_law "law" = true)
    (k_law : PySem.W.keepIn K (.ref f_law) = true) :
    ∃ (tbl : Tbl) (tb : List (Str × Addr × Addr)) (fd : FuncData) (φ : List Sl → FR), (∀ p ∈ tb, PySem.W.tabIn K p.1 = some p.2 ∧ K.lookup p.2.2 = none ∧ ((recsOf q).find? (fun e => e.name == p.1)).isSome = true) ∧ (∀ t ∈ tbl.T, ∃ p ∈ tb, t.1 = p.2.2) ∧ (∀ (s : Shared) (v : Value), BindsTo s fd ⟨[v], []⟩ [("_law_script", v)]) ∧ (∀ base : Heap, K.In base → base.Ns mainGlobals mg → (∀ p ∈ tb, LamX.TabB base mg p.2.1 p.2.2) → @VOk tbl true l.prog w K mg base 8 fa fd ["_law_script"] φ) ∧ ∀ ns : List Int, ns.length ≤ 63 → ∃ as', φ [.val (.scr ns)] = .ret (.bl true) as' := by
  have e : f_law = fa := by
    have e := hfa.symm.trans (PySem.W.mg_of X G a_law)
    cases e; rfl
  subst e
  have F_p_is_between := fun_mk (st := s_p_is_between) l_p_is_between c_p_is_between k_p_is_between
  have F_p_are_nodes := fun_mk (st := s_p_are_nodes) l_p_are_nodes c_p_are_nodes k_p_are_nodes
  have F_p_are_finals := fun_mk (st := s_p_are_finals) l_p_are_finals c_p_are_finals k_p_are_finals
  have F_p_Graph_init := fun_mk (st := s_p_Graph_init) l_p_Graph_init c_p_Graph_init k_p_Graph_init
  have F_p_Question_init := fun_mk (st := s_p_Question_init) l_p_Question_init c_p_Question_init k_p_Question_init
  have F_p_Question_first := fun_mk (st := s_p_Question_first) l_p_Question_first c_p_Question_first k_p_Question_first
  have F_p_Question_reached := fun_mk (st := s_p_Question_reached) l_p_Question_reached c_p_Question_reached k_p_Question_reached
  have F_p_Question_run := fun_mk (st := s_p_Question_run) l_p_Question_run c_p_Question_run k_p_Question_run
  have F_p_Question_table := fun_mk (st := s_p_Question_table) l_p_Question_table c_p_Question_table k_p_Question_table
  have F_p_is_mirror_step := fun_mk (st := s_p_is_mirror_step) l_p_is_mirror_step c_p_is_mirror_step k_p_is_mirror_step
  have F_p_Mirror_init : FunS K "__init__" "Mirror.__init__" s_p_Mirror_init f_p_Mirror_init _ cc_p_Mirror_init Dc_p_Mirror_init cda_p_Mirror_init file := ⟨⟨_, _, _, _, _, _, _, _, rfl, l_p_Mirror_init⟩, c_p_Mirror_init, k_p_Mirror_init, ⟨_, _, _, u_p_Mirror_init⟩, ⟨_, _, _, _, _, w_p_Mirror_init, x_p_Mirror_init⟩⟩
  have F_p_Mirror_question := fun_mk (st := s_p_Mirror_question) l_p_Mirror_question c_p_Mirror_question k_p_Mirror_question
  have F_p_Watch_begun := fun_mk (st := s_p_Watch_begun) l_p_Watch_begun c_p_Watch_begun k_p_Watch_begun
  have F_p_Watch_lost := fun_mk (st := s_p_Watch_lost) l_p_Watch_lost c_p_Watch_lost k_p_Watch_lost
  have F_p_Watch_behind := fun_mk (st := s_p_Watch_behind) l_p_Watch_behind c_p_Watch_behind k_p_Watch_behind
  have F_p_Watch_alone := fun_mk (st := s_p_Watch_alone) l_p_Watch_alone c_p_Watch_alone k_p_Watch_alone
  have F_p_Watch_within := fun_mk (st := s_p_Watch_within) l_p_Watch_within c_p_Watch_within k_p_Watch_within
  have F_p_Watch_moves := fun_mk (st := s_p_Watch_moves) l_p_Watch_moves c_p_Watch_moves k_p_Watch_moves
  have F_p_Stale_lost := fun_mk (st := s_p_Stale_lost) l_p_Stale_lost c_p_Stale_lost k_p_Stale_lost
  have F_p_Stale_copied := fun_mk (st := s_p_Stale_copied) l_p_Stale_copied c_p_Stale_copied k_p_Stale_copied
  have F_p_Stale_received := fun_mk (st := s_p_Stale_received) l_p_Stale_received c_p_Stale_received k_p_Stale_received
  have F_p_Stale_told := fun_mk (st := s_p_Stale_told) l_p_Stale_told c_p_Stale_told k_p_Stale_told
  have F_p_Stale_is_bad := fun_mk (st := s_p_Stale_is_bad) l_p_Stale_is_bad c_p_Stale_is_bad k_p_Stale_is_bad
  have F_p_Back_begun := fun_mk (st := s_p_Back_begun) l_p_Back_begun c_p_Back_begun k_p_Back_begun
  have F_p_Back_copied := fun_mk (st := s_p_Back_copied) l_p_Back_copied c_p_Back_copied k_p_Back_copied
  have F_p_Back_received := fun_mk (st := s_p_Back_received) l_p_Back_received c_p_Back_received k_p_Back_received
  have F_p_Back_told := fun_mk (st := s_p_Back_told) l_p_Back_told c_p_Back_told k_p_Back_told
  have F_p_Back_is_bad := fun_mk (st := s_p_Back_is_bad) l_p_Back_is_bad c_p_Back_is_bad k_p_Back_is_bad
  have F_rest := fun_mk (st := s_rest) l_rest c_rest k_rest
  have F_draw := fun_mk (st := s_draw) l_draw c_draw k_draw
  have F_pick := fun_mk (st := s_pick) l_pick c_pick k_pick
  have F_mirror_step := fun_mk (st := s_mirror_step) l_mirror_step c_mirror_step k_mirror_step
  have F_pen := fun_mk (st := s_pen) l_pen c_pen k_pen
  have F_cell_at := fun_mk (st := s_cell_at) l_cell_at c_cell_at k_cell_at
  have F_pens := fun_mk (st := s_pens) l_pens c_pens k_pens
  have F_mirror_nodes := fun_mk (st := s_mirror_nodes) l_mirror_nodes c_mirror_nodes k_mirror_nodes
  have F_finals := fun_mk (st := s_finals) l_finals c_finals k_finals
  have F_can_rest := fun_mk (st := s_can_rest) l_can_rest c_can_rest k_can_rest
  have F_line := fun_mk (st := s_line) l_line c_line k_line
  have F_right := fun_mk (st := s_right) l_right c_right k_right
  have F_law := fun_mk (st := s_law) l_law c_law k_law
  let T : Txt K mg := {
    K_Mirror := K_Mirror
    gK_Mirror := PySem.W.mg_of X G kn_Mirror
    kns_Mirror := kn_Mirror
    k_Mirror := ⟨kn_Mirror, ⟨kg_Mirror, kd_Mirror, ko_Mirror, ks_Mirror⟩, kc_Mirror, km_Mirror⟩
    mk_Mirror := ⟨kk_Mirror, ki_Mirror, fn_p_Mirror_init, kp_Mirror⟩
    K_Stale := K_Stale
    gK_Stale := PySem.W.mg_of X G kn_Stale
    kns_Stale := kn_Stale
    k_Stale := ⟨kn_Stale, ⟨kg_Stale, kd_Stale, ko_Stale, ks_Stale⟩, kc_Stale, km_Stale⟩
    mk_Stale := ⟨kk_Stale, ki_Stale, fn_p_Question_init, kp_Stale⟩
    K_Back := K_Back
    gK_Back := PySem.W.mg_of X G kn_Back
    kns_Back := kn_Back
    k_Back := ⟨kn_Back, ⟨kg_Back, kd_Back, ko_Back, ks_Back⟩, kc_Back, km_Back⟩
    mk_Back := ⟨kk_Back, ki_Back, fn_p_Question_init, kp_Back⟩
    na_Back_graph := na_Back_graph
    na_Mirror_finals := na_Mirror_finals
    na_Mirror_nodes := na_Mirror_nodes
    na_Stale_graph := na_Stale_graph
    m_Back_alone := ⟨mt_Back_alone, fn_p_Watch_alone, k_p_Watch_alone⟩
    m_Back_begun := ⟨mt_Back_begun, fn_p_Back_begun, k_p_Back_begun⟩
    m_Back_behind := ⟨mt_Back_behind, fn_p_Watch_behind, k_p_Watch_behind⟩
    m_Back_copied := ⟨mt_Back_copied, fn_p_Back_copied, k_p_Back_copied⟩
    m_Back_first := ⟨mt_Back_first, fn_p_Question_first, k_p_Question_first⟩
    m_Back_is_bad := ⟨mt_Back_is_bad, fn_p_Back_is_bad, k_p_Back_is_bad⟩
    m_Back_lost := ⟨mt_Back_lost, fn_p_Watch_lost, k_p_Watch_lost⟩
    m_Back_moves := ⟨mt_Back_moves, fn_p_Watch_moves, k_p_Watch_moves⟩
    m_Back_reached := ⟨mt_Back_reached, fn_p_Question_reached, k_p_Question_reached⟩
    m_Back_received := ⟨mt_Back_received, fn_p_Back_received, k_p_Back_received⟩
    m_Back_run := ⟨mt_Back_run, fn_p_Question_run, k_p_Question_run⟩
    m_Back_table := ⟨mt_Back_table, fn_p_Question_table, k_p_Question_table⟩
    m_Back_told := ⟨mt_Back_told, fn_p_Back_told, k_p_Back_told⟩
    m_Back_within := ⟨mt_Back_within, fn_p_Watch_within, k_p_Watch_within⟩
    m_Mirror_question := ⟨mt_Mirror_question, fn_p_Mirror_question, k_p_Mirror_question⟩
    m_Stale_alone := ⟨mt_Stale_alone, fn_p_Watch_alone, k_p_Watch_alone⟩
    m_Stale_begun := ⟨mt_Stale_begun, fn_p_Watch_begun, k_p_Watch_begun⟩
    m_Stale_behind := ⟨mt_Stale_behind, fn_p_Watch_behind, k_p_Watch_behind⟩
    m_Stale_copied := ⟨mt_Stale_copied, fn_p_Stale_copied, k_p_Stale_copied⟩
    m_Stale_first := ⟨mt_Stale_first, fn_p_Question_first, k_p_Question_first⟩
    m_Stale_is_bad := ⟨mt_Stale_is_bad, fn_p_Stale_is_bad, k_p_Stale_is_bad⟩
    m_Stale_lost := ⟨mt_Stale_lost, fn_p_Stale_lost, k_p_Stale_lost⟩
    m_Stale_moves := ⟨mt_Stale_moves, fn_p_Watch_moves, k_p_Watch_moves⟩
    m_Stale_reached := ⟨mt_Stale_reached, fn_p_Question_reached, k_p_Question_reached⟩
    m_Stale_received := ⟨mt_Stale_received, fn_p_Stale_received, k_p_Stale_received⟩
    m_Stale_run := ⟨mt_Stale_run, fn_p_Question_run, k_p_Question_run⟩
    m_Stale_table := ⟨mt_Stale_table, fn_p_Question_table, k_p_Question_table⟩
    m_Stale_told := ⟨mt_Stale_told, fn_p_Stale_told, k_p_Stale_told⟩
    m_Stale_within := ⟨mt_Stale_within, fn_p_Watch_within, k_p_Watch_within⟩
    C_InvalidGraph := C_InvalidGraph
    gC_InvalidGraph := PySem.W.mg_of X G en_InvalidGraph
    nC_InvalidGraph := en_InvalidGraph
    xC_InvalidGraph := ex_InvalidGraph
    kC_InvalidGraph := ek_InvalidGraph
    bC_InvalidGraph := eb_InvalidGraph
    tC_InvalidGraph := et_InvalidGraph
    C_InvalidWay := C_InvalidWay
    gC_InvalidWay := PySem.W.mg_of X G en_InvalidWay
    nC_InvalidWay := en_InvalidWay
    xC_InvalidWay := ex_InvalidWay
    kC_InvalidWay := ek_InvalidWay
    bC_InvalidWay := eb_InvalidWay
    tC_InvalidWay := et_InvalidWay
    n_all := PySem.W.mg_none_of X G z_all
    n_any := PySem.W.mg_none_of X G z_any
    n_bool := PySem.W.mg_none_of X G z_bool
    n_enumerate := PySem.W.mg_none_of X G z_enumerate
    n_int := PySem.W.mg_none_of X G z_int
    n_isinstance := PySem.W.mg_none_of X G z_isinstance
    n_len := PySem.W.mg_none_of X G z_len
    n_max := PySem.W.mg_none_of X G z_max
    n_min := PySem.W.mg_none_of X G z_min
    n_range := PySem.W.mg_none_of X G z_range
    n_sorted := PySem.W.mg_none_of X G z_sorted
    n_str := PySem.W.mg_none_of X G z_str
    s_super := PySem.W.mg_none_of X G z_super
    s_any := zst_any
    n_tuple := PySem.W.mg_none_of X G z_tuple
    n_zip := PySem.W.mg_none_of X G z_zip
    t_kMANY := tk_MANY
    c_MANY := PySem.W.mg_of X G q_MANY
    t_kMOST_EDGES := tk_MOST_EDGES
    c_MOST_EDGES := PySem.W.mg_of X G q_MOST_EDGES
    t_kMOST_NODES := tk_MOST_NODES
    c_MOST_NODES := PySem.W.mg_of X G q_MOST_NODES
    t_kOTHER := tk_OTHER
    c_OTHER := PySem.W.mg_of X G q_OTHER
    t_kREAD := tk_READ
    c_READ := PySem.W.mg_of X G q_READ
    a_STEPS := a_STEPS
    c_STEPS := PySem.W.mg_of X G q_STEPS
    v_STEPS := fun F => ⟨_, [.str "begin", .str "commit", .str "rollback", .str "listen", .str "unlisten", .str "read", .str "receive", .str "disconnect"], rfl, .inr ⟨_, _, _, ql_STEPS, rfl, rfl, by show 8 ≤ sizeLine; decide, (.cons ⟨_, rfl⟩ (.cons ⟨_, rfl⟩ (.cons ⟨_, rfl⟩ (.cons ⟨_, rfl⟩ (.cons ⟨_, rfl⟩ (.cons ⟨_, rfl⟩ (.cons ⟨_, rfl⟩ (.cons ⟨_, rfl⟩ .nil))))))))⟩, ⟨_, _, rfl, rfl, ⟨_, _, rfl, rfl, ⟨_, _, rfl, rfl, ⟨_, _, rfl, rfl, ⟨_, _, rfl, rfl, ⟨_, _, rfl, rfl, ⟨_, _, rfl, rfl, ⟨_, _, rfl, rfl, rfl⟩⟩⟩⟩⟩⟩⟩⟩⟩
    f_p_is_between := f_p_is_between
    d_p_is_between := _
    g_p_is_between := PySem.W.mg_of X G a_p_is_between
    t_p_is_between := F_p_is_between
    b_p_is_between := F_p_is_between.binds (ps := ["thing", "low", "high"]) fun _ _ _ _ _ _ us hl => match us, hl with | [_, _, _], _ => rfl
    f_p_are_nodes := f_p_are_nodes
    d_p_are_nodes := _
    g_p_are_nodes := PySem.W.mg_of X G a_p_are_nodes
    t_p_are_nodes := F_p_are_nodes
    b_p_are_nodes := F_p_are_nodes.binds (ps := ["thing", "is_step"]) fun _ _ _ _ _ _ us hl => match us, hl with | [_, _], _ => rfl
    f_p_are_finals := f_p_are_finals
    d_p_are_finals := _
    g_p_are_finals := PySem.W.mg_of X G a_p_are_finals
    t_p_are_finals := F_p_are_finals
    b_p_are_finals := F_p_are_finals.binds (ps := ["thing", "many"]) fun _ _ _ _ _ _ us hl => match us, hl with | [_, _], _ => rfl
    f_p_Graph_init := f_p_Graph_init
    d_p_Graph_init := _
    t_p_Graph_init := F_p_Graph_init
    b_p_Graph_init := F_p_Graph_init.binds (ps := ["self", "nodes", "finals"]) fun _ _ _ _ _ _ us hl => match us, hl with | [_, _, _], _ => rfl
    f_p_Question_init := f_p_Question_init
    d_p_Question_init := _
    t_p_Question_init := F_p_Question_init
    b_p_Question_init := F_p_Question_init.binds (ps := ["self", "graph"]) fun _ _ _ _ _ _ us hl => match us, hl with | [_, _], _ => rfl
    f_p_Question_first := f_p_Question_first
    d_p_Question_first := _
    t_p_Question_first := F_p_Question_first
    b_p_Question_first := F_p_Question_first.binds (ps := ["self"]) fun _ _ _ _ _ _ us hl => match us, hl with | [_], _ => rfl
    f_p_Question_reached := f_p_Question_reached
    d_p_Question_reached := _
    t_p_Question_reached := F_p_Question_reached
    b_p_Question_reached := F_p_Question_reached.binds (ps := ["self"]) fun _ _ _ _ _ _ us hl => match us, hl with | [_], _ => rfl
    f_p_Question_run := f_p_Question_run
    d_p_Question_run := _
    t_p_Question_run := F_p_Question_run
    b_p_Question_run := F_p_Question_run.binds (ps := ["self"]) fun _ _ _ _ _ _ us hl => match us, hl with | [_], _ => rfl
    f_p_Question_table := f_p_Question_table
    d_p_Question_table := _
    t_p_Question_table := F_p_Question_table
    b_p_Question_table := F_p_Question_table.binds (ps := ["self"]) fun _ _ _ _ _ _ us hl => match us, hl with | [_], _ => rfl
    f_p_is_mirror_step := f_p_is_mirror_step
    d_p_is_mirror_step := _
    g_p_is_mirror_step := PySem.W.mg_of X G a_p_is_mirror_step
    ns_p_is_mirror_step := a_p_is_mirror_step
    t_p_is_mirror_step := F_p_is_mirror_step
    b_p_is_mirror_step := F_p_is_mirror_step.binds (ps := ["thing"]) fun _ _ _ _ _ _ us hl => match us, hl with | [_], _ => rfl
    f_p_Mirror_init := f_p_Mirror_init
    d_p_Mirror_init := _
    cc_p_Mirror_init := cc_p_Mirror_init
    Dc_p_Mirror_init := Dc_p_Mirror_init
    cda_p_Mirror_init := cda_p_Mirror_init
    t_p_Mirror_init := F_p_Mirror_init
    sd_p_Mirror_init := ⟨_, y_p_Mirror_init⟩
    sy_p_Mirror_init := beq_iff_eq.mp fn_p_Graph_init
    sn_p_Mirror_init := fi_p_Mirror_init
    su_p_Mirror_init_Mirror := ⟨_, _, kn_Mirror, sc1_p_Mirror_init_Mirror, sc2_p_Mirror_init_Mirror, sc3_p_Mirror_init_Mirror⟩
    b_p_Mirror_init := F_p_Mirror_init.binds (ps := ["self", "nodes", "finals"]) fun _ _ _ _ _ us hl => match us, hl with | [_, _, _], _ => rfl
    f_p_Mirror_question := f_p_Mirror_question
    d_p_Mirror_question := _
    t_p_Mirror_question := F_p_Mirror_question
    b_p_Mirror_question := F_p_Mirror_question.binds (ps := ["self", "way"]) fun _ _ _ _ _ _ us hl => match us, hl with | [_, _], _ => rfl
    f_p_Watch_begun := f_p_Watch_begun
    d_p_Watch_begun := _
    t_p_Watch_begun := F_p_Watch_begun
    b_p_Watch_begun := F_p_Watch_begun.binds (ps := ["self", "pair"]) fun _ _ _ _ _ _ us hl => match us, hl with | [_, _], _ => rfl
    f_p_Watch_lost := f_p_Watch_lost
    d_p_Watch_lost := _
    t_p_Watch_lost := F_p_Watch_lost
    b_p_Watch_lost := F_p_Watch_lost.binds (ps := ["self", "pair"]) fun _ _ _ _ _ _ us hl => match us, hl with | [_, _], _ => rfl
    f_p_Watch_behind := f_p_Watch_behind
    d_p_Watch_behind := _
    t_p_Watch_behind := F_p_Watch_behind
    b_p_Watch_behind := F_p_Watch_behind.binds (ps := ["self", "step", "work", "pair"]) fun _ _ _ _ _ _ us hl => match us, hl with | [_, _, _, _], _ => rfl
    f_p_Watch_alone := f_p_Watch_alone
    d_p_Watch_alone := _
    t_p_Watch_alone := F_p_Watch_alone
    b_p_Watch_alone := F_p_Watch_alone.binds (ps := ["self", "step", "listens", "pair"]) fun _ _ _ _ _ _ us hl => match us, hl with | [_, _, _, _], _ => rfl
    f_p_Watch_within := f_p_Watch_within
    d_p_Watch_within := _
    t_p_Watch_within := F_p_Watch_within
    b_p_Watch_within := F_p_Watch_within.binds (ps := ["self", "step", "work", "pair"]) fun _ _ _ _ _ _ us hl => match us, hl with | [_, _, _, _], _ => rfl
    f_p_Watch_moves := f_p_Watch_moves
    d_p_Watch_moves := _
    t_p_Watch_moves := F_p_Watch_moves
    b_p_Watch_moves := F_p_Watch_moves.binds (ps := ["self", "state"]) fun _ _ _ _ _ _ us hl => match us, hl with | [_, _], _ => rfl
    f_p_Stale_lost := f_p_Stale_lost
    d_p_Stale_lost := _
    t_p_Stale_lost := F_p_Stale_lost
    b_p_Stale_lost := F_p_Stale_lost.binds (ps := ["self", "pair"]) fun _ _ _ _ _ _ us hl => match us, hl with | [_, _], _ => rfl
    f_p_Stale_copied := f_p_Stale_copied
    d_p_Stale_copied := _
    t_p_Stale_copied := F_p_Stale_copied
    b_p_Stale_copied := F_p_Stale_copied.binds (ps := ["self", "snapshot", "pair"]) fun _ _ _ _ _ _ us hl => match us, hl with | [_, _, _], _ => rfl
    f_p_Stale_received := f_p_Stale_received
    d_p_Stale_received := _
    t_p_Stale_received := F_p_Stale_received
    b_p_Stale_received := F_p_Stale_received.binds (ps := ["self", "pair"]) fun _ _ _ _ _ _ us hl => match us, hl with | [_, _], _ => rfl
    f_p_Stale_told := f_p_Stale_told
    d_p_Stale_told := _
    t_p_Stale_told := F_p_Stale_told
    b_p_Stale_told := F_p_Stale_told.binds (ps := ["self", "work", "pair"]) fun _ _ _ _ _ _ us hl => match us, hl with | [_, _, _], _ => rfl
    f_p_Stale_is_bad := f_p_Stale_is_bad
    d_p_Stale_is_bad := _
    t_p_Stale_is_bad := F_p_Stale_is_bad
    b_p_Stale_is_bad := F_p_Stale_is_bad.binds (ps := ["self", "state"]) fun _ _ _ _ _ _ us hl => match us, hl with | [_, _], _ => rfl
    f_p_Back_begun := f_p_Back_begun
    d_p_Back_begun := _
    t_p_Back_begun := F_p_Back_begun
    b_p_Back_begun := F_p_Back_begun.binds (ps := ["self", "pair"]) fun _ _ _ _ _ _ us hl => match us, hl with | [_, _], _ => rfl
    f_p_Back_copied := f_p_Back_copied
    d_p_Back_copied := _
    t_p_Back_copied := F_p_Back_copied
    b_p_Back_copied := F_p_Back_copied.binds (ps := ["self", "snapshot", "pair"]) fun _ _ _ _ _ _ us hl => match us, hl with | [_, _, _], _ => rfl
    f_p_Back_received := f_p_Back_received
    d_p_Back_received := _
    t_p_Back_received := F_p_Back_received
    b_p_Back_received := F_p_Back_received.binds (ps := ["self", "pair"]) fun _ _ _ _ _ _ us hl => match us, hl with | [_, _], _ => rfl
    f_p_Back_told := f_p_Back_told
    d_p_Back_told := _
    t_p_Back_told := F_p_Back_told
    b_p_Back_told := F_p_Back_told.binds (ps := ["self", "work", "pair"]) fun _ _ _ _ _ _ us hl => match us, hl with | [_, _, _], _ => rfl
    f_p_Back_is_bad := f_p_Back_is_bad
    d_p_Back_is_bad := _
    t_p_Back_is_bad := F_p_Back_is_bad
    b_p_Back_is_bad := F_p_Back_is_bad.binds (ps := ["self", "state"]) fun _ _ _ _ _ _ us hl => match us, hl with | [_, _], _ => rfl
    f_rest := f_rest
    d_rest := _
    g_rest := PySem.W.mg_of X G a_rest
    t_rest := F_rest
    b_rest := F_rest.binds (ps := ["_law_number", "_law_by"]) fun _ _ _ _ _ _ us hl => match us, hl with | [_, _], _ => rfl
    f_draw := f_draw
    d_draw := _
    g_draw := PySem.W.mg_of X G a_draw
    t_draw := F_draw
    b_draw := F_draw.binds (ps := ["_law_pen_here", "_law_many"]) fun _ _ _ _ _ _ us hl => match us, hl with | [_, _], _ => rfl
    f_pick := f_pick
    d_pick := _
    g_pick := PySem.W.mg_of X G a_pick
    t_pick := F_pick
    b_pick := F_pick.binds (ps := ["_law_pen_here", "_law_some"]) fun _ _ _ _ _ _ us hl => match us, hl with | [_, _], _ => rfl
    f_mirror_step := f_mirror_step
    d_mirror_step := _
    g_mirror_step := PySem.W.mg_of X G a_mirror_step
    t_mirror_step := F_mirror_step
    b_mirror_step := F_mirror_step.binds (ps := ["_law_pen_here"]) fun _ _ _ _ _ _ us hl => match us, hl with | [_], _ => rfl
    f_pen := f_pen
    d_pen := _
    g_pen := PySem.W.mg_of X G a_pen
    t_pen := F_pen
    b_pen := F_pen.binds (ps := ["_law_cell"]) fun _ _ _ _ _ _ us hl => match us, hl with | [_], _ => rfl
    f_cell_at := f_cell_at
    d_cell_at := _
    g_cell_at := PySem.W.mg_of X G a_cell_at
    t_cell_at := F_cell_at
    b_cell_at := F_cell_at.binds (ps := ["_law_script", "_law_k"]) fun _ _ _ _ _ _ us hl => match us, hl with | [_, _], _ => rfl
    f_pens := f_pens
    d_pens := _
    g_pens := PySem.W.mg_of X G a_pens
    t_pens := F_pens
    b_pens := F_pens.binds (ps := ["_law_script", "_law_many"]) fun _ _ _ _ _ _ us hl => match us, hl with | [_, _], _ => rfl
    f_mirror_nodes := f_mirror_nodes
    d_mirror_nodes := _
    g_mirror_nodes := PySem.W.mg_of X G a_mirror_nodes
    t_mirror_nodes := F_mirror_nodes
    b_mirror_nodes := F_mirror_nodes.binds (ps := ["_law_pen_here", "_law_most"]) fun _ _ _ _ _ _ us hl => match us, hl with | [_, _], _ => rfl
    f_finals := f_finals
    d_finals := _
    g_finals := PySem.W.mg_of X G a_finals
    t_finals := F_finals
    b_finals := F_finals.binds (ps := ["_law_pen_here", "_law_many"]) fun _ _ _ _ _ _ us hl => match us, hl with | [_, _], _ => rfl
    f_can_rest := f_can_rest
    d_can_rest := _
    g_can_rest := PySem.W.mg_of X G a_can_rest
    t_can_rest := F_can_rest
    b_can_rest := F_can_rest.binds (ps := ["_law_nodes", "_law_finals_here"]) fun _ _ _ _ _ _ us hl => match us, hl with | [_, _], _ => rfl
    f_line := f_line
    d_line := _
    g_line := PySem.W.mg_of X G a_line
    t_line := F_line
    b_line := F_line.binds (ps := ["_law_pen_here"]) fun _ _ _ _ _ _ us hl => match us, hl with | [_], _ => rfl
    f_right := f_right
    d_right := _
    g_right := PySem.W.mg_of X G a_right
    t_right := F_right
    b_right := F_right.binds (ps := ["_law_nodes", "_law_finals_here"]) fun _ _ _ _ _ _ us hl => match us, hl with | [_, _], _ => rfl
    f_law := f_law
    d_law := _
    g_law := PySem.W.mg_of X G a_law
    t_law := F_law
    b_law := F_law.binds (ps := ["_law_script"]) fun _ _ _ _ _ _ us hl => match us, hl with | [_], _ => rfl }
  exact ⟨⟨[]⟩, [], _, ph_law, fun p hp => (nomatch hp), fun t ht => (nomatch ht), fun s v => .of_eq rfl, fun base _ _ _ => (letI : Tbl := ⟨[]⟩; (ok_law hP T).gd), fun ns hl => law_true ns hl⟩
end K54
open PySem PySem.W PyProof.Rows in
set_option maxRecDepth 100000 in
set_option maxHeartbeats 0 in
theorem PySem.Challenge.cw_closenews_k54_whole_never_both_holds : PySem.Challenge.rw_closenews_k54_whole_never_both.Holds := by
  w_on; o_law; k_head; (case hw => w_witness2)
  k_fill
  refine PV.walk_end (l := PySem.Challenge.rw_closenews_k54_whole_never_both) (n := 63) (k := 8) (x := "_law_script") rfl (by decide) rfl ⟨rfl, by decide, by decide⟩ (fun w h Y => PySem.W.kIn_of Y) ?F
  case F =>
    intro w mg fa h KX G hmg
    refine' K54.all_mk (by exact ⟨by decide, by decide +kernel⟩) KX G hmg ?kn_Mirror ?kg_Mirror ?kd_Mirror ?ko_Mirror ?ks_Mirror ?kc_Mirror ?km_Mirror ?ki_Mirror ?kk_Mirror ?kp_Mirror ?kn_Stale ?kg_Stale ?kd_Stale ?ko_Stale ?ks_Stale ?kc_Stale ?km_Stale ?ki_Stale ?kk_Stale ?kp_Stale ?kn_Back ?kg_Back ?kd_Back ?ko_Back ?ks_Back ?kc_Back ?km_Back ?ki_Back ?kk_Back ?kp_Back ?na_Back_graph ?na_Mirror_finals ?na_Mirror_nodes ?na_Stale_graph ?mt_Back_alone ?mt_Back_begun ?mt_Back_behind ?mt_Back_copied ?mt_Back_first ?mt_Back_is_bad ?mt_Back_lost ?mt_Back_moves ?mt_Back_reached ?mt_Back_received ?mt_Back_run ?mt_Back_table ?mt_Back_told ?mt_Back_within ?mt_Mirror_question ?mt_Stale_alone ?mt_Stale_begun ?mt_Stale_behind ?mt_Stale_copied ?mt_Stale_first ?mt_Stale_is_bad ?mt_Stale_lost ?mt_Stale_moves ?mt_Stale_reached ?mt_Stale_received ?mt_Stale_run ?mt_Stale_table ?mt_Stale_told ?mt_Stale_within ?en_InvalidGraph ?ex_InvalidGraph ?ek_InvalidGraph ?eb_InvalidGraph ?et_InvalidGraph ?en_InvalidWay ?ex_InvalidWay ?ek_InvalidWay ?eb_InvalidWay ?et_InvalidWay ?z_all ?z_any ?z_bool ?z_enumerate ?z_int ?z_isinstance ?z_len ?z_max ?z_min ?z_range ?z_sorted ?z_str ?z_super ?zst_any ?z_tuple ?z_zip ?q_MANY ?q_MOST_EDGES ?q_MOST_NODES ?q_OTHER ?q_READ ?q_STEPS ?ql_STEPS ?l_p_Mirror_init ?c_p_Mirror_init ?k_p_Mirror_init ?u_p_Mirror_init ?w_p_Mirror_init ?x_p_Mirror_init ?y_p_Mirror_init ?sc1_p_Mirror_init_Mirror ?sc2_p_Mirror_init_Mirror ?sc3_p_Mirror_init_Mirror ?a_p_is_between ?l_p_is_between ?c_p_is_between ?k_p_is_between ?a_p_are_nodes ?l_p_are_nodes ?c_p_are_nodes ?k_p_are_nodes ?a_p_are_finals ?l_p_are_finals ?c_p_are_finals ?k_p_are_finals ?fn_p_Graph_init ?l_p_Graph_init ?c_p_Graph_init ?k_p_Graph_init ?fn_p_Question_init ?l_p_Question_init ?c_p_Question_init ?k_p_Question_init ?fn_p_Question_first ?l_p_Question_first ?c_p_Question_first ?k_p_Question_first ?fn_p_Question_reached ?l_p_Question_reached ?c_p_Question_reached ?k_p_Question_reached ?fn_p_Question_run ?l_p_Question_run ?c_p_Question_run ?k_p_Question_run ?fn_p_Question_table ?l_p_Question_table ?c_p_Question_table ?k_p_Question_table ?a_p_is_mirror_step ?l_p_is_mirror_step ?c_p_is_mirror_step ?k_p_is_mirror_step ?fn_p_Mirror_init ?fi_p_Mirror_init ?fn_p_Mirror_question ?l_p_Mirror_question ?c_p_Mirror_question ?k_p_Mirror_question ?fn_p_Watch_begun ?l_p_Watch_begun ?c_p_Watch_begun ?k_p_Watch_begun ?fn_p_Watch_lost ?l_p_Watch_lost ?c_p_Watch_lost ?k_p_Watch_lost ?fn_p_Watch_behind ?l_p_Watch_behind ?c_p_Watch_behind ?k_p_Watch_behind ?fn_p_Watch_alone ?l_p_Watch_alone ?c_p_Watch_alone ?k_p_Watch_alone ?fn_p_Watch_within ?l_p_Watch_within ?c_p_Watch_within ?k_p_Watch_within ?fn_p_Watch_moves ?l_p_Watch_moves ?c_p_Watch_moves ?k_p_Watch_moves ?fn_p_Stale_lost ?l_p_Stale_lost ?c_p_Stale_lost ?k_p_Stale_lost ?fn_p_Stale_copied ?l_p_Stale_copied ?c_p_Stale_copied ?k_p_Stale_copied ?fn_p_Stale_received ?l_p_Stale_received ?c_p_Stale_received ?k_p_Stale_received ?fn_p_Stale_told ?l_p_Stale_told ?c_p_Stale_told ?k_p_Stale_told ?fn_p_Stale_is_bad ?l_p_Stale_is_bad ?c_p_Stale_is_bad ?k_p_Stale_is_bad ?fn_p_Back_begun ?l_p_Back_begun ?c_p_Back_begun ?k_p_Back_begun ?fn_p_Back_copied ?l_p_Back_copied ?c_p_Back_copied ?k_p_Back_copied ?fn_p_Back_received ?l_p_Back_received ?c_p_Back_received ?k_p_Back_received ?fn_p_Back_told ?l_p_Back_told ?c_p_Back_told ?k_p_Back_told ?fn_p_Back_is_bad ?l_p_Back_is_bad ?c_p_Back_is_bad ?k_p_Back_is_bad ?a_rest ?l_rest ?c_rest ?k_rest ?a_draw ?l_draw ?c_draw ?k_draw ?a_pick ?l_pick ?c_pick ?k_pick ?a_mirror_step ?l_mirror_step ?c_mirror_step ?k_mirror_step ?a_pen ?l_pen ?c_pen ?k_pen ?a_cell_at ?l_cell_at ?c_cell_at ?k_cell_at ?a_pens ?l_pens ?c_pens ?k_pens ?a_mirror_nodes ?l_mirror_nodes ?c_mirror_nodes ?k_mirror_nodes ?a_finals ?l_finals ?c_finals ?k_finals ?a_can_rest ?l_can_rest ?c_can_rest ?k_can_rest ?a_line ?l_line ?c_line ?k_line ?a_right ?l_right ?c_right ?k_right ?a_law ?l_law ?c_law ?k_law
    (case kn_Mirror => k_is)
    (case kg_Mirror => k_is)
    (case kd_Mirror => k_is)
    (case ko_Mirror => k_is)
    (case ks_Mirror => k_is)
    (case kc_Mirror => k_is)
    (case km_Mirror => k_is)
    (case ki_Mirror => k_is)
    (case kk_Mirror => k_is)
    (case kp_Mirror => k_is)
    (case kn_Stale => k_is)
    (case kg_Stale => k_is)
    (case kd_Stale => k_is)
    (case ko_Stale => k_is)
    (case ks_Stale => k_is)
    (case kc_Stale => k_is)
    (case km_Stale => k_is)
    (case ki_Stale => k_is)
    (case kk_Stale => k_is)
    (case kp_Stale => k_is)
    (case kn_Back => k_is)
    (case kg_Back => k_is)
    (case kd_Back => k_is)
    (case ko_Back => k_is)
    (case ks_Back => k_is)
    (case kc_Back => k_is)
    (case km_Back => k_is)
    (case ki_Back => k_is)
    (case kk_Back => k_is)
    (case kp_Back => k_is)
    (case na_Back_graph => k_is)
    (case na_Mirror_finals => k_is)
    (case na_Mirror_nodes => k_is)
    (case na_Stale_graph => k_is)
    (case mt_Back_alone => k_is)
    (case mt_Back_begun => k_is)
    (case mt_Back_behind => k_is)
    (case mt_Back_copied => k_is)
    (case mt_Back_first => k_is)
    (case mt_Back_is_bad => k_is)
    (case mt_Back_lost => k_is)
    (case mt_Back_moves => k_is)
    (case mt_Back_reached => k_is)
    (case mt_Back_received => k_is)
    (case mt_Back_run => k_is)
    (case mt_Back_table => k_is)
    (case mt_Back_told => k_is)
    (case mt_Back_within => k_is)
    (case mt_Mirror_question => k_is)
    (case mt_Stale_alone => k_is)
    (case mt_Stale_begun => k_is)
    (case mt_Stale_behind => k_is)
    (case mt_Stale_copied => k_is)
    (case mt_Stale_first => k_is)
    (case mt_Stale_is_bad => k_is)
    (case mt_Stale_lost => k_is)
    (case mt_Stale_moves => k_is)
    (case mt_Stale_reached => k_is)
    (case mt_Stale_received => k_is)
    (case mt_Stale_run => k_is)
    (case mt_Stale_table => k_is)
    (case mt_Stale_told => k_is)
    (case mt_Stale_within => k_is)
    (case en_InvalidGraph => k_is)
    (case ex_InvalidGraph => k_exc)
    (case ek_InvalidGraph => k_is)
    (case eb_InvalidGraph => k_is)
    (case et_InvalidGraph => k_is)
    (case en_InvalidWay => k_is)
    (case ex_InvalidWay => k_exc)
    (case ek_InvalidWay => k_is)
    (case eb_InvalidWay => k_is)
    (case et_InvalidWay => k_is)
    (case z_all => k_is)
    (case z_any => k_is)
    (case z_bool => k_is)
    (case z_enumerate => k_is)
    (case z_int => k_is)
    (case z_isinstance => k_is)
    (case z_len => k_is)
    (case z_max => k_is)
    (case z_min => k_is)
    (case z_range => k_is)
    (case z_sorted => k_is)
    (case z_str => k_is)
    (case z_super => k_is)
    (case zst_any => k_is)
    (case z_tuple => k_is)
    (case z_zip => k_is)
    (case q_MANY => k_is)
    (case q_MOST_EDGES => k_is)
    (case q_MOST_NODES => k_is)
    (case q_OTHER => k_is)
    (case q_READ => k_is)
    (case q_STEPS => k_is)
    (case ql_STEPS => k_is)
    (case l_p_Mirror_init => k_is)
    (case c_p_Mirror_init => k_is)
    (case k_p_Mirror_init => k_is)
    (case u_p_Mirror_init => k_is)
    (case w_p_Mirror_init => k_is)
    (case x_p_Mirror_init => rfl)
    (case y_p_Mirror_init => k_is)
    (case sc1_p_Mirror_init_Mirror => k_is)
    (case sc2_p_Mirror_init_Mirror => k_is)
    (case sc3_p_Mirror_init_Mirror => ks_is)
    (case a_p_is_between => k_is)
    (case l_p_is_between => k_is)
    (case c_p_is_between => k_is)
    (case k_p_is_between => k_is)
    (case a_p_are_nodes => k_is)
    (case l_p_are_nodes => k_is)
    (case c_p_are_nodes => k_is)
    (case k_p_are_nodes => k_is)
    (case a_p_are_finals => k_is)
    (case l_p_are_finals => k_is)
    (case c_p_are_finals => k_is)
    (case k_p_are_finals => k_is)
    (case fn_p_Graph_init => k_is)
    (case l_p_Graph_init => k_is)
    (case c_p_Graph_init => k_is)
    (case k_p_Graph_init => k_is)
    (case fn_p_Question_init => k_is)
    (case l_p_Question_init => k_is)
    (case c_p_Question_init => k_is)
    (case k_p_Question_init => k_is)
    (case fn_p_Question_first => k_is)
    (case l_p_Question_first => k_is)
    (case c_p_Question_first => k_is)
    (case k_p_Question_first => k_is)
    (case fn_p_Question_reached => k_is)
    (case l_p_Question_reached => k_is)
    (case c_p_Question_reached => k_is)
    (case k_p_Question_reached => k_is)
    (case fn_p_Question_run => k_is)
    (case l_p_Question_run => k_is)
    (case c_p_Question_run => k_is)
    (case k_p_Question_run => k_is)
    (case fn_p_Question_table => k_is)
    (case l_p_Question_table => k_is)
    (case c_p_Question_table => k_is)
    (case k_p_Question_table => k_is)
    (case a_p_is_mirror_step => k_is)
    (case l_p_is_mirror_step => k_is)
    (case c_p_is_mirror_step => k_is)
    (case k_p_is_mirror_step => k_is)
    (case fn_p_Mirror_init => k_is)
    (case fi_p_Mirror_init => k_is)
    (case fn_p_Mirror_question => k_is)
    (case l_p_Mirror_question => k_is)
    (case c_p_Mirror_question => k_is)
    (case k_p_Mirror_question => k_is)
    (case fn_p_Watch_begun => k_is)
    (case l_p_Watch_begun => k_is)
    (case c_p_Watch_begun => k_is)
    (case k_p_Watch_begun => k_is)
    (case fn_p_Watch_lost => k_is)
    (case l_p_Watch_lost => k_is)
    (case c_p_Watch_lost => k_is)
    (case k_p_Watch_lost => k_is)
    (case fn_p_Watch_behind => k_is)
    (case l_p_Watch_behind => k_is)
    (case c_p_Watch_behind => k_is)
    (case k_p_Watch_behind => k_is)
    (case fn_p_Watch_alone => k_is)
    (case l_p_Watch_alone => k_is)
    (case c_p_Watch_alone => k_is)
    (case k_p_Watch_alone => k_is)
    (case fn_p_Watch_within => k_is)
    (case l_p_Watch_within => k_is)
    (case c_p_Watch_within => k_is)
    (case k_p_Watch_within => k_is)
    (case fn_p_Watch_moves => k_is)
    (case l_p_Watch_moves => k_is)
    (case c_p_Watch_moves => k_is)
    (case k_p_Watch_moves => k_is)
    (case fn_p_Stale_lost => k_is)
    (case l_p_Stale_lost => k_is)
    (case c_p_Stale_lost => k_is)
    (case k_p_Stale_lost => k_is)
    (case fn_p_Stale_copied => k_is)
    (case l_p_Stale_copied => k_is)
    (case c_p_Stale_copied => k_is)
    (case k_p_Stale_copied => k_is)
    (case fn_p_Stale_received => k_is)
    (case l_p_Stale_received => k_is)
    (case c_p_Stale_received => k_is)
    (case k_p_Stale_received => k_is)
    (case fn_p_Stale_told => k_is)
    (case l_p_Stale_told => k_is)
    (case c_p_Stale_told => k_is)
    (case k_p_Stale_told => k_is)
    (case fn_p_Stale_is_bad => k_is)
    (case l_p_Stale_is_bad => k_is)
    (case c_p_Stale_is_bad => k_is)
    (case k_p_Stale_is_bad => k_is)
    (case fn_p_Back_begun => k_is)
    (case l_p_Back_begun => k_is)
    (case c_p_Back_begun => k_is)
    (case k_p_Back_begun => k_is)
    (case fn_p_Back_copied => k_is)
    (case l_p_Back_copied => k_is)
    (case c_p_Back_copied => k_is)
    (case k_p_Back_copied => k_is)
    (case fn_p_Back_received => k_is)
    (case l_p_Back_received => k_is)
    (case c_p_Back_received => k_is)
    (case k_p_Back_received => k_is)
    (case fn_p_Back_told => k_is)
    (case l_p_Back_told => k_is)
    (case c_p_Back_told => k_is)
    (case k_p_Back_told => k_is)
    (case fn_p_Back_is_bad => k_is)
    (case l_p_Back_is_bad => k_is)
    (case c_p_Back_is_bad => k_is)
    (case k_p_Back_is_bad => k_is)
    (case a_rest => k_is)
    (case l_rest => k_is)
    (case c_rest => k_is)
    (case k_rest => k_is)
    (case a_draw => k_is)
    (case l_draw => k_is)
    (case c_draw => k_is)
    (case k_draw => k_is)
    (case a_pick => k_is)
    (case l_pick => k_is)
    (case c_pick => k_is)
    (case k_pick => k_is)
    (case a_mirror_step => k_is)
    (case l_mirror_step => k_is)
    (case c_mirror_step => k_is)
    (case k_mirror_step => k_is)
    (case a_pen => k_is)
    (case l_pen => k_is)
    (case c_pen => k_is)
    (case k_pen => k_is)
    (case a_cell_at => k_is)
    (case l_cell_at => k_is)
    (case c_cell_at => k_is)
    (case k_cell_at => k_is)
    (case a_pens => k_is)
    (case l_pens => k_is)
    (case c_pens => k_is)
    (case k_pens => k_is)
    (case a_mirror_nodes => k_is)
    (case l_mirror_nodes => k_is)
    (case c_mirror_nodes => k_is)
    (case k_mirror_nodes => k_is)
    (case a_finals => k_is)
    (case l_finals => k_is)
    (case c_finals => k_is)
    (case k_finals => k_is)
    (case a_can_rest => k_is)
    (case l_can_rest => k_is)
    (case c_can_rest => k_is)
    (case k_can_rest => k_is)
    (case a_line => k_is)
    (case l_line => k_is)
    (case c_line => k_is)
    (case k_line => k_is)
    (case a_right => k_is)
    (case l_right => k_is)
    (case c_right => k_is)
    (case k_right => k_is)
    (case a_law => k_is)
    (case l_law => k_is)
    (case c_law => k_is)
    (case k_law => k_is)

