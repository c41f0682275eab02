import PyProof.Rows.All
import HandS.ForExc
import HandS.ForMost
import HandS.Wide
import HandS.Lambda
import HandS.IsInst
import HandS.TupAny
import HandS.TupMul
import HandS.Conv
import KE.GoesEnum
import PyProof.ReprRoads
import HandS.RaiseMore
import HandS.TryMany
import HandS.ExcOwn
import HandS.SortInts
import KE.KSuper
import HandS.ClsMeth
import HandS.Zip
import HandS.Style
import HandS.HotCalls
import HandS.ExcIs
import KE.KRevSl
import HandS.SetFor
import HandS.Strs
import HandS.More
import KE.KDictDisplayH
import KE.KDictWalk
import HandS.Star
import HandS.SortOrd
import HandS.SortRule
import HandS.TupSets
import HandS.Deep
import HandS.TupLe
import PySem.Challenge.RW_closenews_k94_whole_no_both
import KE.RegKSuper
import KE.RegKTryMore
import KE.RegKIsAll
set_option Elab.async false
set_option linter.all false
set_option maxRecDepth 100000
set_option maxHeartbeats 4000000
/-! PV1: data without a heap, how a heap bears them, and the relation that a running body keeps. -/
namespace PV
open PySem PySem.Spec PyProof.Rows L2

inductive D where
  | non
  | bl (b : Bool)
  | int (i : Int)
  | str (s : Str)
  | byt (b : Array UInt8)
  | ty (n : String)
  | fn (n : Str)
  | adr (a : Addr)
  | scr (l : List Int)
  | tup (l : List D)
  | ctp (l : List D)
  | lst (l : List D)
  | dct (l : List (Key × D))
  | dcT (l : List (List Key × D))
  | dcF (l : List (List Key × D))
  | ins (c : Str) (l : List (Str × D))

section
variable (K : PySem.W.Frag) (F : Hp)
mutual
/-- the value v stands for the datum, by what F holds -/
def Den : D → V → Prop
  | .non, v => v = .non
  | .bl b, v => v = .bl b
  | .int i, v => v = .int i
  | .str s, v => v = .str s
  | .byt b, v => v = .byt b
  | .ty n, v => v = .ty n
  | .fn n, v => ∃ a, v = .ref a ∧ PySem.W.nsIn K mainGlobals n = some (some (.ref a))
  | .adr a, v => v = .ref a
  | .scr l, v => ∃ a, v = .ref a ∧ SqL K F a (l.map V.int)
  | .tup l, v => ∃ a xs, v = .ref a ∧ F a = some (.tup xs) ∧ Dens l xs
  | .ctp l, v => ∃ a xs, v = .ref a ∧ SqT K F a xs ∧ Dens l xs
  | .lst l, v => ∃ a xs, v = .ref a ∧ F a = some (.lst xs) ∧ Dens l xs
  | .dct l, v => ∃ a kvs, v = .ref a ∧ F a = some (.dK kvs) ∧ DenK l kvs
  | .dcT l, v => ∃ a kvs, v = .ref a ∧ F a = some (.dT kvs) ∧ DenT l kvs
  | .dcF l, v => ∃ a od kvs, v = .ref a ∧ F a = some (.frz od (.dT kvs)) ∧ DenT l kvs
  | .ins c l, v => ∃ C a dx fs, v = .ref a ∧ PySem.W.nsIn K mainGlobals c = some (some (.ref C)) ∧ F a = some (.ins C dx fs) ∧ DenF l fs
def Dens : List D → List V → Prop
  | [], vs => vs = []
  | d :: ds, vs => ∃ v r, vs = v :: r ∧ Den d v ∧ Dens ds r
def DenK : List (Key × D) → List (Key × V) → Prop
  | [], vs => vs = []
  | (k, d) :: ds, vs => ∃ v r, vs = (k, v) :: r ∧ Den d v ∧ DenK ds r
def DenT : List (List Key × D) → List (List Key × V) → Prop
  | [], vs => vs = []
  | (k, d) :: ds, vs => ∃ v r, vs = (k, v) :: r ∧ Den d v ∧ DenT ds r
def DenF : List (Str × D) → List (Str × V) → Prop
  | [], vs => vs = []
  | (k, d) :: ds, vs => ∃ v r, vs = (k, v) :: r ∧ Den d v ∧ DenF ds r
end
end

theorem sqt {K : PySem.W.Frag} {H : Hp} {a : Addr} {xs : List V} (h : H a = some (.tup xs)) : SqT K H a xs := .inl (.inl h)
theorem Same.tup {K : PySem.W.Frag} {H H' : Hp} {a : Addr} {xs : List V} (e : Same H H') (h : SqT K H a xs) : SqT K H' a xs := by
  rcases h with (h | ⟨o, h⟩) | h
  · exact .inl (.inl (e _ _ h))
  · exact .inl (.inr ⟨o, e _ _ h⟩)
  · exact .inr h

section
variable {K : PySem.W.Frag} {F F' : Hp}
mutual
theorem Den.mono (e : Same F F') : ∀ (d : D) (v : V), Den K F d v → Den K F' d v
  | .non, _, h => h
  | .bl _, _, h => h
  | .int _, _, h => h
  | .str _, _, h => h
  | .byt _, _, h => h
  | .ty _, _, h => h
  | .fn _, _, h => h
  | .adr _, _, h => h
  | .tup l, _, ⟨a, xs, e1, h1, h2⟩ => ⟨a, xs, e1, e _ _ h1, Dens.mono e l xs h2⟩
  | .ctp l, _, ⟨a, xs, e1, h1, h2⟩ => ⟨a, xs, e1, PV.Same.tup e h1, Dens.mono e l xs h2⟩
  | .scr l, _, ⟨a, e1, h1⟩ => ⟨a, e1, e.seq h1⟩
  | .lst l, _, ⟨a, xs, e1, h1, h2⟩ => ⟨a, xs, e1, e _ _ h1, Dens.mono e l xs h2⟩
  | .dct l, _, ⟨a, xs, e1, h1, h2⟩ => ⟨a, xs, e1, e _ _ h1, DenK.mono e l xs h2⟩
  | .dcT l, _, ⟨a, xs, e1, h1, h2⟩ => ⟨a, xs, e1, e _ _ h1, DenT.mono e l xs h2⟩
  | .dcF l, _, ⟨a, od, xs, e1, h1, h2⟩ => ⟨a, od, xs, e1, e _ _ h1, DenT.mono e l xs h2⟩
  | .ins c l, _, ⟨C, a, dx, xs, e1, e0, h1, h2⟩ => ⟨C, a, dx, xs, e1, e0, e _ _ h1, DenF.mono e l xs h2⟩
theorem Dens.mono (e : Same F F') : ∀ (d : List D) (v : List V), Dens K F d v → Dens K F' d v
  | [], _, h => h
  | d :: ds, _, ⟨v, r, e1, h1, h2⟩ => ⟨v, r, e1, Den.mono e d v h1, Dens.mono e ds r h2⟩
theorem DenK.mono (e : Same F F') : ∀ (d : List (Key × D)) (v : List (Key × V)), DenK K F d v → DenK K F' d v
  | [], _, h => h
  | (k, d) :: ds, _, ⟨v, r, e1, h1, h2⟩ => ⟨v, r, e1, Den.mono e d v h1, DenK.mono e ds r h2⟩
theorem DenT.mono (e : Same F F') : ∀ (d : List (List Key × D)) (v : List (List Key × V)), DenT K F d v → DenT K F' d v
  | [], _, h => h
  | (k, d) :: ds, _, ⟨v, r, e1, h1, h2⟩ => ⟨v, r, e1, Den.mono e d v h1, DenT.mono e ds r h2⟩
theorem DenF.mono (e : Same F F') : ∀ (d : List (Str × D)) (v : List (Str × V)), DenF K F d v → DenF K F' d v
  | [], _, h => h
  | (k, d) :: ds, _, ⟨v, r, e1, h1, h2⟩ => ⟨v, r, e1, Den.mono e d v h1, DenF.mono e ds r h2⟩
end

theorem Dens.length : ∀ {ds : List D} {vs : List V}, Dens K F ds vs → vs.length = ds.length
  | [], _, h => by rw [show _ = _ from h]; rfl
  | d :: ds, _, ⟨v, r, e, _, h⟩ => by rw [e, List.length_cons, List.length_cons, Dens.length h]
theorem Dens.get : ∀ {ds : List D} {vs : List V} {i : Nat} {d : D}, Dens K F ds vs → ds[i]? = some d → ∃ v, vs[i]? = some v ∧ Den K F d v
  | [], _, i, _, _, h => by simp at h
  | d :: ds, _, 0, x, ⟨v, r, e, h1, _⟩, h => by
    have q : d = x := by simpa using h
    rw [e, ← q]
    exact ⟨v, rfl, h1⟩
  | d :: ds, _, i + 1, x, ⟨v, r, e, _, h2⟩, h => by
    obtain ⟨w, h3, h4⟩ := Dens.get (i := i) (d := x) h2 (by simpa using h)
    rw [e]
    exact ⟨w, by simpa using h3, h4⟩
theorem Dens.getV : ∀ {ds : List D} {vs : List V} {i : Nat} {v : V}, Dens K F ds vs → vs[i]? = some v → ∃ d, ds[i]? = some d ∧ Den K F d v
  | [], _, i, _, h, g => by rw [show _ = _ from h] at g; simp at g
  | d :: ds, _, 0, x, ⟨v, r, e, h1, _⟩, g => by
    rw [e] at g
    have q : v = x := by simpa using g
    rw [← q]
    exact ⟨d, rfl, h1⟩
  | d :: ds, _, i + 1, x, ⟨v, r, e, _, h2⟩, g => by
    rw [e] at g
    obtain ⟨w, h3, h4⟩ := Dens.getV (i := i) (v := x) h2 (by simpa using g)
    exact ⟨w, by simpa using h3, h4⟩
theorem Dens.append : ∀ {ds es : List D} {vs ws : List V}, Dens K F ds vs → Dens K F es ws → Dens K F (ds ++ es) (vs ++ ws)
  | [], _, _, _, h, g => by rw [show _ = _ from h]; exact g
  | d :: ds, _, _, _, ⟨v, r, e, h1, h2⟩, g => by rw [e]; exact ⟨v, _, rfl, h1, Dens.append h2 g⟩
theorem Dens.one {d : D} {v : V} (h : Den K F d v) : Dens K F [d] [v] := ⟨v, [], rfl, h, rfl⟩
theorem Dens.nil : Dens K F [] [] := rfl
theorem Dens.cons {d : D} {v : V} {ds : List D} {vs : List V} (h : Den K F d v) (g : Dens K F ds vs) : Dens K F (d :: ds) (v :: vs) := ⟨v, vs, rfl, h, g⟩
theorem Dens.drop : ∀ {ds : List D} {vs : List V} (n : Nat), Dens K F ds vs → Dens K F (ds.drop n) (vs.drop n)
  | _, _, 0, h => h
  | [], _, n + 1, h => by rw [show _ = _ from h]; exact Dens.nil
  | d :: ds, _, n + 1, ⟨v, r, e, _, h2⟩ => by rw [e]; exact Dens.drop n h2
theorem Dens.take : ∀ {ds : List D} {vs : List V} (n : Nat), Dens K F ds vs → Dens K F (ds.take n) (vs.take n)
  | _, _, 0, h => Dens.nil
  | [], _, n + 1, h => by rw [show _ = _ from h]; exact Dens.nil
  | d :: ds, _, n + 1, ⟨v, r, e, h1, h2⟩ => by rw [e]; exact ⟨v, _, rfl, h1, Dens.take n h2⟩
theorem Dens.set : ∀ {ds : List D} {vs : List V} (n : Nat) {d : D} {v : V}, Dens K F ds vs → Den K F d v → Dens K F (ds.set n d) (vs.set n v)
  | [], _, _, _, _, h, _ => by rw [show _ = _ from h]; exact Dens.nil
  | d :: ds, _, 0, _, _, ⟨v, r, e, h1, h2⟩, g => by rw [e]; exact ⟨_, r, rfl, g, h2⟩
  | d :: ds, _, n + 1, _, _, ⟨v, r, e, h1, h2⟩, g => by rw [e]; exact ⟨v, _, rfl, h1, Dens.set n h2 g⟩
theorem Dens.reverse : ∀ {ds : List D} {vs : List V}, Dens K F ds vs → Dens K F ds.reverse vs.reverse
  | [], _, h => by rw [show _ = _ from h]; exact Dens.nil
  | d :: ds, _, ⟨v, r, e, h1, h2⟩ => by
    rw [e, List.reverse_cons, List.reverse_cons]
    exact Dens.append (Dens.reverse h2) (Dens.one h1)
theorem Dens.rep {ds : List D} {vs : List V} (h : Dens K F ds vs) : ∀ k : Nat, Dens K F (List.replicate k ds).flatten (List.replicate k vs).flatten
  | 0 => Dens.nil
  | k + 1 => by
    rw [List.replicate_succ, List.replicate_succ, List.flatten_cons, List.flatten_cons]
    exact Dens.append h (Dens.rep h k)
end

/-! ### objects that a body may change -/
inductive MD where
  | lst (l : List D)
  | dct (l : List (Key × D))
  | dcT (l : List (List Key × D))
  | ins (c : Str) (l : List (Str × D))
def MD.d : MD → D
  | .lst l => .lst l
  | .dct l => .dct l
  | .dcT l => .dcT l
  | .ins c l => .ins c l
def MDen (K : PySem.W.Frag) (F : Hp) : MD → HO → Prop
  | .lst ds, .lst xs => Dens K F ds xs
  | .dct l, .dK kvs => DenK K F l kvs
  | .dcT l, .dT kvs => DenT K F l kvs
  | .ins c l, .ins C _ fs => PySem.W.nsIn K mainGlobals c = some (some (.ref C)) ∧ DenF K F l fs
  | _, _ => False
theorem MDen.mono {K : PySem.W.Frag} {F F' : Hp} (e : Same F F') : ∀ {m : MD} {o : HO}, MDen K F m o → MDen K F' m o
  | .lst ds, o, h => by cases o <;> first | exact False.elim h | exact Dens.mono e _ _ h
  | .dct ds, o, h => by cases o <;> first | exact False.elim h | exact DenK.mono e _ _ h
  | .dcT ds, o, h => by cases o <;> first | exact False.elim h | exact DenT.mono e _ _ h
  | .ins c ds, o, h => by cases o <;> first | exact False.elim h | exact ⟨h.1, DenF.mono e _ _ h.2⟩
theorem same_new {H : Hp} {p : Addr} {o : HO} (h : H p = none) : Same H (upd H p o) := fun b x e => by
  rw [upd_ne (ne_of_none e h)]
  exact e
/-- from now on it is not changed -/
theorem MDen.still {K : PySem.W.Frag} {F : Hp} {a : Addr} {o : HO} : ∀ {m : MD}, F a = none → MDen K F m o → Den K (upd F a o) m.d (.ref a)
  | .lst ds, n, h => by
    cases o <;> first | exact False.elim h | skip
    exact ⟨a, _, rfl, upd_same, Dens.mono (same_new n) _ _ h⟩
  | .dct ds, n, h => by
    cases o <;> first | exact False.elim h | skip
    exact ⟨a, _, rfl, upd_same, DenK.mono (same_new n) _ _ h⟩
  | .dcT ds, n, h => by
    cases o <;> first | exact False.elim h | skip
    exact ⟨a, _, rfl, upd_same, DenT.mono (same_new n) _ _ h⟩
  | .ins c ds, n, h => by
    cases o <;> first | exact False.elim h | skip
    obtain ⟨h0, h⟩ := h
    exact ⟨_, a, _, _, rfl, h0, upd_same, DenF.mono (same_new n) _ _ h⟩

/-! ### slots -/
/-- val: a datum that is not changed any more; own: the slot's own object; bor: the caller's, lent -/
inductive Sl where
  | val (d : D)
  | own (m : MD)
  | bor (m : MD)
abbrev DE := List (Option Sl)
def Sl.mut : Sl → Option MD
  | .val _ => none
  | .own m => some m
  | .bor m => some m
def Sl.wr : Sl → MD → Sl
  | .val d, _ => .val d
  | .own _, m => .own m
  | .bor _, m => .bor m
def Sl.d : Sl → D
  | .val d => d
  | .own m => m.d
  | .bor m => m.d
/-- what stood at the entry; G: things that an evaluation under way holds -/
structure Cq where
  F0 : Hp
  H0 : Hp
  G : Hp
  adr : Nat → Addr
  bs : List Nat

def SlOk (K : PySem.W.Frag) (c : Cq) (F H : Hp) (i : Nat) (sv : Option V) : Sl → Prop
  | .val d => ∃ v, sv = some v ∧ Den K F d v
  | .own m => ∃ a o, sv = some (.ref a) ∧ H a = some o ∧ MDen K F m o ∧ F a = none ∧ c.G a = none ∧ c.H0 a = none
  | .bor m => i ∈ c.bs ∧ ∃ o, sv = some (.ref (c.adr i)) ∧ H (c.adr i) = some o ∧ MDen K F m o ∧ F (c.adr i) = none ∧ c.G (c.adr i) = none

/-- the tables of code objects that the law's lambdas write -/
class Tbl where
  T : List (Addr × Str)
/-- neither a table nor a code object -/
def Pl : HO → Prop
  | .tbl _ => False
  | .ext _ => False
  | _ => True
def PlG : HO → Prop
  | .tbl _ => False
  | .ext _ => False
  | .tup _ => False
  | _ => True
theorem PlG.pl {o : HO} (h : PlG o) : Pl o := by cases o <;> first | exact False.elim h | trivial
theorem PlG.nt {xs : List V} (h : PlG (.tup xs)) : False := h
theorem MDen.plg {K : PySem.W.Frag} {F : Hp} {m : MD} {o : HO} (h : MDen K F m o) : PlG o := by
  cases m <;> cases o <;> first | exact False.elim h | trivial
theorem MDen.pl {K : PySem.W.Frag} {F : Hp} {m : MD} {o : HO} (h : MDen K F m o) : Pl o := by
  cases m <;> cases o <;> first | exact False.elim h | trivial
theorem tabs_upd {T : List (Addr × Str)} {H : Hp} {a : Addr} {o o' : HO} (t : LamX.Tabs T H) (ha : H a = some o) (pl : Pl o) : LamX.Tabs T (upd H a o') := fun p hp => by
  obtain ⟨ps, h1, h2, h3⟩ := t p hp
  refine ⟨ps, ?_, h2, fun pos cv hc => ?_⟩
  · rw [upd_ne (fun q => by rw [q, ha] at h1; cases h1; exact pl)]; exact h1
  · obtain ⟨c, e1, e2⟩ := h3 pos cv hc
    refine ⟨c, e1, ?_⟩
    rw [upd_ne (fun q => by rw [q, ha] at e2; cases e2; exact pl)]; exact e2
variable [Tbl]
structure TabI (c : Cq) (F H : Hp) : Prop where
  tabs : LamX.Tabs Tbl.T H
  fnt : ∀ b o, F b = some o → Pl o
  gnt : ∀ b o, c.G b = some o → PlG o
  hnt : ∀ b o, c.H0 b = some o → Pl o
theorem TabI.ext {c : Cq} {F H H' : Hp} (t : TabI c F H) (e : Same H H') : TabI c F H' := ⟨t.tabs.ext e, t.fnt, t.gnt, t.hnt⟩
theorem TabI.upd {c : Cq} {F H : Hp} {a : Addr} {o o' : HO} (t : TabI c F H) (ha : H a = some o) (pl : Pl o) : TabI c F (upd H a o') := ⟨tabs_upd t.tabs ha pl, t.fnt, t.gnt, t.hnt⟩
theorem TabI.lay {c : Cq} {F H : Hp} {a : Addr} {o : HO} (t : TabI c F H) (pl : Pl o) : TabI c (L2.upd F a o) H := ⟨t.tabs, fun b x e => by
  by_cases q : b = a
  · subst q; rw [upd_same] at e; cases e; exact pl
  · rw [upd_ne q] at e; exact t.fnt b x e, t.gnt, t.hnt⟩
theorem TabI.hold {c : Cq} {F H : Hp} {a : Addr} {o : HO} (t : TabI c F H) (pl : PlG o) : TabI { c with G := L2.upd c.G a o } F H := ⟨t.tabs, t.fnt, fun b x e => by
  have e : L2.upd c.G a o b = some x := e
  by_cases q : b = a
  · subst q; rw [upd_same] at e; cases e; exact pl
  · rw [upd_ne q] at e; exact t.gnt b x e, t.hnt⟩
theorem TabI.less {c : Cq} {F H G' : Hp} (t : TabI { c with G := G' } F H) (h : ∀ b o, c.G b = some o → G' b = some o) : TabI c F H := ⟨t.tabs, t.fnt, fun b x e => t.gnt b x (h b x e), t.hnt⟩
structure Rel (K : PySem.W.Frag) (c : Cq) (F H : Hp) (σ : L2.St) (δ : DE) : Prop where
  sub : Same F H
  pres : ∀ b o, c.H0 b = some o → (∀ i ∈ c.bs, c.adr i ≠ b) → H b = some o
  low : Same c.F0 F
  new : ∀ b o, F b = some o → c.F0 b = some o ∨ c.H0 b = none ∨ ∃ xs, o = HO.tup xs
  gs : ∀ b o, c.G b = some o → H b = some o ∧ F b = none
  bor0 : ∀ i ∈ c.bs, c.H0 (c.adr i) ≠ none
  borD : ∀ i ∈ c.bs, ∃ m, δ[i]? = some (some (.bor m))
  binj : ∀ i j, i ∈ c.bs → j ∈ c.bs → c.adr i = c.adr j → i = j
  len : σ.length = δ.length
  sl : ∀ i s, δ[i]? = some (some s) → SlOk K c F H i (σ[i]?.getD none) s
  apart : ∀ (i j : Nat) (a : Addr) (m n : MD), δ[i]? = some (some (Sl.own m)) → δ[j]? = some (some (Sl.own n)) → σ[i]? = some (some (V.ref a)) → σ[j]? = some (some (V.ref a)) → i = j
  tab : TabI c F H

section
variable {K : PySem.W.Frag} {c : Cq} {F H : Hp} {σ : L2.St} {δ : DE}

theorem getD_some {σ : L2.St} {i : Nat} {v : V} (h : σ[i]?.getD none = some v) : σ[i]? = some (some v) := by
  cases e : σ[i]? with
  | none => rw [e] at h; cases h
  | some x => rw [e] at h; rw [show x = some v from h]
theorem Rel.borAt (r : Rel K c F H σ δ) {i : Nat} (h : i ∈ c.bs) : ∃ m o, δ[i]? = some (some (.bor m)) ∧ σ[i]? = some (some (.ref (c.adr i))) ∧ H (c.adr i) = some o ∧ MDen K F m o ∧ F (c.adr i) = none ∧ c.G (c.adr i) = none := by
  obtain ⟨m, e⟩ := r.borD i h
  obtain ⟨_, o, e1, e2, e3, e4⟩ := r.sl i _ e
  exact ⟨m, o, e, getD_some e1, e2, e3, e4⟩
theorem Rel.free (r : Rel K c F H σ δ) {p : Addr} (h : H p = none) : c.H0 p = none := by
  cases e : c.H0 p with
  | none => rfl
  | some o =>
    by_cases q : ∃ i ∈ c.bs, c.adr i = p
    · obtain ⟨i, hi, rfl⟩ := q
      obtain ⟨_, o', _, _, z, _⟩ := r.borAt hi
      rw [h] at z; cases z
    · have := r.pres p o e fun i hi z => q ⟨i, hi, z⟩
      rw [h] at this; cases this
theorem Rel.freeF (r : Rel K c F H σ δ) {p : Addr} (h : H p = none) : F p = none := r.sub.free h
theorem Rel.freeG (r : Rel K c F H σ δ) {p : Addr} (h : H p = none) : c.G p = none := by
  cases e : c.G p with
  | none => rfl
  | some o => rw [(r.gs p o e).1] at h; cases h
theorem Rel.val (r : Rel K c F H σ δ) {i : Nat} {d : D} (h : δ[i]? = some (some (.val d))) : ∃ v, σ[i]? = some (some v) ∧ Den K F d v := by
  obtain ⟨v, e, q⟩ := r.sl i _ h
  exact ⟨v, getD_some e, q⟩
theorem Rel.own (r : Rel K c F H σ δ) {i : Nat} {m : MD} (h : δ[i]? = some (some (.own m))) : ∃ a o, σ[i]? = some (some (.ref a)) ∧ H a = some o ∧ MDen K F m o ∧ F a = none ∧ c.G a = none ∧ c.H0 a = none := by
  obtain ⟨a, o, e, q⟩ := r.sl i _ h
  exact ⟨a, o, getD_some e, q⟩
/-- a slot's object that may be written -/
theorem Rel.mutAt (r : Rel K c F H σ δ) {i : Nat} {s : Sl} {m : MD} (h : δ[i]? = some (some s)) (hm : s.mut = some m) : ∃ a o, σ[i]? = some (some (.ref a)) ∧ H a = some o ∧ MDen K F m o ∧ F a = none := by
  cases s with
  | val d => cases hm
  | own n =>
    cases hm
    obtain ⟨a, o, e1, e2, e3, e4, _⟩ := r.own h
    exact ⟨a, o, e1, e2, e3, e4⟩
  | bor n =>
    cases hm
    obtain ⟨_, o, e1, e2, e3, e4, _⟩ := r.sl i _ h
    exact ⟨_, o, getD_some e1, e2, e3, e4⟩

/-- F grows, and what stands stays -/
theorem SlOk.to {F' H' : Hp} {i : Nat} {sv : Option V} {s : Sl} (h : SlOk K c F H i sv s) (e : Same F F') (n : ∀ a o, H a = some o → F a = none → (∀ d, s ≠ .val d) → sv = some (.ref a) → F' a = none) (k : ∀ a o, (∀ d, s ≠ .val d) → sv = some (.ref a) → H a = some o → F a = none → H' a = some o) : SlOk K c F' H' i sv s := by
  cases s with
  | val d =>
    obtain ⟨v, e1, e2⟩ := h
    exact ⟨v, e1, Den.mono e _ _ e2⟩
  | own m =>
    obtain ⟨a, o, e1, e2, e3, e4, e5⟩ := h
    exact ⟨a, o, e1, k a o (fun _ z => nomatch z) e1 e2 e4, e3.mono e, n a o e2 e4 (fun _ z => nomatch z) e1, e5⟩
  | bor m =>
    obtain ⟨hi, o, e1, e2, e3, e4, e5⟩ := h
    exact ⟨hi, o, e1, k _ o (fun _ z => nomatch z) e1 e2 e4, e3.mono e, n _ o e2 e4 (fun _ z => nomatch z) e1, e5⟩

theorem SlOk.toP {F' H' : Hp} {i : Nat} {sv : Option V} {s : Sl} (h : SlOk K c F H i sv s) (e : Same F F') (n : ∀ a o, H a = some o → H' a = some o → PlG o → F a = none → F' a = none) (k : ∀ a o, (∀ d, s ≠ .val d) → sv = some (.ref a) → H a = some o → Pl o → F a = none → H' a = some o) : SlOk K c F' H' i sv s := by
  cases s with
  | val d =>
    obtain ⟨v, e1, e2⟩ := h
    exact ⟨v, e1, Den.mono e _ _ e2⟩
  | own m =>
    obtain ⟨a, o, e1, e2, e3, e4, e5⟩ := h
    have hk := k a o (fun _ z => nomatch z) e1 e2 e3.pl e4
    exact ⟨a, o, e1, hk, e3.mono e, n a o e2 hk e3.plg e4, e5⟩
  | bor m =>
    obtain ⟨hi, o, e1, e2, e3, e4, e5⟩ := h
    have hk := k _ o (fun _ z => nomatch z) e1 e2 e3.pl e4
    exact ⟨hi, o, e1, hk, e3.mono e, n _ o e2 hk e3.plg e4, e5⟩
/-- a new object that nobody asks for -/
theorem Rel.tmp (r : Rel K c F H σ δ) {p : Addr} {o : HO} (hp : H p = none) : Rel K c F (upd H p o) σ δ :=
  ⟨r.sub.trans (same_new hp), fun b x e1 e2 => same_new hp _ _ (r.pres b x e1 e2), r.low, r.new, fun b x e => ⟨same_new hp _ _ (r.gs b x e).1, (r.gs b x e).2⟩, r.bor0, r.borD, r.binj, r.len, fun i s e => (r.sl i s e).to (.refl _) (fun _ _ _ z _ _ => z) fun a x _ _ z _ => same_new hp _ _ z, r.apart, r.tab.ext (same_new hp)⟩
/-- a new object that stays as it is -/
theorem Rel.lay (r : Rel K c F H σ δ) {p : Addr} {o : HO} (hp : H p = none) (pl : Pl o := by trivial) : Rel K c (upd F p o) (upd H p o) σ δ := by
  have hF := r.freeF hp
  have t := r.tmp (o := o) hp
  refine ⟨fun b x e => ?_, t.pres, r.low.trans (same_new hF), fun b x e => ?_, fun b x e => ⟨(t.gs b x e).1, ?_⟩, r.bor0, r.borD, r.binj, r.len, fun i s e => (r.sl i s e).to (same_new hF) (fun a x z1 z2 _ _ => ?_) fun a x _ _ z _ => same_new hp _ _ z, r.apart, t.tab.lay pl⟩
  · by_cases q : b = p
    · subst q; rw [upd_same] at e ⊢; exact e
    · rw [upd_ne q] at e ⊢; exact r.sub _ _ e
  · by_cases q : b = p
    · subst q; exact .inr (.inl (r.free hp))
    · rw [upd_ne q] at e; exact r.new _ _ e
  · rw [upd_ne (ne_of_none (r.gs b x e).1 hp)]; exact (r.gs b x e).2
  · rw [upd_ne (ne_of_none z1 hp)]; exact z2
/-- a thing of the heap is held while an evaluation is under way -/
theorem Rel.hold (r : Rel K c F H σ δ) {p : Addr} {o : HO} (hp : H p = some o) (hF : F p = none) (h1 : ∀ (j : Nat) (n : MD), δ[j]? = some (some (Sl.own n)) → σ[j]? ≠ some (some (V.ref p))) (h2 : ∀ i ∈ c.bs, c.adr i ≠ p) (pl : PlG o := by trivial) :
    Rel K { c with G := upd c.G p o } F H σ δ := by
  refine ⟨r.sub, r.pres, r.low, r.new, fun b x e => ?_, r.bor0, r.borD, r.binj, r.len, fun i s e => ?_, r.apart, r.tab.hold pl⟩
  · by_cases q : b = p
    · subst q
      have e : upd c.G b o b = some x := e
      rw [upd_same] at e; cases e; exact ⟨hp, hF⟩
    · have e : upd c.G p o b = some x := e
      rw [upd_ne q] at e; exact r.gs b x e
  · have z := r.sl i s e
    cases s with
    | val d => exact z
    | own n =>
      obtain ⟨a, x, e1, e2, e3, e4, e5, e6⟩ := z
      refine ⟨a, x, e1, e2, e3, e4, ?_, e6⟩
      show upd c.G p o a = none
      rw [upd_ne (fun q => h1 i n e (by rw [← q]; exact getD_some e1))]; exact e5
    | bor n =>
      obtain ⟨hi, x, e1, e2, e3, e4, e5⟩ := z
      refine ⟨hi, x, e1, e2, e3, e4, ?_⟩
      show upd c.G p o (c.adr i) = none
      rw [upd_ne (h2 i hi)]; exact e5
theorem Rel.drop {p : Addr} {o : HO} (r : Rel K { c with G := upd c.G p o } F H σ δ) (hg : c.G p = none) :
    Rel K c F H σ δ ∧ H p = some o ∧ F p = none ∧ (∀ (j : Nat) (n : MD), δ[j]? = some (some (Sl.own n)) → σ[j]? ≠ some (some (V.ref p))) ∧ ∀ i ∈ c.bs, c.adr i ≠ p := by
  have hp := r.gs p o upd_same
  have tl : TabI c F H := r.tab.less fun b x e => by
    show upd c.G p o b = some x
    rw [upd_ne (fun q => by subst q; rw [hg] at e; cases e)]; exact e
  have h1 : ∀ (j : Nat) (n : MD), δ[j]? = some (some (Sl.own n)) → σ[j]? ≠ some (some (V.ref p)) := fun j n e z => by
    obtain ⟨a, x, e1, _, _, _, e5, _⟩ := r.own e
    rw [z] at e1; cases e1
    have e5 : upd c.G p o p = none := e5
    rw [upd_same] at e5; cases e5
  have h2 : ∀ i ∈ c.bs, c.adr i ≠ p := fun i hi z => by
    obtain ⟨m, x, e1, e2, e3, e4, e5, e6⟩ := r.borAt hi
    have e6 : upd c.G p o (c.adr i) = none := e6
    rw [z, upd_same] at e6; cases e6
  refine ⟨⟨r.sub, r.pres, r.low, r.new, fun b x e => r.gs b x ?_, r.bor0, r.borD, r.binj, r.len, fun i s e => ?_, r.apart, tl⟩, hp.1, hp.2, h1, h2⟩
  · show upd c.G p o b = some x
    rw [upd_ne (fun q => by subst q; rw [hg] at e; cases e)]; exact e
  · have z := r.sl i s e
    cases s with
    | val d => exact z
    | own n =>
      obtain ⟨a, x, e1, e2, e3, e4, e5, e6⟩ := z
      refine ⟨a, x, e1, e2, e3, e4, ?_, e6⟩
      have e5 : upd c.G p o a = none := e5
      rw [upd_ne (fun q => h1 i n e (by rw [← q]; exact getD_some e1))] at e5; exact e5
    | bor n =>
      obtain ⟨hi, x, e1, e2, e3, e4, e5⟩ := z
      refine ⟨hi, x, e1, e2, e3, e4, ?_⟩
      have e5 : upd c.G p o (c.adr i) = none := e5
      rw [upd_ne (h2 i hi)] at e5; exact e5
/-- the held thing is written -/
theorem Rel.holdPut {p : Addr} {o o' : HO} (r : Rel K { c with G := upd c.G p o } F H σ δ) (hg : c.G p = none) (h0 : c.H0 p = none) (pl' : PlG o' := by trivial) : Rel K { c with G := upd c.G p o' } F (upd H p o') σ δ := by
  have pl : Pl o := (r.tab.gnt p o upd_same).pl
  obtain ⟨r, hp, hF, h1, h2⟩ := r.drop hg
  refine Rel.hold (c := c) ⟨fun b x e => ?_, fun b x e q => ?_, r.low, r.new, fun b x e => ⟨?_, (r.gs b x e).2⟩, r.bor0, r.borD, r.binj, r.len, fun i s e => (r.sl i s e).to (.refl _) (fun _ _ _ z _ _ => z) fun a x z0 z1 z _ => ?_, r.apart, r.tab.upd hp pl⟩ upd_same hF h1 h2 pl'
  · rw [upd_ne (fun q => by subst q; rw [hF] at e; cases e)]; exact r.sub _ _ e
  · rw [upd_ne (fun z => by subst z; rw [h0] at e; cases e)]; exact r.pres b x e q
  · rw [upd_ne (fun z => by subst z; rw [hg] at e; cases e)]; exact (r.gs b x e).1
  · rw [upd_ne ?_]; exact z
    intro q
    subst q
    have z1 := getD_some z1
    cases s with
    | val d => exact z0 d rfl
    | own n => exact h1 i n e z1
    | bor n =>
      obtain ⟨hb, _, w1, _⟩ := r.sl i _ e
      rw [getD_some w1] at z1
      have z1 : c.adr i = a := V.ref.inj (Option.some.inj (Option.some.inj z1))
      exact h2 i hb z1
/-- a slot takes a datum; not a lent one -/
theorem Rel.set (r : Rel K c F H σ δ) {i : Nat} {v : V} {d : D} (h : Den K F d v) (nb : ∀ m, δ[i]? ≠ some (some (.bor m))) : Rel K c F H (σ.set i (some v)) (δ.set i (some (.val d))) := by
  have nbs : i ∉ c.bs := fun z => let ⟨m, e⟩ := r.borD i z; nb m e
  have nin : ∀ {j : Nat} {m : MD}, (δ.set i (some (.val d)))[j]? = some (some (.own m)) → j ≠ i ∧ δ[j]? = some (some (.own m)) := fun {j m} e => by
    rw [List.getElem?_set] at e
    split at e
    · split at e <;> cases e
    · rename_i z; exact ⟨fun q => z q.symm, e⟩
  refine ⟨r.sub, r.pres, r.low, r.new, r.gs, r.bor0, fun j hj => ?_, r.binj, by rw [List.length_set, List.length_set, r.len], fun j s e => ?_, fun j k a m n e1 e2 e3 e4 => ?_, r.tab⟩
  · have : i ≠ j := fun q => nbs (q ▸ hj)
    rw [List.getElem?_set_ne this]; exact r.borD j hj
  · by_cases q : i = j
    · subst q
      rw [List.getElem?_set] at e
      simp only [if_true] at e
      split at e
      · rename_i hl
        cases e
        exact ⟨v, by rw [List.getElem?_set]; simp only [if_true]; rw [if_pos (by rw [r.len]; exact hl)]; rfl, h⟩
      · cases e
    · rw [List.getElem?_set_ne q] at e
      rw [List.getElem?_set_ne q]
      exact r.sl j s e
  · obtain ⟨n1, o1⟩ := nin e1
    obtain ⟨n2, o2⟩ := nin e2
    rw [List.getElem?_set_ne (fun q => n1 q.symm)] at e3
    rw [List.getElem?_set_ne (fun q => n2 q.symm)] at e4
    exact r.apart j k a m n o1 o2 e3 e4
/-- a slot takes a new object of its own -/
theorem Rel.setOwn (r : Rel K c F H σ δ) {i : Nat} {p : Addr} {o : HO} {m : MD} (hp : H p = some o) (hF : F p = none) (hG : c.G p = none) (h0 : c.H0 p = none) (hm : MDen K F m o) (ap : ∀ (j : Nat) (n : MD), δ[j]? = some (some (Sl.own n)) → σ[j]? ≠ some (some (V.ref p))) (nb : ∀ m, δ[i]? ≠ some (some (.bor m))) :
    Rel K c F H (σ.set i (some (.ref p))) (δ.set i (some (.own m))) := by
  have nbs : i ∉ c.bs := fun z => let ⟨m, e⟩ := r.borD i z; nb m e
  refine ⟨r.sub, r.pres, r.low, r.new, r.gs, r.bor0, fun j hj => ?_, r.binj, by rw [List.length_set, List.length_set, r.len], fun j s e => ?_, fun j k a m1 n1 e1 e2 e3 e4 => ?_, r.tab⟩
  · have : i ≠ j := fun q => nbs (q ▸ hj)
    rw [List.getElem?_set_ne this]; exact r.borD j hj
  · by_cases q : i = j
    · subst q
      rw [List.getElem?_set] at e
      simp only [if_true] at e
      split at e
      · rename_i hl
        cases e
        exact ⟨p, o, by rw [List.getElem?_set]; simp only [if_true]; rw [if_pos (by rw [r.len]; exact hl)]; rfl, hp, hm, hF, hG, h0⟩
      · cases e
    · rw [List.getElem?_set_ne q] at e
      rw [List.getElem?_set_ne q]
      exact r.sl j s e
  · have at_ : ∀ {j : Nat} {n : MD}, (δ.set i (some (.own m)))[j]? = some (some (.own n)) → (σ.set i (some (V.ref p)))[j]? = some (some (.ref a)) → (j = i ∧ a = p) ∨ (j ≠ i ∧ δ[j]? = some (some (.own n)) ∧ σ[j]? = some (some (.ref a))) := fun {j n} g1 g2 => by
      by_cases q : i = j
      · subst q
        rw [List.getElem?_set] at g2
        simp only [if_true] at g2
        split at g2
        · cases g2; exact .inl ⟨rfl, rfl⟩
        · cases g2
      · rw [List.getElem?_set_ne q] at g1 g2
        exact .inr ⟨fun z => q z.symm, g1, g2⟩
    rcases at_ e1 e3 with ⟨q1, z1⟩ | ⟨q1, z1, y1⟩ <;> rcases at_ e2 e4 with ⟨q2, z2⟩ | ⟨q2, z2, y2⟩
    · rw [q1, q2]
    · subst z1; exact absurd y2 (ap k _ z2)
    · subst z2; exact absurd y1 (ap j _ z1)
    · exact r.apart j k a _ _ z1 z2 y1 y2
/-- a slot's own object, or a lent one, is written -/
theorem Rel.write (r : Rel K c F H σ δ) {i : Nat} {a : Addr} {s : Sl} {m m' : MD} {o' : HO} (hi : δ[i]? = some (some s)) (hs : s.mut = some m) (ha : σ[i]? = some (some (.ref a))) (hm : MDen K F m' o') : Rel K c F (upd H a o') σ (δ.set i (some (s.wr m'))) := by
  have hl : i < δ.length := (List.getElem?_eq_some_iff.mp hi).1
  have facts : F a = none ∧ c.G a = none ∧ (∀ (b : Addr) (x : HO), c.H0 b = some x → (∀ j ∈ c.bs, c.adr j ≠ b) → b ≠ a) ∧ (∀ (j : Nat) (s' : Sl), i ≠ j → δ[j]? = some (some s') → (∀ d, s' ≠ .val d) → σ[j]? ≠ some (some (V.ref a))) ∧ SlOk K c F (upd H a o') i (σ[i]?.getD none) (s.wr m') := by
    cases s with
    | val d => cases hs
    | own n =>
      obtain ⟨a', o, e1, e2, e3, e4, e5, e6⟩ := r.own hi
      rw [ha] at e1
      cases e1
      refine ⟨e4, e5, fun b x e _ q => (by subst q; rw [e6] at e; cases e), fun j s' q e z0 z1 => ?_, ⟨a, o', by rw [ha]; rfl, upd_same, hm, e4, e5, e6⟩⟩
      cases s' with
      | val d => exact z0 d rfl
      | own n' => exact q (r.apart i j a _ _ hi e ha z1)
      | bor n' =>
        obtain ⟨hb, _, w1, _⟩ := r.sl j _ e
        rw [getD_some w1] at z1; cases z1
        exact r.bor0 j hb e6
    | bor n =>
      obtain ⟨hb, o, e1, e2, e3, e4, e5⟩ := r.sl i _ hi
      have e1 := getD_some e1
      rw [ha] at e1
      cases e1
      refine ⟨e4, e5, fun b x e q z => q i hb z.symm, fun j s' q e z0 z1 => ?_, ⟨hb, o', by rw [ha]; rfl, upd_same, hm, e4, e5⟩⟩
      cases s' with
      | val d => exact z0 d rfl
      | own n' =>
        obtain ⟨_, _, w1, _, _, _, _, w2⟩ := r.own e
        rw [z1] at w1; cases w1
        exact r.bor0 i hb w2
      | bor n' =>
        obtain ⟨hb', _, w1, _⟩ := r.sl j _ e
        rw [getD_some w1] at z1
        have z1 : c.adr j = c.adr i := V.ref.inj (Option.some.inj (Option.some.inj z1))
        exact q (r.binj i j hb hb' z1.symm)
  obtain ⟨hF, hG, h0, hne, hok⟩ := facts
  have told : TabI c F (upd H a o') := by
    obtain ⟨a', o, g1, g2, g3, _⟩ := r.mutAt hi hs
    rw [ha] at g1; cases g1
    exact r.tab.upd g2 g3.pl
  refine ⟨fun b x e => ?_, fun b x e q => ?_, r.low, r.new, fun b x e => ⟨?_, (r.gs b x e).2⟩, r.bor0, fun j hj => ?_, r.binj, by rw [List.length_set, r.len], fun j s' e => ?_, fun j k b m1 n1 g1 g2 g3 g4 => ?_, told⟩
  · rw [upd_ne (fun q => by subst q; rw [hF] at e; cases e)]; exact r.sub _ _ e
  · rw [upd_ne (h0 b x e q)]; exact r.pres b x e q
  · rw [upd_ne (fun z => by subst z; rw [hG] at e; cases e)]; exact (r.gs b x e).1
  · by_cases q : i = j
    · subst q
      obtain ⟨m, e⟩ := r.borD i hj
      rw [hi] at e; cases e
      exact ⟨m', by rw [List.getElem?_set_self hl]; rfl⟩
    · rw [List.getElem?_set_ne q]; exact r.borD j hj
  · by_cases q : i = j
    · subst q
      rw [List.getElem?_set_self hl] at e
      cases e
      exact hok
    · rw [List.getElem?_set_ne q] at e
      refine (r.sl j s' e).to (.refl _) (fun _ _ _ z _ _ => z) fun b x z0 z1 z2 z3 => ?_
      rw [upd_ne ?_]; exact z2
      intro z
      subst z
      exact hne j s' q e z0 (getD_some z1)
  · have at_ : ∀ {j : Nat} {n : MD}, (δ.set i (some (s.wr m')))[j]? = some (some (Sl.own n)) → ∃ n', δ[j]? = some (some (Sl.own n')) := fun {j n} g => by
      by_cases q : i = j
      · subst q
        rw [List.getElem?_set_self hl] at g
        cases s with
        | val d => cases hs
        | own n' => exact ⟨_, hi⟩
        | bor n' => cases g
      · rw [List.getElem?_set_ne q] at g; exact ⟨_, g⟩
    obtain ⟨_, h1⟩ := at_ g1
    obtain ⟨_, h2⟩ := at_ g2
    exact r.apart j k b _ _ h1 h2 g3 g4
/-- an own object is not changed any more -/
theorem Rel.still (r : Rel K c F H σ δ) {i : Nat} {m : MD} (hi : δ[i]? = some (some (.own m))) : ∃ a o, σ[i]? = some (some (.ref a)) ∧ Same F (upd F a o) ∧ Den K (upd F a o) m.d (.ref a) ∧ Rel K c (upd F a o) H σ (δ.set i (some (.val m.d))) := by
  obtain ⟨a, o, e1, e2, e3, e4, e5, e6⟩ := r.own hi
  have hl : i < δ.length := (List.getElem?_eq_some_iff.mp hi).1
  have sF : Same F (upd F a o) := same_new e4
  have nbs : i ∉ c.bs := fun z => by
    obtain ⟨m, e⟩ := r.borD i z
    rw [hi] at e; cases e
  have ne_ : ∀ {j : Nat} {n : MD}, (δ.set i (some (.val m.d)))[j]? = some (some (Sl.own n)) → i ≠ j ∧ δ[j]? = some (some (Sl.own n)) := fun {j n} g => by
    by_cases q : i = j
    · subst q
      rw [List.getElem?_set_self hl] at g; cases g
    · rw [List.getElem?_set_ne q] at g; exact ⟨q, g⟩
  refine ⟨a, o, e1, sF, e3.still e4, fun b x e => ?_, r.pres, r.low.trans sF, fun b x e => ?_, fun b x e => ⟨(r.gs b x e).1, ?_⟩, r.bor0, fun j hj => ?_, r.binj, by rw [List.length_set, r.len], fun j s e => ?_, fun j k b m1 n1 g1 g2 g3 g4 => ?_, r.tab.lay e3.pl⟩
  · by_cases q : b = a
    · subst q; rw [upd_same] at e; cases e; exact e2
    · rw [upd_ne q] at e; exact r.sub _ _ e
  · by_cases q : b = a
    · subst q; exact .inr (.inl e6)
    · rw [upd_ne q] at e; exact r.new _ _ e
  · rw [upd_ne (fun z => by subst z; rw [e5] at e; cases e)]; exact (r.gs b x e).2
  · have : i ≠ j := fun q => nbs (q ▸ hj)
    rw [List.getElem?_set_ne this]; exact r.borD j hj
  · by_cases q : i = j
    · subst q
      rw [List.getElem?_set_self hl] at e
      cases e
      exact ⟨.ref a, by rw [e1]; rfl, e3.still e4⟩
    · rw [List.getElem?_set_ne q] at e
      refine (r.sl j s e).to sF (fun b x z1 z2 z0 z3 => ?_) fun b x _ _ z _ => z
      rw [upd_ne ?_]; exact z2
      intro z
      subst z
      have z3 := getD_some z3
      cases s with
      | val d => exact z0 d rfl
      | own n => exact q (r.apart i j b _ _ hi e e1 z3)
      | bor n =>
        obtain ⟨hb, _, w1, _⟩ := r.sl j _ e
        rw [getD_some w1] at z3; cases z3
        exact r.bor0 j hb e6
  · obtain ⟨_, h1⟩ := ne_ g1
    obtain ⟨_, h2⟩ := ne_ g2
    exact r.apart j k b _ _ h1 h2 g3 g4
/-- the tables are written, all else stays -/
theorem Rel.extN (r : Rel K c F H σ δ) {H1 : Hp} (e : LamX.ExtN H H1) (t : LamX.Tabs Tbl.T H1) : Rel K c F H1 σ δ := by
  have k : ∀ {b : Addr} {o : HO}, H b = some o → Pl o → H1 b = some o := fun {b o} h p => e b o h fun ps z => by subst z; exact p
  refine ⟨fun b o h => k (r.sub b o h) (r.tab.fnt b o h), fun b o h q => k (r.pres b o h q) (r.tab.hnt b o h), r.low, r.new, fun b o h => ⟨k (r.gs b o h).1 (r.tab.gnt b o h).pl, (r.gs b o h).2⟩, r.bor0, r.borD, r.binj, r.len, fun i s h => ?_, r.apart, ⟨t, r.tab.fnt, r.tab.gnt, r.tab.hnt⟩⟩
  have z := r.sl i s h
  cases s with
  | val d => exact z
  | own m =>
    obtain ⟨a, o, e1, e2, e3, e4⟩ := z
    exact ⟨a, o, e1, k e2 e3.pl, e3, e4⟩
  | bor m =>
    obtain ⟨hi, o, e1, e2, e3, e4⟩ := z
    exact ⟨hi, o, e1, k e2 e3.pl, e3, e4⟩
end
end PV

/-! PV2: readings by functions on data; expressions. -/
namespace PV
open PySem PySem.Spec PyProof.Rows L2
variable [Tbl]

/-- an exception: its class, its fields -/
structure XD where
  c : Str
  fs : List (Str × D)
inductive R (α : Type) where
  | ok (a : α) (δ : DE)
  | exc (x : XD) (δ : DE)
  | stuck
def R.bind {α β : Type} (r : R α) (g : α → DE → R β) : R β :=
  match r with
  | .ok a δ => g a δ
  | .exc x δ => .exc x δ
  | .stuck => .stuck
def R.of {α : Type} (o : Option α) (δ : DE) : R α :=
  match o with
  | some a => .ok a δ
  | none => .stuck
theorem R.bind_ok {α β : Type} {a : α} {δ : DE} {g : α → DE → R β} : (R.ok a δ).bind g = g a δ := rfl

/-- the class of a name -/
def ClsIs (K : PySem.W.Frag) (n : Str) (cls : Value) : Prop := PySem.W.nsIn K mainGlobals n = some (some cls) ∨ (PySem.W.nsIn K mainGlobals n = some none ∧ bootBuiltins n = some cls)
theorem ClsIs.uniq {K : PySem.W.Frag} {n : Str} {a b : Value} (h : ClsIs K n a) (g : ClsIs K n b) : a = b := by
  rcases h with h | ⟨h, h2⟩ <;> rcases g with g | ⟨g, g2⟩ <;> rw [h] at g
  · exact Option.some.inj (Option.some.inj g)
  · cases g
  · cases g
  · rw [h2] at g2; exact Option.some.inj g2
def XOk (K : PySem.W.Frag) (F H : Hp) (x : XD) (cls : Value) (od : Option Addr) : Prop :=
  ClsIs K x.c cls ∧ match od with
    | none => x.fs = []
    | some a => x.fs ≠ [] ∧ ∃ fs, H a = some (.xd fs) ∧ DenF K F x.fs fs

/-- what is wanted of a result -/
def aft {α β : Type} (K : PySem.W.Frag) (W : WX) (DN : Cq → Hp → Hp → L2.St → DE → α → β → Prop) (c : Cq) (F : Hp) (σ : L2.St) (Q : β → Hp → Prop) : R α → Prop
  | .ok a δ => ∀ v F' H', Rel K c F' H' σ δ → Same F F' → DN c F' H' σ δ a v → Q v H'
  | .exc x δ => ∀ cls od F' H', Rel K c F' H' σ δ → Same F F' → XOk K F' H' x cls od → W cls od σ H'
  | .stuck => False
def rd {α β : Type} (K : PySem.W.Frag) (W : WX) (DN : Cq → Hp → Hp → L2.St → DE → α → β → Prop) (f : DE → R α) : L2.St → Hp → (β → Hp → Prop) → Prop :=
  fun σ H Q => ∃ c F δ, Rel K c F H σ δ ∧ aft K W DN c F σ Q (f δ)

/-- values, lists of values, truths -/
abbrev dnE (K : PySem.W.Frag) : Cq → Hp → Hp → L2.St → DE → D → V → Prop := fun _ F _ _ _ d v => Den K F d v
abbrev dnB : Cq → Hp → Hp → L2.St → DE → Bool → Bool → Prop := fun _ _ _ _ _ b v => v = b
abbrev dnO : Cq → Hp → Hp → L2.St → DE → Option Int → Option Int → Prop := fun _ _ _ _ _ b v => v = b
/-- an argument: a datum, or a slot whose object is lent -/
inductive Arg where
  | val (d : D)
  | slot (i : Nat)
def ArgD (K : PySem.W.Frag) (F : Hp) (σ : L2.St) : Arg → V → Prop
  | .val d, v => Den K F d v
  | .slot i, v => σ[i]? = some (some v)
def ArgsD (K : PySem.W.Frag) (F : Hp) (σ : L2.St) : List Arg → List V → Prop
  | [], vs => vs = []
  | a :: as, vs => ∃ v r, vs = v :: r ∧ ArgD K F σ a v ∧ ArgsD K F σ as r
abbrev dnA (K : PySem.W.Frag) : Cq → Hp → Hp → L2.St → DE → List Arg → List V → Prop := fun _ F _ σ _ as vs => ArgsD K F σ as vs
/-- a new object of one's own -/
abbrev dnN (K : PySem.W.Frag) : Cq → Hp → Hp → L2.St → DE → MD → V → Prop := fun c F H σ δ m v => ∃ p o, v = .ref p ∧ H p = some o ∧ MDen K F m o ∧ F p = none ∧ c.G p = none ∧ c.H0 p = none ∧
  ∀ (j : Nat) (n : MD), δ[j]? = some (some (Sl.own n)) → σ[j]? ≠ some (some (V.ref p))

abbrev rdE (K : PySem.W.Frag) (W : WX) (f : DE → R D) : TE := rd K W (dnE K) f
abbrev rdT (K : PySem.W.Frag) (W : WX) (f : DE → R Bool) : TT := rd K W dnB f
abbrev rdA (K : PySem.W.Frag) (W : WX) (f : DE → R (List Arg)) : TA := rd K W (dnA K) f
abbrev rdO (K : PySem.W.Frag) (W : WX) (f : DE → R (Option Int)) : TO := rd K W dnO f
abbrev rdN (K : PySem.W.Frag) (W : WX) (f : DE → R MD) : TE := rd K W (dnN K) f

theorem ArgD.mono {K : PySem.W.Frag} {F F' : Hp} {σ : L2.St} (e : Same F F') : ∀ {a : Arg} {v : V}, ArgD K F σ a v → ArgD K F' σ a v
  | .val _, _, h => Den.mono e _ _ h
  | .slot _, _, h => h
theorem ArgsD.mono {K : PySem.W.Frag} {F F' : Hp} {σ : L2.St} (e : Same F F') : ∀ {as : List Arg} {vs : List V}, ArgsD K F σ as vs → ArgsD K F' σ as vs
  | [], _, h => h
  | _ :: _, _, ⟨v, r, e1, h1, h2⟩ => ⟨v, r, e1, h1.mono e, h2.mono e⟩

section
variable {α β γ δ' : Type} {K : PySem.W.Frag} {W : WX} {DN : Cq → Hp → Hp → L2.St → DE → α → β → Prop} {DM : Cq → Hp → Hp → L2.St → DE → γ → δ' → Prop} {σ : L2.St} {H : Hp}

theorem aft.mono {c : Cq} {F F1 : Hp} {Q Q' : β → Hp → Prop} : ∀ {r : R α}, aft K W DN c F σ Q r → Same F F1 → (∀ v H', Q v H' → Q' v H') → aft K W DN c F1 σ Q' r
  | .ok a δ, h, s, q => fun v F' H' r e d => q v H' (h v F' H' r (s.trans e) d)
  | .exc x δ, h, s, _ => fun cls od F' H' r e d => h cls od F' H' r (s.trans e) d
  | .stuck, h, _, _ => h
theorem rd.mono {f : DE → R α} {Q Q' : β → Hp → Prop} (h : rd K W DN f σ H Q) (q : ∀ v H', Q v H' → Q' v H') : rd K W DN f σ H Q' := by
  obtain ⟨c, F, δ, r, a⟩ := h
  exact ⟨c, F, δ, r, a.mono (.refl _) q⟩
/-- the first part of a whole -/
theorem rd.first {f : DE → R γ} {g : γ → DE → R α} {Q : β → Hp → Prop} {Q' : δ' → Hp → Prop} (h : rd K W DN (fun δ => (f δ).bind g) σ H Q)
    (k : ∀ c F H1 δ a v, Rel K c F H1 σ δ → DM c F H1 σ δ a v → aft K W DN c F σ Q (g a δ) → Q' v H1) : rd K W DM f σ H Q' := by
  obtain ⟨c, F, δ, r, a⟩ := h
  refine ⟨c, F, δ, r, ?_⟩
  cases e : f δ with
  | ok x δ1 =>
    have a : aft K W DN c F σ Q ((f δ).bind g) := a
    rw [e] at a
    exact fun v F' H' r' s d => k c F' H' δ1 x v r' d (a.mono s fun _ _ z => z)
  | exc x δ1 =>
    have a : aft K W DN c F σ Q ((f δ).bind g) := a
    rw [e] at a
    exact a
  | stuck =>
    have a : aft K W DN c F σ Q ((f δ).bind g) := a
    rw [e] at a
    exact a
/-- and a further part -/
theorem aft.next {c : Cq} {F : Hp} {δ : DE} {f : DE → R γ} {g : γ → DE → R α} {Q : β → Hp → Prop} {Q' : δ' → Hp → Prop} (r : Rel K c F H σ δ) (h : aft K W DN c F σ Q ((f δ).bind g))
    (k : ∀ F1 H1 δ1 a v, Rel K c F1 H1 σ δ1 → Same F F1 → DM c F1 H1 σ δ1 a v → aft K W DN c F1 σ Q (g a δ1) → Q' v H1) : rd K W DM f σ H Q' := by
  refine ⟨c, F, δ, r, ?_⟩
  cases e : f δ with
  | ok x δ1 =>
    rw [e] at h
    exact fun v F' H' r' s d => k F' H' δ1 x v r' s d (h.mono s fun _ _ z => z)
  | exc x δ1 => rw [e] at h; exact h
  | stuck => rw [e] at h; exact h
end

/-! ### expressions -/
abbrev VE (X : Cx) (W : WX) (e : Expr) (f : DE → R D) : Prop := PE X e (rdE X.K W f)
abbrev VT (X : Cx) (W : WX) (e : Expr) (f : DE → R Bool) : Prop := PT X e (rdT X.K W f)
abbrev VA (X : Cx) (W : WX) (es : List Expr) (f : DE → R (List Arg)) : Prop := PA X es (rdA X.K W f)
abbrev VN (X : Cx) (W : WX) (e : Expr) (f : DE → R MD) : Prop := PE X e (rdN X.K W f)
abbrev VO (X : Cx) (W : WX) (e : Option Expr) (f : DE → R (Option Int)) : Prop := PO X e (rdO X.K W f)
theorem PE.to {X : Cx} {e : Expr} {t t' : TE} (h : PE X e t) (i : ∀ σ H Q, t' σ H Q → t σ H Q) : PE X e t' := ⟨fun pins s σ H Q I z => h.run pins s σ H Q I (i σ H Q z)⟩
theorem PT.to {X : Cx} {e : Expr} {t t' : TT} (h : PT X e t) (i : ∀ σ H Q, t' σ H Q → t σ H Q) : PT X e t' := ⟨fun pins s σ H Q I z => h.run pins s σ H Q I (i σ H Q z)⟩
theorem PW.to {X : Cx} {e : Expr} {t t' : TT} (h : PW X e t) (i : ∀ σ H Q, t' σ H Q → t σ H Q) : PW X e t' := ⟨fun E pins s σ H Q I z => h.run E pins s σ H Q I (i σ H Q z)⟩
theorem PA.to {X : Cx} {e : List Expr} {t t' : TA} (h : PA X e t) (i : ∀ σ H Q, t' σ H Q → t σ H Q) : PA X e t' := ⟨fun pos pins s σ H Q I z => h.run pos pins s σ H Q I (i σ H Q z)⟩
theorem PO.to {X : Cx} {e : Option Expr} {t t' : TO} (h : PO X e t) (i : ∀ σ H Q, t' σ H Q → t σ H Q) : PO X e t' := ⟨fun pins s σ H Q I z => h.run pins s σ H Q I (i σ H Q z)⟩

/-- a datum that is written -/
def cst (d : D) : DE → R D := fun δ => .ok d δ
/-- a name: a datum, or an own object that is not changed from here on -/
def var (i : Nat) : DE → R D := fun δ =>
  match δ[i]? with
  | some (some (.val d)) => .ok d δ
  | some (some (.own m)) => .ok m.d (δ.set i (some (.val m.d)))
  | _ => .stuck
section
variable {X : Cx} {W : WX} {a b e : Expr} {fa fb : DE → R D} {pos : Pos}

theorem rd_cst {K : PySem.W.Frag} {d : D} {v : V} {σ : L2.St} {H : Hp} {Q : VK} (hd : ∀ F, Den K F d v) (h : rdE K W (cst d) σ H Q) : Q v H := by
  obtain ⟨c, F, δ, r, z⟩ := h
  exact z v F H r (.refl _) (hd F)
theorem ve_int {i j pos} : VE X W (.Constant (.int i) j pos) (cst (.int i)) := PE.to pe_int fun _ _ _ h => rd_cst (d := .int i) (v := .int i) (fun _ => by unfold Den; rfl) h
theorem ve_str {i j pos} : VE X W (.Constant (.str i) j pos) (cst (.str i)) := PE.to pe_str fun _ _ _ h => rd_cst (d := .str i) (v := .str i) (fun _ => by unfold Den; rfl) h
theorem ve_bl {i j pos} : VE X W (.Constant (.bool i) j pos) (cst (.bl i)) := PE.to pe_bl fun _ _ _ h => rd_cst (d := .bl i) (v := .bl i) (fun _ => by unfold Den; rfl) h
theorem ve_non {j pos} : VE X W (.Constant .none j pos) (cst .non) := PE.to pe_non fun _ _ _ h => rd_cst (d := .non) (v := .non) (fun _ => by unfold Den; rfl) h
theorem ve_byt {x k pos} : VE X W (.Constant (.bytes x) k pos) (cst (.byt x.toArray)) := PE.to pe_byt fun _ _ _ h => rd_cst (d := .byt x.toArray) (v := .byt x.toArray) (fun _ => by unfold Den; rfl) h
/-- a module's constant -/
theorem ve_glob {x : Str} {v : V} {d : D} {u : Value} {pos : Pos} (hg : Gl X x) (hm : X.mg x = some u) (r : RelV v u) (hd : ∀ F, Den X.K F d v) (hdb : (x == ("__debug__" : Str)) = false := by decide) : VE X W (.Name x pos) (cst d) :=
  PE.to (pe_glob hg hm r hdb) fun _ _ _ h => rd_cst hd h
theorem ve_bltn {x : Str} {v : V} {d : D} {u : Value} {pos : Pos} (hg : Gl X x) (hm : X.mg x = none) (hv : bootBuiltins x = some u) (r : RelV v u) (hd : ∀ F, Den X.K F d v) (hn : x ≠ "__name__" := by decide) (hdb : (x == ("__debug__" : Str)) = false := by decide) : VE X W (.Name x pos) (cst d) :=
  PE.to (pe_bltn hg hm hv r hn hdb) fun _ _ _ h => rd_cst hd h

theorem rd_var {K : PySem.W.Frag} {i : Nat} {σ : L2.St} {H : Hp} {Q : VK} (h : rdE K W (var i) σ H Q) : tVar i σ H Q := by
  obtain ⟨c, F, δ, r, z⟩ := h
  unfold var at z
  cases e : δ[i]? with
  | none => rw [e] at z; exact False.elim z
  | some s =>
    rw [e] at z
    cases s with
    | none => exact False.elim z
    | some s =>
      cases s with
      | val d =>
        obtain ⟨v, e1, e2⟩ := r.val e
        exact ⟨v, e1, z v F H r (.refl _) e2⟩
      | own m =>
        obtain ⟨a, o, e1, e2, e3, e4⟩ := r.still e
        exact ⟨.ref a, e1, z _ _ H e4 e2 e3⟩
      | bor m => exact False.elim z
theorem ve_var (i : Nat) {x : Str} {pos : Pos} (hN : X.N[i]? = some x := by rfl) (hv : Vis X.env.scope x := by first | exact Or.inl rfl | exact Or.inr (Or.inl rfl) | exact Or.inr (Or.inr rfl)) (hd : (x == ("__debug__" : Str)) = false := by decide)
    (hcd : (x == ("__classdict__" : Str)) = false := by decide) : VE X W (.Name x pos) (var i) := PE.to (pe_var hN hv hd hcd) fun _ _ _ h => rd_var h

/-! ### operators -/
def op2 (o : D → D → Option D) (fa fb : DE → R D) : DE → R D := fun δ => (fa δ).bind fun x δ => (fb δ).bind fun y δ => R.of (o x y) δ
/-- an operation on values, by a function on data -/
def Op2 (X : Cx) (sem : Value → Value → Sem Value) (o : D → D → Option D) : Prop :=
  ∃ r : R2, OpR X sem r ∧ ∀ c F H σ δ d e z v w (Q : VK), Rel X.K c F H σ δ → Den X.K F d v → Den X.K F e w → o d e = some z →
    (∀ u F' H', Rel X.K c F' H' σ δ → Same F F' → Den X.K F' z u → Q u H') → r v w H Q
theorem Op2.rd {sem : Value → Value → Sem Value} {o : D → D → Option D} (h : Op2 X sem o) : ∃ r, OpR X sem r ∧ ∀ σ H Q, rdE X.K W (op2 o fa fb) σ H Q → tOp r (rdE X.K W fa) (rdE X.K W fb) σ H Q := by
  obtain ⟨r, h1, h2⟩ := h
  refine ⟨r, h1, fun σ H Q z => ?_⟩
  refine z.first fun c F H1 δ x v r1 d1 z1 => ?_
  refine z1.next (DM := dnE X.K) r1 fun F2 H2 δ2 y w r2 s2 d2 z2 => ?_
  cases e : o x y with
  | none => rw [e] at z2; exact False.elim z2
  | some q =>
    rw [e] at z2
    exact h2 c F2 H2 σ δ2 x y q v w Q r2 (Den.mono s2 _ _ d1) d2 e fun u F' H' r' s' d' => z2 u F' H' r' s' d'
theorem ve_op {op : Operator} {o : D → D → Option D} (h : Op2 X (binaryOp op) o) (ha : VE X W a fa) (hb : VE X W b fb) : VE X W (.BinOp a op b pos) (op2 o fa fb) := by
  obtain ⟨r, h1, h2⟩ := h.rd (W := W) (fa := fa) (fb := fb)
  exact PE.to (pe_op h1 ha hb) h2
theorem ve_cmp {op : CmpOp} {o : D → D → Option D} (h : Op2 X (compareOp op) o) (ha : VE X W a fa) (hb : VE X W b fb) (hm : behindInMarks op b = false) : VE X W (.Compare a [op] [b] pos) (op2 o fa fb) := by
  obtain ⟨r, h1, h2⟩ := h.rd (W := W) (fa := fa) (fb := fb)
  exact PE.to (pe_cmpR h1 ha hb hm) h2
theorem Op2.or {sem : Value → Value → Sem Value} {o o' : D → D → Option D} (h : Op2 X sem o) (h' : Op2 X sem o') : Op2 X sem (fun x y => (o x y).or (o' x y)) := by
  obtain ⟨r, h1, h2⟩ := h
  obtain ⟨r', h1', h2'⟩ := h'
  refine ⟨_, OpR.or h1 h1', fun c F H σ δ d e z v w Q r0 d1 d2 q k => ?_⟩
  have q : (o d e).or (o' d e) = some z := q
  cases e1 : o d e with
  | some y =>
    rw [e1] at q
    exact .inl (h2 c F H σ δ d e z v w Q r0 d1 d2 (by rw [e1]; exact q) k)
  | none =>
    rw [e1] at q
    exact .inr (h2' c F H σ δ d e z v w Q r0 d1 d2 q k)

/-! ### tests -/
def tst (f : DE → R D) : DE → R Bool := fun δ => (f δ).bind fun x δ => match x with
  | .bl b => .ok b δ
  | _ => .stuck
theorem rd_tst {K : PySem.W.Frag} {f : DE → R D} {σ : L2.St} {H : Hp} {Q : Bool → Hp → Prop} (h : rdT K W (tst f) σ H Q) : rdE K W f σ H fun x H' => ∃ k, x = .bl k ∧ Q k H' := by
  refine h.first fun c F H1 δ x v r1 d1 z1 => ?_
  cases x <;> first | exact False.elim z1 | skip
  exact ⟨_, d1, z1 _ F H1 r1 (.refl _) rfl⟩
/-- a test that is a truth value -/
theorem vt_val {f : DE → R D} (h : VE X W e f) (he : ∀ whole, isTrue e X.env whole = (do let v ← whole; standAt e.pos; holding [v] (truthy v)) := by intro _; rfl) : VT X W e (tst f) :=
  PT.to (pt_val h he) fun _ _ _ z => rd_tst z
theorem vt_cmp {op : CmpOp} {o : D → D → Option D} (h : Op2 X (compareOp op) o) (ha : VE X W a fa) (hb : VE X W b fb) (hm : behindInMarks op b = false) : VT X W (.Compare a [op] [b] pos) (tst (op2 o fa fb)) := by
  obtain ⟨r, h1, h2⟩ := h.rd (W := W) (fa := fa) (fb := fb)
  exact PT.to (pt_cmpR h1 ha hb hm) fun σ H Q z => h2 σ H _ (rd_tst z)
def andT (f g : DE → R Bool) : DE → R Bool := fun δ => (f δ).bind fun b δ => if b = true then g δ else .ok false δ
def orT (f g : DE → R Bool) : DE → R Bool := fun δ => (f δ).bind fun b δ => if b = true then .ok true δ else g δ
def notT (f : DE → R Bool) : DE → R Bool := fun δ => (f δ).bind fun b δ => .ok (!b) δ
theorem rd_here {α β : Type} {K : PySem.W.Frag} {DN : Cq → Hp → Hp → L2.St → DE → α → β → Prop} {c : Cq} {F H : Hp} {σ : L2.St} {δ : DE} {g : DE → R α} {Q : β → Hp → Prop} (r : Rel K c F H σ δ) (h : aft K W DN c F σ Q (g δ)) : rd K W DN g σ H Q := ⟨c, F, δ, r, h⟩
theorem rd_and {K : PySem.W.Frag} {f g : DE → R Bool} {σ : L2.St} {H : Hp} {Q : Bool → Hp → Prop} (h : rdT K W (andT f g) σ H Q) : tAnd (rdT K W f) (rdT K W g) σ H Q := by
  refine h.first fun c F H1 δ b v r1 d1 z1 => ?_
  cases (show v = b from d1)
  cases b with
  | true => exact rd_here r1 z1
  | false => exact z1 _ F H1 r1 (.refl _) rfl
theorem rd_or {K : PySem.W.Frag} {f g : DE → R Bool} {σ : L2.St} {H : Hp} {Q : Bool → Hp → Prop} (h : rdT K W (orT f g) σ H Q) : tOr (rdT K W f) (rdT K W g) σ H Q := by
  refine h.first fun c F H1 δ b v r1 d1 z1 => ?_
  cases (show v = b from d1)
  cases b with
  | true => exact z1 _ F H1 r1 (.refl _) rfl
  | false => exact rd_here r1 z1
theorem vt_not {f : DE → R Bool} (h : VT X W e f) : VT X W (.UnaryOp .Not e pos) (notT f) := PT.to (pt_not h) fun σ H Q z => by
  refine z.first fun c F H1 δ b v r1 d1 z1 => ?_
  cases (show v = b from d1)
  exact z1 _ F H1 r1 (.refl _) rfl
section
variable {b : Expr} {rest : List Expr} {f g : DE → R Bool}
abbrev VW (X : Cx) (W : WX) (e : Expr) (f : DE → R Bool) : Prop := PW X e (rdT X.K W f)
theorem vw_and1 (h : VT X W a f) : VW X W (.BoolOp .And [a] pos) f := pw_and1 h
theorem vw_or1 (h : VT X W a f) : VW X W (.BoolOp .Or [a] pos) f := pw_or1 h
theorem vw_and (h : VT X W a f) (k : VW X W (.BoolOp .And (b :: rest) pos) g) : VW X W (.BoolOp .And (a :: b :: rest) pos) (andT f g) := PW.to (pw_and h k) fun _ _ _ z => rd_and z
theorem vw_or (h : VT X W a f) (k : VW X W (.BoolOp .Or (b :: rest) pos) g) : VW X W (.BoolOp .Or (a :: b :: rest) pos) (orT f g) := PW.to (pw_or h k) fun _ _ _ z => rd_or z
theorem vt_w (h : VW X W e f) : VT X W e f := h.pt
end
/-! and, or, not of truth values, as values -/
def andE (f g : DE → R D) : DE → R D := fun δ => (f δ).bind fun b δ => match b with
  | .bl true => g δ
  | .bl false => .ok (.bl false) δ
  | _ => .stuck
def orE (f g : DE → R D) : DE → R D := fun δ => (f δ).bind fun b δ => match b with
  | .bl true => .ok (.bl true) δ
  | .bl false => g δ
  | _ => .stuck
def notE (f : DE → R D) : DE → R D := fun δ => (f δ).bind fun b δ => match b with
  | .bl b => .ok (.bl (!b)) δ
  | _ => .stuck
section
variable {b : Expr} {rest : List Expr}
theorem ve_one {op} (h : VE X W a fa) : VE X W (.BoolOp op [a] pos) fa := pe_one h
theorem ve_and (h : VE X W a fa) (k : VE X W (.BoolOp .And (b :: rest) pos) fb) : VE X W (.BoolOp .And (a :: b :: rest) pos) (andE fa fb) := PE.to (pe_and h k) fun σ H Q z => by
  refine z.first fun c F H1 δ x v r1 d1 z1 => ?_
  cases x <;> first | exact False.elim z1 | skip
  rename_i k
  refine ⟨k, d1, ?_⟩
  cases k with
  | true => exact rd_here r1 z1
  | false => exact z1 _ F H1 r1 (.refl _) rfl
theorem ve_or (h : VE X W a fa) (k : VE X W (.BoolOp .Or (b :: rest) pos) fb) : VE X W (.BoolOp .Or (a :: b :: rest) pos) (orE fa fb) := PE.to (pe_or h k) fun σ H Q z => by
  refine z.first fun c F H1 δ x v r1 d1 z1 => ?_
  cases x <;> first | exact False.elim z1 | skip
  rename_i k
  refine ⟨k, d1, ?_⟩
  cases k with
  | true => exact z1 _ F H1 r1 (.refl _) rfl
  | false => exact rd_here r1 z1
theorem ve_not (h : VE X W a fa) : VE X W (.UnaryOp .Not a pos) (notE fa) := PE.to (pe_not h) fun σ H Q z => by
  refine z.first fun c F H1 δ x v r1 d1 z1 => ?_
  cases x <;> first | exact False.elim z1 | skip
  exact ⟨_, d1, z1 _ F H1 r1 (.refl _) rfl⟩
end
/-- x if t else y -/
def ifE (t : DE → R Bool) (f g : DE → R D) : DE → R D := fun δ => (t δ).bind fun b δ => if b = true then f δ else g δ
theorem ve_if {c : Expr} {ft : DE → R Bool} (hc : VT X W c ft) (ha : VE X W a fa) (hb : VE X W b fb) : VE X W (.IfExp c a b pos) (ifE ft fa fb) := PE.to (pe_ifExp hc ha hb) fun σ H Q z => by
  refine z.first (DM := dnB) fun c F H1 δ x v r1 d1 z1 => ?_
  cases (show v = x from d1)
  cases x with
  | true => exact rd_here r1 z1
  | false => exact rd_here r1 z1
/-- a op b op' c -/
def chn (o o' : D → D → Option D) (fa fb fc : DE → R D) : DE → R D := fun δ => (fa δ).bind fun x δ => (fb δ).bind fun y δ => (R.of (o x y) δ).bind fun z δ => match z with
  | .bl true => (fc δ).bind fun w δ => R.of (o' y w) δ
  | .bl false => .ok (.bl false) δ
  | _ => .stuck
theorem rd_chn {c : Expr} {fc : DE → R D} {op op' : CmpOp} {o o' : D → D → Option D} (h : Op2 X (compareOp op) o) (h' : Op2 X (compareOp op') o') : ∃ r r', OpR X (compareOp op) r ∧ OpR X (compareOp op') r' ∧
    ∀ σ H Q, rdE X.K W (chn o o' fa fb fc) σ H Q → tChain r r' (rdE X.K W fa) (rdE X.K W fb) (rdE X.K W fc) σ H Q := by
  obtain ⟨r, h1, h2⟩ := h
  obtain ⟨r', h1', h2'⟩ := h'
  refine ⟨r, r', h1, h1', fun σ H Q z => ?_⟩
  refine z.first fun c F H1 δ x v r1 d1 z1 => ?_
  refine z1.next (DM := dnE X.K) r1 fun F2 H2 δ2 y w r2 s2 d2 z2 => ?_
  cases e : o x y with
  | none => rw [e] at z2; exact False.elim z2
  | some q =>
    rw [e] at z2
    refine h2 c F2 H2 σ δ2 x y q v w _ r2 (Den.mono s2 _ _ d1) d2 e fun u F3 H3 r3 s3 d3 => ?_
    cases q <;> first | exact False.elim z2 | skip
    rename_i k
    refine ⟨k, d3, ?_⟩
    have z3 := z2.mono s3 fun _ _ z => z
    cases k with
    | true =>
      refine aft.next (DM := dnE X.K) (f := fc) (g := fun w δ => R.of (o' y w) δ) r3 z3 fun F4 H4 δ4 t w' r4 s4 d4 z4 => ?_
      cases e' : o' y t with
      | none => rw [e'] at z4; exact False.elim z4
      | some q' =>
        rw [e'] at z4
        exact h2' c F4 H4 σ δ4 y t q' w w' Q r4 (Den.mono (s3.trans s4) _ _ d2) d4 e' fun u F' H' r' s' d' => z4 u F' H' r' s' d'
    | false => exact z3 _ F3 H3 r3 (.refl _) rfl
theorem ve_chain {c : Expr} {fc : DE → R D} {op op' : CmpOp} {o o' : D → D → Option D} (h : Op2 X (compareOp op) o) (h' : Op2 X (compareOp op') o') (ha : VE X W a fa) (hb : VE X W b fb) (hc : VE X W c fc)
    (hm : lastMarks [op, op'] [b, c] = false := by with_unfolding_all rfl) : VE X W (.Compare a [op, op'] [b, c] pos) (chn o o' fa fb fc) := by
  obtain ⟨r, r', h1, h2, h3⟩ := rd_chn (W := W) (fa := fa) (fb := fb) (c := c) (fc := fc) h h'
  exact PE.to (pe_chain h1 h2 ha hb hc hm) h3
end
end PV

/-! PV3: what a def is worth; calls; statements. -/
namespace PV
open PySem PySem.Spec PyProof.Rows L2
variable [Tbl]

/-! ### a def as a function -/
inductive FR where
  | ret (d : D) (as : List Sl)
  | exc (x : XD) (as : List Sl)
  | stuck
/-- the heap without tables and code objects -/
def pl (H : Hp) : Hp := fun b => match H b with
  | some (.tbl _) => none
  | some (.ext _) => none
  | x => x
theorem pl_of {H : Hp} {b : Addr} {o : HO} (h : pl H b = some o) : H b = some o ∧ Pl o := by
  unfold pl at h
  split at h
  · cases h
  · cases h
  · rename_i n1 n2
    refine ⟨h, ?_⟩
    cases o with
    | tbl ps => exact n1 ps h
    | ext f => exact n2 f h
    | _ => trivial
theorem pl_to {H : Hp} {b : Addr} {o : HO} (h : H b = some o) (p : Pl o) : pl H b = some o := by
  unfold pl
  rw [h]
  cases o with
  | tbl ps => exact False.elim p
  | ext f => exact False.elim p
  | _ => rfl
theorem pl_none {H : Hp} {b : Addr} (h : H b = none) : pl H b = none := by unfold pl; rw [h]
theorem pl_same {H : Hp} : Same (pl H) H := fun b o h => (pl_of h).1
def ArgOk (K : PySem.W.Frag) (F H : Hp) (s : Sl) (v : V) : Prop :=
  match s with
  | .val d => Den K F d v
  | .bor m => ∃ a o, v = .ref a ∧ H a = some o ∧ MDen K F m o ∧ F a = none
  | .own _ => False
structure AOk (K : PySem.W.Frag) (F H : Hp) (as : List Sl) (vs : List V) : Prop where
  sub : Same F H
  len : as.length = vs.length
  ok : ∀ (i : Nat) (s : Sl) (v : V), as[i]? = some s → vs[i]? = some v → ArgOk K F H s v
  apart : ∀ (i j : Nat) (a : Addr) (m n : MD), as[i]? = some (.bor m) → as[j]? = some (.bor n) → vs[i]? = some (.ref a) → vs[j]? = some (.ref a) → i = j
  tabs : LamX.Tabs Tbl.T H
  fnt : ∀ b o, F b = some o → Pl o
structure Done (K : PySem.W.Frag) (F H : Hp) (as : List Sl) (vs : List V) (F' H' : Hp) (as' : List Sl) : Prop where
  low : Same F F'
  args : AOk K F' H' as' vs
  new : ∀ b o, F' b = some o → F b = some o ∨ pl H b = none ∨ ∃ xs, o = HO.tup xs
  pres : ∀ b o, pl H b = some o → (∀ (i : Nat) (m : MD), as[i]? = some (.bor m) → vs[i]? ≠ some (.ref b)) → H' b = some o
  keep : ∀ (i : Nat) (m : MD), as[i]? = some (.bor m) → ∃ m', as'[i]? = some (.bor m')
def spV (K : PySem.W.Frag) (φ : List Sl → FR) : Sp := fun vs H Q E => ∃ F as, AOk K F H as vs ∧
  match φ as with
  | .ret d as' => ∀ v F' H', Done K F H as vs F' H' as' → Den K F' d v → Q v H'
  | .exc x as' => ∀ cls od F' H', Done K F H as vs F' H' as' → XOk K F' H' x cls od → E cls od H'
  | .stuck => False

/-! ### a statement -/
inductive O where
  | nx (δ : DE)
  | ret (d : D) (δ : DE)
  | brk (δ : DE)
  | cnt (δ : DE)
  | exc (x : XD) (δ : DE)
  | stuck
def aftS (K : PySem.W.Frag) (W : WX) (N : Ends) (c : Cq) (F : Hp) : O → Prop
  | .nx δ => ∀ σ' F' H', Rel K c F' H' σ' δ → Same F F' → N.nx σ' H'
  | .ret d δ => ∀ v σ' F' H', Rel K c F' H' σ' δ → Same F F' → Den K F' d v → N.rt v H'
  | .brk δ => ∀ σ' F' H', Rel K c F' H' σ' δ → Same F F' → N.bk σ' H'
  | .cnt δ => ∀ σ' F' H', Rel K c F' H' σ' δ → Same F F' → N.ct σ' H'
  | .exc x δ => ∀ cls od σ' F' H', Rel K c F' H' σ' δ → Same F F' → XOk K F' H' x cls od → W cls od σ' H'
  | .stuck => False
def rdS (K : PySem.W.Frag) (W : WX) (g : DE → O) : TS := fun N σ H => ∃ c F δ, Rel K c F H σ δ ∧ aftS K W N c F (g δ)
abbrev VS (X : Cx) (W : WX) (st : Stmt) (g : DE → O) : Prop := PS X st (rdS X.K W g)
abbrev VSs (X : Cx) (W : WX) (st : List Stmt) (g : DE → O) : Prop := PSs X st (rdS X.K W g)
theorem PS.to {X : Cx} {st : Stmt} {t t' : TS} (h : PS X st t) (i : ∀ N σ H, t' N σ H → t N σ H) : PS X st t' := ⟨fun pins s σ H N I z => h.run pins s σ H N I (i N σ H z)⟩
theorem PSs.to {X : Cx} {st : List Stmt} {t t' : TS} (h : PSs X st t) (i : ∀ N σ H, t' N σ H → t N σ H) : PSs X st t' := ⟨fun pins s σ H N I z => h.run pins s σ H N I (i N σ H z)⟩

/-! ### the entry -/
/-- what is handed back of lent things -/
def back : List Sl → DE → List Sl
  | [], _ => []
  | .bor m :: as, some (.bor m') :: δ => .bor m' :: back as δ
  | a :: as, _ :: δ => a :: back as δ
  | a :: as, [] => a :: as
def fnF (n N : Nat) (g : DE → O) : List Sl → FR := fun as =>
  if as.length = n then
    match g (as.map some ++ List.replicate (N - n) none) with
    | .ret d δ => .ret d (back as δ)
    | .nx δ => .ret .non (back as δ)
    | .exc x δ => .exc x (back as δ)
    | _ => .stuck
  else .stuck
theorem back_len : ∀ (as : List Sl) (δ : DE), (back as δ).length = as.length
  | [], _ => rfl
  | .val d :: as, [] => rfl
  | .own d :: as, [] => rfl
  | .bor d :: as, [] => rfl
  | .val d :: as, x :: δ => congrArg (· + 1) (back_len as δ)
  | .own d :: as, x :: δ => congrArg (· + 1) (back_len as δ)
  | .bor d :: as, none :: δ => congrArg (· + 1) (back_len as δ)
  | .bor d :: as, some (.val _) :: δ => congrArg (· + 1) (back_len as δ)
  | .bor d :: as, some (.own _) :: δ => congrArg (· + 1) (back_len as δ)
  | .bor d :: as, some (.bor _) :: δ => congrArg (· + 1) (back_len as δ)
theorem back_val : ∀ {as : List Sl} {δ : DE} {i : Nat} {d : D}, as[i]? = some (.val d) → (back as δ)[i]? = some (.val d)
  | [], _, _, _, h => by simp at h
  | a :: as, [], i, d, h => by cases a <;> exact h
  | .val _ :: as, x :: δ, 0, d, h => h
  | .own _ :: as, x :: δ, 0, d, h => h
  | .bor _ :: as, x :: δ, 0, d, h => by simp at h
  | .val _ :: as, x :: δ, i + 1, d, h => back_val (as := as) (δ := δ) (i := i) h
  | .own _ :: as, x :: δ, i + 1, d, h => back_val (as := as) (δ := δ) (i := i) h
  | .bor _ :: as, none :: δ, i + 1, d, h => back_val (as := as) (δ := δ) (i := i) h
  | .bor _ :: as, some (.val _) :: δ, i + 1, d, h => back_val (as := as) (δ := δ) (i := i) h
  | .bor _ :: as, some (.own _) :: δ, i + 1, d, h => back_val (as := as) (δ := δ) (i := i) h
  | .bor _ :: as, some (.bor _) :: δ, i + 1, d, h => back_val (as := as) (δ := δ) (i := i) h
theorem back_bor : ∀ {as : List Sl} {δ : DE} {i : Nat} {m m' : MD}, as[i]? = some (.bor m) → δ[i]? = some (some (.bor m')) → (back as δ)[i]? = some (.bor m')
  | [], _, _, _, _, h, _ => by simp at h
  | a :: as, [], i, _, _, h, g => by simp at g
  | .val _ :: as, x :: δ, 0, _, _, h, g => by simp at h
  | .own _ :: as, x :: δ, 0, _, _, h, g => by simp at h
  | .bor _ :: as, none :: δ, 0, _, _, h, g => by simp at g
  | .bor _ :: as, some (.val _) :: δ, 0, _, _, h, g => by simp at g
  | .bor _ :: as, some (.own _) :: δ, 0, _, _, h, g => by simp at g
  | .bor _ :: as, some (.bor _) :: δ, 0, _, _, h, g => by
    have g : some (Sl.bor _) = some (Sl.bor _) := Option.some.inj g
    cases g
    rfl
  | .val _ :: as, x :: δ, i + 1, _, _, h, g => back_bor (as := as) (δ := δ) (i := i) h g
  | .own _ :: as, x :: δ, i + 1, _, _, h, g => back_bor (as := as) (δ := δ) (i := i) h g
  | .bor _ :: as, none :: δ, i + 1, _, _, h, g => back_bor (as := as) (δ := δ) (i := i) h g
  | .bor _ :: as, some (.val _) :: δ, i + 1, _, _, h, g => back_bor (as := as) (δ := δ) (i := i) h g
  | .bor _ :: as, some (.own _) :: δ, i + 1, _, _, h, g => back_bor (as := as) (δ := δ) (i := i) h g
  | .bor _ :: as, some (.bor _) :: δ, i + 1, _, _, h, g => back_bor (as := as) (δ := δ) (i := i) h g

/-- the places of lent things -/
def bIx (as : List Sl) : List Nat := (List.range as.length).filter fun i => match as[i]? with
  | some (.bor _) => true
  | _ => false
theorem mem_bIx {as : List Sl} {i : Nat} : i ∈ bIx as ↔ ∃ m, as[i]? = some (.bor m) := by
  unfold bIx
  rw [List.mem_filter, List.mem_range]
  constructor
  · rintro ⟨_, h⟩
    cases e : as[i]? with
    | none => rw [e] at h; cases h
    | some s =>
      rw [e] at h
      cases s <;> first | cases h | skip
      exact ⟨_, rfl⟩
  · rintro ⟨m, e⟩
    exact ⟨(List.getElem?_eq_some_iff.mp e).1, by rw [e]⟩
def adrOf (vs : List V) (i : Nat) : Addr := match vs[i]? with
  | some (.ref a) => a
  | _ => 0
def cq0 (F H : Hp) (as : List Sl) (vs : List V) : Cq := ⟨F, pl H, fun _ => none, adrOf vs, bIx as⟩

section
variable {K : PySem.W.Frag} {F H : Hp} {as : List Sl} {vs : List V} {N : List Str}
theorem AOk.bor (A : AOk K F H as vs) {i : Nat} {m : MD} (h : as[i]? = some (.bor m)) : ∃ o, vs[i]? = some (.ref (adrOf vs i)) ∧ H (adrOf vs i) = some o ∧ MDen K F m o ∧ F (adrOf vs i) = none := by
  have hl : i < vs.length := by rw [← A.len]; exact (List.getElem?_eq_some_iff.mp h).1
  have e := List.getElem?_eq_getElem hl
  obtain ⟨a, o, e1, e2, e3, e4⟩ := A.ok i _ _ h e
  rw [e1] at e
  have ea : adrOf vs i = a := by unfold adrOf; rw [e]
  rw [ea]
  exact ⟨o, e, e2, e3, e4⟩
theorem start_get {i : Nat} (h : i < vs.length) : (L2.start N vs)[i]? = some (vs[i]?) := by
  unfold L2.start
  rw [List.getElem?_append_left (by rw [List.length_map]; exact h), List.getElem?_map, List.getElem?_eq_getElem h]
  rfl
theorem ent_get {i n : Nat} {s : Sl} (h : (as.map some ++ List.replicate n none : DE)[i]? = some (some s)) : as[i]? = some s := by
  by_cases hi : i < as.length
  · rw [List.getElem?_append_left (by rw [List.length_map]; exact hi), List.getElem?_map] at h
    cases e : as[i]? with
    | none => rw [e] at h; cases h
    | some x => rw [e] at h; cases h; rfl
  · rw [List.getElem?_append_right (by rw [List.length_map]; omega), List.getElem?_replicate] at h
    split at h <;> cases h
theorem ent_of {i n : Nat} {s : Sl} (h : as[i]? = some s) : (as.map some ++ List.replicate n none : DE)[i]? = some (some s) := by
  have hi := (List.getElem?_eq_some_iff.mp h).1
  rw [List.getElem?_append_left (by rw [List.length_map]; exact hi), List.getElem?_map, h]
  rfl
theorem AOk.rel (A : AOk K F H as vs) : Rel K (cq0 F H as vs) F H (L2.start N vs) (as.map some ++ List.replicate (N.length - as.length) none) := by
  have b0 : ∀ i ∈ bIx as, ∃ m o, as[i]? = some (.bor m) ∧ vs[i]? = some (.ref (adrOf vs i)) ∧ H (adrOf vs i) = some o ∧ MDen K F m o ∧ F (adrOf vs i) = none := fun i hi => by
    obtain ⟨m, e⟩ := mem_bIx.mp hi
    obtain ⟨o, h⟩ := A.bor e
    exact ⟨m, o, e, h⟩
  refine ⟨A.sub, fun b o e _ => (pl_of e).1, .refl _, fun b o e => .inl e, fun b o e => (nomatch e), fun i hi => ?_, fun i hi => ?_, fun i j hi hj q => ?_, ?_, fun i s e => ?_, fun i j a m n e _ _ _ => ?_, ⟨A.tabs, A.fnt, fun b o e => (nomatch e), fun b o e => (pl_of e).2⟩⟩
  · obtain ⟨m, o, _, _, h, hm, _⟩ := b0 i hi
    intro z
    have z : pl H (adrOf vs i) = none := z
    rw [pl_to h hm.pl] at z; cases z
  · obtain ⟨m, o, e, _⟩ := b0 i hi
    exact ⟨m, ent_of e⟩
  · obtain ⟨m, o, e, e1, _⟩ := b0 i hi
    obtain ⟨m', o', e', e1', _⟩ := b0 j hj
    have q : adrOf vs i = adrOf vs j := q
    rw [q] at e1
    exact A.apart i j _ m m' e e' e1 e1'
  · unfold L2.start
    rw [List.length_append, List.length_map, List.length_replicate, List.length_append, List.length_map, List.length_replicate, A.len]
  · have e := ent_get e
    have hl : i < vs.length := by rw [← A.len]; exact (List.getElem?_eq_some_iff.mp e).1
    have hv := List.getElem?_eq_getElem hl
    have ok := A.ok i s _ e hv
    cases s with
    | val d => exact ⟨_, by rw [start_get hl, hv]; rfl, ok⟩
    | own m => exact False.elim ok
    | bor m =>
      obtain ⟨o, h1, h2, h3, h4⟩ := A.bor e
      exact ⟨mem_bIx.mpr ⟨m, e⟩, o, by rw [start_get hl, h1]; rfl, h2, h3, h4, rfl⟩
  · have e := ent_get e
    have hl : i < vs.length := by rw [← A.len]; exact (List.getElem?_eq_some_iff.mp e).1
    exact False.elim (A.ok i _ _ e (List.getElem?_eq_getElem hl))
/-- behind the body -/
theorem AOk.done (A : AOk K F H as vs) {F' H' : Hp} {σ : L2.St} {δ : DE} (r : Rel K (cq0 F H as vs) F' H' σ δ) : Done K F H as vs F' H' (back as δ) := by
  have lent : ∀ (i : Nat) (m : MD), as[i]? = some (.bor m) → ∃ m' o, δ[i]? = some (some (.bor m')) ∧ H' (adrOf vs i) = some o ∧ MDen K F' m' o ∧ F' (adrOf vs i) = none := fun i m e => by
    obtain ⟨m', o, h1, _, h2, h3, h4, _⟩ := r.borAt (mem_bIx.mpr ⟨m, e⟩)
    exact ⟨m', o, h1, h2, h3, h4⟩
  have borB : ∀ {i : Nat} {m : MD}, (back as δ)[i]? = some (.bor m) → ∃ n, as[i]? = some (.bor n) := fun {i m} e => by
    have hl : i < as.length := by rw [← back_len as δ]; exact (List.getElem?_eq_some_iff.mp e).1
    have e0 := List.getElem?_eq_getElem hl
    cases q : as[i] with
    | val d => rw [q] at e0; rw [back_val e0] at e; cases e
    | own n =>
      rw [q] at e0
      exact False.elim (A.ok i _ _ e0 (List.getElem?_eq_getElem (by rw [← A.len]; exact hl)))
    | bor n => rw [q] at e0; exact ⟨n, e0⟩
  refine ⟨r.low, ⟨r.sub, by rw [back_len]; exact A.len, fun i s v e1 e2 => ?_, fun i j a m n e1 e2 e3 e4 => ?_, r.tab.tabs, r.tab.fnt⟩, r.new, fun b o e q => r.pres b o e fun i hi z => ?_, fun i m e => ?_⟩
  · have hl : i < as.length := by rw [← back_len as δ]; exact (List.getElem?_eq_some_iff.mp e1).1
    have e0 := List.getElem?_eq_getElem hl
    cases q : as[i] with
    | val d =>
      rw [q] at e0
      rw [back_val e0] at e1
      cases e1
      exact Den.mono r.low _ _ (A.ok i _ _ e0 e2)
    | own n =>
      rw [q] at e0
      exact False.elim (A.ok i _ _ e0 e2)
    | bor n =>
      rw [q] at e0
      obtain ⟨m', o, h1, h2, h3, h4⟩ := lent i n e0
      rw [back_bor e0 h1] at e1
      cases e1
      obtain ⟨_, g1, _⟩ := A.bor e0
      rw [g1] at e2
      cases e2
      exact ⟨_, o, rfl, h2, h3, h4⟩
  · obtain ⟨_, h1⟩ := borB e1
    obtain ⟨_, h2⟩ := borB e2
    exact A.apart i j a _ _ h1 h2 e3 e4
  · obtain ⟨m, e⟩ := mem_bIx.mp hi
    obtain ⟨_, g1, _⟩ := A.bor e
    have z : adrOf vs i = b := z
    rw [z] at g1
    exact q i m e g1
  · obtain ⟨m', _, h1, _⟩ := lent i m e
    exact ⟨m', back_bor e h1⟩
/-- a promise, as a body's reading -/
theorem sp_body {n : Nat} {g : DE → O} {Q : VK} {E : XK} (h : spV K (fnF n N.length g) vs H Q E) : rdS K (fun cls od _ H => E cls od H) g { nx := fun _ H' => Q .non H', rt := Q } (L2.start N vs) H := by
  obtain ⟨F, as, A, z⟩ := h
  refine ⟨cq0 F H as vs, F, _, A.rel, ?_⟩
  unfold fnF at z
  by_cases hl : as.length = n
  · rw [if_pos hl] at z
    rw [hl]
    cases e : g (as.map some ++ List.replicate (N.length - n) none) with
    | nx δ => rw [e] at z; exact fun σ' F' H' r s => z _ F' H' (A.done r) rfl
    | ret d δ => rw [e] at z; exact fun v σ' F' H' r s d => z v F' H' (A.done r) d
    | brk δ => rw [e] at z; exact False.elim z
    | cnt δ => rw [e] at z; exact False.elim z
    | exc x δ => rw [e] at z; exact fun cls od σ' F' H' r s d => z cls od F' H' (A.done r) d
    | stuck => rw [e] at z; exact False.elim z
  · rw [if_neg hl] at z
    exact False.elim z
end

/-- the def at f is worth φ; g: repr's own marks are none where it is called -/
structure VOk (g : Bool) (P : Program) (w : World) (K : PySem.W.Frag) (mg : Str → Option Value) (base : Heap) (k : Nat) (f : Addr) (fd : FuncData) (ps : List Str) (φ : List Sl → FR) : Prop where
  len : ∀ as, φ as ≠ .stuck → as.length = ps.length
  run : ∀ (A : Around) (outer : List Env) (s : Shared) (H : Hp) (args : Args) (us : List Value) (vs : List V) (Q : VK) (E : XK), Room k A → (g = true → A.guards = some []) → Env0 P w K mg base A outer s H → BindsTo s fd args (ps.zip us) →
    Vals vs us → spV K φ vs H Q E → codeAny (model P w) A (.call (.ref f) args) (CR (L2.CX P w) outer P w H s Q E) s
theorem spV.len {K : PySem.W.Frag} {φ : List Sl → FR} {n : Nat} (hl : ∀ as, φ as ≠ .stuck → as.length = n) {vs : List V} {H : Hp} {Q : VK} {E : XK} (h : spV K φ vs H Q E) : vs.length = n := by
  obtain ⟨F, as, A, z⟩ := h
  rw [← A.len]
  refine hl as fun q => ?_
  rw [q] at z
  exact z
theorem fnF_len {n N : Nat} {g : DE → O} (as : List Sl) (h : fnF n N g as ≠ .stuck) : as.length = n := by
  unfold fnF at h
  by_cases q : as.length = n
  · exact q
  · rw [if_neg q] at h; exact absurd rfl h

end PV

/-! PV4: a def by its body; calls; statements. -/
namespace PV
open PySem PySem.Spec PyProof.Rows L2
variable [Tbl]

theorem guards_in {A : Around} {env : Env} {g : Bool} (h : g = true → A.guards = some []) : g = true → (A.deeper env).guards = some [] := fun z => by
  first | exact h z | simpa [Around.deeper] using h z

/-- the context of a body -/
abbrev cxV (P : Program) (w : World) (K : PySem.W.Frag) (mg : Str → Option Value) (base : Heap) (N : List Str) (qual : Str) (scope : Scope) (f : Addr) (cd : Value) (A : Around) (outer : List Env) (s : Shared) (H : Hp) (E : XK) : Cx :=
  cxOf (L2.CX P w) P w K mg base N qual scope f cd A outer s H E
abbrev wE (E : XK) : WX := fun cls od _ H => E cls od H

section
variable {P : Program} {w : World} {K : PySem.W.Frag} {mg : Str → Option Value} {base : Heap}
/-- a def is worth what its body does -/
theorem Fun.val {x qual : Str} {st : Stmt} {f : Addr} {fd : FuncData} {N ps : List Str} {k n : Nat} {g : Bool} {G : DE → O} (T : Fun K x qual st f fd) (S : FnScope N ps (defScope st)) (hn : ps.length = n)
    (body : ∀ (cd : Value) (A : Around) (outer : List Env) (s : Shared) (H : Hp) (E : XK), fd.code = cd → Room k (A.deeper (envOfC qual (defScope st) s.heap.objs.size f cd)) → (g = true → (A.deeper (envOfC qual (defScope st) s.heap.objs.size f cd)).guards = some []) →
      Takes (cxV P w K mg base N qual (defScope st) f cd A outer s H E) (wE E) → VSs (cxV P w K mg base N qual (defScope st) f cd A outer s H E) (wE E) (defBody st) G) :
    VOk g P w K mg base (k + 1) f fd ps (fnF n N.length G) := by
  obtain ⟨oc, od, kV, doc, pm, an, cd, ct, osl, rfl, lk, hc⟩ := T.ex
  refine ⟨fun as h => by rw [hn]; exact fnF_len as h, fun A outer s H args us vs Q E room gd en hb rv sp => ?_⟩
  have stays : ∀ b o, base.get? b = some o → s.heap.get? b = some o := fun b o e => (en.bs b o e).1
  have hl : vs.length = ps.length := by rw [hn]; exact spV.len fnF_len sp
  have kinds : ∀ y ∈ ps.zip us, (defScope st).names.lookup y.1 = some .local ∨ ((defScope st).names.lookup y.1 = some .cell ∧ ((cellsFrom (s.heap.objs.size + 1) (defScope st).names []).lookup y.1).isSome = true) := by
    rintro ⟨nm, vl⟩ hy
    rcases S.par nm (List.of_mem_zip hy).1 with q | q
    · left; exact q
    · right; exact ⟨q, PySem.W.cellsFrom_some _ _ _ (Or.inl q)⟩
  refine codeAny_call_function room.depth ((en.mod.kin.keeps stays) _ _ lk) rfl S.co S.gen rfl (PySem.W.codeRec_of (en.mod.kin.keeps stays) hc) (hb _ _ _ _ ?_)
  refine wpAny_newFunctionEnv_cells S.kind kinds fun env he s1 inC => ?_
  subst he
  refine ⟨(en.mod.nolimit.keeps stays).keeps inC.toInCall.keep, codeAny_func ?_⟩
  have tk : Takes (cxV P w K mg base N qual (defScope st) f cd A outer s H E) (wE E) := takes_of rfl rfl rfl rfl
  have J := inv_start (CX := L2.CX P w) (E := E) S room.hd en hl rv inC
  refine wpAny_mono ((body cd A outer s H E rfl (room.deeper _) (guards_in gd) tk).run [] s1 (L2.start N vs) H _ J (sp_body sp)) (fun fl s' hs => ?_) fun e s' hs => hs
  cases fl with
  | ret u =>
    obtain ⟨v, σ', H', J', rv', q⟩ := hs
    exact ⟨v, H', J'.os, J'.bare, J'.base, J'.hok, rv', q⟩
  | next =>
    obtain ⟨σ', H', J', q⟩ := hs
    exact ⟨V.non, H', J'.os, J'.bare, J'.base, J'.hok, rfl, q⟩
  | brk =>
    obtain ⟨_, _, _, q⟩ := hs
    exact q.elim
  | cont =>
    obtain ⟨_, _, _, q⟩ := hs
    exact q.elim
theorem VOk.mono {g : Bool} {j k : Nat} {f : Addr} {fd : FuncData} {ps : List Str} {φ : List Sl → FR} (V0 : VOk g P w K mg base j f fd ps φ) (h : j ≤ k) : VOk g P w K mg base k f fd ps φ :=
  ⟨V0.len, fun A outer s H args us vs Q E room => V0.run A outer s H args us vs Q E (room.mono h)⟩
theorem VOk.gd {k : Nat} {f : Addr} {fd : FuncData} {ps : List Str} {φ : List Sl → FR} (V0 : VOk false P w K mg base k f fd ps φ) {g : Bool} : VOk g P w K mg base k f fd ps φ :=
  ⟨V0.len, fun A outer s H args us vs Q E room _ => V0.run A outer s H args us vs Q E room (fun z => absurd z Bool.false_ne_true)⟩
end

/-! ### arguments -/
def noA : DE → R (List Arg) := fun δ => .ok [] δ
def valA (f : DE → R D) (r : DE → R (List Arg)) : DE → R (List Arg) := fun δ => (f δ).bind fun d δ => (r δ).bind fun as δ => .ok (.val d :: as) δ
/-- the object that a slot may write -/
def mutOf (δ : DE) (i : Nat) : Option (Sl × MD) := match δ[i]? with
  | some (some s) => s.mut.map fun m => (s, m)
  | _ => none
def slotA (i : Nat) (r : DE → R (List Arg)) : DE → R (List Arg) := fun δ => match mutOf δ i with
  | some _ => (r δ).bind fun as δ => .ok (.slot i :: as) δ
  | none => .stuck
theorem mutOf_some {δ : DE} {i : Nat} {s : Sl} {m : MD} (h : mutOf δ i = some (s, m)) : δ[i]? = some (some s) ∧ s.mut = some m := by
  unfold mutOf at h
  split at h
  · rename_i s' e
    cases q : s'.mut with
    | none => rw [q] at h; cases h
    | some m' => rw [q] at h; cases h; exact ⟨e, q⟩
  · cases h
section
variable {X : Cx} {W : WX} {e : Expr} {es : List Expr} {f : DE → R D} {r : DE → R (List Arg)}
theorem va_nil : VA X W [] noA := PA.to pa_nil fun σ H Q h => by
  obtain ⟨c, F, δ, r, z⟩ := h
  exact z [] F H r (.refl _) rfl
theorem va_val (h : VE X W e f) (k : VA X W es r) (hs : starEach (e :: es) X.env = (false, eval e X.env) :: starEach es X.env := by rfl) : VA X W (e :: es) (valA f r) := PA.to (pa_cons h k hs) fun σ H Q z => by
  refine z.first (DM := dnE X.K) fun c F H1 δ x v r1 d1 z1 => ?_
  refine z1.next (DM := dnA X.K) r1 fun F2 H2 δ2 as vs r2 s2 d2 z2 => ?_
  exact z2 _ F2 H2 r2 (.refl _) ⟨v, vs, rfl, Den.mono s2 _ _ d1, d2⟩
/-- a name whose object is lent -/
theorem va_slot (i : Nat) {x : Str} {pos : Pos} (k : VA X W es r) (hN : X.N[i]? = some x := by rfl) (hv : Vis X.env.scope x := by first | exact Or.inl rfl | exact Or.inr (Or.inl rfl) | exact Or.inr (Or.inr rfl))
    (hs : starEach (.Name x pos :: es) X.env = (false, eval (.Name x pos) X.env) :: starEach es X.env := by rfl) (hd : (x == ("__debug__" : Str)) = false := by decide) (hcd : (x == ("__classdict__" : Str)) = false := by decide) :
    VA X W (.Name x pos :: es) (slotA i r) := PA.to (pa_cons (pe_var hN hv hd hcd) k hs) fun σ H Q z => by
  obtain ⟨c, F, δ, r1, z⟩ := z
  unfold slotA at z
  cases e : mutOf δ i with
  | none => rw [e] at z; exact False.elim z
  | some p =>
    obtain ⟨s, m⟩ := p
    rw [e] at z
    obtain ⟨e1, e2⟩ := mutOf_some e
    obtain ⟨a, o, h1, _⟩ := r1.mutAt e1 e2
    refine ⟨.ref a, h1, ?_⟩
    refine aft.next (DM := dnA X.K) (f := r) (g := fun as δ => .ok (.slot i :: as) δ) r1 z fun F2 H2 δ2 as vs r2 s2 d2 z2 => ?_
    exact z2 _ F2 H2 r2 (.refl _) ⟨_, vs, rfl, h1, d2⟩
end

/-! ### a call -/
def lend (δ : DE) : List Arg → Option (List Sl)
  | [] => some []
  | .val d :: as => (lend δ as).map fun r => .val d :: r
  | .slot i :: as => match mutOf δ i with
    | some (_, m) => (lend δ as).map fun r => .bor m :: r
    | none => none
def slots : List Arg → List Nat
  | [] => []
  | .val _ :: as => slots as
  | .slot i :: as => i :: slots as
def unlend (δ : DE) : List Arg → List Sl → DE
  | .slot i :: as, .bor m :: r => match mutOf δ i with
    | some (s, _) => (unlend δ as r).set i (some (s.wr m))
    | none => unlend δ as r
  | _ :: as, _ :: r => unlend δ as r
  | _, _ => δ
def callF (φ : List Sl → FR) (fa : DE → R (List Arg)) : DE → R D := fun δ => (fa δ).bind fun as δ =>
  if (slots as).Nodup then
    match lend δ as with
    | none => .stuck
    | some ss => match φ ss with
      | .ret d ss' => .ok d (unlend δ as ss')
      | .exc x ss' => .exc x (unlend δ as ss')
      | .stuck => .stuck
  else .stuck

section
variable {K : PySem.W.Frag} {c : Cq} {F H : Hp} {σ : L2.St} {δ : DE}
/-- two slots whose objects may be written have two objects -/
theorem Rel.mutApart (r : Rel K c F H σ δ) {i j : Nat} {s t : Sl} {m n : MD} {a : Addr} (h1 : δ[i]? = some (some s)) (h2 : s.mut = some m) (h3 : δ[j]? = some (some t)) (h4 : t.mut = some n) (h5 : σ[i]? = some (some (.ref a))) (h6 : σ[j]? = some (some (.ref a))) : i = j := by
  have lent : ∀ {k : Nat} {q : MD}, δ[k]? = some (some (.bor q)) → σ[k]? = some (some (.ref a)) → k ∈ c.bs ∧ c.adr k = a := fun {k q} e1 e2 => by
    obtain ⟨hb, _, w, _⟩ := r.sl k _ e1
    rw [getD_some w] at e2
    exact ⟨hb, V.ref.inj (Option.some.inj (Option.some.inj e2))⟩
  have own0 : ∀ {k : Nat} {q : MD}, δ[k]? = some (some (.own q)) → σ[k]? = some (some (.ref a)) → c.H0 a = none := fun {k q} e1 e2 => by
    obtain ⟨_, _, w, _, _, _, _, w2⟩ := r.own e1
    rw [e2] at w; cases w
    exact w2
  cases s with
  | val d => cases h2
  | own m1 =>
    cases t with
    | val d => cases h4
    | own n1 => exact r.apart i j a _ _ h1 h3 h5 h6
    | bor n1 =>
      obtain ⟨b1, b2⟩ := lent h3 h6
      have := r.bor0 j b1
      rw [b2] at this
      exact absurd (own0 h1 h5) this
  | bor m1 =>
    obtain ⟨b1, b2⟩ := lent h1 h5
    cases t with
    | val d => cases h4
    | own n1 =>
      have := r.bor0 i b1
      rw [b2] at this
      exact absurd (own0 h3 h6) this
    | bor n1 =>
      obtain ⟨b3, b4⟩ := lent h3 h6
      exact r.binj i j b1 b3 (b2.trans b4.symm)

theorem ArgsD.len : ∀ {as : List Arg} {vs : List V}, ArgsD K F σ as vs → vs.length = as.length
  | [], _, h => by rw [show _ = _ from h]; rfl
  | _ :: _, _, ⟨v, r, e, _, h⟩ => by rw [e, List.length_cons, List.length_cons, h.len]
theorem ArgsD.get : ∀ {as : List Arg} {vs : List V} {k : Nat} {a : Arg}, ArgsD K F σ as vs → as[k]? = some a → ∃ v, vs[k]? = some v ∧ ArgD K F σ a v
  | [], _, k, _, _, h => by simp at h
  | x :: _, _, 0, a, ⟨v, r, e, h1, _⟩, h => by
    have q : x = a := by simpa using h
    rw [e, ← q]
    exact ⟨v, rfl, h1⟩
  | _ :: as, _, k + 1, a, ⟨v, r, e, _, h2⟩, h => by
    obtain ⟨w, h3, h4⟩ := ArgsD.get (k := k) (a := a) h2 (by simpa using h)
    rw [e]
    exact ⟨w, by simpa using h3, h4⟩
theorem lend_len : ∀ {as : List Arg} {ss : List Sl}, lend δ as = some ss → ss.length = as.length
  | [], _, h => by cases h; rfl
  | .val d :: as, ss, h => by
    obtain ⟨r, e, q⟩ := Option.map_eq_some_iff.mp h
    rw [← q, List.length_cons, List.length_cons, lend_len e]
  | .slot i :: as, ss, h => by
    unfold lend at h
    split at h
    · obtain ⟨r, e, q⟩ := Option.map_eq_some_iff.mp h
      rw [← q, List.length_cons, List.length_cons, lend_len e]
    · cases h
theorem lend_get : ∀ {as : List Arg} {ss : List Sl} {k : Nat} {s : Sl}, lend δ as = some ss → ss[k]? = some s → (∃ d, as[k]? = some (.val d) ∧ s = .val d) ∨ ∃ i t m, as[k]? = some (.slot i) ∧ mutOf δ i = some (t, m) ∧ s = .bor m
  | [], _, k, _, h, g => by cases h; simp at g
  | .val d :: as, ss, 0, s, h, g => by
    obtain ⟨r, e, q⟩ := Option.map_eq_some_iff.mp h
    rw [← q] at g
    have g : Sl.val d = s := by simpa using g
    exact .inl ⟨d, rfl, g.symm⟩
  | .val d :: as, ss, k + 1, s, h, g => by
    obtain ⟨r, e, q⟩ := Option.map_eq_some_iff.mp h
    rw [← q] at g
    have := lend_get (k := k) (s := s) e (by simpa using g)
    simpa using this
  | .slot i :: as, ss, 0, s, h, g => by
    unfold lend at h
    split at h
    · rename_i t m e'
      obtain ⟨r, e, q⟩ := Option.map_eq_some_iff.mp h
      rw [← q] at g
      have g : Sl.bor m = s := by simpa using g
      exact .inr ⟨i, t, m, rfl, e', g.symm⟩
    · cases h
  | .slot i :: as, ss, k + 1, s, h, g => by
    unfold lend at h
    split at h
    · obtain ⟨r, e, q⟩ := Option.map_eq_some_iff.mp h
      rw [← q] at g
      have := lend_get (k := k) (s := s) e (by simpa using g)
      simpa using this
    · cases h
theorem slots_mem : ∀ {as : List Arg} {k i : Nat}, as[k]? = some (.slot i) → i ∈ slots as
  | [], _, _, h => by simp at h
  | .val d :: as, 0, _, h => by simp at h
  | .val d :: as, k + 1, _, h => slots_mem (as := as) (k := k) (by simpa using h)
  | .slot j :: as, 0, i, h => by
    have q : j = i := by simpa using h
    rw [q]
    exact List.mem_cons_self
  | .slot j :: as, k + 1, i, h => List.mem_cons_of_mem _ (slots_mem (as := as) (k := k) (by simpa using h))
theorem slots_inj : ∀ {as : List Arg} {k l i : Nat}, (slots as).Nodup → as[k]? = some (.slot i) → as[l]? = some (.slot i) → k = l
  | [], _, _, _, _, h, _ => by simp at h
  | .val d :: as, 0, _, _, _, h, _ => by simp at h
  | .val d :: as, _ + 1, 0, _, _, _, h => by simp at h
  | .val d :: as, k + 1, l + 1, i, n, h, g => congrArg (· + 1) (slots_inj (as := as) (k := k) (l := l) n (by simpa using h) (by simpa using g))
  | .slot j :: as, 0, 0, _, _, _, _ => rfl
  | .slot j :: as, 0, l + 1, i, n, h, g => by
    have q : j = i := by simpa using h
    exact absurd (slots_mem (as := as) (k := l) (by simpa using g)) (q ▸ (List.nodup_cons.mp n).1)
  | .slot j :: as, k + 1, 0, i, n, h, g => by
    have q : j = i := by simpa using g
    exact absurd (slots_mem (as := as) (k := k) (by simpa using h)) (q ▸ (List.nodup_cons.mp n).1)
  | .slot j :: as, k + 1, l + 1, i, n, h, g => congrArg (· + 1) (slots_inj (as := as) (k := k) (l := l) (List.nodup_cons.mp n).2 (by simpa using h) (by simpa using g))
theorem unlend_len : ∀ (as : List Arg) (ss : List Sl), (unlend δ as ss).length = δ.length
  | [], _ => by unfold unlend; rfl
  | .val d :: as, [] => by unfold unlend; rfl
  | .val d :: as, s :: ss => by unfold unlend; exact unlend_len as ss
  | .slot i :: as, [] => by unfold unlend; rfl
  | .slot i :: as, .val _ :: ss => by unfold unlend; exact unlend_len as ss
  | .slot i :: as, .own _ :: ss => by unfold unlend; exact unlend_len as ss
  | .slot i :: as, .bor m :: ss => by
    unfold unlend
    split
    · rw [List.length_set]; exact unlend_len as ss
    · exact unlend_len as ss
theorem unlend_out : ∀ {as : List Arg} {ss : List Sl} {j : Nat}, j ∉ slots as → (unlend δ as ss)[j]? = δ[j]?
  | [], _, _, _ => by unfold unlend; rfl
  | .val d :: as, [], _, _ => by unfold unlend; rfl
  | .val d :: as, s :: ss, j, h => by unfold unlend; exact unlend_out (as := as) h
  | .slot i :: as, [], _, _ => by unfold unlend; rfl
  | .slot i :: as, .val _ :: ss, j, h => by unfold unlend; exact unlend_out (as := as) fun z => h (List.mem_cons_of_mem _ z)
  | .slot i :: as, .own _ :: ss, j, h => by unfold unlend; exact unlend_out (as := as) fun z => h (List.mem_cons_of_mem _ z)
  | .slot i :: as, .bor m :: ss, j, h => by
    have hj : i ≠ j := fun q => h (by rw [q]; exact List.mem_cons_self)
    unfold unlend
    split
    · rw [List.getElem?_set_ne hj]; exact unlend_out (as := as) fun z => h (List.mem_cons_of_mem _ z)
    · exact unlend_out (as := as) fun z => h (List.mem_cons_of_mem _ z)
theorem unlend_in : ∀ {as : List Arg} {ss : List Sl} {k i : Nat} {t : Sl} {m m' : MD}, (slots as).Nodup → as[k]? = some (.slot i) → ss[k]? = some (.bor m') → mutOf δ i = some (t, m) → (unlend δ as ss)[i]? = some (some (t.wr m'))
  | [], _, _, _, _, _, _, _, h, _, _ => by simp at h
  | .val d :: as, [], _, _, _, _, _, _, _, h, _ => by simp at h
  | .slot d :: as, [], _, _, _, _, _, _, _, h, _ => by simp at h
  | .val d :: as, s :: ss, 0, _, _, _, _, _, h, _, _ => by simp at h
  | .val d :: as, s :: ss, k + 1, i, t, m, m', n, h, g, e => by
    unfold unlend
    exact unlend_in (as := as) (ss := ss) (k := k) n (by simpa using h) (by simpa using g) e
  | .slot j :: as, s :: ss, 0, i, t, m, m', n, h, g, e => by
    have q : j = i := by simpa using h
    have g : s = .bor m' := by simpa using g
    subst q g
    unfold unlend
    rw [e]
    have hl : j < δ.length := (List.getElem?_eq_some_iff.mp (mutOf_some e).1).1
    exact List.getElem?_set_self (by rw [unlend_len]; exact hl)
  | .slot j :: as, s :: ss, k + 1, i, t, m, m', n, h, g, e => by
    have ih := unlend_in (as := as) (ss := ss) (k := k) (List.nodup_cons.mp n).2 (by simpa using h) (by simpa using g) e
    have hj : j ≠ i := fun q => (List.nodup_cons.mp n).1 (q ▸ slots_mem (as := as) (k := k) (by simpa using h))
    cases s with
    | val d => unfold unlend; exact ih
    | own d => unfold unlend; exact ih
    | bor d =>
      unfold unlend
      split
      · rw [List.getElem?_set_ne hj]; exact ih
      · exact ih

theorem Sl.mut_wr {s : Sl} {m n : MD} (h : s.mut = some m) : (s.wr n).mut = some n := by
  cases s with
  | val d => cases h
  | own d => rfl
  | bor d => rfl
theorem Rel.freeP (r : Rel K c F H σ δ) {p : Addr} (h : pl H p = none) : c.H0 p = none := by
  cases e : c.H0 p with
  | none => rfl
  | some o =>
    by_cases q : ∃ i ∈ c.bs, c.adr i = p
    · obtain ⟨i, hi, rfl⟩ := q
      obtain ⟨_, o', _, _, z, zm, _⟩ := r.borAt hi
      rw [pl_to z zm.pl] at h; cases h
    · have := pl_to (r.pres p o e fun i hi z => q ⟨i, hi, z⟩) (r.tab.hnt p o e)
      rw [h] at this; cases this
theorem Rel.lent (r : Rel K c F H σ δ) {as : List Arg} {ss : List Sl} {vs : List V} (nd : (slots as).Nodup) (hl : lend δ as = some ss) (ha : ArgsD K F σ as vs) : AOk K F H ss vs := by
  refine ⟨r.sub, by rw [lend_len hl, ha.len], fun k s v e1 e2 => ?_, fun k l a m n e1 e2 e3 e4 => ?_, r.tab.tabs, r.tab.fnt⟩
  · rcases lend_get hl e1 with ⟨d, h1, rfl⟩ | ⟨i, t, m, h1, h2, rfl⟩
    · obtain ⟨v', g1, g2⟩ := ha.get h1
      rw [g1] at e2; cases e2
      exact g2
    · obtain ⟨v', g1, g2⟩ := ha.get h1
      rw [g1] at e2
      have ev : v' = v := Option.some.inj e2
      subst ev
      obtain ⟨q1, q2⟩ := mutOf_some h2
      obtain ⟨a, o, w1, w2, w3, w4⟩ := r.mutAt q1 q2
      have g2 : σ[i]? = some (some v') := g2
      rw [w1] at g2; cases g2
      exact ⟨a, o, rfl, w2, w3, w4⟩
  · rcases lend_get hl e1 with ⟨d, _, z⟩ | ⟨i, t, m1, h1, h2, _⟩
    · cases z
    rcases lend_get hl e2 with ⟨d, _, z⟩ | ⟨j, u, n1, g1, g2, _⟩
    · cases z
    obtain ⟨v1, x1, x2⟩ := ha.get h1
    obtain ⟨v2, y1, y2⟩ := ha.get g1
    rw [x1] at e3; cases e3
    rw [y1] at e4; cases e4
    have ij := r.mutApart (mutOf_some h2).1 (mutOf_some h2).2 (mutOf_some g2).1 (mutOf_some g2).2 x2 y2
    subst ij
    exact slots_inj nd h1 g1
/-- behind a call -/
theorem Rel.called (r : Rel K c F H σ δ) {as : List Arg} {ss ss' : List Sl} {vs : List V} {F' H' : Hp} (nd : (slots as).Nodup) (hl : lend δ as = some ss) (ha : ArgsD K F σ as vs) (z : Done K F H ss vs F' H' ss') : Rel K c F' H' σ (unlend δ as ss') := by
  -- a lent slot, before and behind
  have lent : ∀ {i : Nat}, i ∈ slots as → ∃ (k : Nat) (t : Sl) (m m' : MD) (a : Addr) (o : HO), as[k]? = some (.slot i) ∧ δ[i]? = some (some t) ∧ t.mut = some m ∧ σ[i]? = some (some (.ref a)) ∧ ss[k]? = some (.bor m) ∧ vs[k]? = some (.ref a) ∧ (unlend δ as ss')[i]? = some (some (t.wr m')) ∧ H' a = some o ∧ MDen K F' m' o ∧ F' a = none := by
    intro i hi
    have : ∀ {as : List Arg}, i ∈ slots as → ∃ (k : Nat), as[k]? = some (Arg.slot i) := by
      intro as
      induction as with
      | nil => intro h; cases h
      | cons x as ih =>
        intro h
        cases x with
        | val d => obtain ⟨k, e⟩ := ih h; exact ⟨k + 1, by simpa using e⟩
        | slot j =>
          rcases List.mem_cons.mp h with q | q
          · exact ⟨0, by rw [q]; rfl⟩
          · obtain ⟨k, e⟩ := ih q; exact ⟨k + 1, by simpa using e⟩
    obtain ⟨k, ek⟩ := this hi
    have hk : k < ss.length := by rw [lend_len hl]; exact (List.getElem?_eq_some_iff.mp ek).1
    have es := List.getElem?_eq_getElem hk
    rcases lend_get hl es with ⟨d, h1, _⟩ | ⟨i', t, m, h1, h2, h3⟩
    · rw [ek] at h1; cases h1
    rw [ek] at h1; cases h1
    rw [h3] at es
    obtain ⟨q1, q2⟩ := mutOf_some h2
    obtain ⟨a, o, w1, w2, w3, w4⟩ := r.mutAt q1 q2
    obtain ⟨v', g1, g2⟩ := ha.get ek
    have g2 : σ[i]? = some (some v') := g2
    rw [w1] at g2; cases g2
    obtain ⟨m', em'⟩ := z.keep k m es
    obtain ⟨a', o', x1, x2, x3, x4⟩ := z.args.ok k _ _ em' g1
    cases x1
    exact ⟨k, t, m, m', a, o', ek, q1, q2, w1, es, g1, unlend_in nd ek em' h2, x2, x3, x4⟩
  -- what is not lent
  have notB : ∀ {b : Addr} {o : HO}, H b = some o → Pl o → (∀ (i : Nat) (t : Sl) (m : MD), i ∈ slots as → δ[i]? = some (some t) → t.mut = some m → σ[i]? ≠ some (some (.ref b))) → H' b = some o := fun {b o} e hpl q => by
    refine z.pres b o (pl_to e hpl) fun k m ek => ?_
    rcases lend_get hl ek with ⟨d, _, y⟩ | ⟨i, t, m1, h1, h2, _⟩
    · cases y
    obtain ⟨v', g1, g2⟩ := ha.get h1
    intro y
    rw [g1] at y; cases y
    exact q i t m1 (slots_mem h1) (mutOf_some h2).1 (mutOf_some h2).2 g2
  have outF : ∀ {a : Addr} {o : HO}, H a = some o → H' a = some o → PlG o → F a = none → F' a = none := fun {a o} e1 e1' hpl e2 => by
    cases q : F' a with
    | none => rfl
    | some x =>
      rcases z.new a x q with y | y | ⟨xs, y⟩
      · rw [e2] at y; cases y
      · rw [pl_to e1 hpl.pl] at y; cases y
      · have w := z.args.sub _ _ q
        rw [e1', y] at w
        cases w
        exact False.elim hpl
  have same : ∀ {j : Nat}, j ∉ slots as → (unlend δ as ss')[j]? = δ[j]? := fun h => unlend_out h
  refine ⟨z.args.sub, fun b o e q => notB (r.pres b o e q) (r.tab.hnt b o e) fun i t m hi e1 e2 e3 => ?_, r.low.trans z.low, fun b o e => ?_, fun b o e => ?_, r.bor0, fun i hi => ?_, r.binj, by rw [unlend_len]; exact r.len, fun i s e => ?_, fun i j a m n e1 e2 e3 e4 => ?_, ⟨z.args.tabs, z.args.fnt, r.tab.gnt, r.tab.hnt⟩⟩
  · cases t with
    | val d => cases e2
    | own n =>
      obtain ⟨_, _, w, _, _, _, _, w2⟩ := r.own e1
      rw [e3] at w; cases w
      rw [e] at w2; cases w2
    | bor n =>
      obtain ⟨hb, _, w, _⟩ := r.sl i _ e1
      rw [getD_some w] at e3
      exact q i hb (V.ref.inj (Option.some.inj (Option.some.inj e3)))
  · rcases z.new b o e with y | y | y
    · exact r.new b o y
    · exact .inr (.inl (r.freeP y))
    · exact .inr (.inr y)
  · obtain ⟨g1, g2⟩ := r.gs b o e
    have kb : H' b = some o := notB g1 (r.tab.gnt b o e).pl fun i t m hi e1 e2 e3 => ?_
    · exact ⟨kb, outF g1 kb (r.tab.gnt b o e) g2⟩
    cases t with
    | val d => cases e2
    | own n =>
      obtain ⟨_, _, w, _, _, _, w1, w2⟩ := r.own e1
      rw [e3] at w; cases w
      rw [e] at w1; cases w1
    | bor n =>
      obtain ⟨hb, _, w, _, _, _, w1⟩ := r.sl i _ e1
      rw [getD_some w] at e3
      have y := V.ref.inj (Option.some.inj (Option.some.inj e3))
      rw [y, e] at w1; cases w1
  · obtain ⟨m, em⟩ := r.borD i hi
    by_cases q : i ∈ slots as
    · obtain ⟨k, t, _, m', _, _, _, e1, _, _, _, _, e2, _⟩ := lent q
      rw [em] at e1; cases e1
      exact ⟨m', e2⟩
    · rw [same q]; exact ⟨m, em⟩
  · by_cases q : i ∈ slots as
    · obtain ⟨k, t, m, m', a, o, ek, e1, e2, e3, e4, e5, e6, e7, e8, e9⟩ := lent q
      rw [e6] at e
      cases e
      have ok := r.sl i _ e1
      cases t with
      | val d => cases e2
      | own n =>
        obtain ⟨a', o', w1, w2, w3, w4, w5, w6⟩ := ok
        rw [e3] at w1; cases w1
        exact ⟨a, o, by rw [e3]; rfl, e7, e8, e9, w5, w6⟩
      | bor n =>
        obtain ⟨hb, o', w1, w2, w3, w4, w5⟩ := ok
        rw [e3] at w1
        have y : a = c.adr i := V.ref.inj (Option.some.inj w1)
        subst y
        exact ⟨hb, o, by rw [e3]; rfl, e7, e8, e9, w5⟩
    · rw [same q] at e
      refine (r.sl i s e).toP z.low (fun a o h1 h1' hpl h2 => outF h1 h1' hpl h2) fun a o z0 z1 z2 hpl z3 => notB z2 hpl fun j t m hj e1 e2 e3 => ?_
      have hs : ∃ n, s.mut = some n := by
        cases s with
        | val d => exact absurd rfl (z0 d)
        | own n => exact ⟨n, rfl⟩
        | bor n => exact ⟨n, rfl⟩
      obtain ⟨n, hs⟩ := hs
      have := r.mutApart e hs e1 e2 (getD_some z1) e3
      subst this
      exact q hj
  · have own0 : ∀ {j : Nat} {n : MD}, (unlend δ as ss')[j]? = some (some (Sl.own n)) → ∃ n', δ[j]? = some (some (Sl.own n')) := fun {j n} g => by
      by_cases q : j ∈ slots as
      · obtain ⟨k, t, m, m', a, o, ek, e1, e2, _, _, _, e6, _⟩ := lent q
        rw [e6] at g
        cases t with
        | val d => cases e2
        | own x => exact ⟨x, e1⟩
        | bor x => cases g
      · rw [same q] at g; exact ⟨n, g⟩
    obtain ⟨_, h1⟩ := own0 e1
    obtain ⟨_, h2⟩ := own0 e2
    exact r.apart i j a _ _ h1 h2 e3 e4
end

section
variable {X : Cx} {W : WX} {k : Nat} {f : Addr} {fd : FuncData} {ps : List Str} {φ : List Sl → FR} {x : Str} {p pos : Pos} {e : Expr} {es : List Expr} {fa : DE → R (List Arg)} {g : Bool}
theorem rd_call {σ : L2.St} {H : Hp} {Q : VK} (h : rdE X.K W (callF φ fa) σ H Q) : rdA X.K W fa σ H fun vs H1 => spV X.K φ vs H1 Q (WE W σ) := by
  refine h.first (DM := dnA X.K) fun c F H1 δ as vs r1 d1 z1 => ?_
  by_cases nd : (slots as).Nodup
  · rw [if_pos nd] at z1
    cases hl : lend δ as with
    | none => rw [hl] at z1; exact False.elim z1
    | some ss =>
      rw [hl] at z1
      refine ⟨F, ss, r1.lent nd hl d1, ?_⟩
      have z1 : aft X.K W (dnE X.K) c F σ Q (match φ ss with
        | .ret d ss' => .ok d (unlend δ as ss')
        | .exc x ss' => .exc x (unlend δ as ss')
        | .stuck => .stuck) := z1
      cases hq : φ ss with
      | ret d ss' => rw [hq] at z1; exact fun v F' H' dn dd => z1 v F' H' (r1.called nd hl d1 dn) dn.low dd
      | exc x ss' => rw [hq] at z1; exact fun cls od F' H' dn dd => z1 cls od F' H' (r1.called nd hl d1 dn) dn.low dd
      | stuck => rw [hq] at z1; exact z1
  · rw [if_neg nd] at z1; exact False.elim z1
theorem run_V {pins : List (Addr × Obj)} {σ : L2.St} {H : Hp} {s : Shared} {Q : VK} {us : List Value} {vs : List V} (V0 : VOk g X.prog X.w X.K X.mg X.base k f fd ps φ) (room : Room k X.A) (gd : g = true → X.A.guards = some []) (hb : Binds X.K fd ps []) (tk : Takes X W)
    (I : L2.Inv X pins σ H s) (rv : Vals vs us) (h : spV X.K φ vs H Q (WE W σ)) : wpAny (model X.prog X.w) X.A (call (.ref f) us) (EP X pins σ Q) X.xe s := by
  have lu : (us ++ []).length = ps.length := by rw [List.append_nil, ← rv.length]; exact spV.len V0.len h
  have bd := hb s us I.kIn lu
  rw [List.append_nil] at bd
  refine wpAny_call (codeAny_mono (V0.run X.A X.stack s H ⟨us, []⟩ us vs Q (WE W σ) room gd I.env0 bd rv h) fun res s' hq => ?_)
  cases res with
  | error e => exact passAt tk σ pins H s e s' I hq
  | ok fl => cases fl <;> first | exact I.after hq | exact False.elim hq
/-- f(e, ..) of a def -/
theorem ve_call (V0 : VOk g X.prog X.w X.K X.mg X.base k f fd ps φ) (room : Room k X.A) (gd : g = true → X.A.guards = some []) (tk : Takes X W) (hg : Gl X x) (hm : X.mg x = some (.ref f)) (hk : PySem.W.keepIn X.K (.ref f) = true) (hb : Binds X.K fd ps [])
    (ha : VA X W (e :: es) fa) (hdb : (x == ("__debug__" : Str)) = false := by decide) (he : starEach (e :: es) X.env = (false, eval e X.env) :: starEach es X.env := by rfl) (hpl : (backTo pos (starEach es X.env)).any (·.1) = false := by rfl) :
    VE X W (.Call (.Name x p) (e :: es) [] pos) (callF φ fa) := by
  refine ⟨fun pins s σ H Q I h => wpAny_Call_Name_kw (ld_glob I hg hm ?_ hdb)⟩
  exact PySem.W.callWith_K (h₀ := X.base) I.ok.mod.kin hk (thn (ha.run pos pins s σ H _ I (rd_call h)) fun us s1 ⟨vs, H1, I1, rv, q⟩ => ⟨I1.kIn, run_V V0 room gd hb tk I1 rv q⟩) he hpl
end
end PV

/-! PV5: statements, targets, loops. -/
namespace PV
open PySem PySem.Spec PyProof.Rows L2
variable [Tbl]

section
variable {K : PySem.W.Frag} {W : WX} {N N' : Ends} {c : Cq} {F F1 : Hp}
theorem aftS.mono : ∀ {o : O}, aftS K W N c F o → Same F F1 → (∀ σ H, N.nx σ H → N'.nx σ H) → (∀ v H, N.rt v H → N'.rt v H) → (∀ σ H, N.bk σ H → N'.bk σ H) → (∀ σ H, N.ct σ H → N'.ct σ H) → aftS K W N' c F1 o
  | .nx δ, h, s, a, _, _, _ => fun σ' F' H' r e => a _ _ (h σ' F' H' r (s.trans e))
  | .ret d δ, h, s, _, a, _, _ => fun v σ' F' H' r e d => a _ _ (h v σ' F' H' r (s.trans e) d)
  | .brk δ, h, s, _, _, a, _ => fun σ' F' H' r e => a _ _ (h σ' F' H' r (s.trans e))
  | .cnt δ, h, s, _, _, _, a => fun σ' F' H' r e => a _ _ (h σ' F' H' r (s.trans e))
  | .exc x δ, h, s, _, _, _, _ => fun cls od σ' F' H' r e d => h cls od σ' F' H' r (s.trans e) d
  | .stuck, h, _, _, _, _, _ => h
theorem aftS.up {o : O} (h : aftS K W N c F o) (s : Same F F1) : aftS K W N c F1 o := h.mono s (fun _ _ z => z) (fun _ _ z => z) (fun _ _ z => z) fun _ _ z => z
end

/-- an expression, then a statement's end -/
def bindS {α : Type} (r : R α) (g : α → DE → O) : O :=
  match r with
  | .ok a δ => g a δ
  | .exc x δ => .exc x δ
  | .stuck => .stuck
theorem rdS.first {α β : Type} {K : PySem.W.Frag} {W : WX} {DM : Cq → Hp → Hp → L2.St → DE → α → β → Prop} {f : DE → R α} {g : α → DE → O} {N : Ends} {σ : L2.St} {H : Hp} {Q' : β → Hp → Prop} (h : rdS K W (fun δ => bindS (f δ) g) N σ H)
    (k : ∀ c F H1 δ a v, Rel K c F H1 σ δ → DM c F H1 σ δ a v → aftS K W N c F (g a δ) → Q' v H1) : rd K W DM f σ H Q' := by
  obtain ⟨c, F, δ, r, a⟩ := h
  refine ⟨c, F, δ, r, ?_⟩
  have a : aftS K W N c F (bindS (f δ) g) := a
  cases e : f δ with
  | ok x δ1 =>
    rw [e] at a
    exact fun v F' H' r' s d => k c F' H' δ1 x v r' d (a.up s)
  | exc x δ1 =>
    rw [e] at a
    exact fun cls od F' H' r' s d => a cls od σ F' H' r' s d
  | stuck => rw [e] at a; exact a
theorem aftS.next {α β : Type} {K : PySem.W.Frag} {W : WX} {DM : Cq → Hp → Hp → L2.St → DE → α → β → Prop} {f : DE → R α} {g : α → DE → O} {N : Ends} {c : Cq} {F H : Hp} {σ : L2.St} {δ : DE} {Q' : β → Hp → Prop} (r : Rel K c F H σ δ) (h : aftS K W N c F (bindS (f δ) g))
    (k : ∀ F1 H1 δ1 a v, Rel K c F1 H1 σ δ1 → Same F F1 → DM c F1 H1 σ δ1 a v → aftS K W N c F1 (g a δ1) → Q' v H1) : rd K W DM f σ H Q' := by
  refine ⟨c, F, δ, r, ?_⟩
  cases e : f δ with
  | ok x δ1 => rw [e] at h; exact fun v F' H' r' s d => k F' H' δ1 x v r' s d (h.up s)
  | exc x δ1 => rw [e] at h; exact fun cls od F' H' r' s d => h cls od σ F' H' r' s d
  | stuck => rw [e] at h; exact h
theorem rdS.here {K : PySem.W.Frag} {W : WX} {c : Cq} {F H : Hp} {σ : L2.St} {δ : DE} {g : DE → O} {N : Ends} (r : Rel K c F H σ δ) (h : aftS K W N c F (g δ)) : rdS K W g N σ H := ⟨c, F, δ, r, h⟩

def thenS (g h : DE → O) : DE → O := fun δ => match g δ with
  | .nx δ => h δ
  | o => o
def skipS : DE → O := fun δ => .nx δ
def neverS : DE → O := fun _ => .stuck
def retS (f : DE → R D) : DE → O := fun δ => bindS (f δ) fun d δ => .ret d δ
def dropS (f : DE → R D) : DE → O := fun δ => bindS (f δ) fun _ δ => .nx δ
def ifS (t : DE → R Bool) (g h : DE → O) : DE → O := fun δ => bindS (t δ) fun b δ => if b = true then g δ else h δ
/-- a slot that is not lent takes a datum | an own object -/
def setSl (i : Nat) (s : Sl) (δ : DE) : Option DE := match δ[i]? with
  | some (some (.bor _)) => none
  | some _ => some (δ.set i (some s))
  | none => none
def setS (i : Nat) (f : DE → R D) : DE → O := fun δ => bindS (f δ) fun d δ => match setSl i (.val d) δ with
  | some δ => .nx δ
  | none => .stuck
def ownS (i : Nat) (f : DE → R MD) : DE → O := fun δ => bindS (f δ) fun m δ => match setSl i (.own m) δ with
  | some δ => .nx δ
  | none => .stuck
theorem setSl_some {i : Nat} {s : Sl} {δ δ' : DE} (h : setSl i s δ = some δ') : δ' = δ.set i (some s) ∧ ∀ m, δ[i]? ≠ some (some (.bor m)) := by
  unfold setSl at h
  split at h
  · cases h
  · rename_i x hx e
    cases h
    refine ⟨rfl, fun m q => ?_⟩
    rw [e] at q
    exact hx m (Option.some.inj q)
  · cases h

section
variable {X : Cx} {W : WX} {e a b : Expr} {st : Stmt} {rest sts sts' : List Stmt} {g h : DE → O} {f : DE → R D} {pos pos' : Pos}
theorem vss_nil : VSs X W [] skipS := PSs.to pss_nil fun N σ H z => by
  obtain ⟨c, F, δ, r, z⟩ := z
  exact z σ F H r (.refl _)
theorem vss_one (k : VS X W st g) : VSs X W [st] g := pss_one k
theorem rd_then {K : PySem.W.Frag} {N : Ends} {σ : L2.St} {H : Hp} (z : rdS K W (thenS g h) N σ H) : tSeq (rdS K W g) (rdS K W h) N σ H := by
  obtain ⟨c, F, δ, r, z⟩ := z
  refine ⟨c, F, δ, r, ?_⟩
  unfold thenS at z
  cases e : g δ with
  | nx δ1 => rw [e] at z; exact fun σ' F' H' r' s => rdS.here r' (z.up s)
  | ret d δ1 => rw [e] at z; exact z
  | brk δ1 => rw [e] at z; exact z
  | cnt δ1 => rw [e] at z; exact z
  | exc x δ1 => rw [e] at z; exact z
  | stuck => rw [e] at z; exact z
theorem vss_cons (k : VS X W st g) (l : VSs X W rest h) : VSs X W (st :: rest) (thenS g h) := PSs.to (pss_cons k l) fun _ _ _ z => rd_then z
theorem vs_never : VS X W st neverS := PS.to ps_never fun N σ H z => by
  obtain ⟨c, F, δ, r, z⟩ := z
  exact z
theorem vs_pass : VS X W (.Pass pos) skipS := PS.to ps_pass fun N σ H z => by
  obtain ⟨c, F, δ, r, z⟩ := z
  exact z σ F H r (.refl _)
theorem vs_break : VS X W (.Break pos) (fun δ => .brk δ) := PS.to ps_break fun N σ H z => by
  obtain ⟨c, F, δ, r, z⟩ := z
  exact z σ F H r (.refl _)
theorem vs_continue : VS X W (.Continue pos) (fun δ => .cnt δ) := PS.to ps_continue fun N σ H z => by
  obtain ⟨c, F, δ, r, z⟩ := z
  exact z σ F H r (.refl _)
theorem vs_ret (k : VE X W e f) : VS X W (.Return (some e) pos) (retS f) := PS.to (ps_ret k) fun N σ H z =>
  z.first (DM := dnE X.K) fun c F H1 δ x v r1 d1 z1 => z1 v σ F H1 r1 (.refl _) d1
theorem vs_retN : VS X W (.Return none pos) (retS (cst .non)) := PS.to ps_retN fun N σ H z => by
  obtain ⟨c, F, δ, r, z⟩ := z
  exact z .non σ F H r (.refl _) rfl
theorem vs_expr (k : VE X W e f) (hs : swapsWith e none pos.line X.env = pure false := by rfl) : VS X W (.Expr e pos) (dropS f) := PS.to (ps_expr k hs) fun N σ H z =>
  z.first (DM := dnE X.K) fun c F H1 δ x v r1 d1 z1 => z1 σ F H1 r1 (.refl _)
theorem vs_if {t : DE → R Bool} (k : VT X W e t) (l : VSs X W sts g) (m : VSs X W sts' h) : VS X W (.If e sts sts' pos) (ifS t g h) := PS.to (ps_if k l m) fun N σ H z => by
  refine z.first (DM := dnB) fun c F H1 δ x v r1 d1 z1 => ?_
  cases (show v = x from d1)
  cases x with
  | true => exact rdS.here r1 z1
  | false => exact rdS.here r1 z1
theorem rd_set {K : PySem.W.Frag} {i : Nat} {N : Ends} {σ : L2.St} {H : Hp} (z : rdS K W (setS i f) N σ H) : tAsg (rdE K W f) (gName i) N σ H := by
  refine z.first (DM := dnE K) fun c F H1 δ x v r1 d1 z1 => ?_
  cases q : setSl i (.val x) δ with
  | none => rw [q] at z1; exact False.elim z1
  | some δ' =>
    rw [q] at z1
    obtain ⟨rfl, nb⟩ := setSl_some q
    exact z1 _ F H1 (r1.set d1 nb) (.refl _)
theorem vs_set {i : Nat} {x : Str} (hN : X.N.Nodup) (hi : X.N[i]? = some x) (hx : Loc X.env.scope x) (k : VE X W e f) (hs : swapsWith e (some (.Name x pos')) pos.line X.env = pure false := by rfl) (hf : X.fn x = true ∨ X.env.scope.names.lookup x = some .local := by first | exact .inl rfl | exact .inr rfl | assumption) :
    VS X W (.Assign [.Name x pos'] e pos) (setS i f) := PS.to (ps_set hN hi hx k hs hf) fun _ _ _ z => rd_set z
theorem rd_own {K : PySem.W.Frag} {i : Nat} {fm : DE → R MD} {N : Ends} {σ : L2.St} {H : Hp} (z : rdS K W (ownS i fm) N σ H) : tAsg (rdN K W fm) (gName i) N σ H := by
  refine z.first (DM := dnN K) fun c F H1 δ m v r1 d1 z1 => ?_
  cases q : setSl i (.own m) δ with
  | none => rw [q] at z1; exact False.elim z1
  | some δ' =>
    rw [q] at z1
    obtain ⟨rfl, nb⟩ := setSl_some q
    obtain ⟨p, o, rfl, h1, h2, h3, h4, h5, h6⟩ := d1
    exact z1 _ F H1 (r1.setOwn h1 h3 h4 h5 h2 h6 nb) (.refl _)
theorem vs_own {i : Nat} {x : Str} {fm : DE → R MD} (hN : X.N.Nodup) (hi : X.N[i]? = some x) (hx : Loc X.env.scope x) (k : VN X W e fm) (hs : swapsWith e (some (.Name x pos')) pos.line X.env = pure false := by rfl) (hf : X.fn x = true ∨ X.env.scope.names.lookup x = some .local := by first | exact .inl rfl | exact .inr rfl | assumption) :
    VS X W (.Assign [.Name x pos'] e pos) (ownS i fm) := PS.to (ps_set hN hi hx k hs hf) fun _ _ _ z => rd_own z
/-- a new object that is not changed any more -/
def ofN (f : DE → R MD) : DE → R D := fun δ => (f δ).bind fun m δ => .ok m.d δ
theorem rd_ofN {K : PySem.W.Frag} {fm : DE → R MD} {σ : L2.St} {H : Hp} {Q : VK} (z : rdE K W (ofN fm) σ H Q) : rdN K W fm σ H Q := by
  refine z.first (DM := dnN K) fun c F H1 δ m v r1 d1 z1 => ?_
  obtain ⟨p, o, rfl, h1, h2, h3, h4, h5, h6⟩ := d1
  have bne : ∀ i ∈ c.bs, c.adr i ≠ p := fun i hi q => by
    have := r1.bor0 i hi
    rw [q] at this
    exact this h5
  refine z1 _ (upd F p o) H1 ⟨fun b x e => ?_, r1.pres, r1.low.trans (same_new h3), fun b x e => ?_, fun b x e => ⟨(r1.gs b x e).1, ?_⟩, r1.bor0, r1.borD, r1.binj, r1.len, fun i s e => (r1.sl i s e).to (same_new h3) (fun a x y1 y2 y0 y3 => ?_) fun _ _ _ _ y _ => y, r1.apart, r1.tab.lay h2.pl⟩ (same_new h3) (h2.still h3)
  · by_cases q : b = p
    · subst q; rw [upd_same] at e; cases e; exact h1
    · rw [upd_ne q] at e; exact r1.sub _ _ e
  · by_cases q : b = p
    · subst q; exact .inr (.inl h5)
    · rw [upd_ne q] at e; exact r1.new _ _ e
  · rw [upd_ne (fun q => by subst q; rw [h4] at e; cases e)]; exact (r1.gs b x e).2
  · rw [upd_ne ?_]; exact y2
    intro q
    subst q
    cases s with
    | val d => exact y0 d rfl
    | own n => exact h6 i n e (getD_some y3)
    | bor n =>
      obtain ⟨hb, _, w, _⟩ := r1.sl i _ e
      have y3 := getD_some y3
      rw [getD_some w] at y3
      exact bne i hb (V.ref.inj (Option.some.inj (Option.some.inj y3)))
theorem ve_new {fm : DE → R MD} (k : VN X W e fm) : VE X W e (ofN fm) := PE.to k fun σ H Q z => rd_ofN z
end

/-! ### targets -/
/-- t takes a datum; ts are its slots -/
def rdG (K : PySem.W.Frag) (ts : List Nat) (t : D → DE → Option DE) : TG := fun v σ H Q => ∃ c F δ d, Rel K c F H σ δ ∧ Den K F d v ∧
  match t d δ with
  | some δ' => ∀ σ', Rel K c F H σ' δ' → σ'.length = σ.length → (∀ j, j ∉ ts → σ'[j]? = σ[j]?) → Q σ' H
  | none => False
abbrev VG (X : Cx) (ts : List Nat) (tg : Expr) (t : D → DE → Option DE) : Prop := PG X tg (rdG X.K ts t)
def rdGs (K : PySem.W.Frag) (ts : List Nat) (t : List D → DE → Option DE) : TGs := fun vs σ H Q => ∃ c F δ ds, Rel K c F H σ δ ∧ Dens K F ds vs ∧
  match t ds δ with
  | some δ' => ∀ σ', Rel K c F H σ' δ' → σ'.length = σ.length → (∀ j, j ∉ ts → σ'[j]? = σ[j]?) → Q σ' H
  | none => False
abbrev VGs (X : Cx) (ts : List Nat) (tg : List Expr) (t : List D → DE → Option DE) : Prop := PGs X tg (rdGs X.K ts t)
theorem PG.to {X : Cx} {e : Expr} {t t' : TG} (h : PG X e t) (i : ∀ v σ H Q, t' v σ H Q → t v σ H Q) : PG X e t' := ⟨fun pins s σ H x v Q I r z => h.run pins s σ H x v Q I r (i _ _ _ _ z)⟩
theorem PGs.to {X : Cx} {e : List Expr} {t t' : TGs} (h : PGs X e t) (i : ∀ v σ H Q, t' v σ H Q → t v σ H Q) : PGs X e t' := ⟨fun pins s σ H x v Q I r z => h.run pins s σ H x v Q I r (i _ _ _ _ z)⟩
def nmG (i : Nat) : D → DE → Option DE := fun d δ => setSl i (.val d) δ
def nilG : List D → DE → Option DE := fun ds δ => match ds with
  | [] => some δ
  | _ => none
def consG (t : D → DE → Option DE) (r : List D → DE → Option DE) : List D → DE → Option DE := fun ds δ => match ds with
  | [] => none
  | d :: ds => (t d δ).bind fun δ => r ds δ
def tupG (n : Nat) (r : List D → DE → Option DE) : D → DE → Option DE := fun d δ => match d with
  | .tup ds => if ds.length = n then r ds δ else none
  | _ => none
section
variable {X : Cx} {ts ts' : List Nat} {e : Expr} {es : List Expr} {t : D → DE → Option DE} {r : List D → DE → Option DE}
theorem vg_name {i : Nat} {x : Str} {pos : Pos} (hN : X.N.Nodup) (hi : X.N[i]? = some x) (hx : Loc X.env.scope x) (hf : X.fn x = true ∨ X.env.scope.names.lookup x = some .local := by first | exact .inl rfl | exact .inr rfl | assumption) : VG X [i] (.Name x pos) (nmG i) :=
  PG.to (pg_name hN hi hx hf) fun v σ H Q z => by
    obtain ⟨c, F, δ, d, r, dd, z⟩ := z
    unfold nmG at z
    cases q : setSl i (.val d) δ with
    | none => rw [q] at z; exact False.elim z
    | some δ' =>
      rw [q] at z
      obtain ⟨rfl, nb⟩ := setSl_some q
      exact z _ (r.set dd nb) (List.length_set) fun j hj => List.getElem?_set_ne (fun y => hj (by rw [y]; exact List.mem_singleton.mpr rfl))
theorem vgs_nil : VGs X [] [] nilG := PGs.to pgs_nil fun v σ H Q z => by
  obtain ⟨c, F, δ, ds, r, dd, z⟩ := z
  unfold nilG at z
  cases ds with
  | nil => exact ⟨dd, z σ r rfl fun _ _ => rfl⟩
  | cons d ds => exact False.elim z
theorem vgs_cons (h : VG X ts e t) (k : VGs X ts' es r) (hs : (assignEach (e :: es) X.env).map (·.2) = assign e X.env :: (assignEach es X.env).map (·.2) := by rfl) : VGs X (ts ++ ts') (e :: es) (consG t r) := PGs.to (pgs_cons h k hs) fun v σ H Q z => by
  obtain ⟨c, F, δ, ds, r1, dd, z⟩ := z
  unfold consG at z
  cases ds with
  | nil => exact False.elim z
  | cons d ds =>
    obtain ⟨v1, vs, rfl, d1, d2⟩ := dd
    refine ⟨v1, vs, rfl, c, F, δ, d, r1, d1, ?_⟩
    have z : match (t d δ).bind (fun δ => r ds δ) with
      | some δ' => ∀ σ', Rel X.K c F H σ' δ' → σ'.length = σ.length → (∀ j, j ∉ ts ++ ts' → σ'[j]? = σ[j]?) → Q σ' H
      | none => False := z
    cases q : t d δ with
    | none => rw [q] at z; exact z
    | some δ1 =>
      rw [q] at z
      intro σ1 r2 l1 n1
      refine ⟨c, F, δ1, ds, r2, d2, ?_⟩
      have z : match r ds δ1 with
        | some δ' => ∀ σ', Rel X.K c F H σ' δ' → σ'.length = σ.length → (∀ j, j ∉ ts ++ ts' → σ'[j]? = σ[j]?) → Q σ' H
        | none => False := z
      cases q2 : r ds δ1 with
      | none => rw [q2] at z; exact z
      | some δ2 =>
        rw [q2] at z
        exact fun σ2 r3 l2 n2 => z σ2 r3 (l2.trans l1) fun j hj => (n2 j fun y => hj (List.mem_append_right _ y)).trans (n1 j fun y => hj (List.mem_append_left _ y))
theorem vg_tup {kt : Nat} {pos : Pos} {n : Nat} (hc : X.calm = true) (k : VGs X ts es r) (hn : (assignEach es X.env).length = n := by rfl) (hst : (assignEach es X.env).findIdx? (·.1) = none := by rfl) :
    VG X ts (.Tuple es kt pos) (tupG n r) := PG.to (pg_tup hc k hn hst) fun v σ H Q z => by
  obtain ⟨c, F, δ, d, r1, dd, z⟩ := z
  unfold tupG at z
  cases d <;> first | exact False.elim z | skip
  rename_i ds
  obtain ⟨a, xs, rfl, h1, h2⟩ := dd
  have z : match (if ds.length = n then r ds δ else none) with
    | some δ' => ∀ σ', Rel X.K c F H σ' δ' → σ'.length = σ.length → (∀ j, j ∉ ts → σ'[j]? = σ[j]?) → Q σ' H
    | none => False := z
  by_cases q : ds.length = n
  · rw [if_pos q] at z
    exact ⟨a, xs, rfl, sqt (r1.sub _ _ h1), by rw [h2.length, q], c, F, δ, ds, r1, h2, z⟩
  · rw [if_neg q] at z; exact False.elim z
end

/-! ### loops -/
/-- what a loop walks: these data, one after the other -/
def ItF (K : PySem.W.Frag) (F0 : Hp) (J : It) (ds : List D) : Prop := ∀ c F H σ δ (i : Nat), Rel K c F H σ δ → Same F0 F →
  (∀ d, ds[i]? = some d → J.go i H ∧ ∀ x H1, J.yld i H x H1 → ∃ F1, Rel K c F1 H1 σ δ ∧ Same F F1 ∧ Den K F1 d x) ∧ (i = ds.length → J.stop i H)
abbrev dnI (K : PySem.W.Frag) : Cq → Hp → Hp → L2.St → DE → List D → It → Prop := fun _ F _ _ _ ds J => ItF K F J ds
abbrev rdI (K : PySem.W.Frag) (W : WX) (f : DE → R (List D)) : TI := rd K W (dnI K) f
abbrev VI (X : Cx) (W : WX) (tg iter : Expr) (f : DE → R (List D)) : Prop := PI X tg iter (rdI X.K W f)
theorem PI.to {X : Cx} {tg e : Expr} {t t' : TI} (h : PI X tg e t) (i : ∀ σ H Q, t' σ H Q → t σ H Q) : PI X tg e t' := ⟨fun pins s σ H Q I z => h.run pins s σ H Q I (i σ H Q z)⟩
def loopF (t : D → DE → Option DE) (g : DE → O) : List D → DE → O
  | [], δ => .nx δ
  | d :: ds, δ => match t d δ with
    | none => .stuck
    | some δ => match g δ with
      | .nx δ => loopF t g ds δ
      | .cnt δ => loopF t g ds δ
      | .brk δ => .nx δ
      | o => o
def forS (f : DE → R (List D)) (t : D → DE → Option DE) (g : DE → O) : DE → O := fun δ => bindS (f δ) fun ds δ => loopF t g ds δ
theorem rd_for {K : PySem.W.Frag} {W : WX} {f : DE → R (List D)} {ts : List Nat} {t : D → DE → Option DE} {g : DE → O} {N : Ends} {σ : L2.St} {H : Hp} (z : rdS K W (forS f t g) N σ H) : tFor (rdI K W f) (rdG K ts t) (rdS K W g) N σ H := by
  refine z.first (DM := dnI K) fun c F H1 δ ds J r1 d1 z1 => ?_
  refine ⟨fun i m σ H => ∃ F' δ, Rel K c F' H σ δ ∧ Same F F' ∧ i + m = ds.length ∧ aftS K W N c F' (loopF t g (ds.drop i) δ), ⟨ds.length, F, δ, r1, .refl _, by omega, z1⟩, ?_⟩
  rintro i m σ H ⟨F2, δ2, r2, s2, em, z2⟩
  obtain ⟨hg, hs⟩ := d1 c F2 H σ δ2 i r2 s2
  by_cases hi : i < ds.length
  · have ed := List.getElem?_eq_getElem hi
    obtain ⟨go, yl⟩ := hg _ ed
    rw [List.drop_eq_getElem_cons hi] at z2
    refine .inr ⟨go, fun σ' H' => ∃ F' δ, Rel K c F' H' σ' δ ∧ Same F F' ∧ aftS K W N c F' (loopF t g (ds.drop (i + 1)) δ), ?_, fun x H3 hy => ?_⟩
    · rintro σ' H' ⟨F3, δ3, r3, s3, z3⟩
      exact ⟨m - 1, by omega, F3, δ3, r3, s3, by omega, z3⟩
    · obtain ⟨F3, r3, s3, d3⟩ := yl x H3 hy
      refine ⟨c, F3, δ2, ds[i], r3, d3, ?_⟩
      unfold loopF at z2
      cases q : t ds[i] δ2 with
      | none => rw [q] at z2; exact z2
      | some δ4 =>
        rw [q] at z2
        intro σ4 r4 _ _
        refine rdS.here r4 ?_
        have z2 : aftS K W N c F2 (match g δ4 with
          | .nx δ => loopF t g (ds.drop (i + 1)) δ
          | .cnt δ => loopF t g (ds.drop (i + 1)) δ
          | .brk δ => .nx δ
          | o => o) := z2
        have z2 := z2.up s3
        cases q2 : g δ4 with
        | nx δ5 => rw [q2] at z2; exact fun σ' F' H' r' s' => ⟨F', δ5, r', (s2.trans s3).trans s', z2.up s'⟩
        | cnt δ5 => rw [q2] at z2; exact fun σ' F' H' r' s' => ⟨F', δ5, r', (s2.trans s3).trans s', z2.up s'⟩
        | brk δ5 => rw [q2] at z2; exact z2
        | ret d δ5 => rw [q2] at z2; exact z2
        | exc x δ5 => rw [q2] at z2; exact z2
        | stuck => rw [q2] at z2; exact z2
  · refine .inl ⟨hs (by omega), ?_⟩
    rw [List.drop_eq_nil_of_le (by omega)] at z2
    exact z2 σ F2 H r2 (.refl _)
theorem vs_for {X : Cx} {W : WX} {tg iter : Expr} {body : List Stmt} {f : DE → R (List D)} {ts : List Nat} {t : D → DE → Option DE} {g : DE → O} {pos : Pos} (hp : PassesOwn (model X.prog X.w) X.A X.env X.xe) (hc : X.calm = true) (hi : VI X W tg iter f) (hg : VG X ts tg t) (hb : VSs X W body g)
    (hs : ∀ x, foldedSetIterable iter X.env x = pure x := by intro _; rfl) : VS X W (.For tg iter body [] pos) (forS f t g) := PS.to (ps_for hp hc hi hg hb hs) fun _ _ _ z => rd_for z
end PV

/-! PV6: displays, slots that are written, comprehensions. -/
namespace PV
open PySem PySem.Spec PyProof.Rows L2
variable [Tbl]

abbrev LIM : Nat := 1000000
theorem lim_le {n : Nat} (h : n ≤ LIM) : n ≤ sizeLine := Nat.le_trans h (by decide)
theorem lim_lt {n : Nat} (h : n < LIM) : n < sizeLine := Nat.lt_of_lt_of_le h (by decide)

/-! ### displays -/
def valsOf : List Arg → Option (List D)
  | [] => some []
  | .val d :: as => (valsOf as).map fun r => d :: r
  | .slot _ :: _ => none
def tupE (fa : DE → R (List Arg)) : DE → R D := fun δ => (fa δ).bind fun as δ => match valsOf as with
  | some ds => if ds.length ≤ LIM then .ok (.tup ds) δ else .stuck
  | none => .stuck
def lstN (fa : DE → R (List Arg)) : DE → R MD := fun δ => (fa δ).bind fun as δ => match valsOf as with
  | some ds => if ds.length ≤ LIM then .ok (.lst ds) δ else .stuck
  | none => .stuck
theorem vals_den {K : PySem.W.Frag} {F : Hp} {σ : L2.St} : ∀ {as : List Arg} {ds : List D} {vs : List V}, valsOf as = some ds → ArgsD K F σ as vs → Dens K F ds vs
  | [], _, _, h, g => by cases h; exact g
  | .val d :: as, ds, vs, h, ⟨v, r, e, g1, g2⟩ => by
    obtain ⟨t, e1, e2⟩ := Option.map_eq_some_iff.mp h
    rw [← e2]
    exact ⟨v, r, e, g1, vals_den e1 g2⟩
  | .slot i :: as, _, _, h, _ => by cases h
section
variable {K : PySem.W.Frag} {c : Cq} {F H : Hp} {σ : L2.St} {δ : DE}
/-- a new object, as an object of one's own -/
theorem Rel.fresh (r : Rel K c F H σ δ) {p : Addr} {o : HO} {m : MD} (hp : H p = none) (hm : MDen K F m o) : Rel K c F (upd H p o) σ δ ∧ dnN K c F (upd H p o) σ δ m (.ref p) := by
  refine ⟨r.tmp hp, p, o, rfl, upd_same, hm, r.freeF hp, r.freeG hp, r.free hp, fun j n e z => ?_⟩
  obtain ⟨a, o', e1, e2, _⟩ := r.own e
  rw [z] at e1; cases e1
  rw [hp] at e2; cases e2
end
section
variable {X : Cx} {W : WX} {es : List Expr} {fa : DE → R (List Arg)} {pos : Pos}
theorem ve_tup {x1} (h : VA X W es fa) : VE X W (.Tuple es x1 pos) (tupE fa) := PE.to (pe_tup h) fun σ H Q z => by
  refine z.first (DM := dnA X.K) fun c F H1 δ as vs r1 d1 z1 => ?_
  cases e : valsOf as with
  | none => rw [e] at z1; exact False.elim z1
  | some ds =>
    rw [e] at z1
    have dd := vals_den e d1
    by_cases hl : ds.length ≤ LIM
    · have z1 : aft X.K W (dnE X.K) c F σ Q (if ds.length ≤ LIM then .ok (.tup ds) δ else .stuck) := z1
      rw [if_pos hl] at z1
      refine ⟨by rw [dd.length]; exact lim_le hl, fun p hp => z1 _ _ _ (r1.lay hp) (same_new (r1.freeF hp)) ⟨p, vs, rfl, upd_same, Dens.mono (same_new (r1.freeF hp)) _ _ dd⟩⟩
    · have z1 : aft X.K W (dnE X.K) c F σ Q (if ds.length ≤ LIM then .ok (.tup ds) δ else .stuck) := z1
      rw [if_neg hl] at z1; exact False.elim z1
theorem vn_lst (h : VA X W es fa) : VN X W (.List es pos) (lstN fa) := PE.to (pe_lst h) fun σ H Q z => by
  refine z.first (DM := dnA X.K) fun c F H1 δ as vs r1 d1 z1 => ?_
  cases e : valsOf as with
  | none => rw [e] at z1; exact False.elim z1
  | some ds =>
    rw [e] at z1
    have dd := vals_den e d1
    by_cases hl : ds.length ≤ LIM
    · have z1 : aft X.K W (dnN X.K) c F σ Q (if ds.length ≤ LIM then .ok (.lst ds) δ else .stuck) := z1
      rw [if_pos hl] at z1
      refine ⟨by rw [dd.length]; exact lim_le hl, fun p hp => ?_⟩
      obtain ⟨h1, h2⟩ := r1.fresh (o := .lst vs) (m := .lst ds) hp dd
      exact z1 _ _ _ h1 (.refl _) h2
    · have z1 : aft X.K W (dnN X.K) c F σ Q (if ds.length ≤ LIM then .ok (.lst ds) δ else .stuck) := z1
      rw [if_neg hl] at z1; exact False.elim z1
end

/-! ### a list in a slot -/
/-- x.append(e) -/
def appS (i : Nat) (f : DE → R D) : DE → O := fun δ => match mutOf δ i with
  | some (_, .lst _) => bindS (f δ) fun d δ => match mutOf δ i with
    | some (s, .lst l) => if l.length < LIM then .nx (δ.set i (some (s.wr (.lst (l ++ [d]))))) else .stuck
    | _ => .stuck
  | _ => .stuck
theorem mden_lst {K : PySem.W.Frag} {F : Hp} {l : List D} {o : HO} (h : MDen K F (.lst l) o) : ∃ xs, o = .lst xs ∧ Dens K F l xs := by
  cases o <;> first | exact False.elim h | exact ⟨_, rfl, h⟩
section
variable {X : Cx} {W : WX} {e : Expr} {f : DE → R D} {pos : Pos}
theorem vs_append (i : Nat) {x : Str} {px apos cpos : Pos} (k : VE X W e f) (hN : X.N[i]? = some x := by rfl) (hv : Vis X.env.scope x := by first | exact Or.inl rfl | exact Or.inr (Or.inl rfl) | exact Or.inr (Or.inr rfl)) (hd : (x == ("__debug__" : Str)) = false := by decide) (hcd : (x == ("__classdict__" : Str)) = false := by decide)
    (hst : starEach [e] X.env = [(false, eval e X.env)] := by rfl) (hline : (apos.endLine == cpos.line) = true := by rfl) (hs : swapsWith (.Call (.Attribute (.Name x px) "append" apos) [e] [] cpos) none pos.line X.env = pure false := by rfl)
    (hbase : attributeBase (.Name x px) "append" X.env (eval (.Name x px) X.env) = eval (.Name x px) X.env := by rfl)
    (hfew : ((backTo cpos (starEach [e] X.env)).all (fun x => !x.1) && (backToKw cpos (keywordEach [] X.env)).all (fun x => x.1.isSome) && decide ([e].length + ([] : List Keyword).length + (if ([] : List Keyword).isEmpty then 0 else 1) < 30)) = true := by rfl) :
    VS X W (.Expr (.Call (.Attribute (.Name x px) "append" apos) [e] [] cpos) pos) (appS i f) :=
  PS.to (ps_expr (pe_bm PySem.F.plainAttrs_list PySem.F.slot_list_append PySem.F.type_list_append mt_append (pe_var hN hv hd hcd) (pa_cons k pa_nil hst) hbase hfew hline hst (by rfl)) hs) fun N σ H z => by
    obtain ⟨c, F, δ, r, z⟩ := z
    unfold appS at z
    split at z
    · rename_i s0 l0 q0
      obtain ⟨q1, q2⟩ := mutOf_some q0
      obtain ⟨a, o, h1, h2, h3, h4⟩ := r.mutAt q1 q2
      obtain ⟨xs, rfl, h3⟩ := mden_lst h3
      refine ⟨.ref a, h1, .inl ⟨rfl, xs, .inl (.inl h2)⟩, ?_⟩
      have z0 : rdS X.K W (fun δ => bindS (f δ) fun d δ => match mutOf δ i with
        | some (s, .lst l) => if l.length < LIM then .nx (δ.set i (some (s.wr (.lst (l ++ [d]))))) else .stuck
        | _ => .stuck) N σ H := ⟨c, F, δ, r, z⟩
      refine z0.first (DM := dnE X.K) fun c F H1 δ d v r1 d1 z1 => ?_
      split at z1
      · rename_i s l q
        obtain ⟨g1, g2⟩ := mutOf_some q
        obtain ⟨b, o, y1, y2, y3, y4⟩ := r1.mutAt g1 g2
        rw [h1] at y1; cases y1
        obtain ⟨ys, rfl, y3⟩ := mden_lst y3
        by_cases hl : l.length < LIM
        · rw [if_pos hl] at z1
          exact ⟨a, ys, v, rfl, rfl, y2, by rw [y3.length]; exact lim_lt hl, z1 σ F _ (r1.write (m' := .lst (l ++ [d])) g1 g2 h1 (Dens.append y3 (Dens.one d1))) (.refl _)⟩
        · rw [if_neg hl] at z1; exact False.elim z1
      · exact False.elim z1
    · exact False.elim z
/-- x[k] of a list in a slot -/
def ixSl (i : Nat) (fb : DE → R D) : DE → R D := fun δ => match mutOf δ i with
  | some _ => (fb δ).bind fun k δ => match mutOf δ i, k with
    | some (_, .lst l), .int k => R.of (atI l k) δ
    | _, _ => .stuck
  | none => .stuck
theorem Dens.atI {K : PySem.W.Frag} {F : Hp} {ds : List D} {vs : List V} {k : Int} {d : D} (h : Dens K F ds vs) (e : L2.atI ds k = some d) : ∃ v, L2.atI vs k = some v ∧ Den K F d v := by
  unfold L2.atI at e ⊢
  rw [h.length]
  cases q : ixN ds.length k with
  | none => rw [q] at e; cases e
  | some j => rw [q] at e; exact h.get e
theorem ve_ixSl (i : Nat) {x : Str} {px : Pos} {b : Expr} {fb : DE → R D} (k : VE X W b fb) (hs : PlainIx b) (hN : X.N[i]? = some x := by rfl) (hv : Vis X.env.scope x := by first | exact Or.inl rfl | exact Or.inr (Or.inl rfl) | exact Or.inr (Or.inr rfl)) (hd : (x == ("__debug__" : Str)) = false := by decide) (hcd : (x == ("__classdict__" : Str)) = false := by decide) :
    VE X W (.Subscript (.Name x px) b pos) (ixSl i fb) := PE.to (pe_ix ix_list (pe_var hN hv hd hcd) k hs) fun σ H Q z => by
  obtain ⟨c, F, δ, r, z⟩ := z
  unfold ixSl at z
  split at z
  · rename_i p q0
    obtain ⟨s0, m0⟩ := p
    obtain ⟨q1, q2⟩ := mutOf_some q0
    obtain ⟨a, o, h1, _⟩ := r.mutAt q1 q2
    refine ⟨.ref a, h1, ?_⟩
    refine aft.next (DM := dnE X.K) (f := fb) (g := fun k δ => match mutOf δ i, k with
      | some (_, .lst l), .int k => R.of (L2.atI l k) δ
      | _, _ => .stuck) r z fun F2 H2 δ2 kd v r2 s2 d2 z2 => ?_
    split at z2
    · rename_i s l kk q
      obtain ⟨g1, g2⟩ := mutOf_some q
      obtain ⟨b, o, y1, y2, y3, y4⟩ := r2.mutAt g1 g2
      rw [h1] at y1; cases y1
      obtain ⟨ys, rfl, y3⟩ := mden_lst y3
      cases e : L2.atI l kk with
      | none => rw [e] at z2; exact False.elim z2
      | some d =>
        rw [e] at z2
        obtain ⟨w, w1, w2⟩ := y3.atI e
        exact ⟨a, ys, kk, w, rfl, d2, .inl (.inl y2), w1, z2 w F2 H2 r2 (.refl _) w2⟩
    · exact False.elim z2
  · exact False.elim z
/-- x[k] = e -/
def putS (i : Nat) (fk f : DE → R D) : DE → O := fun δ => bindS (f δ) fun d δ => match mutOf δ i with
  | some _ => bindS (fk δ) fun k δ => match mutOf δ i, k with
    | some (s, .lst l), .int k => match ixN l.length k with
      | some j => .nx (δ.set i (some (s.wr (.lst (l.set j d)))))
      | none => .stuck
    | _, _ => .stuck
  | none => .stuck
theorem vs_put (i : Nat) {x : Str} {px tpos : Pos} {ik : Expr} {fk : DE → R D} (k : VE X W e f) (kk : VE X W ik fk) (hN : X.N[i]? = some x := by rfl) (hv : Vis X.env.scope x := by first | exact Or.inl rfl | exact Or.inr (Or.inl rfl) | exact Or.inr (Or.inr rfl)) (hd : (x == ("__debug__" : Str)) = false := by decide) (hcd : (x == ("__classdict__" : Str)) = false := by decide)
    (ha : ∀ v, assign (.Subscript (.Name x px) ik tpos) X.env v = (do let ov ← holding [v] (eval (.Name x px) X.env); let iv ← holding [v, ov] (eval ik X.env); standAt tpos; holding [v, ov, iv] (setItem ov iv v); release [v, ov, iv] []) := by intro _; rfl)
    (hs : swapsWithSole [.Subscript (.Name x px) ik tpos] e pos.line X.env = pure false := by rfl) (hw : swappedStores [.Subscript (.Name x px) ik tpos] e X.env = pure none := by rfl)
    (h1 : (assignEach [.Subscript (.Name x px) ik tpos] X.env).map (·.2) = [assign (.Subscript (.Name x px) ik tpos) X.env] := by rfl) :
    VS X W (.Assign [.Subscript (.Name x px) ik tpos] e pos) (putS i fk f) := PS.to (ps_asg k (pg_sub (pe_var hN hv hd hcd) kk set_list ha) hs hw h1) fun N σ H z => by
  refine z.first (DM := dnE X.K) fun c F H1 δ d v r1 d1 z1 => ?_
  split at z1
  · rename_i p q0
    obtain ⟨s0, m0⟩ := p
    obtain ⟨q1, q2⟩ := mutOf_some q0
    obtain ⟨a, o, h1, _⟩ := r1.mutAt q1 q2
    refine ⟨.ref a, h1, ?_⟩
    refine aftS.next (DM := dnE X.K) (f := fk) (g := fun k δ => match mutOf δ i, k with
      | some (s, .lst l), .int k => match ixN l.length k with
        | some j => .nx (δ.set i (some (s.wr (.lst (l.set j d)))))
        | none => .stuck
      | _, _ => .stuck) r1 z1 fun F2 H2 δ2 kd kv r2 s2 d2 z2 => ?_
    split at z2
    · rename_i s l n q
      obtain ⟨g1, g2⟩ := mutOf_some q
      obtain ⟨b, o, y1, y2, y3, y4⟩ := r2.mutAt g1 g2
      rw [h1] at y1; cases y1
      obtain ⟨ys, rfl, y3⟩ := mden_lst y3
      split at z2
      · rename_i j e
        exact ⟨a, ys, n, j, rfl, d2, y2, by rw [y3.length]; exact e, z2 σ F2 _ (r2.write (m' := .lst (l.set j d)) g1 g2 h1 (Dens.set j y3 (Den.mono s2 _ _ d1))) (.refl _)⟩
      · exact False.elim z2
    · exact False.elim z2
  · exact False.elim z1
end
end PV

/-! PV7: comprehensions. -/
namespace PV
open PySem PySem.Spec PyProof.Rows L2
variable [Tbl]

/-- the slots of a comprehension's own names forgotten; they may not hold what may be written -/
def wipeD (δ : DE) : List Nat → Option DE
  | [] => some δ
  | v :: vs => match mutOf δ v with
    | some _ => none
    | none => (wipeD δ vs).map fun δ' => δ'.set v none
theorem wipeD_get {δ : DE} : ∀ {vs : List Nat} {δ' : DE} {j : Nat}, wipeD δ vs = some δ' → (j ∉ vs → δ'[j]? = δ[j]?) ∧ (j ∈ vs → ∀ s, δ'[j]? ≠ some (some s)) ∧ δ'.length = δ.length ∧ ∀ v ∈ vs, mutOf δ v = none
  | [], δ', j, h => by cases h; exact ⟨fun _ => rfl, fun h => (nomatch h), rfl, fun _ h => (nomatch h)⟩
  | v :: vs, δ', j, h => by
    unfold wipeD at h
    split at h
    · cases h
    · rename_i q
      obtain ⟨δ1, e, q2⟩ := Option.map_eq_some_iff.mp h
      obtain ⟨i1, i2, i3, i4⟩ := wipeD_get (j := j) e
      rw [← q2]
      refine ⟨fun hj => ?_, fun hj s => ?_, by rw [List.length_set]; exact i3, fun w hw => ?_⟩
      · rw [List.getElem?_set_ne (fun z => hj (by rw [z]; exact List.mem_cons_self))]
        exact i1 fun z => hj (List.mem_cons_of_mem _ z)
      · by_cases z : v = j
        · subst z
          rw [List.getElem?_set]
          simp only [if_true]
          split <;> exact fun y => nomatch y
        · rw [List.getElem?_set_ne z]
          rcases List.mem_cons.mp hj with y | y
          · exact absurd y.symm z
          · exact i2 y s
      · rcases List.mem_cons.mp hw with y | y
        · rw [y]; exact q
        · exact i4 w y
theorem wipe_get {σ : L2.St} {j : Nat} {vs : List Nat} (h : j ∉ vs) : (wipe σ vs)[j]? = σ[j]? := wipe_out h
theorem wipe_in (ρ : L2.St) {j : Nat} : ∀ {vs : List Nat}, j ∈ vs → (wipe ρ vs)[j]? = if j < ρ.length then some none else none
  | [], h => nomatch h
  | v :: vs, h => by
    unfold wipe
    by_cases z : v = j
    · subst z
      rw [List.getElem?_set]
      simp only [if_true]
      rw [wipe_length]
    · rw [List.getElem?_set_ne z]
      rcases List.mem_cons.mp h with y | y
      · exact absurd y.symm z
      · exact wipe_in ρ y
theorem wipe_ext {σ σ' : L2.St} {vs : List Nat} (hl : σ'.length = σ.length) (h : ∀ j, j ∉ vs → σ'[j]? = σ[j]?) : wipe σ' vs = wipe σ vs := by
  refine List.ext_getElem? fun j => ?_
  by_cases hj : j ∈ vs
  · rw [wipe_in σ' hj, wipe_in σ hj, hl]
  · rw [wipe_get hj, wipe_get hj]; exact h j hj

section
variable {K : PySem.W.Frag} {c : Cq} {F H : Hp} {σ : L2.St} {δ δ' : DE} {vs : List Nat}
theorem mutOf_of {δ : DE} {i : Nat} {s : Sl} {m : MD} (h : δ[i]? = some (some s)) (hm : s.mut = some m) : mutOf δ i = some (s, m) := by
  unfold mutOf
  rw [h]
  show s.mut.map _ = _
  rw [hm]; rfl
theorem Rel.wipe (r : Rel K c F H σ δ) (h : wipeD δ vs = some δ') : Rel K c F H (L2.wipe σ vs) δ' := by
  have nb : ∀ {i : Nat} {m : MD}, δ[i]? = some (some (.bor m)) → i ∉ vs := fun {i m} e hi => by
    have := (wipeD_get (j := i) h).2.2.2 i hi
    rw [mutOf_of e rfl] at this; cases this
  have at_ : ∀ {i : Nat} {s : Sl}, δ'[i]? = some (some s) → i ∉ vs ∧ δ[i]? = some (some s) := fun {i s} e => by
    obtain ⟨h1, h2, _⟩ := wipeD_get (j := i) h
    by_cases hi : i ∈ vs
    · exact absurd e (h2 hi s)
    · exact ⟨hi, by rw [← h1 hi]; exact e⟩
  refine ⟨r.sub, r.pres, r.low, r.new, r.gs, r.bor0, fun i hi => ?_, r.binj, by rw [wipe_length, (wipeD_get (j := 0) h).2.2.1]; exact r.len, fun i s e => ?_, fun i j a m n e1 e2 e3 e4 => ?_, r.tab⟩
  · obtain ⟨m, e⟩ := r.borD i hi
    exact ⟨m, by rw [(wipeD_get (j := i) h).1 (nb e)]; exact e⟩
  · obtain ⟨h1, h2⟩ := at_ e
    rw [wipe_get h1]
    exact r.sl i s h2
  · obtain ⟨h1, h2⟩ := at_ e1
    obtain ⟨g1, g2⟩ := at_ e2
    rw [wipe_get h1] at e3
    rw [wipe_get g1] at e4
    exact r.apart i j a m n h2 g2 e3 e4
/-- the outer slots as they were, the others as they are -/
def unwipe (δ0 δ : DE) : List Nat → DE
  | [] => δ
  | v :: vs => (unwipe δ0 δ vs).set v (δ0[v]?.getD none)
theorem unwipe_get {δ0 δ : DE} (hl : δ.length = δ0.length) : ∀ {vs : List Nat} {j : Nat}, (j ∉ vs → (unwipe δ0 δ vs)[j]? = δ[j]?) ∧ (j ∈ vs → (unwipe δ0 δ vs)[j]? = δ0[j]?) ∧ (unwipe δ0 δ vs).length = δ.length
  | [], j => ⟨fun _ => rfl, fun h => (nomatch h), rfl⟩
  | v :: vs, j => by
    obtain ⟨i1, i2, i3⟩ := unwipe_get (δ0 := δ0) hl (vs := vs) (j := j)
    unfold unwipe
    refine ⟨fun hj => ?_, fun hj => ?_, by rw [List.length_set]; exact i3⟩
    · rw [List.getElem?_set_ne (fun z => hj (by rw [z]; exact List.mem_cons_self))]
      exact i1 fun z => hj (List.mem_cons_of_mem _ z)
    · by_cases z : v = j
      · subst z
        rw [List.getElem?_set]
        simp only [if_true]
        rw [i3, hl]
        split
        · rename_i hv
          rw [List.getElem?_eq_getElem hv]; rfl
        · rename_i hv
          exact (List.getElem?_eq_none (by omega)).symm
      · rw [List.getElem?_set_ne z]
        rcases List.mem_cons.mp hj with y | y
        · exact absurd y.symm z
        · exact i2 y
theorem Rel.unwipe {δ0 : DE} {F0 H0 : Hp} (r0 : Rel K c F0 H0 σ δ0) (e0 : Same F0 F) (h0 : ∀ v ∈ vs, mutOf δ0 v = none) (r : Rel K c F H (L2.wipe σ vs) δ) (hd : ∀ v ∈ vs, ∀ m, δ[v]? ≠ some (some (.bor m))) : Rel K c F H σ (PV.unwipe δ0 δ vs) := by
  have hl : δ.length = δ0.length := by rw [← r.len, wipe_length]; exact r0.len
  have in_ : ∀ {i : Nat} {s : Sl}, i ∈ vs → (PV.unwipe δ0 δ vs)[i]? = some (some s) → ∃ d, s = .val d ∧ δ0[i]? = some (some (.val d)) := fun {i s} hi e => by
    rw [(unwipe_get (δ0 := δ0) hl (j := i)).2.1 hi] at e
    cases s with
    | val d => exact ⟨d, rfl, e⟩
    | own m => have := h0 i hi; rw [mutOf_of e rfl] at this; cases this
    | bor m => have := h0 i hi; rw [mutOf_of e rfl] at this; cases this
  have own_ : ∀ {i : Nat} {n : MD}, (PV.unwipe δ0 δ vs)[i]? = some (some (Sl.own n)) → i ∉ vs ∧ δ[i]? = some (some (Sl.own n)) := fun {i n} e => by
    by_cases hi : i ∈ vs
    · obtain ⟨d, q, _⟩ := in_ hi e; cases q
    · rw [(unwipe_get (δ0 := δ0) hl (j := i)).1 hi] at e; exact ⟨hi, e⟩
  refine ⟨r.sub, r.pres, r.low, r.new, r.gs, r.bor0, fun i hi => ?_, r.binj, by rw [(unwipe_get (δ0 := δ0) hl (j := 0)).2.2, hl]; exact r0.len, fun i s e => ?_, fun i j a m n e1 e2 e3 e4 => ?_, r.tab⟩
  · obtain ⟨m, e⟩ := r.borD i hi
    have : i ∉ vs := fun z => hd i z m e
    exact ⟨m, by rw [(unwipe_get (δ0 := δ0) hl (j := i)).1 this]; exact e⟩
  · by_cases hi : i ∈ vs
    · obtain ⟨d, rfl, e1⟩ := in_ hi e
      obtain ⟨v, e2, e3⟩ := r0.sl i _ e1
      exact ⟨v, e2, Den.mono e0 _ _ e3⟩
    · rw [(unwipe_get (δ0 := δ0) hl (j := i)).1 hi] at e
      have z := r.sl i s e
      rw [wipe_get hi] at z
      exact z
  · obtain ⟨h1, h2⟩ := own_ e1
    obtain ⟨g1, g2⟩ := own_ e2
    exact r.apart i j a m n h2 g2 (by rw [wipe_get h1]; exact e3) (by rw [wipe_get g1]; exact e4)
end

/-! ### [elt for t in items if cond] -/
/-- inside a comprehension nothing may be raised -/
def R.calm {α : Type} (r : R α) : R α := match r with
  | .exc _ _ => .stuck
  | r => r
def lcLoop (t : D → DE → Option DE) (cond : DE → R Bool) (elt : DE → R D) (vs : List Nat) : List D → DE → List D → R (List D)
  | [], δ, acc => .ok acc δ
  | d :: ds, δ, acc => match t d δ with
    | none => .stuck
    | some δ => (cond δ).calm.bind fun b δ => if b = true then
        (elt δ).calm.bind fun y δ => if acc.length < LIM then
          match wipeD δ vs with
          | some δ => lcLoop t cond elt vs ds δ (acc ++ [y])
          | none => .stuck
        else .stuck
      else match wipeD δ vs with
        | some δ => lcLoop t cond elt vs ds δ acc
        | none => .stuck
/-- the items, then the walk over them -/
def lcN (f : DE → R (List D)) (t : D → DE → Option DE) (cond : DE → R Bool) (elt : DE → R D) (vs : List Nat) : DE → R MD := fun δ => (f δ).bind fun ds δ => match wipeD δ vs with
  | none => .stuck
  | some δ1 => (lcLoop t cond elt vs ds δ1 []).bind fun ys δ2 => .ok (.lst ys) (unwipe δ δ2 vs)
abbrev W0 : WX := fun _ _ _ _ => False
theorem aft.calm {α β : Type} {K : PySem.W.Frag} {W : WX} {DN : Cq → Hp → Hp → L2.St → DE → α → β → Prop} {c : Cq} {F : Hp} {σ : L2.St} {Q : β → Hp → Prop} {r : R α} (h : aft K W DN c F σ Q r.calm) : aft K W0 DN c F σ Q r := by
  cases r with
  | ok a δ => exact h
  | exc x δ => exact False.elim h
  | stuck => exact h
def noCond : DE → R Bool := fun δ => .ok true δ
section
variable {X : Cx} {W : WX}
theorem vts_nil : PTs X [] (rdT X.K W noCond) := ⟨fun pins s σ H Q I z => pts_nil.run pins s σ H Q I (by
  obtain ⟨c, F, δ, r, z⟩ := z
  exact z true F H r (.refl _) rfl)⟩
theorem vts_one {e : Expr} {t : DE → R Bool} (h : VT X W e t) : PTs X [e] (rdT X.K W t) := pts_one h
end
/-- the bookkeeping of the walk -/
theorem lc_walk {K : PySem.W.Frag} {c : Cq} {F0 : Hp} {σ : L2.St} {ts vs : List Nat} {J : It} {ds : List D} {p : Addr} {t : D → DE → Option DE} {cond : DE → R Bool} {elt : DE → R D} {Q : Hp → Prop} (hts : ∀ i ∈ ts, i ∈ vs) (hJ : ItF K F0 J ds) (hg : c.G p = none) (h0 : c.H0 p = none)
    {F1 H1 : Hp} {δ1 : DE} (r1 : Rel K { c with G := upd c.G p (.lst []) } F1 H1 (wipe σ vs) δ1) (s1 : Same F0 F1)
    (fin : ∀ ys δ F H xs, lcLoop t cond elt vs ds δ1 [] = .ok ys δ → Rel K { c with G := upd c.G p (.lst xs) } F H (wipe σ vs) δ → Same F1 F → Dens K F ys xs → Q H) (good : ∃ ys δ, lcLoop t cond elt vs ds δ1 [] = .ok ys δ) :
    ∃ W : Nat → Nat → Hp → Prop, (∃ m, W 0 m H1) ∧ ∀ i m H, W i m H → (J.stop i H ∧ Q H) ∨ (J.go i H ∧ ∃ Nx : Hp → Prop, (∀ H', Nx H' → ∃ m', m' < m ∧ W (i + 1) m' H') ∧
      ∀ x H', J.yld i H x H' → rdG K ts t x (wipe σ vs) H' fun σ2 H2 => wipe σ2 vs = wipe σ vs ∧ rdT K W0 cond σ2 H2 fun b H3 =>
        if b = true then rdE K W0 elt σ2 H3 fun y H4 => ∃ acc, H4 p = some (.lst acc) ∧ acc.length < sizeLine ∧ Nx (upd H4 p (.lst (acc ++ [y]))) else Nx H3) := by
  obtain ⟨ys, δf, good⟩ := good
  have ww : ∀ ρ : L2.St, wipe ρ vs = wipe σ vs → wipe (wipe ρ vs) vs = wipe σ vs := fun ρ e => by
    rw [e]
    exact wipe_ext (wipe_length _ _) fun j hj => wipe_get hj
  refine ⟨fun i m H => ∃ F δ acc xs, Rel K { c with G := upd c.G p (.lst xs) } F H (wipe σ vs) δ ∧ Same F1 F ∧ Dens K F acc xs ∧ i + m = ds.length ∧ lcLoop t cond elt vs (ds.drop i) δ acc = .ok ys δf,
    ⟨ds.length, F1, δ1, [], [], r1, .refl _, rfl, by omega, good⟩, ?_⟩
  rintro i m H ⟨F2, δ2, acc, xs, r2, s2, d2, em, z2⟩
  obtain ⟨hgo, hst⟩ := hJ _ F2 H _ δ2 i r2 (s1.trans s2)
  by_cases hi : i < ds.length
  · have ed := List.getElem?_eq_getElem hi
    obtain ⟨go, yl⟩ := hgo _ ed
    rw [List.drop_eq_getElem_cons hi] at z2
    refine .inr ⟨go, fun H' => ∃ F δ acc xs, Rel K { c with G := upd c.G p (.lst xs) } F H' (wipe σ vs) δ ∧ Same F1 F ∧ Dens K F acc xs ∧ lcLoop t cond elt vs (ds.drop (i + 1)) δ acc = .ok ys δf, ?_, fun x H3 hy => ?_⟩
    · rintro H' ⟨F3, δ3, acc3, xs3, r3, s3, d3, z3⟩
      exact ⟨m - 1, by omega, F3, δ3, acc3, xs3, r3, s3, d3, by omega, z3⟩
    · obtain ⟨F3, r3, s3, d3⟩ := yl x H3 hy
      refine ⟨_, F3, δ2, ds[i], r3, d3, ?_⟩
      unfold lcLoop at z2
      split at z2
      · cases z2
      · rename_i δ4 q
        rw [q]
        intro σ4 r4 l4 n4
        have w4 : wipe σ4 vs = wipe σ vs := by
          rw [show wipe σ vs = wipe (wipe σ vs) vs from (ww σ rfl).symm]
          exact wipe_ext l4 fun j hj => n4 j fun y => hj (hts j y)
        refine ⟨w4, ?_⟩
        refine ⟨_, F3, δ4, r4, ?_⟩
        cases qc : cond δ4 with
        | exc e δ5 => rw [qc] at z2; cases z2
        | stuck => rw [qc] at z2; cases z2
        | ok b δ5 =>
          rw [qc] at z2
          intro b' F5 H5 r5 s5 eb
          cases (show b' = b from eb)
          cases b with
          | false =>
            have z2 : (match wipeD δ5 vs with
              | some δ => lcLoop t cond elt vs (ds.drop (i + 1)) δ acc
              | none => .stuck) = R.ok ys δf := z2
            show ∃ F δ acc xs, _
            split at z2
            · rename_i δ6 q6
              have r6 := r5.wipe q6
              rw [w4] at r6
              exact ⟨F5, δ6, acc, xs, r6, (s2.trans s3).trans s5, Dens.mono (s3.trans s5) _ _ d2, z2⟩
            · cases z2
          | true =>
            show rdE K W0 elt σ4 H5 _
            refine ⟨_, F5, δ5, r5, ?_⟩
            have z2 : ((elt δ5).calm.bind fun y δ => if acc.length < LIM then
              match wipeD δ vs with
              | some δ => lcLoop t cond elt vs (ds.drop (i + 1)) δ (acc ++ [y])
              | none => .stuck
              else .stuck) = R.ok ys δf := z2
            cases qe : elt δ5 with
            | exc e δ6 => rw [qe] at z2; cases z2
            | stuck => rw [qe] at z2; cases z2
            | ok y δ6 =>
              rw [qe] at z2
              intro v F6 H6 r6 s6 d6
              have z2 : (if acc.length < LIM then
                match wipeD δ6 vs with
                | some δ => lcLoop t cond elt vs (ds.drop (i + 1)) δ (acc ++ [y])
                | none => .stuck
                else .stuck) = R.ok ys δf := z2
              by_cases hl : acc.length < LIM
              · rw [if_pos hl] at z2
                have dx := Dens.mono ((s3.trans s5).trans s6) _ _ d2
                refine ⟨xs, (r6.drop hg).2.1, by rw [dx.length]; exact lim_lt hl, ?_⟩
                split at z2
                · rename_i δ7 q7
                  have r7 := (r6.holdPut (o' := .lst (xs ++ [v])) hg h0).wipe q7
                  rw [w4] at r7
                  exact ⟨F6, δ7, acc ++ [y], xs ++ [v], r7, ((s2.trans s3).trans s5).trans s6, Dens.append dx (Dens.one d6), z2⟩
                · cases z2
              · rw [if_neg hl] at z2; cases z2
  · refine .inl ⟨hst (by omega), ?_⟩
    rw [List.drop_eq_nil_of_le (by omega)] at z2
    have z2 : R.ok acc δ2 = R.ok ys δf := z2
    cases z2
    exact fin _ _ F2 H xs good r2 s2 d2
section
variable {X : Cx} {W : WX} {elt tg iter : Expr} {ifs : List Expr} {scope : Scope} {own : List (Str × Nat)} {pos : Pos} {f : DE → R (List D)} {ts : List Nat} {t : D → DE → Option DE} {cond : DE → R Bool} {fe : DE → R D}
theorem rd_lc {K : PySem.W.Frag} {vs : List Nat} {σ : L2.St} {H : Hp} {Q : VK} (hts : ∀ i ∈ ts, i ∈ vs) (z : rdN K W (lcN f t cond fe vs) σ H Q) : tLc (rdI K W f) (rdG K ts t) (rdT K W0 cond) (rdE K W0 fe) vs σ H Q := by
  refine z.first (DM := dnI K) fun c F H1 δ ds J r1 d1 z1 => ?_
  intro p hp
  split at z1
  · exact False.elim z1
  · rename_i δ1 q
    have rw1 := r1.wipe q
    obtain ⟨rf, p', o', e0, f1, f2, f3, f4, f5, f6⟩ := rw1.fresh (o := .lst []) (m := .lst []) hp rfl
    cases e0
    have eo : o' = HO.lst [] := by rw [upd_same] at f1; exact (Option.some.inj f1).symm
    subst eo
    have bne : ∀ i ∈ c.bs, c.adr i ≠ p := fun i hi y => by
      have := r1.bor0 i hi
      rw [y] at this
      exact this f5
    have rh := rf.hold f1 f3 f6 bne
    cases hl : lcLoop t cond fe vs ds δ1 [] with
    | exc x δ2 =>
      exfalso
      have never : ∀ (ds : List D) (δ : DE) (acc : List D) (x : XD) (δ' : DE), lcLoop t cond fe vs ds δ acc ≠ .exc x δ' := by
        intro ds
        induction ds with
        | nil => intro δ acc x δ' y; cases y
        | cons d ds ih =>
          intro δ acc x δ' y
          unfold lcLoop at y
          split at y
          · cases y
          · rename_i δ2 _
            cases qc : cond δ2 with
            | exc _ _ => rw [qc] at y; cases y
            | stuck => rw [qc] at y; cases y
            | ok b δ3 =>
              rw [qc] at y
              cases b with
              | false =>
                have y : (match wipeD δ3 vs with
                  | some δ => lcLoop t cond fe vs ds δ acc
                  | none => .stuck) = R.exc x δ' := y
                split at y
                · exact ih _ _ _ _ y
                · cases y
              | true =>
                have y : ((fe δ3).calm.bind fun y δ => if acc.length < LIM then
                  match wipeD δ vs with
                  | some δ => lcLoop t cond fe vs ds δ (acc ++ [y])
                  | none => .stuck
                  else .stuck) = R.exc x δ' := y
                cases qe : fe δ3 with
                | exc _ _ => rw [qe] at y; cases y
                | stuck => rw [qe] at y; cases y
                | ok w δ4 =>
                  rw [qe] at y
                  have y : (if acc.length < LIM then
                    match wipeD δ4 vs with
                    | some δ => lcLoop t cond fe vs ds δ (acc ++ [w])
                    | none => .stuck
                    else .stuck) = R.exc x δ' := y
                  split at y
                  · split at y
                    · exact ih _ _ _ _ y
                    · cases y
                  · cases y
      exact never _ _ _ _ _ hl
    | stuck => rw [hl] at z1; exact False.elim z1
    | ok ys δ2 =>
      rw [hl] at z1
      refine lc_walk (c := c) (F1 := F) (H1 := upd H1 p (.lst [])) (δ1 := δ1) hts d1 f4 f5 rh (.refl _) (fun ys' δ' F' H' xs e r' s' d' => ?_) ⟨ys, δ2, hl⟩
      rw [hl] at e
      cases e
      obtain ⟨rd', g1, g2, g3, g4⟩ := r'.drop f4
      have hw := (wipeD_get (j := 0) q).2.2.2
      have hlen : List.length δ2 = List.length δ := by rw [← rd'.len, wipe_length]; exact r1.len
      refine z1 _ F' H' (Rel.unwipe r1 s' hw rd' fun v hv m e => ?_) s' ⟨p, _, rfl, g1, d', g2, f4, f5, fun j n e y => ?_⟩
      · obtain ⟨hb, _⟩ := rd'.sl v _ e
        obtain ⟨m', e'⟩ := r1.borD v hb
        have := hw v hv
        rw [mutOf_of e' rfl] at this; cases this
      · by_cases hj : j ∈ vs
        · rw [(unwipe_get (δ0 := δ) hlen (j := j)).2.1 hj] at e
          have := hw j hj
          rw [mutOf_of e rfl] at this; cases this
        · rw [(unwipe_get (δ0 := δ) hlen (j := j)).1 hj] at e
          exact g3 j n e (by rw [wipe_get hj]; exact y)
theorem vn_lc (hc : X.calm = true) (hN : X.N.Nodup) (hi : VI X W tg iter f) (ok : BlkOk X.N X.env.scope scope own) (hts : ∀ i ∈ ts, i ∈ own.map (·.2))
    (hg : ∀ (s : Shared) (H : Hp) (C : Addr) (cl : List (Str × Addr)) (fp : List Addr), VG (X.blk s H scope (compEnvC scope cl C X.env) fp) ts tg t)
    (ht : ∀ (s : Shared) (H : Hp) (C : Addr) (cl : List (Str × Addr)) (fp : List Addr), PTs (X.blk s H scope (compEnvC scope cl C X.env) fp) ifs (rdT X.K W0 cond))
    (he : ∀ (s : Shared) (H : Hp) (C : Addr) (cl : List (Str × Addr)) (fp : List Addr), VE (X.blk s H scope (compEnvC scope cl C X.env) fp) W0 elt fe) (hs : ∀ x, foldedSetIterable iter X.env x = pure x := by intro _; rfl) :
    VN X W (.ListComp elt [⟨tg, iter, ifs, 0⟩] scope pos) (lcN f t cond fe (own.map (·.2))) := PE.to (pe_lc hc hN hi ok hg ht he hs) fun σ H Q z => rd_lc hts z
/-- y = [..] -/
theorem vs_ownLc {i : Nat} {y : Str} {py spos : Pos} (hc : X.calm = true) (hN : X.N.Nodup) (hy : X.N[i]? = some y) (hyl : X.env.scope.names.lookup y = some .local)
    (hsw : swapsWith (.ListComp elt [⟨tg, iter, ifs, 0⟩] scope pos) (some (.Name y py)) spos.line X.env = pure true) (hi : VI X W tg iter f) (ok : BlkOk X.N X.env.scope scope own) (hts : ∀ i ∈ ts, i ∈ own.map (·.2))
    (hg : ∀ (s : Shared) (H : Hp) (C : Addr) (cl : List (Str × Addr)) (fp : List Addr), VG (X.blk s H scope (compEnvC scope cl C X.env) fp) ts tg t)
    (ht : ∀ (s : Shared) (H : Hp) (C : Addr) (cl : List (Str × Addr)) (fp : List Addr), PTs (X.blk s H scope (compEnvC scope cl C X.env) fp) ifs (rdT X.K W0 cond))
    (he : ∀ (s : Shared) (H : Hp) (C : Addr) (cl : List (Str × Addr)) (fp : List Addr), VE (X.blk s H scope (compEnvC scope cl C X.env) fp) W0 elt fe) (hs : ∀ x, foldedSetIterable iter X.env x = pure x := by intro _; rfl) :
    VS X W (.Assign [.Name y py] (.ListComp elt [⟨tg, iter, ifs, 0⟩] scope pos) spos) (ownS i (lcN f t cond fe (own.map (·.2)))) := PS.to (ps_setLc hc hN hy hyl hsw hi ok hg ht he hs) fun N σ H z => by
  have z := rd_own z
  exact rd_lc hts z
theorem vs_setLc {i : Nat} {y : Str} {py spos : Pos} (hc : X.calm = true) (hN : X.N.Nodup) (hy : X.N[i]? = some y) (hyl : X.env.scope.names.lookup y = some .local)
    (hsw : swapsWith (.ListComp elt [⟨tg, iter, ifs, 0⟩] scope pos) (some (.Name y py)) spos.line X.env = pure true) (hi : VI X W tg iter f) (ok : BlkOk X.N X.env.scope scope own) (hts : ∀ i ∈ ts, i ∈ own.map (·.2))
    (hg : ∀ (s : Shared) (H : Hp) (C : Addr) (cl : List (Str × Addr)) (fp : List Addr), VG (X.blk s H scope (compEnvC scope cl C X.env) fp) ts tg t)
    (ht : ∀ (s : Shared) (H : Hp) (C : Addr) (cl : List (Str × Addr)) (fp : List Addr), PTs (X.blk s H scope (compEnvC scope cl C X.env) fp) ifs (rdT X.K W0 cond))
    (he : ∀ (s : Shared) (H : Hp) (C : Addr) (cl : List (Str × Addr)) (fp : List Addr), VE (X.blk s H scope (compEnvC scope cl C X.env) fp) W0 elt fe) (hs : ∀ x, foldedSetIterable iter X.env x = pure x := by intro _; rfl) :
    VS X W (.Assign [.Name y py] (.ListComp elt [⟨tg, iter, ifs, 0⟩] scope pos) spos) (setS i (ofN (lcN f t cond fe (own.map (·.2))))) := PS.to (ps_setLc hc hN hy hyl hsw hi ok hg ht he hs) fun N σ H z => by
  have z := rd_set z
  exact rd_lc hts (rd_ofN z)
end
end PV

/-! PV8: operators and built-ins on data. -/
namespace PV
open PySem PySem.Spec PyProof.Rows L2
variable [Tbl]

/-! ### ints -/
def iop (h : Int → Int → D) : D → D → Option D
  | .int i, .int j => some (h i j)
  | _, _ => none
def iopC (C : Int → Int → Bool) (h : Int → Int → D) : D → D → Option D
  | .int i, .int j => if C i j = true then some (h i j) else none
  | _, _ => none
section
variable {X : Cx} {sem : Value → Value → Sem Value}
theorem o2_I0 {g : Int → Int → V} {h : Int → Int → D} (o : OpR X sem (rI0 g)) (e : ∀ F i j, Den X.K F (h i j) (g i j)) : Op2 X sem (iop h) := by
  refine ⟨_, o, fun c F H σ δ d e' z v w Q r d1 d2 q k => ?_⟩
  cases d <;> first | cases q | skip
  cases e' <;> first | cases q | skip
  exact ⟨_, _, d1, d2, k _ F H r (.refl _) (e F _ _)⟩
theorem o2_I {C : Int → Int → Prop} {B : Int → Int → Bool} {g : Int → Int → V} {h : Int → Int → D} (o : OpR X sem (rI C g)) (b : ∀ i j, B i j = true → C i j) (e : ∀ F i j, Den X.K F (h i j) (g i j)) : Op2 X sem (iopC B h) := by
  refine ⟨_, o, fun c F H σ δ d e' z v w Q r d1 d2 q k => ?_⟩
  cases d <;> first | cases q | skip
  cases e' <;> first | cases q | skip
  rename_i i j
  have q : (if B i j = true then some (h i j) else none) = some z := q
  split at q
  · rename_i hb
    cases q
    exact ⟨_, _, d1, d2, b _ _ hb, k _ F H r (.refl _) (e F _ _)⟩
  · cases q
abbrev iadd := iop fun i j => .int (i + j)
abbrev isub := iop fun i j => .int (i - j)
def mulOk (i j : Int) : Bool := (decide (-(2 ^ 64) < i) && decide (i < 2 ^ 64)) || (decide (-(2 ^ 64) < j) && decide (j < 2 ^ 64))
abbrev imul := iopC mulOk fun i j => .int (i * j)
def divOk (_ j : Int) : Bool := decide (0 < j) && decide (j < 2 ^ 64)
abbrev idiv := iopC divOk fun i j => .int (i / j)
abbrev imod := iopC divOk fun i j => .int (i % j)
def powOk (i j : Int) : Bool := decide (0 ≤ j) && decide (j ≤ 1000) && decide (i.natAbs < 2 ^ 64)
abbrev ipow := iopC powOk fun i j => .int (i ^ j.toNat)
abbrev ilt := iop fun i j => .bl (decide (i < j))
abbrev ile := iop fun i j => .bl (decide (i ≤ j))
abbrev igt := iop fun i j => .bl (decide (j < i))
abbrev ige := iop fun i j => .bl (decide (j ≤ i))
theorem o_iadd : Op2 X (binaryOp .Add) iadd := o2_I0 op_add fun _ _ _ => rfl
theorem o_isub : Op2 X (binaryOp .Sub) isub := o2_I0 op_sub fun _ _ _ => rfl
theorem o_imul : Op2 X (binaryOp .Mult) imul := o2_I op_mul (fun i j h => by
  unfold mulOk at h
  rw [Bool.or_eq_true, Bool.and_eq_true, Bool.and_eq_true, decide_eq_true_iff, decide_eq_true_iff, decide_eq_true_iff, decide_eq_true_iff] at h
  exact h) fun _ _ _ => rfl
theorem o_idiv : Op2 X (binaryOp .FloorDiv) idiv := o2_I op_fdivW (fun i j h => by
  unfold divOk at h
  rw [Bool.and_eq_true, decide_eq_true_iff, decide_eq_true_iff] at h
  exact wide_div (b := 64) h.1 (by omega) (by decide) (by decide)) fun _ _ _ => rfl
theorem o_imod : Op2 X (binaryOp .Mod) imod := o2_I op_mod (fun i j h => by
  unfold divOk at h
  rw [Bool.and_eq_true, decide_eq_true_iff, decide_eq_true_iff] at h
  exact h.1) fun _ _ _ => rfl
theorem o_ipow : Op2 X (binaryOp .Pow) ipow := o2_I op_pow (fun i j h => by
  unfold powOk at h
  rw [Bool.and_eq_true, Bool.and_eq_true, decide_eq_true_iff, decide_eq_true_iff, decide_eq_true_iff] at h
  exact ⟨h.1.1, by omega, h.2⟩) fun _ _ _ => rfl
theorem o_ilt : Op2 X (compareOp .Lt) ilt := o2_I0 op_lt fun _ _ _ => rfl
theorem o_ile : Op2 X (compareOp .LtE) ile := o2_I0 op_le fun _ _ _ => rfl
theorem o_igt : Op2 X (compareOp .Gt) igt := o2_I0 op_gt fun _ _ _ => rfl
theorem o_ige : Op2 X (compareOp .GtE) ige := o2_I0 op_ge fun _ _ _ => rfl
end

/-! ### texts, lists, tuples: + and * -/
def sadd : D → D → Option D
  | .str a, .str b => if a.length + b.length ≤ LIM then some (.str (a ++ b)) else none
  | _, _ => none
def ladd : D → D → Option D
  | .lst a, .lst b => if a.length + b.length ≤ LIM then some (.lst (a ++ b)) else none
  | _, _ => none
def tadd : D → D → Option D
  | .tup a, .tup b => if a.length + b.length ≤ LIM then some (.tup (a ++ b)) else none
  | _, _ => none
def lmul : D → D → Option D
  | .lst a, .int k => if 0 ≤ k ∧ k ≤ 1000 ∧ a.length ≤ 1000 then some (.lst (List.replicate k.toNat a).flatten) else none
  | _, _ => none
def tmul : D → D → Option D
  | .tup a, .int k => if a ≠ [] ∧ 2 ≤ k ∧ k ≤ 1000 ∧ a.length ≤ 1000 then some (.tup (List.replicate k.toNat a).flatten) else none
  | _, _ => none
section
variable {X : Cx}
theorem o_sadd : Op2 X (binaryOp .Add) sadd := by
  refine ⟨_, op_add_str, fun c F H σ δ d e z v w Q r d1 d2 q k => ?_⟩
  cases d <;> first | cases q | skip
  cases e <;> first | cases q | skip
  rename_i a b
  have q : (if a.length + b.length ≤ LIM then some (D.str (a ++ b)) else none) = some z := q
  split at q
  · rename_i hl
    cases q
    exact ⟨a, b, d1, d2, lim_le hl, k _ F H r (.refl _) rfl⟩
  · cases q
theorem o_ladd : Op2 X (binaryOp .Add) ladd := by
  refine ⟨_, op_cat, fun c F H σ δ d e z v w Q r d1 d2 q k => ?_⟩
  cases d <;> first | cases q | skip
  cases e <;> first | cases q | skip
  rename_i la lb
  have q : (if la.length + lb.length ≤ LIM then some (D.lst (la ++ lb)) else none) = some z := q
  obtain ⟨a, xs, rfl, h1, h2⟩ := d1
  obtain ⟨b, ys, rfl, g1, g2⟩ := d2
  split at q
  · rename_i hl
    cases q
    refine ⟨a, b, xs, ys, rfl, rfl, r.sub _ _ h1, r.sub _ _ g1, by rw [h2.length, g2.length]; exact lim_le hl, fun p hp => k _ _ _ (r.lay hp) (same_new (r.freeF hp)) ⟨p, _, rfl, upd_same, ?_⟩⟩
    exact Dens.mono (same_new (r.freeF hp)) _ _ (Dens.append h2 g2)
  · cases q
theorem o_tadd : Op2 X (binaryOp .Add) tadd := by
  refine ⟨_, op_catA, fun c F H σ δ d e z v w Q r d1 d2 q k => ?_⟩
  cases d <;> first | cases q | skip
  cases e <;> first | cases q | skip
  rename_i la lb
  have q : (if la.length + lb.length ≤ LIM then some (D.tup (la ++ lb)) else none) = some z := q
  obtain ⟨a, xs, rfl, h1, h2⟩ := d1
  obtain ⟨b, ys, rfl, g1, g2⟩ := d2
  split at q
  · rename_i hl
    cases q
    refine ⟨a, b, xs, ys, rfl, rfl, sqt (r.sub _ _ h1), sqt (r.sub _ _ g1), by rw [h2.length, g2.length]; exact lim_le hl, fun e1 => ?_, fun e1 e2 => ?_, fun _ _ p hp => ?_⟩
    · have l0 := h2.length
      rw [e1] at l0
      have : la = [] := List.length_eq_zero_iff.mp l0.symm
      rw [this] at k
      exact k _ F H r (.refl _) ⟨b, ys, rfl, g1, g2⟩
    · have l0 := g2.length
      rw [e2] at l0
      have : lb = [] := List.length_eq_zero_iff.mp l0.symm
      rw [this, List.append_nil] at k
      exact k _ F H r (.refl _) ⟨a, xs, rfl, h1, h2⟩
    · exact k _ _ _ (r.lay hp) (same_new (r.freeF hp)) ⟨p, _, rfl, upd_same, Dens.mono (same_new (r.freeF hp)) _ _ (Dens.append h2 g2)⟩
  · cases q
theorem o_lmul : Op2 X (binaryOp .Mult) lmul := by
  refine ⟨_, op_rep, fun c F H σ δ d e z v w Q r d1 d2 q k => ?_⟩
  cases d <;> first | cases q | skip
  cases e <;> first | cases q | skip
  rename_i la n
  have q : (if 0 ≤ n ∧ n ≤ 1000 ∧ la.length ≤ 1000 then some (D.lst (List.replicate n.toNat la).flatten) else none) = some z := q
  obtain ⟨a, xs, rfl, h1, h2⟩ := d1
  split at q
  · rename_i hl
    cases q
    refine ⟨a, n, xs, rfl, d2, r.sub _ _ h1, by omega, by omega, ?_, fun p hp => k _ _ _ (r.lay hp) (same_new (r.freeF hp)) ⟨p, _, rfl, upd_same, Dens.mono (same_new (r.freeF hp)) _ _ (Dens.rep h2 _)⟩⟩
    rw [h2.length]
    exact lim_le (Nat.le_trans (Nat.mul_le_mul hl.2.2 (show n.toNat ≤ 1000 by omega)) (by decide))
  · cases q
theorem o_tmul : Op2 X (binaryOp .Mult) tmul := by
  refine ⟨_, op_repT, fun c F H σ δ d e z v w Q r d1 d2 q k => ?_⟩
  cases d <;> first | cases q | skip
  cases e <;> first | cases q | skip
  rename_i la n
  have q : (if la ≠ [] ∧ 2 ≤ n ∧ n ≤ 1000 ∧ la.length ≤ 1000 then some (D.tup (List.replicate n.toNat la).flatten) else none) = some z := q
  obtain ⟨a, xs, rfl, h1, h2⟩ := d1
  split at q
  · rename_i hl
    cases q
    have lx := h2.length
    refine ⟨a, n, xs, rfl, d2, sqt (r.sub _ _ h1), fun y => ?_, hl.2.1, hl.2.2.1, by rw [lx]; exact hl.2.2.2, fun p hp => k _ _ _ (r.lay hp) (same_new (r.freeF hp)) ⟨p, _, rfl, upd_same, Dens.mono (same_new (r.freeF hp)) _ _ (Dens.rep h2 _)⟩⟩
    rw [y] at lx
    exact hl.1 (List.length_eq_zero_iff.mp lx.symm)
  · cases q
end

/-! ### == and != -/
mutual
/-- as the library's data, where it has them -/
def D.py : D → Option PyData
  | .non => some .none
  | .bl b => some (.bool b)
  | .int i => some (.int i)
  | .str s => some (.str s)
  | .tup l => (D.pys l).map .tuple
  | .lst l => (D.pys l).map .list
  | _ => none
def D.pys : List D → Option (List PyData)
  | [] => some []
  | d :: ds => (D.py d).bind fun p => (D.pys ds).map fun ps => p :: ps
end
section
variable {K : PySem.W.Frag} {F H : Hp}
mutual
theorem py_dp (e : Same F H) : ∀ {d : D} {p : PyData} {v : V}, D.py d = some p → Den K F d v → Dp K H v p
  | .non, _, _, h, g => by unfold D.py at h; cases h; cases g; exact .non
  | .bl b, _, _, h, g => by unfold D.py at h; cases h; cases g; exact .bl b
  | .int b, _, _, h, g => by unfold D.py at h; cases h; cases g; exact .int b
  | .str b, _, _, h, g => by unfold D.py at h; cases h; cases g; exact .str b
  | .byt _, _, _, h, _ => by unfold D.py at h; cases h
  | .ty _, _, _, h, _ => by unfold D.py at h; cases h
  | .fn _, _, _, h, _ => by unfold D.py at h; cases h
  | .adr _, _, _, h, _ => by unfold D.py at h; cases h
  | .scr _, _, _, h, _ => by unfold D.py at h; cases h
  | .dct _, _, _, h, _ => by unfold D.py at h; cases h
  | .dcT _, _, _, h, _ => by unfold D.py at h; cases h
  | .dcF _, _, _, h, _ => by unfold D.py at h; cases h
  | .ctp _, _, _, h, _ => by unfold D.py at h; cases h
  | .ins _ _, _, _, h, _ => by unfold D.py at h; cases h
  | .tup l, _, _, h, g => by
    unfold D.py at h
    obtain ⟨ps, h1, rfl⟩ := Option.map_eq_some_iff.mp h
    obtain ⟨a, xs, rfl, g1, g2⟩ := g
    exact .tup (sqt (e _ _ g1)) (pys_dp e h1 g2)
  | .lst l, _, _, h, g => by
    unfold D.py at h
    obtain ⟨ps, h1, rfl⟩ := Option.map_eq_some_iff.mp h
    obtain ⟨a, xs, rfl, g1, g2⟩ := g
    exact .lst (.inl (.inl (e _ _ g1))) (pys_dp e h1 g2)
theorem pys_dp (e : Same F H) : ∀ {ds : List D} {ps : List PyData} {vs : List V}, D.pys ds = some ps → Dens K F ds vs → DpAll K H vs ps
  | [], _, _, h, g => by unfold D.pys at h; cases h; rw [show _ = _ from g]; exact .nil
  | d :: ds, _, _, h, ⟨v, r, e1, g1, g2⟩ => by
    unfold D.pys at h
    obtain ⟨p, h1, h2⟩ := Option.bind_eq_some_iff.mp h
    obtain ⟨ps, h3, rfl⟩ := Option.map_eq_some_iff.mp h2
    rw [e1]
    exact .cons (py_dp e h1 g1) (pys_dp e h3 g2)
end
end
/-- of scalars -/
def eqS : D → D → Option Bool
  | .non, .non => some true
  | .int i, .int j => some (decide (i = j))
  | .str i, .str j => some (decide (i = j))
  | .bl i, .bl j => some (decide (i = j))
  | .byt i, .byt j => some (decide (i = j))
  | .non, .int _ => some false
  | .int _, .non => some false
  | .non, .bl _ => some false
  | .bl _, .non => some false
  | .non, .str _ => some false
  | .str _, .non => some false
  | .int _, .str _ => some false
  | .str _, .int _ => some false
  | .bl _, .str _ => some false
  | .str _, .bl _ => some false
  | _, _ => none
/-- of data -/
def eqP (x y : D) : Option Bool := match x.py, y.py with
  | some p, some q => if SeqAt.shaped p = true ∧ SeqAt.shaped q = true then some (PyData.eqv p q) else none
  | _, _ => none
def eqD (x y : D) : Option D := ((eqS x y).or (eqP x y)).map .bl
def neD (x y : D) : Option D := ((eqS x y).or (eqP x y)).map fun b => .bl (!b)
section
variable {X : Cx}
theorem eqS_v {K : PySem.W.Frag} {F : Hp} {x y : D} {v w : V} {b : Bool} (h : eqS x y = some b) (d1 : Den K F x v) (d2 : Den K F y w) : scal v w = true ∧ decide (v = w) = b := by
  unfold eqS at h
  split at h <;> first | (cases h; done) | skip
  all_goals
    cases h
    rw [show v = _ from d1, show w = _ from d2]
    refine ⟨rfl, ?_⟩
    first
      | rfl
      | (rw [Bool.eq_iff_iff]; simp)
theorem o_eq (hu : X.A.units + 64 < cLine) : Op2 X (compareOp .Eq) eqD := by
  refine ⟨_, OpR.or op_eq (op_eqD hu), fun c F H σ δ d e z v w Q r d1 d2 q k => ?_⟩
  obtain ⟨b, q1, rfl⟩ := Option.map_eq_some_iff.mp q
  cases qs : eqS d e with
  | some b' =>
    rw [qs] at q1
    cases q1
    obtain ⟨h1, h2⟩ := eqS_v qs d1 d2
    exact .inl ⟨h1, by rw [h2]; exact k _ F H r (.refl _) rfl⟩
  | none =>
    rw [qs] at q1
    have q1 : eqP d e = some b := q1
    unfold eqP at q1
    split at q1
    · rename_i p p' e1 e2
      split at q1
      · rename_i hs
        cases q1
        exact .inr ⟨p, p', py_dp r.sub e1 d1, py_dp r.sub e2 d2, hs.1, hs.2, k _ F H r (.refl _) rfl⟩
      · cases q1
    · cases q1
theorem o_ne (hu : X.A.units + 64 < cLine) : Op2 X (compareOp .NotEq) neD := by
  refine ⟨_, OpR.or op_ne (op_neD hu), fun c F H σ δ d e z v w Q r d1 d2 q k => ?_⟩
  obtain ⟨b, q1, rfl⟩ := Option.map_eq_some_iff.mp q
  cases qs : eqS d e with
  | some b' =>
    rw [qs] at q1
    cases q1
    obtain ⟨h1, h2⟩ := eqS_v qs d1 d2
    exact .inl ⟨h1, by rw [h2]; exact k _ F H r (.refl _) rfl⟩
  | none =>
    rw [qs] at q1
    have q1 : eqP d e = some b := q1
    unfold eqP at q1
    split at q1
    · rename_i p p' e1 e2
      split at q1
      · rename_i hs
        cases q1
        exact .inr ⟨p, p', py_dp r.sub e1 d1, py_dp r.sub e2 d2, hs.1, hs.2, k _ F H r (.refl _) rfl⟩
      · cases q1
    · cases q1
end
/-! ### is None -/
def D.isN : D → Bool
  | .non => true
  | _ => false
theorem isN_v {K : PySem.W.Frag} {F : Hp} {x : D} {v : V} (h : Den K F x v) : decide (v = .non) = x.isN := by
  cases x with
  | non => rw [show v = _ from h]; rfl
  | bl b => rw [show v = _ from h]; rfl
  | int b => rw [show v = _ from h]; rfl
  | str b => rw [show v = _ from h]; rfl
  | byt b => rw [show v = _ from h]; rfl
  | ty b => rw [show v = _ from h]; rfl
  | fn b => obtain ⟨a, e, _⟩ := h; rw [e]; rfl
  | adr b => rw [show v = _ from h]; rfl
  | scr l => obtain ⟨a, e, _⟩ := h; rw [e]; rfl
  | tup l => obtain ⟨a, xs, e, _⟩ := h; rw [e]; rfl
  | lst l => obtain ⟨a, xs, e, _⟩ := h; rw [e]; rfl
  | dct l => obtain ⟨a, xs, e, _⟩ := h; rw [e]; rfl
  | dcT l => obtain ⟨a, xs, e, _⟩ := h; rw [e]; rfl
  | dcF l => obtain ⟨a, od, xs, e, _⟩ := h; rw [e]; rfl
  | ctp l => obtain ⟨a, xs, e, _⟩ := h; rw [e]; rfl
  | ins c l => obtain ⟨C, a, dx, xs, e, _⟩ := h; rw [e]; rfl
def isNo : D → D → Option D := fun x y => match y with
  | .non => some (.bl x.isN)
  | _ => none
def notNo : D → D → Option D := fun x y => match y with
  | .non => some (.bl (!x.isN))
  | _ => none
section
variable {X : Cx}
theorem o_isN : Op2 X (compareOp .Is) isNo := by
  refine ⟨_, op_isN, fun c F H σ δ d e z v w Q r d1 d2 q k => ?_⟩
  cases e <;> first | cases q | skip
  exact ⟨d2, by rw [isN_v d1]; exact k _ F H r (.refl _) rfl⟩
theorem o_notN : Op2 X (compareOp .IsNot) notNo := by
  refine ⟨_, op_notN, fun c F H σ δ d e z v w Q r d1 d2 q k => ?_⟩
  cases e <;> first | cases q | skip
  exact ⟨d2, by rw [isN_v d1]; exact k _ F H r (.refl _) rfl⟩
end
/-! ### in a tuple or list of scalars -/
def D.flat : D → Option V
  | .non => some .non
  | .bl b => some (.bl b)
  | .int i => some (.int i)
  | .str s => some (.str s)
  | _ => none
def flats : List D → Option (List V)
  | [] => some []
  | d :: ds => d.flat.bind fun v => (flats ds).map fun r => v :: r
theorem flat_v {K : PySem.W.Frag} {F : Hp} {x : D} {u v : V} (h : x.flat = some u) (d : Den K F x v) : v = u ∧ flatV v = true := by
  cases x <;> first | (cases h; done) | skip
  all_goals
    cases h
    rw [show v = _ from d]
    exact ⟨rfl, rfl⟩
theorem flats_v {K : PySem.W.Frag} {F : Hp} : ∀ {xs : List D} {us vs : List V}, flats xs = some us → Dens K F xs vs → vs = us ∧ vs.all flatV = true
  | [], _, _, h, d => by cases h; rw [show _ = _ from d]; exact ⟨rfl, rfl⟩
  | x :: xs, us, vs, h, ⟨v, r, e, d1, d2⟩ => by
    obtain ⟨u, h1, h2⟩ := Option.bind_eq_some_iff.mp h
    obtain ⟨us', h3, rfl⟩ := Option.map_eq_some_iff.mp h2
    obtain ⟨e1, e2⟩ := flat_v h1 d1
    obtain ⟨e3, e4⟩ := flats_v h3 d2
    rw [e, e1, e3]
    rw [e1] at e2
    rw [e3] at e4
    exact ⟨rfl, by rw [List.all_cons, e2, e4]; rfl⟩
def itemsOf : D → Option (List D)
  | .tup l => some l
  | .ctp l => some l
  | .lst l => some l
  | _ => none
def inF (neg : Bool) (x y : D) : Option D := match x.flat, (itemsOf y).bind flats with
  | some u, some us => some (.bl (if neg = true then !inV u us else inV u us))
  | _, _ => none
section
variable {X : Cx}
theorem in_r {K : PySem.W.Frag} {c : Cq} {F H : Hp} {σ : L2.St} {δ : DE} {neg : Bool} {d e z : D} {v w : V} {Q : VK} (r : Rel K c F H σ δ) (d1 : Den K F d v) (d2 : Den K F e w) (q : inF neg d e = some z)
    (k : ∀ u F' H', Rel K c F' H' σ δ → Same F F' → Den K F' z u → Q u H') : rIn K neg v w H Q := by
  unfold inF at q
  split at q
  · rename_i u us h1 h2
    cases q
    obtain ⟨ds, h3, h4⟩ := Option.bind_eq_some_iff.mp h2
    obtain ⟨e1, e2⟩ := flat_v h1 d1
    cases e <;> first | (cases h3; done) | skip
    · cases h3
      obtain ⟨a, xs, rfl, g1, g2⟩ := d2
      obtain ⟨e3, e4⟩ := flats_v h4 g2
      exact ⟨a, xs, rfl, .inr (sqt (r.sub _ _ g1)), e2, e4, by rw [e1, e3]; exact k _ F H r (.refl _) (by cases neg <;> rfl)⟩
    · cases h3
      obtain ⟨a, xs, rfl, g1, g2⟩ := d2
      obtain ⟨e3, e4⟩ := flats_v h4 g2
      exact ⟨a, xs, rfl, .inr (PV.Same.tup r.sub g1), e2, e4, by rw [e1, e3]; exact k _ F H r (.refl _) (by cases neg <;> rfl)⟩
    · cases h3
      obtain ⟨a, xs, rfl, g1, g2⟩ := d2
      obtain ⟨e3, e4⟩ := flats_v h4 g2
      exact ⟨a, xs, rfl, .inl (.inl (.inl (r.sub _ _ g1))), e2, e4, by rw [e1, e3]; exact k _ F H r (.refl _) (by cases neg <;> rfl)⟩
  · cases q
theorem o_in : Op2 X (compareOp .In) (inF false) := ⟨_, op_in_seq, fun c F H σ δ d e z v w Q r d1 d2 q k => in_r r d1 d2 q k⟩
theorem o_notIn : Op2 X (compareOp .NotIn) (inF true) := ⟨_, op_notIn_seq, fun c F H σ δ d e z v w Q r d1 d2 q k => in_r r d1 d2 q k⟩
end

/-! ### subscripts, slices -/
def ixD : D → D → Option D
  | .tup l, .int k => atI l k
  | .lst l, .int k => atI l k
  | .scr l, .int k => (atI l k).map .int
  | .str s, .int k => if s.length ≤ LIM then (atI s.cps.toList k).map fun c => .str ⟨#[c]⟩ else none
  | _, _ => none
section
variable {X : Cx} {W : WX} {a b : Expr} {fa fb : DE → R D} {pos : Pos}
theorem atI_map {α β : Type} {f : α → β} {l : List α} {k : Int} {x : α} (h : atI l k = some x) : atI (l.map f) k = some (f x) := by
  unfold atI at h ⊢
  rw [List.length_map]
  cases q : ixN l.length k with
  | none => rw [q] at h; cases h
  | some j =>
    rw [q] at h
    have h : l[j]? = some x := h
    show (l.map f)[j]? = _
    rw [List.getElem?_map, h]; rfl
theorem ve_ix (ha : VE X W a fa) (hb : VE X W b fb) (hs : PlainIx b) : VE X W (.Subscript a b pos) (op2 ixD fa fb) := PE.to (pe_ix ix_seq ha hb hs) fun σ H Q z => by
  refine z.first (DM := dnE X.K) fun c F H1 δ x v r1 d1 z1 => ?_
  refine z1.next (DM := dnE X.K) r1 fun F2 H2 δ2 y w r2 s2 d2 z2 => ?_
  replace d1 := Den.mono s2 _ _ d1
  cases q : ixD x y with
  | none => rw [q] at z2; exact False.elim z2
  | some d =>
    rw [q] at z2
    have fin : ∀ u, Den X.K F2 d u → Q u H2 := fun u du => z2 u F2 H2 r2 (.refl _) du
    cases x <;> first | (cases q; done) | skip
    · cases y <;> first | (cases q; done) | skip
      rename_i s n
      have q : (if s.length ≤ LIM then (atI s.cps.toList n).map (fun c => D.str ⟨#[c]⟩) else none) = some d := q
      split at q
      · rename_i hl
        obtain ⟨c', h1, rfl⟩ := Option.map_eq_some_iff.mp q
        exact .inr (.inr ⟨s, n, c', d1, d2, lim_le hl, h1, fin _ rfl⟩)
      · cases q
    · cases y <;> first | (cases q; done) | skip
      rename_i l n
      obtain ⟨i, h1, rfl⟩ := Option.map_eq_some_iff.mp q
      obtain ⟨p, rfl, g1⟩ := d1
      exact .inl ⟨p, _, n, .int i, rfl, d2, r2.sub.seq g1, atI_map h1, fin _ rfl⟩
    · cases y <;> first | (cases q; done) | skip
      rename_i l n
      obtain ⟨p, xs, rfl, g1, g2⟩ := d1
      obtain ⟨u, h1, h2⟩ := g2.atI q
      exact .inr (.inl ⟨p, xs, n, u, rfl, d2, sqt (r2.sub _ _ g1), h1, fin _ h2⟩)
    · cases y <;> first | (cases q; done) | skip
      rename_i l n
      obtain ⟨p, xs, rfl, g1, g2⟩ := d1
      obtain ⟨u, h1, h2⟩ := g2.atI q
      exact .inl ⟨p, xs, n, u, rfl, d2, .inl (.inl (r2.sub _ _ g1)), h1, fin _ h2⟩
def oNo : DE → R (Option Int) := fun δ => .ok none δ
def oSome (f : DE → R D) : DE → R (Option Int) := fun δ => (f δ).bind fun x δ => match x with
  | .int i => .ok (some i) δ
  | _ => .stuck
theorem vo_none : VO X W none oNo := PO.to po_none fun σ H Q z => by
  obtain ⟨c, F, δ, r, z⟩ := z
  exact z none F H r (.refl _) rfl
theorem vo_some {e : Expr} {f : DE → R D} (h : VE X W e f) : VO X W (some e) (oSome f) := PO.to (po_some h) fun σ H Q z => by
  refine z.first (DM := dnE X.K) fun c F H1 δ x v r1 d1 z1 => ?_
  cases x <;> first | exact False.elim z1 | skip
  exact ⟨_, d1, z1 _ F H1 r1 (.refl _) rfl⟩
def cutD {α : Type} (xs : List α) (lo hi : Option Int) : List α := (xs.drop (HT.sIx xs.length 0 lo)).take (HT.sIx xs.length xs.length hi - HT.sIx xs.length 0 lo)
def slD (x : D) (lo hi : Option Int) : Option D := match x with
  | .tup l => some (.tup (cutD l lo hi))
  | .lst l => some (.lst (cutD l lo hi))
  | _ => none
def slE (fa : DE → R D) (fl fh : DE → R (Option Int)) : DE → R D := fun δ => (fa δ).bind fun x δ => (fl δ).bind fun lo δ => (fh δ).bind fun hi δ => R.of (slD x lo hi) δ
theorem Dens.cut {K : PySem.W.Frag} {F : Hp} {ds : List D} {vs : List V} (h : Dens K F ds vs) (lo hi : Option Int) : Dens K F (cutD ds lo hi) (cutV vs lo hi) := by
  unfold cutD cutV
  rw [h.length]
  exact Dens.take _ (Dens.drop _ h)
theorem cut_all {α : Type} {l : List α} {lo hi : Option Int} (h : HT.sIx l.length 0 lo = 0 ∧ HT.sIx l.length l.length hi = l.length) : cutD l lo hi = l := by
  unfold cutD
  rw [h.1, h.2, List.drop_zero, Nat.sub_zero, List.take_length]
theorem ve_slice {lo hi : Option Expr} {fl fh : DE → R (Option Int)} {p2 : Pos} (ha : VE X W a fa) (hl : VO X W lo fl) (hh : VO X W hi fh) : VE X W (.Subscript a (.Slice lo hi none p2) pos) (slE fa fl fh) := PE.to (pe_slice (SlR.or sl_tupA sl_list) ha hl hh) fun σ H Q z => by
  refine z.first (DM := dnE X.K) fun c F H1 δ x v r1 d1 z1 => ?_
  refine z1.next (DM := dnO) r1 fun F2 H2 δ2 lo v2 r2 s2 d2 z2 => ?_
  cases (show v2 = lo from d2)
  refine z2.next (DM := dnO) r2 fun F3 H3 δ3 hi v3 r3 s3 d3 z3 => ?_
  cases (show v3 = hi from d3)
  replace d1 := Den.mono (s2.trans s3) _ _ d1
  cases x <;> first | (exact False.elim z3; done) | skip
  · rename_i l
    obtain ⟨p, xs, rfl, g1, g2⟩ := d1
    refine .inl ⟨p, xs, rfl, sqt (r3.sub _ _ g1), fun hw => ?_, fun hw q hq => ?_⟩
    · rw [g2.length] at hw
      have z3 : aft X.K W (dnE X.K) c F3 σ Q (.ok (.tup (cutD l lo hi)) δ3) := z3
      rw [cut_all hw] at z3
      exact z3 _ F3 H3 r3 (.refl _) ⟨p, xs, rfl, g1, g2⟩
    · exact z3 _ _ _ (r3.lay hq) (same_new (r3.freeF hq)) ⟨q, _, rfl, upd_same, Dens.mono (same_new (r3.freeF hq)) _ _ (g2.cut lo hi)⟩
  · obtain ⟨p, xs, rfl, g1, g2⟩ := d1
    exact .inr ⟨p, xs, rfl, .inl (.inl (r3.sub _ _ g1)), fun q hq => z3 _ _ _ (r3.lay hq) (same_new (r3.freeF hq)) ⟨q, _, rfl, upd_same, Dens.mono (same_new (r3.freeF hq)) _ _ (g2.cut lo hi)⟩⟩
end
end PV

/-! PVE: enumerate(tuple). -/
namespace PV
open PySem PySem.Spec PyProof.Rows L2

theorem enum1_meets {v : Value} {o : Obj} {P : Heap → Prop} (B : Begins v o P) :
    Meets (Builtin.«enumerate.__new__» ⟨[.type "enumerate", v], []⟩) (fun _ R s => P s.heap ∧ R (.ok (.ret (.ref (s.heap.push o).objs.size))) { s with heap := (s.heap.push o).push { cls := .type "enumerate", data := .fields #[.none, .bool false, .ref s.heap.objs.size, rawInt 0, .none, .none] } }) :=
  .of_wp fun prog w A R s hh => by
    obtain ⟨hp, gs, dr, tk, os⟩ := s
    obtain ⟨hP, hR⟩ := hh
    have sub := sub_enumerate
    have it0 : ∀ {A' : Around} {E : Value → Shared → Prop} {Q : Value → Shared → Prop}, Q (.ref hp.objs.size) ⟨hp.push o, gs, dr, tk, os⟩ → wpAny (model prog w) A' (pyIter v) Q E ⟨hp, gs, dr, tk, os⟩ := fun q => B.iter prog w _ _ ⟨hp, gs, dr, tk, os⟩ _ hP q
    wp_walk using it0
    refine wpAny_stack_any fun st => wpAny_pure ?_
    split
    · rename_i c _ _ _ _ _
      cases (c == Value.type "enumerate")
      · wp_walk using it0
        exact ⟨_, rfl, hR⟩
      · wp_walk using it0
        exact ⟨_, rfl, hR⟩
    · wp_walk using it0
      exact ⟨_, rfl, hR⟩
theorem enum1_call {prog : Program} {w : World} {A : Around} {E : Value → Shared → Prop} {s : Shared} {v : Value} {o : Obj} {P : Heap → Prop} {Q : Value → Shared → Prop} (B : Begins v o P) (hP : P s.heap)
    (h : ∀ h', IsEnum h' (s.heap.objs.size + 1) s.heap.objs.size 0 .none → h'.get? s.heap.objs.size = some o → (∀ b o, s.heap.get? b = some o → h'.get? b = some o) → Q (.ref (s.heap.objs.size + 1)) { s with heap := h' }) :
    wpAny (model prog w) A (call (.type "enumerate") [v]) Q E s := by
  refine callType_new F.called_enumerate (by decide) (F.typeCall_enumerate_1 _) (F.newCall_enumerate_1 _) (fun obj => F.args_object_init_2 obj _) F.entry_enumerate_new (enum1_meets B) ⟨hP, ?_⟩
  have z1 : (s.heap.push o).objs.size = s.heap.objs.size + 1 := Heap.size_push ..
  show _ ∧ _
  rw [z1]
  have e1 : IsEnum ((s.heap.push o).push { cls := .type "enumerate", data := .fields #[.none, .bool false, .ref s.heap.objs.size, rawInt 0, .none, .none] }) (s.heap.objs.size + 1) s.heap.objs.size 0 .none := by
    have q := Heap.get?_push_size (s.heap.push o) (o := { cls := .type "enumerate", data := .fields #[.none, .bool false, .ref s.heap.objs.size, rawInt 0, .none, .none] }) rfl
    rw [z1] at q
    exact q
  exact ⟨⟨_, e1, rfl⟩, h _ e1 (Heap.get?_push_of_some _ (Heap.get?_push_size _ B.free)) fun b o x => Heap.get?_push_of_some _ (Heap.get?_push_of_some _ x)⟩

/-- the tuple at a, each item in a new pair -/
def ItnT (K : PySem.W.Frag) (a : Addr) : It :=
  ⟨fun i H => ∃ (xs : List V) (x : V), SqT K H a xs ∧ xs[i]? = some x, fun i H v H' => ∃ T x, v = .ref T ∧ H T = none ∧ H' = upd H T (.tup [.int (i : Nat), x]) ∧ ∀ xs, SqT K H a xs → xs[i]? = some x, fun i H => ∃ xs : List V, SqT K H a xs ∧ i = xs.length⟩
theorem turn_enumT {P : Program} {w : World} {K : PySem.W.Frag} {elts : List Expr} {kk : Nat} {tpos : Pos} (a e it : Addr) (hne : e ≠ it) (hai : a ≠ it) (hae : e ≠ a) :
    Turn P w K (.Tuple elts kk tpos) (ItnT K a) [e, it] e (fun i h => (∃ old, IsEnum h e it ((i : Nat) : Int) old) ∧ h.IsTupleIter it a i) where
  mem := by simp
  obj := fun i h st b hb => by
    obtain ⟨⟨old, he⟩, ⟨o, ho, hc, hd⟩⟩ := st
    rcases (show b = e ∨ b = it by simpa using hb) with z | z
    · rw [z]; exact ⟨_, he, fun v q => nomatch q⟩
    · rw [z]; exact ⟨o, ho, fun v q => by rw [hd] at q; cases q⟩
  keep := fun i h h' st k => by
    obtain ⟨⟨old, he⟩, hi⟩ := st
    exact ⟨⟨old, k e (by simp) _ he⟩, hi.at fun o q => k it (by simp) o q⟩
  item := by
    intro X hP hw hK hc i pins s σ H E I hf st hg
    subst hP hw hK
    obtain ⟨⟨old, he⟩, hit⟩ := st
    obtain ⟨xs, x, hq, hx⟩ := hg
    obtain ⟨its, rv, p, hz⟩ := I.tuple hq
    have tp : s.heap.IsTuple a its.toArray := p
    have hel : e < s.heap.objs.size := Heap.lt_size he
    have hil : it < s.heap.objs.size := by obtain ⟨_, q, _⟩ := hit; exact Heap.lt_size q
    have hi : i < its.length := by rw [← rv.length]; exact (List.getElem?_eq_some_iff.mp hx).1
    refine wpAny_pyNext_enum_itemD (Draws.tuple (show X.A.in1.handled = none from I.ok.hd hc) it a hai its.toArray) he ⟨hit, tp⟩ (by simpa using hi) hne (by simp [hne, hae]) fun u h' tk hu ho st' hT hsz hk => ?_
    obtain ⟨u', hu', ru'⟩ := rv.get hx
    have eu : u = u' := by
      have hu : its.toArray[i]? = some u := hu
      rw [show its.toArray[i]? = its[i]? by simp, hu'] at hu
      exact (Option.some.inj hu).symm
    subst eu
    refine ⟨_, rfl, wpAny_letOwnedTupleGo_enum (s := { s with heap := h', toks := tk + 1 }) ho fun h'' he' sb => ?_⟩
    have hT2 : h''.get? s.heap.objs.size = some { cls := .type "tuple", data := .seq #[.int i tk, u] } := (sb.2 _ (Nat.ne_of_gt hel)).trans hT
    have new : ObjOk X.prog X.w (upd H s.heap.objs.size (.tup [.int (i : Nat), x])) h'' s.heap.objs.size (.tup [.int (i : Nat), x]) :=
      ⟨by show 2 ≤ sizeLine; decide, [.int i tk, u], .cons ⟨_, rfl⟩ (.cons ru' .nil), ⟨_, hT2, rfl, _, rfl⟩⟩
    have I1 : Inv X pins σ (upd H s.heap.objs.size (.tup [.int (i : Nat), x])) { s with heap := h'', toks := tk + 1 } :=
      I.turnedNew (ch := [e, it]) (fun b ob hb q => (sb.2 b (fun z => hb (by simp [z]))).trans (hk b ob (fun z => hb (by simp [z])) (fun z => hb (by simp [z])) q)) hf (Nat.le_refl _) new
    refine ⟨.ref s.heap.objs.size, _, I1, rfl, ⟨_, x, rfl, I.hok.fresh (Nat.le_refl _), rfl, fun ys hy => by rw [I.tuple_inj hy hq]; exact hx⟩, ⟨⟨u, ?_⟩, st'.1.at fun o q => (sb.2 it (Ne.symm hne)).trans q⟩, fun b hb => ?_⟩
    · have e1 : ((i + 1 : Nat) : Int) = (i : Int) + 1 := by omega
      rw [e1]
      exact he'
    · have hb' : b < s.heap.objs.size := by
        rcases (show b = e ∨ b = it by simpa using hb) with z | z
        · rw [z]; exact hel
        · rw [z]; exact hil
      rw [upd_ne (Nat.ne_of_lt hb')]
      exact (hf b hb).1
  done := by
    intro X hP hw hK hc i pins s σ H E I hf st hg
    subst hP hw hK
    obtain ⟨⟨old, he⟩, hit⟩ := st
    obtain ⟨xs, hq, hx⟩ := hg
    obtain ⟨its, rv, p, hz⟩ := I.tuple hq
    obtain ⟨f0, f1, f2, f3, f4, f5⟩ := hf it (by simp)
    have tp : s.heap.IsTuple a its.toArray := p
    have hi : i = its.toArray.size := by rw [hx, rv.length]; simp
    rw [hi] at hit
    exact wpAny_pyNext_enum_endD (Draws.tuple (show X.A.in1.handled = none from I.ok.hd hc) it a hai its.toArray) he ⟨hit, tp⟩ fun h' eb => ⟨rfl, I.turned (t' := s.toks) (fun b o hb q => eb b o hb q) f0 f1 f3 f4 f5⟩
  self := fun A i s Q E st h => by
    obtain ⟨⟨_, he⟩, _⟩ := st
    exact wpAny_pyIter_enum he h
def iEnT (K : PySem.W.Frag) (ta : TA) : TI := fun σ H R => ta σ H fun vs H1 => ∃ a xs, vs = [.ref a] ∧ SqT K H1 a xs ∧ R (ItnT K a) H1
theorem pi_enumT {X : Cx} {e : Expr} {ta : TA} {p pos tpos : Pos} {elts : List Expr} {kk : Nat} (hg : Gl X "enumerate") (hm : X.mg "enumerate" = none) (ha : PA X [e] ta) (hs : starEach [e] X.env = [(false, eval e X.env)] := by rfl) :
    PI X (.Tuple elts kk tpos) (.Call (.Name "enumerate" p) [e] [] pos) (iEnT X.K ta) := by
  refine ⟨fun pins s σ H R I h => ?_⟩
  refine Call_ (ld_blt I hg hm boot_enumerate (PyProof.Rows.callWith_type1 (thn (ha.run pos pins s σ H _ I h) fun us s1 ⟨vs, H1, I1, r1, q1⟩ => ?_) hs rfl))
  obtain ⟨a, xs, rfl, hq, q⟩ := q1
  have eu := Vals.ref1 r1
  subst eu
  obtain ⟨its, rv, p', hz⟩ := I1.tuple hq
  have tp : s1.heap.IsTuple a its.toArray := p'
  have hal : a < s1.heap.objs.size := by obtain ⟨o, ho, _⟩ := p'; exact Heap.lt_size ho
  refine enum1_call (begins_tuple a its.toArray) tp fun h' he hit hk => wpAny_pyIter_enum he ?_
  have I2 : Inv X pins σ H1 { s1 with heap := h' } := I1.kept (t' := s1.toks) hk
  refine ⟨s1.heap.objs.size + 1, [s1.heap.objs.size + 1, s1.heap.objs.size], _, _, H1, rfl, I2, turn_enumT a (s1.heap.objs.size + 1) s1.heap.objs.size (Nat.succ_ne_self _) (Nat.ne_of_lt hal) (Nat.ne_of_gt (Nat.lt_succ_of_lt hal)), ⟨⟨.none, he⟩, ⟨_, hit, rfl, rfl⟩⟩, fun b hb => ?_, q⟩
  have hle : s1.heap.objs.size ≤ b := by
    rcases (show b = s1.heap.objs.size + 1 ∨ b = s1.heap.objs.size by simpa using hb) with z | z
    · rw [z]; exact Nat.le_add_right _ _
    · rw [z]; exact Nat.le_refl _
  exact I1.fpOk hle (I1.hok.fresh hle)
end PV

/-! PV9: calls of built-ins; what loops walk; repr. -/
namespace PV
open PySem PySem.Spec PyProof.Rows L2
variable [Tbl]

/-- a datum as it stands: not changed any more, or a slot's object -/
def DenH (K : PySem.W.Frag) (F H : Hp) (d : D) (v : V) : Prop := Den K F d v ∨ ∃ (m : MD) (a : Addr) (o : HO), d = m.d ∧ v = .ref a ∧ H a = some o ∧ MDen K F m o
def DensH (K : PySem.W.Frag) (F H : Hp) : List D → List V → Prop
  | [], vs => vs = []
  | d :: ds, vs => ∃ v r, vs = v :: r ∧ DenH K F H d v ∧ DensH K F H ds r
def peekA (δ : DE) : Arg → Option D
  | .val d => some d
  | .slot i => (mutOf δ i).map fun p => p.2.d
def peeks (δ : DE) : List Arg → Option (List D)
  | [] => some []
  | a :: as => (peekA δ a).bind fun d => (peeks δ as).map fun r => d :: r
section
variable {K : PySem.W.Frag} {c : Cq} {F H : Hp} {σ : L2.St} {δ : DE}
theorem Rel.peek (r : Rel K c F H σ δ) : ∀ {as : List Arg} {ds : List D} {vs : List V}, peeks δ as = some ds → ArgsD K F σ as vs → DensH K F H ds vs
  | [], _, _, h, g => by cases h; exact g
  | a :: as, ds, vs, h, ⟨v, t, e, g1, g2⟩ => by
    obtain ⟨d, h1, h2⟩ := Option.bind_eq_some_iff.mp h
    obtain ⟨ds', h3, rfl⟩ := Option.map_eq_some_iff.mp h2
    refine ⟨v, t, e, ?_, r.peek h3 g2⟩
    cases a with
    | val d' => cases h1; exact .inl g1
    | slot i =>
      obtain ⟨p, h4, rfl⟩ := Option.map_eq_some_iff.mp h1
      obtain ⟨s, m⟩ := p
      obtain ⟨q1, q2⟩ := mutOf_some h4
      obtain ⟨b, o, w1, w2, w3, _⟩ := r.mutAt q1 q2
      have g1 : σ[i]? = some (some v) := g1
      rw [w1] at g1; cases g1
      exact .inr ⟨m, b, o, rfl, rfl, w2, w3⟩
theorem DenH.lst (s : Same F H) {l : List D} {v : V} (h : DenH K F H (.lst l) v) : ∃ a xs, v = .ref a ∧ H a = some (.lst xs) ∧ Dens K F l xs := by
  rcases h with ⟨a, xs, e, h1, h2⟩ | ⟨m, a, o, e, e1, h1, h2⟩
  · exact ⟨a, xs, e, s _ _ h1, h2⟩
  · cases m with
    | lst l' =>
      cases e
      obtain ⟨xs, rfl, h2⟩ := mden_lst h2
      exact ⟨a, xs, e1, h1, h2⟩
    | dct l' => cases e
    | dcT l' => cases e
    | ins c l' => cases e
theorem DenH.low {d : D} {v : V} (h : DenH K F H d v) (n1 : ∀ l, d ≠ .lst l) (n2 : ∀ l, d ≠ .dct l) (n4 : ∀ l, d ≠ .dcT l) (n3 : ∀ c l, d ≠ .ins c l) : Den K F d v := by
  rcases h with h | ⟨m, a, o, e, _⟩
  · exact h
  · cases m with
    | lst l => exact absurd e (n1 l)
    | dct l => exact absurd e (n2 l)
    | dcT l => exact absurd e (n4 l)
    | ins c l => exact absurd e (n3 c l)
end

/-! ### a call of a built-in, by data -/
def callB (o : List D → Option D) (fa : DE → R (List Arg)) : DE → R D := fun δ => (fa δ).bind fun as δ => match peeks δ as with
  | some ds => R.of (o ds) δ
  | none => .stuck
def callN (o : List D → Option MD) (fa : DE → R (List Arg)) : DE → R MD := fun δ => (fa δ).bind fun as δ => match peeks δ as with
  | some ds => R.of (o ds) δ
  | none => .stuck
def Bf (X : Cx) (f : Value) (o : List D → Option D) : Prop := ∃ r, CallR X f r ∧ ∀ c F H σ δ ds z vs (Q : VK), Rel X.K c F H σ δ → DensH X.K F H ds vs → o ds = some z →
  (∀ u F' H', Rel X.K c F' H' σ δ → Same F F' → Den X.K F' z u → Q u H') → r vs H Q
def Bn (X : Cx) (f : Value) (o : List D → Option MD) : Prop := ∃ r, CallR X f r ∧ ∀ c F H σ δ ds z vs (Q : VK), Rel X.K c F H σ δ → DensH X.K F H ds vs → o ds = some z →
  (∀ u F' H', Rel X.K c F' H' σ δ → Same F F' → dnN X.K c F' H' σ δ z u → Q u H') → r vs H Q
section
variable {X : Cx} {W : WX} {x : Str} {p pos : Pos} {e : Expr} {es : List Expr} {fa : DE → R (List Arg)} {id T : String}
theorem rd_callB {f : Value} {o : List D → Option D} (h : Bf X f o) : ∃ r, CallR X f r ∧ ∀ σ H Q, rdE X.K W (callB o fa) σ H Q → tCB r (rdA X.K W fa) σ H Q := by
  obtain ⟨r, h1, h2⟩ := h
  refine ⟨r, h1, fun σ H Q z => ?_⟩
  refine z.first (DM := dnA X.K) fun c F H1 δ as vs r1 d1 z1 => ?_
  cases q : peeks δ as with
  | none => rw [q] at z1; exact False.elim z1
  | some ds =>
    rw [q] at z1
    have z1 : aft X.K W (dnE X.K) c F σ Q (R.of (o ds) δ) := z1
    cases q2 : o ds with
    | none => rw [q2] at z1; exact False.elim z1
    | some d =>
      rw [q2] at z1
      exact h2 c F H1 σ δ ds d vs Q r1 (r1.peek q d1) q2 fun u F' H' r' s' d' => z1 u F' H' r' s' d'
theorem rd_callN {f : Value} {o : List D → Option MD} (h : Bn X f o) : ∃ r, CallR X f r ∧ ∀ σ H Q, rdN X.K W (callN o fa) σ H Q → tCB r (rdA X.K W fa) σ H Q := by
  obtain ⟨r, h1, h2⟩ := h
  refine ⟨r, h1, fun σ H Q z => ?_⟩
  refine z.first (DM := dnA X.K) fun c F H1 δ as vs r1 d1 z1 => ?_
  cases q : peeks δ as with
  | none => rw [q] at z1; exact False.elim z1
  | some ds =>
    rw [q] at z1
    have z1 : aft X.K W (dnN X.K) c F σ Q (R.of (o ds) δ) := z1
    cases q2 : o ds with
    | none => rw [q2] at z1; exact False.elim z1
    | some d =>
      rw [q2] at z1
      exact h2 c F H1 σ δ ds d vs Q r1 (r1.peek q d1) q2 fun u F' H' r' s' d' => z1 u F' H' r' s' d'
theorem ve_bf {o : List D → Option D} (h : Bf X (.builtin id) o) (hg : Gl X x) (hm : X.mg x = none) (hv : bootBuiltins x = some (.builtin id)) (ha : VA X W (e :: es) fa) (hn : x ≠ "__name__" := by decide) (hdb : (x == ("__debug__" : Str)) = false := by decide)
    (he : starEach (e :: es) X.env = (false, eval e X.env) :: starEach es X.env := by rfl) (hpl : (backTo pos (starEach es X.env)).any (·.1) = false := by rfl) : VE X W (.Call (.Name x p) (e :: es) [] pos) (callB o fa) := by
  obtain ⟨r, h1, h2⟩ := rd_callB (W := W) (fa := fa) h
  exact PE.to (pe_callB h1 hg hm hv ha hn hdb he hpl) h2
theorem ve_bty {o : List D → Option D} (h : Bf X (.type T) o) (hg : Gl X x) (hm : X.mg x = none) (hv : bootBuiltins x = some (.type T)) (ha : VA X W (e :: es) fa) (hn : x ≠ "__name__" := by decide) (hdb : (x == ("__debug__" : Str)) = false := by decide)
    (he : starEach (e :: es) X.env = (false, eval e X.env) :: starEach es X.env := by rfl) (hpl : (backTo pos (starEach es X.env)).any (·.1) = false := by rfl) : VE X W (.Call (.Name x p) (e :: es) [] pos) (callB o fa) := by
  obtain ⟨r, h1, h2⟩ := rd_callB (W := W) (fa := fa) h
  exact PE.to (pe_callTy h1 hg hm hv ha hn hdb he hpl) h2
theorem vn_bf {o : List D → Option MD} (h : Bn X (.builtin id) o) (hg : Gl X x) (hm : X.mg x = none) (hv : bootBuiltins x = some (.builtin id)) (ha : VA X W (e :: es) fa) (hn : x ≠ "__name__" := by decide) (hdb : (x == ("__debug__" : Str)) = false := by decide)
    (he : starEach (e :: es) X.env = (false, eval e X.env) :: starEach es X.env := by rfl) (hpl : (backTo pos (starEach es X.env)).any (·.1) = false := by rfl) : VN X W (.Call (.Name x p) (e :: es) [] pos) (callN o fa) := by
  obtain ⟨r, h1, h2⟩ := rd_callN (W := W) (fa := fa) h
  exact PE.to (pe_callB h1 hg hm hv ha hn hdb he hpl) h2
theorem vn_bty {o : List D → Option MD} (h : Bn X (.type T) o) (hg : Gl X x) (hm : X.mg x = none) (hv : bootBuiltins x = some (.type T)) (ha : VA X W (e :: es) fa) (hn : x ≠ "__name__" := by decide) (hdb : (x == ("__debug__" : Str)) = false := by decide)
    (he : starEach (e :: es) X.env = (false, eval e X.env) :: starEach es X.env := by rfl) (hpl : (backTo pos (starEach es X.env)).any (·.1) = false := by rfl) : VN X W (.Call (.Name x p) (e :: es) [] pos) (callN o fa) := by
  obtain ⟨r, h1, h2⟩ := rd_callN (W := W) (fa := fa) h
  exact PE.to (pe_callTy h1 hg hm hv ha hn hdb he hpl) h2
end
theorem Bf.or {X : Cx} {f : Value} {o o' : List D → Option D} (h : Bf X f o) (h' : Bf X f o') : Bf X f (fun ds => (o ds).or (o' ds)) := by
  obtain ⟨r, h1, h2⟩ := h
  obtain ⟨r', h1', h2'⟩ := h'
  refine ⟨_, CallR.or h1 h1', fun c F H σ δ ds z vs Q r0 d1 q k => ?_⟩
  have q : (o ds).or (o' ds) = some z := q
  cases e1 : o ds with
  | some y => rw [e1] at q; exact .inl (h2 c F H σ δ ds z vs Q r0 d1 (by rw [e1]; exact q) k)
  | none => rw [e1] at q; exact .inr (h2' c F H σ δ ds z vs Q r0 d1 q k)

/-! ### len, max, min, sum, all, any, tuple, list -/
def lenD : List D → Option D
  | [.lst l] => some (.int l.length)
  | [.tup l] => some (.int l.length)
  | [.scr l] => some (.int l.length)
  | [.str s] => if s.length ≤ LIM then some (.int s.length) else none
  | [.byt s] => if s.size ≤ LIM then some (.int s.size) else none
  | _ => none
def max2D : List D → Option D
  | [.int i, .int j] => some (.int (if j > i then j else i))
  | _ => none
def min2D : List D → Option D
  | [.int i, .int j] => some (.int (if j < i then j else i))
  | _ => none
def intsOf : List D → Option (List Int)
  | [] => some []
  | .int i :: ds => (intsOf ds).map fun r => i :: r
  | _ :: _ => none
def blsOf : List D → Option (List Bool)
  | [] => some []
  | .bl i :: ds => (blsOf ds).map fun r => i :: r
  | _ :: _ => none
def maxI : List Int → Int
  | [] => 0
  | [x] => x
  | x :: y :: r => max x (maxI (y :: r))
def minI : List Int → Int
  | [] => 0
  | [x] => x
  | x :: y :: r => min x (minI (y :: r))
theorem maxI_mem : ∀ {l : List Int}, l ≠ [] → maxI l ∈ l ∧ ∀ y ∈ l, y ≤ maxI l
  | [], h => absurd rfl h
  | [x], _ => ⟨List.mem_singleton.mpr rfl, fun y hy => by rw [List.mem_singleton.mp hy]; exact Int.le_refl _⟩
  | x :: y :: r, _ => by
    obtain ⟨h1, h2⟩ := maxI_mem (l := y :: r) (by simp)
    unfold maxI
    refine ⟨?_, fun z hz => ?_⟩
    · by_cases q : x ≤ maxI (y :: r)
      · rw [Int.max_eq_right q]; exact List.mem_cons_of_mem _ h1
      · rw [Int.max_eq_left (by omega)]; exact List.mem_cons_self
    · rcases List.mem_cons.mp hz with q | q
      · rw [q]; exact Int.le_max_left _ _
      · exact Int.le_trans (h2 z q) (Int.le_max_right _ _)
theorem minI_mem : ∀ {l : List Int}, l ≠ [] → minI l ∈ l ∧ ∀ y ∈ l, minI l ≤ y
  | [], h => absurd rfl h
  | [x], _ => ⟨List.mem_singleton.mpr rfl, fun y hy => by rw [List.mem_singleton.mp hy]; exact Int.le_refl _⟩
  | x :: y :: r, _ => by
    obtain ⟨h1, h2⟩ := minI_mem (l := y :: r) (by simp)
    unfold minI
    refine ⟨?_, fun z hz => ?_⟩
    · by_cases q : maxI [0] ≤ 0 ∧ x ≤ minI (y :: r)
      · rw [Int.min_eq_left q.2]; exact List.mem_cons_self
      · have : minI (y :: r) ≤ x := by
          have : maxI [0] = 0 := rfl
          omega
        rw [Int.min_eq_right this]; exact List.mem_cons_of_mem _ h1
    · rcases List.mem_cons.mp hz with q | q
      · rw [q]; exact Int.min_le_left _ _
      · exact Int.le_trans (Int.min_le_right _ _) (h2 z q)
def maxLD : List D → Option D
  | [.lst l] => (intsOf l).bind fun ns => if ns = [] then none else some (.int (maxI ns))
  | _ => none
def minLD : List D → Option D
  | [.lst l] => (intsOf l).bind fun ns => if ns = [] then none else some (.int (minI ns))
  | _ => none
def sumLD : List D → Option D
  | [.lst l] => (intsOf l).map fun ns => .int ns.sum
  | _ => none
def allD : List D → Option D
  | [.lst l] => (blsOf l).map fun bs => .bl (bs.all id)
  | _ => none
def anyD : List D → Option D
  | [.lst l] => (blsOf l).map fun bs => .bl (bs.any id)
  | _ => none
def tupleD : List D → Option D
  | [.lst l] => some (.tup l)
  | [.tup l] => some (.tup l)
  | _ => none
def listN : List D → Option MD
  | [.lst l] => some (.lst l)
  | [.tup l] => some (.lst l)
  | _ => none
theorem ints_den {K : PySem.W.Frag} {F : Hp} : ∀ {ds : List D} {ns : List Int} {vs : List V}, intsOf ds = some ns → Dens K F ds vs → vs = ns.map V.int
  | [], _, _, h, g => by cases h; exact g
  | d :: ds, ns, vs, h, ⟨v, r, e, g1, g2⟩ => by
    cases d <;> first | (cases h; done) | skip
    obtain ⟨t, h1, rfl⟩ := Option.map_eq_some_iff.mp h
    rw [e, show v = _ from g1, ints_den h1 g2]
    rfl
theorem bls_den {K : PySem.W.Frag} {F : Hp} : ∀ {ds : List D} {ns : List Bool} {vs : List V}, blsOf ds = some ns → Dens K F ds vs → vs = ns.map V.bl
  | [], _, _, h, g => by cases h; exact g
  | d :: ds, ns, vs, h, ⟨v, r, e, g1, g2⟩ => by
    cases d <;> first | (cases h; done) | skip
    obtain ⟨t, h1, rfl⟩ := Option.map_eq_some_iff.mp h
    rw [e, show v = _ from g1, bls_den h1 g2]
    rfl
section
variable {X : Cx}
theorem densH1 {K : PySem.W.Frag} {F H : Hp} {d : D} {vs : List V} (h : DensH K F H [d] vs) : ∃ v, vs = [v] ∧ DenH K F H d v := by
  obtain ⟨v, r, e, h1, h2⟩ := h
  rw [show r = _ from h2] at e
  exact ⟨v, e, h1⟩
theorem densH2 {K : PySem.W.Frag} {F H : Hp} {d d' : D} {vs : List V} (h : DensH K F H [d, d'] vs) : ∃ v v', vs = [v, v'] ∧ DenH K F H d v ∧ DenH K F H d' v' := by
  obtain ⟨v, r, e, h1, h2⟩ := h
  obtain ⟨v', e', h3⟩ := densH1 h2
  rw [e'] at e
  exact ⟨v, v', e, h1, h3⟩
theorem b_len : Bf X (.builtin "len") lenD := by
  refine ⟨_, call_len, fun c F H σ δ ds z vs Q r d1 q k => ?_⟩
  unfold lenD at q
  split at q
  · cases q
    obtain ⟨v, rfl, h⟩ := densH1 d1
    obtain ⟨a, xs, rfl, h1, h2⟩ := h.lst r.sub
    exact ⟨_, xs.length, rfl, .inl ⟨xs, .inl (.inl h1), rfl⟩, k _ F H r (.refl _) (by rw [h2.length]; rfl)⟩
  · cases q
    obtain ⟨v, rfl, h⟩ := densH1 d1
    obtain ⟨a, xs, rfl, h1, h2⟩ := h.low (fun _ z => nomatch z) (fun _ z => nomatch z) (fun _ z => nomatch z) fun _ _ z => nomatch z
    exact ⟨_, xs.length, rfl, .inr ⟨xs, sqt (r.sub _ _ h1), rfl⟩, k _ F H r (.refl _) (by rw [h2.length]; rfl)⟩
  · cases q
    obtain ⟨v, rfl, h⟩ := densH1 d1
    obtain ⟨a, rfl, h1⟩ := h.low (fun _ z => nomatch z) (fun _ z => nomatch z) (fun _ z => nomatch z) fun _ _ z => nomatch z
    exact ⟨_, _, rfl, .inl ⟨_, r.sub.seq h1, rfl⟩, k _ F H r (.refl _) (by rw [List.length_map]; rfl)⟩
  · rename_i s
    split at q
    · rename_i hl
      cases q
      obtain ⟨v, rfl, h⟩ := densH1 d1
      have h := h.low (fun _ z => nomatch z) (fun _ z => nomatch z) (fun _ z => nomatch z) fun _ _ z => nomatch z
      rw [show v = _ from h]
      exact ⟨_, s.length, rfl, ⟨lim_le hl, rfl⟩, k _ F H r (.refl _) rfl⟩
    · cases q
  · rename_i s
    split at q
    · rename_i hl
      cases q
      obtain ⟨v, rfl, h⟩ := densH1 d1
      have h := h.low (fun _ z => nomatch z) (fun _ z => nomatch z) (fun _ z => nomatch z) fun _ _ z => nomatch z
      rw [show v = _ from h]
      exact ⟨_, s.size, rfl, ⟨lim_le hl, rfl⟩, k _ F H r (.refl _) rfl⟩
    · cases q
  · cases q
theorem two_ints {K : PySem.W.Frag} {F H : Hp} {i j : Int} {vs : List V} (h : DensH K F H [.int i, .int j] vs) : vs = [.int i, .int j] := by
  obtain ⟨v, v', rfl, h1, h2⟩ := densH2 h
  have h1 := h1.low (fun _ z => nomatch z) (fun _ z => nomatch z) (fun _ z => nomatch z) fun _ _ z => nomatch z
  have h2 := h2.low (fun _ z => nomatch z) (fun _ z => nomatch z) (fun _ z => nomatch z) fun _ _ z => nomatch z
  rw [show v = _ from h1, show v' = _ from h2]
theorem b_max2 (hc : X.calm = true) : Bf X (.builtin "max") max2D := by
  refine ⟨_, call_max2 hc, fun c F H σ δ ds z vs Q r d1 q k => ?_⟩
  unfold max2D at q
  split at q
  · cases q
    exact ⟨_, _, two_ints d1, k _ F H r (.refl _) rfl⟩
  · cases q
theorem b_min2 (hc : X.calm = true) : Bf X (.builtin "min") min2D := by
  refine ⟨_, call_min2 hc, fun c F H σ δ ds z vs Q r d1 q k => ?_⟩
  unfold min2D at q
  split at q
  · cases q
    exact ⟨_, _, two_ints d1, k _ F H r (.refl _) rfl⟩
  · cases q
theorem b_maxL (hc : X.calm = true) : Bf X (.builtin "max") maxLD := by
  refine ⟨_, cr_max hc, fun c F H σ δ ds z vs Q r d1 q k => ?_⟩
  unfold maxLD at q
  split at q
  · obtain ⟨ns, q1, q2⟩ := Option.bind_eq_some_iff.mp q
    split at q2
    · cases q2
    · rename_i hne
      cases q2
      obtain ⟨v, rfl, h⟩ := densH1 d1
      obtain ⟨a, xs, rfl, h1, h2⟩ := h.lst r.sub
      rw [ints_den q1 h2] at h1
      refine ⟨a, ns, rfl, .inl (.inl h1), List.length_pos_iff.mpr hne, fun m hm hy => ?_⟩
      obtain ⟨g1, g2⟩ := maxI_mem hne
      have : m = maxI ns := Int.le_antisymm (g2 m hm) (hy _ g1)
      rw [this]
      exact k _ F H r (.refl _) rfl
  · cases q
theorem b_minL (hc : X.calm = true) : Bf X (.builtin "min") minLD := by
  refine ⟨_, cr_min hc, fun c F H σ δ ds z vs Q r d1 q k => ?_⟩
  unfold minLD at q
  split at q
  · obtain ⟨ns, q1, q2⟩ := Option.bind_eq_some_iff.mp q
    split at q2
    · cases q2
    · rename_i hne
      cases q2
      obtain ⟨v, rfl, h⟩ := densH1 d1
      obtain ⟨a, xs, rfl, h1, h2⟩ := h.lst r.sub
      rw [ints_den q1 h2] at h1
      refine ⟨a, ns, rfl, .inl (.inl h1), List.length_pos_iff.mpr hne, fun m hm hy => ?_⟩
      obtain ⟨g1, g2⟩ := minI_mem hne
      have : m = minI ns := Int.le_antisymm (hy _ g1) (g2 m hm)
      rw [this]
      exact k _ F H r (.refl _) rfl
  · cases q
theorem b_sum (hc : X.calm = true) : Bf X (.builtin "sum") sumLD := by
  refine ⟨_, cr_sum hc, fun c F H σ δ ds z vs Q r d1 q k => ?_⟩
  unfold sumLD at q
  split at q
  · obtain ⟨ns, q1, rfl⟩ := Option.map_eq_some_iff.mp q
    obtain ⟨v, rfl, h⟩ := densH1 d1
    obtain ⟨a, xs, rfl, h1, h2⟩ := h.lst r.sub
    rw [ints_den q1 h2] at h1
    exact ⟨a, ns, rfl, .inl (.inl h1), k _ F H r (.refl _) rfl⟩
  · cases q
theorem b_all (hc : X.calm = true) : Bf X (.builtin "all") allD := by
  refine ⟨_, cr_all hc, fun c F H σ δ ds z vs Q r d1 q k => ?_⟩
  unfold allD at q
  split at q
  · obtain ⟨ns, q1, rfl⟩ := Option.map_eq_some_iff.mp q
    obtain ⟨v, rfl, h⟩ := densH1 d1
    obtain ⟨a, xs, rfl, h1, h2⟩ := h.lst r.sub
    rw [bls_den q1 h2] at h1
    exact ⟨a, ns, rfl, .inl (.inl h1), k _ F H r (.refl _) rfl⟩
  · cases q
theorem b_any (hc : X.calm = true) : Bf X (.builtin "any") anyD := by
  refine ⟨_, cr_any hc, fun c F H σ δ ds z vs Q r d1 q k => ?_⟩
  unfold anyD at q
  split at q
  · obtain ⟨ns, q1, rfl⟩ := Option.map_eq_some_iff.mp q
    obtain ⟨v, rfl, h⟩ := densH1 d1
    obtain ⟨a, xs, rfl, h1, h2⟩ := h.lst r.sub
    rw [bls_den q1 h2] at h1
    exact ⟨a, ns, rfl, .inl (.inl h1), k _ F H r (.refl _) rfl⟩
  · cases q
theorem b_tuple : Bf X (.type "tuple") tupleD := by
  refine ⟨_, call_tuple_of, fun c F H σ δ ds z vs Q r d1 q k => ?_⟩
  unfold tupleD at q
  split at q
  · cases q
    obtain ⟨v, rfl, h⟩ := densH1 d1
    obtain ⟨a, xs, rfl, h1, h2⟩ := h.lst r.sub
    exact ⟨a, xs, rfl, .inl ⟨.inl (.inl h1), fun p hp => k _ _ _ (r.lay hp) (same_new (r.freeF hp)) ⟨p, xs, rfl, upd_same, Dens.mono (same_new (r.freeF hp)) _ _ h2⟩⟩⟩
  · cases q
    obtain ⟨v, rfl, h⟩ := densH1 d1
    obtain ⟨a, xs, rfl, h1, h2⟩ := h.low (fun _ z => nomatch z) (fun _ z => nomatch z) (fun _ z => nomatch z) fun _ _ z => nomatch z
    exact ⟨a, xs, rfl, .inr ⟨sqt (r.sub _ _ h1), k _ F H r (.refl _) ⟨a, xs, rfl, h1, h2⟩⟩⟩
  · cases q
theorem b_list : Bn X (.type "list") listN := by
  refine ⟨_, call_list_of, fun c F H σ δ ds z vs Q r d1 q k => ?_⟩
  unfold listN at q
  split at q
  · cases q
    obtain ⟨v, rfl, h⟩ := densH1 d1
    obtain ⟨a, xs, rfl, h1, h2⟩ := h.lst r.sub
    refine ⟨a, xs, rfl, .inl (.inl (.inl h1)), fun p hp => ?_⟩
    obtain ⟨g1, g2⟩ := r.fresh (o := .lst xs) (m := .lst _) hp h2
    exact k _ _ _ g1 (.refl _) g2
  · cases q
    obtain ⟨v, rfl, h⟩ := densH1 d1
    obtain ⟨a, xs, rfl, h1, h2⟩ := h.low (fun _ z => nomatch z) (fun _ z => nomatch z) (fun _ z => nomatch z) fun _ _ z => nomatch z
    refine ⟨a, xs, rfl, .inr (sqt (r.sub _ _ h1)), fun p hp => ?_⟩
    obtain ⟨g1, g2⟩ := r.fresh (o := .lst xs) (m := .lst _) hp h2
    exact k _ _ _ g1 (.refl _) g2
  · cases q
end

/-! ### isinstance of a built-in type -/
def D.tyN : D → Option String
  | .non => some "NoneType"
  | .bl _ => some "bool"
  | .int _ => some "int"
  | .str _ => some "str"
  | .byt _ => some "bytes"
  | .tup _ => some "tuple"
  | .lst _ => some "list"
  | .dct _ => some "dict"
  | _ => none
def isiD : List D → Option D
  | [x, .ty T] => x.tyN.bind fun t => (kitB t T).map .bl
  | _ => none
theorem sqT_ty {K : PySem.W.Frag} {H : Hp} {a : Addr} {xs : List V} (h : SqT K H a xs) : TyX K H (.ref a) (.type "tuple") := by
  rcases h with (h | ⟨o, h⟩) | h
  · exact .base (.tup h)
  · exact .fTuple h
  · obtain ⟨o, its, n, e, c, _⟩ := h
    exact .kTuple e c
theorem tyN_x {K : PySem.W.Frag} {F H : Hp} (s : Same F H) {x : D} {v : V} {t : String} (h : DenH K F H x v) (e : x.tyN = some t) : TyX K H v (.type t) := by
  cases x <;> first | (cases e; done) | skip
  · have h := h.low (fun _ z => nomatch z) (fun _ z => nomatch z) (fun _ z => nomatch z) fun _ _ z => nomatch z
    cases e; rw [show v = _ from h]; exact .base .non
  · have h := h.low (fun _ z => nomatch z) (fun _ z => nomatch z) (fun _ z => nomatch z) fun _ _ z => nomatch z
    cases e; rw [show v = _ from h]; exact .base (.bl _)
  · have h := h.low (fun _ z => nomatch z) (fun _ z => nomatch z) (fun _ z => nomatch z) fun _ _ z => nomatch z
    cases e; rw [show v = _ from h]; exact .base (.int _)
  · have h := h.low (fun _ z => nomatch z) (fun _ z => nomatch z) (fun _ z => nomatch z) fun _ _ z => nomatch z
    cases e; rw [show v = _ from h]; exact .base (.str _)
  · have h := h.low (fun _ z => nomatch z) (fun _ z => nomatch z) (fun _ z => nomatch z) fun _ _ z => nomatch z
    cases e; rw [show v = _ from h]; exact .byt _
  · have h := h.low (fun _ z => nomatch z) (fun _ z => nomatch z) (fun _ z => nomatch z) fun _ _ z => nomatch z
    cases e
    obtain ⟨a, xs, rfl, h1, _⟩ := h
    exact sqT_ty (sqt (s _ _ h1))
  · cases e
    obtain ⟨a, xs, rfl, h1, _⟩ := h.lst s
    exact .base (.lst h1)
  · cases e
    rcases h with ⟨a, xs, rfl, h1, _⟩ | ⟨m, a, o, e', rfl, h1, h2⟩
    · exact .base (.dK (s _ _ h1))
    · cases m with
      | lst l => cases e'
      | ins c l => cases e'
      | dcT l => cases e'
      | dct l =>
        cases o <;> first | exact False.elim h2 | skip
        exact .base (.dK h1)
theorem b_isi {X : Cx} : Bf X (.builtin "isinstance") isiD := by
  refine ⟨_, call_isi, fun c F H σ δ ds z vs Q r d1 q k => ?_⟩
  unfold isiD at q
  split at q
  · obtain ⟨t, q1, q2⟩ := Option.bind_eq_some_iff.mp q
    obtain ⟨b, q3, rfl⟩ := Option.map_eq_some_iff.mp q2
    obtain ⟨v, v', rfl, h1, h2⟩ := densH2 d1
    have h2 := h2.low (fun _ z => nomatch z) (fun _ z => nomatch z) (fun _ z => nomatch z) fun _ _ z => nomatch z
    rw [show v' = _ from h2]
    exact ⟨v, _, _, _, b, rfl, .ty _, tyN_x r.sub h1 q1, kit_ty q3, k _ F H r (.refl _) rfl⟩
  · cases q
end PV

/-! PV10: what loops walk; repr; the end of a law. -/
namespace PV
open PySem PySem.Spec PyProof.Rows L2
variable [Tbl]

theorem PI.or {X : Cx} {tg e : Expr} {t t' : TI} (h : PI X tg e t) (h' : PI X tg e t') : PI X tg e (fun σ H Q => t σ H Q ∨ t' σ H Q) := ⟨fun pins s σ H Q I z => z.elim (h.run pins s σ H Q I) (h'.run pins s σ H Q I)⟩
/-! ### walks -/
def seqE (f : DE → R D) : DE → R (List D) := fun δ => (f δ).bind fun x δ => match x with
  | .lst l => .ok l δ
  | .tup l => .ok l δ
  | .scr l => .ok (l.map .int) δ
  | .str s => .ok (s.cps.toList.map fun c => .str ⟨#[c]⟩) δ
  | _ => .stuck
section
variable {K : PySem.W.Frag} {F0 : Hp}
theorem it_list {a : Addr} {xs : List V} {ds : List D} (h : SqL K F0 a xs) (d : Dens K F0 ds xs) : ItF K F0 (Itl K a) ds := by
  intro c F H σ δ i r s
  have h1 : SqL K H a xs := r.sub.seq (s.seq h)
  refine ⟨fun d0 e => ?_, fun e => ⟨xs, h1, by rw [d.length, e]; exact Nat.le_refl _⟩⟩
  obtain ⟨v, g1, g2⟩ := d.get e
  refine ⟨⟨xs, v, h1, g1⟩, fun x H1 y => ?_⟩
  obtain ⟨rfl, y2⟩ := y
  have := (y2 xs h1).symm.trans g1
  cases this
  exact ⟨F, r, .refl _, Den.mono s _ _ g2⟩
theorem it_tup {a : Addr} {xs : List V} {ds : List D} (h : SqT K F0 a xs) (d : Dens K F0 ds xs) : ItF K F0 (Itt K a) ds := by
  intro c F H σ δ i r s
  have h1 : SqT K H a xs := PV.Same.tup r.sub (PV.Same.tup s h)
  refine ⟨fun d0 e => ?_, fun e => ⟨xs, h1, by rw [d.length, e]; exact Nat.le_refl _⟩⟩
  obtain ⟨v, g1, g2⟩ := d.get e
  refine ⟨⟨xs, v, h1, g1⟩, fun x H1 y => ?_⟩
  obtain ⟨rfl, y2⟩ := y
  have := (y2 xs h1).symm.trans g1
  cases this
  exact ⟨F, r, .refl _, Den.mono s _ _ g2⟩
theorem it_str {x : Str} : ItF K F0 (Its x) (x.cps.toList.map fun c => .str ⟨#[c]⟩) := by
  intro c F H σ δ i r s
  refine ⟨fun d0 e => ?_, fun e => ?_⟩
  · rw [List.getElem?_map] at e
    cases q : x.cps.toList[i]? with
    | none => rw [q] at e; cases e
    | some cp =>
      rw [q] at e
      cases e
      refine ⟨?_, fun v H1 y => ?_⟩
      · have := (List.getElem?_eq_some_iff.mp q).1
        show i < x.cps.size
        simpa using this
      · obtain ⟨rfl, c', y1, rfl⟩ := y
        rw [Array.getElem?_toList] at q
        rw [q] at y1
        cases y1
        exact ⟨F, r, .refl _, rfl⟩
  · show x.cps.size ≤ i
    rw [e, List.length_map]
    simp
theorem dens_ints {F : Hp} : ∀ ns : List Int, Dens K F (ns.map .int) (ns.map V.int)
  | [] => rfl
  | n :: ns => ⟨.int n, _, rfl, rfl, dens_ints ns⟩
theorem it_range {lo : Int} {n : Nat} : ItF K F0 (Itr lo n) ((List.range n).map fun i => .int (lo + (i : Nat))) := by
  intro c F H σ δ i r s
  refine ⟨fun d0 e => ?_, fun e => ?_⟩
  · rw [List.getElem?_map] at e
    by_cases hi : i < n
    · rw [List.getElem?_range hi] at e
      cases e
      refine ⟨hi, fun v H1 y => ?_⟩
      obtain ⟨rfl, rfl⟩ := y
      exact ⟨F, r, .refl _, rfl⟩
    · rw [List.getElem?_eq_none (by rw [List.length_range]; omega)] at e
      cases e
  · rw [List.length_map, List.length_range] at e
    exact Nat.le_of_eq e.symm
end
section
variable {X : Cx} {W : WX} {tg e : Expr} {f : DE → R D} {p pos : Pos}
theorem vi_seq (h : VE X W e f) : VI X W tg e (seqE f) := PI.to (PI.or (pi_list h) (PI.or (pi_tup h) (pi_str h))) fun σ H Q z => by
  obtain ⟨c, F, δ, r, z0⟩ := id z
  have z0 : aft X.K W (dnI X.K) c F σ Q ((f δ).bind _) := z0
  cases q : f δ with
  | exc x δ1 => rw [q] at z0; exact .inl ⟨c, F, δ, r, by rw [q]; exact z0⟩
  | stuck => rw [q] at z0; exact False.elim z0
  | ok d δ1 =>
    rw [q] at z0
    cases d <;> first | (exact False.elim z0; done) | skip
    · refine .inr (.inr ⟨c, F, δ, r, ?_⟩)
      rw [q]
      intro v F' H' r' s' d'
      exact ⟨_, d', z0 _ F' H' r' s' it_str⟩
    · refine .inl ⟨c, F, δ, r, ?_⟩
      rw [q]
      intro v F' H' r' s' d'
      obtain ⟨a, rfl, h1⟩ := d'
      exact ⟨a, rfl, ⟨_, r'.sub.seq h1⟩, z0 _ F' H' r' s' (it_list h1 (dens_ints _))⟩
    · refine .inr (.inl ⟨c, F, δ, r, ?_⟩)
      rw [q]
      intro v F' H' r' s' d'
      obtain ⟨a, xs, rfl, h1, h2⟩ := d'
      exact ⟨a, rfl, ⟨xs, sqt (r'.sub _ _ h1)⟩, z0 _ F' H' r' s' (it_tup (sqt h1) h2)⟩
    · refine .inl ⟨c, F, δ, r, ?_⟩
      rw [q]
      intro v F' H' r' s' d'
      obtain ⟨a, xs, rfl, h1, h2⟩ := d'
      exact ⟨a, rfl, ⟨xs, .inl (.inl (r'.sub _ _ h1))⟩, z0 _ F' H' r' s' (it_list (.inl (.inl h1)) h2)⟩
/-- range(n), range(a, b) -/
noncomputable def rng1 (fa : DE → R (List Arg)) : DE → R (List D) := fun δ => (fa δ).bind fun as δ => match as with
  | [.val (.int j)] => @ite _ (j < 2 ^ 62 ∧ -(2 ^ 62) ≤ j) (Classical.propDecidable _) (.ok ((List.range j.toNat).map fun i => .int ((0 : Int) + (i : Nat))) δ) .stuck
  | _ => .stuck
noncomputable def rng2 (fa : DE → R (List Arg)) : DE → R (List D) := fun δ => (fa δ).bind fun as δ => match as with
  | [.val (.int i), .val (.int j)] => @ite _ (j < 2 ^ 62 ∧ -(2 ^ 62) ≤ j ∧ i < 2 ^ 62 ∧ -(2 ^ 62) ≤ i) (Classical.propDecidable _) (.ok ((List.range (j - i).toNat).map fun k => .int (i + (k : Nat))) δ) .stuck
  | _ => .stuck
theorem argsD1 {K : PySem.W.Frag} {F : Hp} {σ : L2.St} {d : D} {vs : List V} (h : ArgsD K F σ [.val d] vs) : ∃ v, vs = [v] ∧ Den K F d v := by
  obtain ⟨v, r, e, h1, h2⟩ := h
  rw [show r = _ from h2] at e
  exact ⟨v, e, h1⟩
theorem vi_range1 {a : Expr} {fa : DE → R (List Arg)} (hg : Gl X "range") (hm : X.mg "range" = none) (ha : VA X W [a] fa) (hs : starEach [a] X.env = [(false, eval a X.env)] := by rfl) : VI X W tg (.Call (.Name "range" p) [a] [] pos) (rng1 fa) := PI.to (pi_range1 hg hm ha hs) fun σ H Q z => by
  refine z.first (DM := dnA X.K) fun c F H1 δ as vs r1 d1 z1 => ?_
  split at z1
  · rename_i j
    split at z1
    · rename_i hj
      obtain ⟨v, rfl, h⟩ := argsD1 d1
      rw [show v = _ from h]
      exact ⟨j, rfl, hj.2, hj.1, z1 _ F H1 r1 (.refl _) it_range⟩
    · exact False.elim z1
  · exact False.elim z1
theorem vi_range2 {a b : Expr} {fa : DE → R (List Arg)} (hg : Gl X "range") (hm : X.mg "range" = none) (ha : VA X W [a, b] fa) (hs : starEach [a, b] X.env = [(false, eval a X.env), (false, eval b X.env)] := by rfl) (hs2 : starEach [b] X.env = [(false, eval b X.env)] := by rfl) :
    VI X W tg (.Call (.Name "range" p) [a, b] [] pos) (rng2 fa) := PI.to (pi_range2 hg hm ha hs hs2) fun σ H Q z => by
  refine z.first (DM := dnA X.K) fun c F H1 δ as vs r1 d1 z1 => ?_
  split at z1
  · rename_i i j
    split at z1
    · rename_i hj
      obtain ⟨v, r, e, h1, h2⟩ := d1
      obtain ⟨v2, rfl, h3⟩ := argsD1 h2
      rw [e, show v = _ from h1, show v2 = _ from h3]
      exact ⟨i, j, rfl, ⟨hj.2.2.2, hj.2.2.1, hj.2.1, hj.1⟩, z1 _ F H1 r1 (.refl _) it_range⟩
    · exact False.elim z1
  · exact False.elim z1
/-- enumerate of a list or tuple that is not changed -/
def pairsD (l : List D) : List D := (List.range l.length).zipWith (fun i d => .tup [.int (i : Nat), d]) l
def enumItems (as : List Arg) (δ : DE) : R (List D) := match as with
  | [.val (.lst l)] => .ok (pairsD l) δ
  | [.val (.tup l)] => .ok (pairsD l) δ
  | _ => .stuck
def enumE (fa : DE → R (List Arg)) : DE → R (List D) := fun δ => (fa δ).bind enumItems
omit [Tbl] in
theorem pairs_get {l : List D} {i : Nat} {d : D} (h : (pairsD l)[i]? = some d) : ∃ x, l[i]? = some x ∧ d = .tup [.int (i : Nat), x] := by
  unfold pairsD at h
  rw [List.getElem?_zipWith] at h
  cases e : l[i]? with
  | none => rw [e] at h; split at h <;> simp_all
  | some x =>
    have hl := (List.getElem?_eq_some_iff.mp e).1
    rw [e, List.getElem?_range hl] at h
    cases h
    exact ⟨x, rfl, rfl⟩
omit [Tbl] in
theorem pairs_len {l : List D} : (pairsD l).length = l.length := by
  unfold pairsD
  rw [List.length_zipWith, List.length_range, Nat.min_self]
theorem it_enumL {K : PySem.W.Frag} {F0 : Hp} {a : Addr} {xs : List V} {ds : List D} (h : SqL K F0 a xs) (d : Dens K F0 ds xs) : ItF K F0 (Ite K a) (pairsD ds) := by
  intro c F H σ δ i r s
  have h1 : SqL K H a xs := r.sub.seq (s.seq h)
  refine ⟨fun d0 e => ?_, fun e => ⟨xs, h1, by rw [e, pairs_len, d.length]; exact Nat.le_refl _⟩⟩
  obtain ⟨y, e1, rfl⟩ := pairs_get e
  obtain ⟨v, g1, g2⟩ := d.get e1
  refine ⟨⟨xs, v, h1, g1⟩, fun x H1 y0 => ?_⟩
  obtain ⟨T, w, rfl, hT, rfl, y2⟩ := y0
  have := (y2 xs h1).symm.trans g1
  cases this
  refine ⟨_, r.lay hT, same_new (r.freeF hT), T, _, rfl, upd_same, ?_⟩
  exact Dens.cons rfl (Dens.one (Den.mono (s.trans (same_new (r.freeF hT))) _ _ g2))
theorem it_enumT {K : PySem.W.Frag} {F0 : Hp} {a : Addr} {xs : List V} {ds : List D} (h : SqT K F0 a xs) (d : Dens K F0 ds xs) : ItF K F0 (ItnT K a) (pairsD ds) := by
  intro c F H σ δ i r s
  have h1 : SqT K H a xs := PV.Same.tup r.sub (PV.Same.tup s h)
  refine ⟨fun d0 e => ?_, fun e => ⟨xs, h1, by rw [e, pairs_len, d.length]⟩⟩
  obtain ⟨y, e1, rfl⟩ := pairs_get e
  obtain ⟨v, g1, g2⟩ := d.get e1
  refine ⟨⟨xs, v, h1, g1⟩, fun x H1 y0 => ?_⟩
  obtain ⟨T, w, rfl, hT, rfl, y2⟩ := y0
  have := (y2 xs h1).symm.trans g1
  cases this
  refine ⟨_, r.lay hT, same_new (r.freeF hT), T, _, rfl, upd_same, ?_⟩
  exact Dens.cons rfl (Dens.one (Den.mono (s.trans (same_new (r.freeF hT))) _ _ g2))
theorem vi_enum {a : Expr} {fa : DE → R (List Arg)} {elts : List Expr} {kk : Nat} {tpos : Pos} (hg : Gl X "enumerate") (hm : X.mg "enumerate" = none) (ha : VA X W [a] fa) (hs : starEach [a] X.env = [(false, eval a X.env)] := by rfl) :
    VI X W (.Tuple elts kk tpos) (.Call (.Name "enumerate" p) [a] [] pos) (enumE fa) := PI.to (PI.or (pi_enum hg hm ha hs) (pi_enumT hg hm ha hs)) fun σ H Q z => by
  obtain ⟨c, F, δ, r, z0⟩ := id z
  have z0 : aft X.K W (dnI X.K) c F σ Q ((fa δ).bind _) := z0
  cases q : fa δ with
  | exc x δ1 => rw [q] at z0; exact .inl ⟨c, F, δ, r, by rw [q]; exact z0⟩
  | stuck => rw [q] at z0; exact False.elim z0
  | ok as δ1 =>
    rw [q] at z0
    replace z0 : aft X.K W (dnI X.K) c F σ Q (enumItems as δ1) := z0
    unfold enumItems at z0
    split at z0
    · refine .inl ⟨c, F, δ, r, ?_⟩
      rw [q]
      intro vs F' H' r' s' d'
      obtain ⟨v, rfl, h⟩ := argsD1 d'
      obtain ⟨a, xs, rfl, h1, h2⟩ := h
      exact ⟨a, xs, rfl, .inl (.inl (r'.sub _ _ h1)), z0 _ F' H' r' s' (it_enumL (.inl (.inl h1)) h2)⟩
    · refine .inr ⟨c, F, δ, r, ?_⟩
      rw [q]
      intro vs F' H' r' s' d'
      obtain ⟨v, rfl, h⟩ := argsD1 d'
      obtain ⟨a, xs, rfl, h1, h2⟩ := h
      exact ⟨a, xs, rfl, sqt (r'.sub _ _ h1), z0 _ F' H' r' s' (it_enumT (sqt h1) h2)⟩
    · exact False.elim z0
end

/-! ### repr -/
def shows (d : D) : Option Str := d.py.bind fun p => if p.showable = true ∧ p.canLay0 = true ∧ p.depth ≤ 60 ∧ p.shown.length ≤ LIM then some p.shown else none
def reprD : List D → Option D
  | [d] => (shows d).map .str
  | _ => none
theorem cr_repr {X : Cx} (hu : X.A.units + 64 < cLine) (hg : X.A.guards = some []) : CallR X (.builtin "repr") (fun xs H Q => ∃ v p, xs = [v] ∧ Dp X.K H v p ∧ p.showable = true ∧ p.canLay0 = true ∧ p.depth ≤ 60 ∧ p.shown.length ≤ sizeLine ∧ Q (.str p.shown) H) := by
  intro pins s σ H xs us Q I rv h
  obtain ⟨v, p, rfl, dp, hs, hl, hd, hz, q⟩ := h
  obtain ⟨u, rfl, ru⟩ := Vals.one rv
  have fin : ∀ (h' : Heap) (t tk : Tok), (∀ b o, s.heap.get? b = some o → h'.get? b = some o) → EP X pins σ Q (.str p.shown t) { s with heap := h', toks := tk } := fun h' t tk hk => ⟨.str p.shown, H, I.kept (t' := tk) hk, ⟨t, rfl⟩, q⟩
  cases dp with
  | non => cases (show u = Value.none from ru); exact PySem.P.repr_of_none (fin s.heap _ _ fun _ _ e => e)
  | bl b => cases (show u = Value.bool b from ru); exact PySem.P.repr_of_bool (fin s.heap _ _ fun _ _ e => e)
  | int i =>
    obtain ⟨t, rfl⟩ := (show ∃ t, u = Value.int i t from ru)
    exact PySem.P.repr_of_int (by simpa [PyData.showable] using hs) (fin s.heap _ _ fun _ _ e => e)
  | str x =>
    obtain ⟨t, rfl⟩ := (show ∃ t, u = Value.str x t from ru)
    exact PySem.P.repr_of_str (fin s.heap _ _ fun _ _ e => e) hz
  | @lst a xs ds h1 h2 =>
    obtain ⟨as, rr⟩ := Dp.reads I (.list ds) (.ref a) u (.lst h1 h2) ru
    cases (show u = Value.ref a from ru)
    exact repr_of_reads' rr hs (PyData.noDict_hsm (PyData.hasDict_of_canLay _ hl)) hg (by omega) (fun _ _ e => e) (fun h' t tk hk => fin h' t tk hk) hz
  | @tup a xs ds h1 h2 =>
    obtain ⟨as, rr⟩ := Dp.reads I (.tuple ds) (.ref a) u (.tup h1 h2) ru
    cases (show u = Value.ref a from ru)
    exact repr_of_reads' rr hs (PyData.noDict_hsm (PyData.hasDict_of_canLay _ hl)) hg (by omega) (fun _ _ e => e) (fun h' t tk hk => fin h' t tk hk) hz
theorem dpH {K : PySem.W.Frag} {F H : Hp} (s : Same F H) {d : D} {p : PyData} {v : V} (h : DenH K F H d v) (e : d.py = some p) : Dp K H v p := by
  rcases h with h | ⟨m, a, o, rfl, rfl, h1, h2⟩
  · exact py_dp s e h
  · cases m with
    | lst l =>
      obtain ⟨xs, rfl, h2⟩ := mden_lst h2
      unfold MD.d at e
      unfold D.py at e
      obtain ⟨ps, e1, rfl⟩ := Option.map_eq_some_iff.mp e
      exact .lst (.inl (.inl h1)) (pys_dp s e1 h2)
    | dct l => unfold MD.d D.py at e; cases e
    | dcT l => unfold MD.d D.py at e; cases e
    | ins c l => unfold MD.d D.py at e; cases e
theorem b_repr {X : Cx} (hu : X.A.units + 64 < cLine) (hg : X.A.guards = some []) : Bf X (.builtin "repr") reprD := by
  refine ⟨_, cr_repr hu hg, fun c F H σ δ ds z vs Q r d1 q k => ?_⟩
  unfold reprD at q
  split at q
  · obtain ⟨t, q1, rfl⟩ := Option.map_eq_some_iff.mp q
    obtain ⟨p, q2, q3⟩ := Option.bind_eq_some_iff.mp q1
    split at q3
    · rename_i hh
      cases q3
      obtain ⟨v, rfl, h⟩ := densH1 d1
      exact ⟨v, p, rfl, dpH r.sub h q2, hh.1, hh.2.1, hh.2.2.1, lim_le hh.2.2.2, k _ F H r (.refl _) rfl⟩
    · cases q3
  · cases q

/-! ### the end of a law -/
/-- the law's def, called with the script -/
theorem law_end {P : Program} {w : World} {K : PySem.W.Frag} {mg mb : Str → Option Value} {k : Nat} {fa a : Addr} {tb : List (Addr × Addr)} {fd : FuncData} {x : Str} {φ : List Sl → FR} {s₁ : Shared} {vs : List Value} {ns : List Int}
    (KX : K.In s₁.heap) (hns : s₁.heap.Ns mainGlobals mg) (hb : s₁.heap.Ns builtinsNs mb) (hbb : ∀ x : Str, x ≠ "__name__" → mb x = bootBuiltins x) (hlim : s₁.heap.NoLimit) (hg : s₁.gens = #[])
    (tE : ∀ p ∈ tb, s₁.heap.get? p.2 = some { cls := .none, data := .fields #[] }) (tN : ∀ p ∈ tb, K.lookup p.2 = none) (tC : ∀ p ∈ tb, PySem.W.CodeHd s₁.heap p.1 p.2) (tT : ∀ q ∈ Tbl.T, ∃ p ∈ tb, q.1 = p.2)
    (tM : ∃ (bm : Addr) (ob : Obj), mg "__builtins__" = some (.ref bm) ∧ bm ≠ builtinsNs ∧ s₁.heap.get? bm = some ob ∧ ob.cls = .type "module" ∧ ob.dict = some builtinsNs ∧ ob.data = .plain)
    (ha : s₁.heap.get? a = some { cls := .type "list", data := .seq vs.toArray }) (hi : IntsAre vs ns) (hl : ns.length ≤ sizeLine) (hr : Room k callerA)
    (T : ∀ base : Heap, K.In base → base.Ns mainGlobals mg → (∀ p ∈ tb, LamX.TabB base mg p.1 p.2) → VOk true P w K mg base k fa fd [x] φ) (hbind : ∀ (s : Shared) (u : Value), BindsTo s fd ⟨[u], []⟩ [(x, u)])
    (hφ : ∃ as', φ [.val (.scr ns)] = .ret (.bl true) as') :
    codeAny (model P w) callerA (.call (.ref fa) ⟨[.ref a], []⟩) (fun r s' => r = .ok (.ret (.bool true)) ∧ OldK s₁.heap s'.heap ∧ s'.os = s₁.os ∧ AllBare s'.gens) s₁ := by
  obtain ⟨as', hφ⟩ := hφ
  -- is b one of the tables
  let isTb : Addr → Prop := fun b => ∃ p ∈ tb, p.2 = b
  have tbE : ∀ {b : Addr}, isTb b → s₁.heap.get? b = some { cls := .none, data := .fields #[] } := fun {b} ⟨p, hp, e⟩ => e ▸ tE p hp
  have aNot : ¬ isTb a := fun z => by
    have q := tbE z
    rw [ha] at q
    have q2 := congrArg Obj.data (Option.some.inj q)
    cases q2
  -- a heap that tracks nothing but the script and the tables
  have main : ∀ H : Hp, (∀ b, H b = none ∨ (isTb b ∧ H b = some (.tbl #[])) ∨ (b = a ∧ ∃ o xs, H b = some (.frz o (.lst xs)))) → (∀ b, isTb b → H b = some (.tbl #[])) → SqL K H a (ns.map V.int) → HOk P w H s₁.heap → (H a ≠ none → K.lookup a = none) →
      codeAny (model P w) callerA (.call (.ref fa) ⟨[.ref a], []⟩) (fun r s' => r = .ok (.ret (.bool true)) ∧ OldK s₁.heap s'.heap ∧ s'.os = s₁.os ∧ AllBare s'.gens) s₁ := by
    intro H only allT sq hok hK
    -- what is no list and no empty record is not tracked
    have other : ∀ {b : Addr} {o : Obj}, s₁.heap.get? b = some o → (∀ xs n, o.data ≠ .seq xs n) → o.data ≠ .fields #[] → H b = none := fun {b o} e n1 n2 => by
      rcases only b with q | ⟨q, _⟩ | ⟨q, _⟩
      · exact q
      · rw [tbE q] at e
        cases e
        exact absurd rfl n2
      · subst q
        rw [ha] at e
        cases e
        exact absurd rfl (n1 _ _)
    have dictFree : ∀ {b : Addr} {o : Obj} {es : Array DictEntry} {ep : Nat}, s₁.heap.get? b = some o → o.data = .dict es ep → H b = none := fun {b o es ep} e dd =>
      other e (fun xs n z => by rw [dd] at z; cases z) (fun z => by rw [dd] at z; cases z)
    have nsB : ∀ {b : Addr} {m : Str → Option Value}, s₁.heap.Ns b m → (hidT s₁.heap H).Ns b m := by
      rintro b m ⟨o, es, ep, e, dd, rest⟩
      exact ⟨o, es, ep, hidT_get e (dictFree e dd), dd, rest⟩
    have KB : K.In (hidT s₁.heap H) := fun b o e => by
      refine hidT_get (KX b o e) ?_
      rcases only b with q | ⟨⟨p, hp, q⟩, _⟩ | ⟨q, u, xs, z⟩
      · exact q
      · rw [← q, tN p hp] at e
        cases e
      · subst q
        rw [hK (by rw [z]; exact fun y => nomatch y)] at e
        cases e
    obtain ⟨mc, c1, c2⟩ := hlim
    have M : Mod K mg (hidT s₁.heap H) := ⟨KB, nsB hns, ⟨mb, nsB hb, hbb⟩, ⟨mc, nsB c1, c2⟩⟩
    have en : Env0 P w K mg (hidT s₁.heap H) callerA [] s₁ H := ⟨rfl, M, fun b o e => of_hidT e, Nat.le_of_eq (hidT_size _ _), trivial, fun b z => absurd z (by simp [frs]), hok, .of_eq hg⟩
    have TB : ∀ p ∈ tb, LamX.TabB (hidT s₁.heap H) mg p.1 p.2 := fun p hp => by
      have here := tE p hp
      refine ⟨?_, ?_, fun z => ?_⟩
      · obtain ⟨o, us, f1, f2, f3, f4, f5, f6, f7, g1, g2, g3, rest⟩ := tC p hp
        refine ⟨o, us, f1, f2, f3, f4, f5, f6, f7, hidT_get g1 (other g1 (fun xs n z => ?_) fun z => ?_), g2, g3, rest⟩
        · rw [g3] at z; cases z
        · rw [g3] at z
          cases z
          have := rest.1
          simp at this
      · obtain ⟨bm, ob, m1, m2, m3, m4, m5, m6⟩ := tM
        refine ⟨bm, ob, m1, m2, fun q => ?_, fun q => ?_, hidT_get m3 (other m3 (fun xs n z => ?_) fun z => ?_), m4, m5, m6⟩
        · obtain ⟨o, es, ep, e, dd, _⟩ := hns
          rw [q, e] at m3
          cases m3
          rw [dd] at m6
          cases m6
        · rw [q, here] at m3
          cases m3
          cases m6
        · rw [m6] at z; cases z
        · rw [m6] at z; cases z
      · obtain ⟨o, es, ep, e, dd, _⟩ := hns
        rw [z, here] at e
        cases e
        cases dd
    have sp : spV K φ [V.ref a] H (fun v _ => v = .bl true) (fun _ _ _ => False) := by
      refine ⟨pl H, [.val (.scr ns)], ⟨pl_same, rfl, fun i s v e1 e2 => ?_, fun i j b m n e1 => ?_, fun q hq => ?_, fun b o e => (pl_of e).2⟩, ?_⟩
      · cases i with
        | zero =>
          cases e1
          cases e2
          refine ⟨a, rfl, ?_⟩
          rcases sq with (y | ⟨o, y⟩) | y
          · exact .inl (.inl (pl_to y trivial))
          · exact .inl (.inr ⟨o, pl_to y trivial⟩)
          · exact .inr y
        | succ i => simp at e1
      · cases i with
        | zero => cases e1
        | succ i => simp at e1
      · obtain ⟨p, hp, e⟩ := tT q hq
        rw [e]
        exact .nil (allT _ ⟨p, hp, rfl⟩)
      · rw [hφ]
        exact fun v F' H' _ d => d
    refine codeAny_mono ((T _ KB (nsB hns) TB).run callerA [] s₁ H ⟨[.ref a], []⟩ [.ref a] [.ref a] _ _ hr (fun _ => rfl) en (hbind s₁ (.ref a)) (.cons rfl .nil) sp) fun res s' h => ?_
    cases res with
    | error e =>
      obtain ⟨_, _, _, _, _, _, _, _, _, _, _, _, z⟩ := h
      exact z.elim
    | ok fl =>
      cases fl <;> first | exact False.elim h | skip
      obtain ⟨v, H', os, bare, un, hok', rv, q⟩ := h
      cases (show v = V.bl true from q)
      cases (show _ = Value.bool true from rv)
      have stays : ∀ b o, ¬ isTb b → s₁.heap.get? b = some o → s'.heap.get? b = some o := fun b o n e => by
        rcases only b with q | ⟨q, _⟩ | ⟨_, ob, xs, q⟩
        · exact un.keep b o e q (by simp [frs]) (by simp)
        · exact absurd q n
        · have q' := un.frzs b ob _ q
          obtain ⟨e1, _⟩ := hok b _ q
          obtain ⟨e2, _⟩ := hok' b _ q'
          rw [e] at e1
          cases e1
          exact e2
      have grows : ∀ p ∈ tb, ∃ more : Array Value, s'.heap.get? p.2 = some { cls := .none, data := .fields more } := fun p hp => by
        obtain ⟨_, z⟩ := un.tbls p.2 #[] (allT _ ⟨p, hp, rfl⟩)
        exact ⟨_, hok' p.2 _ z⟩
      refine ⟨rfl, ⟨fun b o e => ?_, fun b o e => ?_⟩, os, bare⟩
      · by_cases n : isTb b
        · obtain ⟨p, hp, rfl⟩ := n
          obtain ⟨more, hm⟩ := grows p hp
          rw [tE p hp] at e
          cases e
          exact .inr (.inl ⟨((tC p hp).tab (tE p hp)).isCodeTable, rfl, #[], more, rfl, by rw [Array.empty_append]; exact hm⟩)
        · exact .inl (stays b o n e)
      · by_cases n : isTb b
        · obtain ⟨p, hp, rfl⟩ := n
          obtain ⟨more, hm⟩ := grows p hp
          exact ⟨_, hm⟩
        · exact ⟨o, stays b o n e⟩
  have rv := vals_ints hi
  open Classical in
  cases hk : K.lookup a with
  | some o =>
    have e := KX a o hk
    rw [ha] at e
    cases e
    refine main (fun b => if isTb b then some (.tbl #[]) else none) (fun b => ?_) (fun b z => if_pos z) (.inr ⟨_, vs.toArray, _, hk, rfl, rfl, rfl, by rw [List.size_toArray, hi.length]; exact hl, by simpa using rv⟩) (fun b u z => ?_) fun z => absurd (if_neg aNot) z
    · by_cases n : isTb b
      · exact .inr (.inl ⟨n, if_pos n⟩)
      · exact .inl (if_neg n)
    · by_cases n : isTb b
      · have z := (if_pos n).symm.trans z
        cases z
        exact tbE n
      · have z := (if_neg n).symm.trans z
        cases z
  | none =>
    refine main (fun b => if b = a then some (.frz { cls := .type "list", data := .seq vs.toArray } (.lst (ns.map V.int))) else if isTb b then some (.tbl #[]) else none) (fun b => ?_) (fun b z => ?_) (.inl (.inr ⟨{ cls := .type "list", data := .seq vs.toArray }, if_pos rfl⟩)) (fun b u z => ?_) fun _ => hk
    · by_cases q : b = a
      · exact .inr (.inr ⟨q, _, _, if_pos q⟩)
      · by_cases n : isTb b
        · exact .inr (.inl ⟨n, (if_neg q).trans (if_pos n)⟩)
        · exact .inl ((if_neg q).trans (if_neg n))
    · have q : ¬ b = a := fun q => aNot (q ▸ z)
      exact (if_neg q).trans (if_pos z)
    · by_cases q : b = a
      · have z := (if_pos q).symm.trans z
        cases z
        subst q
        exact ⟨ha, by rw [List.length_map]; exact hl, vs, _, rv, ha⟩
      · have z := (if_neg q).symm.trans z
        by_cases n : isTb b
        · have z := (if_pos n).symm.trans z
          cases z
          exact tbE n
        · have z := (if_neg n).symm.trans z
          cases z
omit [Tbl] in
/-- what k_head leaves, from the law's worth; tb: the code objects of the defs that make lambdas, and their tables -/
theorem walk_end {l : PySem.W.OpenLaw} {n k : Nat} {q : Program} {loose : List Str} {XP : (Str → Option Value) → Heap → Prop} {YP : World → Heap → Prop} {d : DefRec} {K : Params → PySem.W.Frag} {x : Str}
    (hn : l.most = some n) (hn2 : n ≤ sizeLine) (hdf : d.params.defaults = []) (hr : Room k callerA) (hY : ∀ (w : World) (h : Heap), YP w h → (K w.params).In h)
    (T : ∀ (w : World) (mg : Str → Option Value) (fa : Addr) (h : Heap), (K w.params).In h → h.Ns mainGlobals mg → mg d.name = some (.ref fa) →
      ∃ (tbl : Tbl) (tb : List (Str × Addr × Addr)) (fd : FuncData) (φ : List Sl → FR), (∀ p ∈ tb, PySem.W.tabIn (K w.params) p.1 = some p.2 ∧ (K w.params).lookup p.2.2 = none ∧ ((recsOf q).find? (fun e => e.name == p.1)).isSome = true) ∧ (∀ t ∈ tbl.T, ∃ p ∈ tb, t.1 = p.2.2) ∧
        (∀ (s : Shared) (u : Value), BindsTo s fd ⟨[u], []⟩ [(x, u)]) ∧ (∀ base : Heap, (K w.params).In base → base.Ns mainGlobals mg → (∀ p ∈ tb, LamX.TabB base mg p.2.1 p.2.2) → @VOk tbl true l.prog w (K w.params) mg base k fa fd [x] φ) ∧
        ∀ ns : List Int, ns.length ≤ n → ∃ as', φ [.val (.scr ns)] = .ret (.bl true) as') :
    PySem.W.WalkO q loose XP YP l.row.toRowW d [] (fun f vs => PySem.call f vs) := by
  refine Att.attach_call hn hdf fun w s₀ s₁ mg mb fa o pm cd doc a vs ns G Y ho hd hcd hmg hobj hints hlen hg => ?_
  have KX := hY w _ Y
  obtain ⟨tbl, tb, fd, φ, t1, t4, hb, hF, hφ⟩ := T w mg fa _ KX G.T.g hmg
  have tabs : ∀ p ∈ tb.map (·.2), PySem.W.CodeHd s₁.heap p.1 p.2 ∧ s₁.heap.get? p.2 = some (PySem.W.tabObj #[]) ∧ (K w.params).lookup p.2 = none := fun p hp => by
    obtain ⟨y, hy, rfl⟩ := List.mem_map.mp hp
    obtain ⟨e1, e2, e3⟩ := t1 y hy
    obtain ⟨d', e3⟩ := Option.isSome_iff_exists.mp e3
    obtain ⟨z1, z2⟩ := PySem.W.tab_of G.T KX e3 (c := y.2.1) (P := y.2.2) e1
    exact ⟨z1, z2, e2⟩
  exact @law_end tbl _ _ _ _ _ _ _ _ (tb.map (·.2)) _ _ _ _ _ _ KX G.T.g G.T.b G.T.builtins G.T.nolimit hg (fun p hp => (tabs p hp).2.1) (fun p hp => (tabs p hp).2.2) (fun p hp => (tabs p hp).1) (fun q hq => by
    obtain ⟨p, hp, e⟩ := t4 q hq
    exact ⟨p.2, List.mem_map.mpr ⟨p, hp, rfl⟩, e⟩) G.T.bmain hobj hints (Nat.le_trans hlen hn2) hr (fun base h1 h2 h3 => hF base h1 h2 fun p hp => h3 p.2 (List.mem_map.mpr ⟨p, hp, rfl⟩)) hb (hφ ns hlen)
end PV

/-! PV11: further rules. -/
namespace PV
open PySem PySem.Spec PyProof.Rows L2
variable [Tbl]

/-! ### operators in one -/
def addA (x y : D) : Option D := (iadd x y).or ((sadd x y).or ((ladd x y).or (tadd x y)))
def mulA (x y : D) : Option D := (imul x y).or ((lmul x y).or (tmul x y))
section
variable {X : Cx} {W : WX} {a b e : Expr} {fa fb f : DE → R D} {pos : Pos}
theorem o_add : Op2 X (binaryOp .Add) addA := o_iadd.or (o_sadd.or (o_ladd.or o_tadd))
theorem o_mul : Op2 X (binaryOp .Mult) mulA := o_imul.or (o_lmul.or o_tmul)
def negE (f : DE → R D) : DE → R D := fun δ => (f δ).bind fun x δ => match x with
  | .int i => .ok (.int (-i)) δ
  | _ => .stuck
theorem ve_neg (h : VE X W a fa) : VE X W (.UnaryOp .USub a pos) (negE fa) := PE.to (pe_un un_neg h) fun σ H Q z => by
  refine z.first (DM := dnE X.K) fun c F H1 δ x v r1 d1 z1 => ?_
  cases x <;> first | exact False.elim z1 | skip
  exact ⟨_, d1, z1 _ F H1 r1 (.refl _) rfl⟩
theorem vt_chain {c : Expr} {fc : DE → R D} {op op' : CmpOp} {o o' : D → D → Option D} (h : Op2 X (compareOp op) o) (h' : Op2 X (compareOp op') o') (ha : VE X W a fa) (hb : VE X W b fb) (hc : VE X W c fc)
    (hm : lastMarks [op, op'] [b, c] = false := by with_unfolding_all rfl) : VT X W (.Compare a [op, op'] [b, c] pos) (tst (chn o o' fa fb fc)) := by
  obtain ⟨r, r', h1, h2, h3⟩ := rd_chn (W := W) (fa := fa) (fb := fb) (c := c) (fc := fc) h h'
  exact PT.to (pt_chain h1 h2 ha hb hc hm) fun σ H Q z => h3 σ H _ (rd_tst z)
/-! ### x op= e -/
def augS (i : Nat) (o : D → D → Option D) (f : DE → R D) : DE → O := fun δ => match δ[i]? with
  | some (some (.val x)) => bindS (f δ) fun y δ => match o x y with
    | some z => match setSl i (.val z) δ with
      | some δ => .nx δ
      | none => .stuck
    | none => .stuck
  | _ => .stuck
def Ip2 (X : Cx) (op : Operator) (o : D → D → Option D) : Prop :=
  ∃ r : TIp, PIp X op r ∧ ∀ c F H σ δ d e z v w (Q : VK), Rel X.K c F H σ δ → Den X.K F d v → Den X.K F e w → o d e = some z →
    (∀ u F' H', Rel X.K c F' H' σ δ → Same F F' → Den X.K F' z u → Q u H') → r v w H Q
theorem ip_int {op : Operator} {g : Int → Int → Int} (h : PIp X op (ipI g)) : Ip2 X op (iop fun i j => .int (g i j)) := by
  refine ⟨_, h, fun c F H σ δ d e z v w Q r d1 d2 q k => ?_⟩
  cases d <;> first | cases q | skip
  cases e <;> first | cases q | skip
  exact ⟨_, _, d1, d2, k _ F H r (.refl _) rfl⟩
theorem vs_aug {i : Nat} {x : Str} {op : Operator} {o : D → D → Option D} {pos' : Pos} (hN : X.N.Nodup) (hi : X.N[i]? = some x) (hx : Loc X.env.scope x) (k : VE X W e f) (ho : Ip2 X op o) (hf : X.fn x = true ∨ X.env.scope.names.lookup x = some .local := by first | exact .inl rfl | exact .inr rfl | assumption) :
    VS X W (.AugAssign (.Name x pos') op e pos) (augS i o f) := by
  obtain ⟨r, h1, h2⟩ := ho
  refine PS.to (ps_aug hN hi hx k h1 hf) fun N σ H z => ?_
  obtain ⟨c, F, δ, r0, z⟩ := z
  unfold augS at z
  split at z
  · rename_i xd q
    obtain ⟨v, e1, e2⟩ := r0.val q
    refine ⟨v, e1, ?_⟩
    refine aftS.next (DM := dnE X.K) (f := f) (g := fun y δ => match o xd y with
      | some z => match setSl i (.val z) δ with
        | some δ => .nx δ
        | none => .stuck
      | none => .stuck) r0 z fun F2 H2 δ2 y w r2 s2 d2 z2 => ?_
    split at z2
    · rename_i zd qz
      split at z2
      · rename_i δ3 q3
        obtain ⟨rfl, nb⟩ := setSl_some q3
        exact h2 c F2 H2 σ δ2 xd y zd v w _ r2 (Den.mono s2 _ _ e2) d2 qz fun u F' H' r' s' d' => z2 _ F' H' (r'.set d' nb) s'
      · exact False.elim z2
    · exact False.elim z2
  · exact False.elim z
/-! ### list(range(..)) -/
def lrg1 (f : DE → R D) : DE → R MD := fun δ => (f δ).bind fun x δ => match x with
  | .int j => if j ≤ 10000 ∧ -10000 ≤ j then .ok (.lst ((List.range j.toNat).map fun i => .int ((i : Nat) : Int))) δ else .stuck
  | _ => .stuck
theorem vn_lrg1 {p p2 pos2 : Pos} (hc : X.calm = true) (hg : Gl X "list") (hm : X.mg "list" = none) (hg2 : Gl X "range") (hm2 : X.mg "range" = none) (ha : VE X W a fa) (na : starEach [a] X.env = (false, eval a X.env) :: starEach [] X.env := by rfl)
    (nb : starEach [.Call (.Name "range" p2) [a] [] pos2] X.env = (false, eval (.Call (.Name "range" p2) [a] [] pos2) X.env) :: starEach [] X.env := by rfl) : VN X W (.Call (.Name "list" p) [.Call (.Name "range" p2) [a] [] pos2] [] pos) (lrg1 fa) :=
  PE.to (pe_listRg hc hg hm (prg_1 hg2 hm2 ha na) nb) fun σ H Q z => by
    refine z.first (DM := dnE X.K) fun c F H1 δ x v r1 d1 z1 => ?_
    cases x <;> first | exact False.elim z1 | skip
    rename_i j
    have z1 : aft X.K W (dnN X.K) c F σ Q (if j ≤ 10000 ∧ -10000 ≤ j then .ok (.lst ((List.range j.toNat).map fun i => .int ((i : Nat) : Int))) δ else .stuck) := z1
    split at z1
    · rename_i hj
      refine ⟨j, d1, ⟨by omega, by omega, by omega, by omega, by omega⟩, fun q hq => ?_⟩
      obtain ⟨g1, g2⟩ := r1.fresh (o := .lst (rgV 0 j)) (m := .lst ((List.range j.toNat).map fun i => .int ((i : Nat) : Int))) hq (by
        show Dens X.K F _ (rgV 0 j)
        unfold rgV
        rw [show (j - 0).toNat = j.toNat by omega]
        generalize List.range j.toNat = l
        induction l with
        | nil => exact Dens.nil
        | cons n l ih => exact Dens.cons (by show V.int (0 + (n : Int)) = V.int (n : Int); rw [Int.zero_add]) ih)
      exact z1 _ _ _ g1 (.refl _) g2
    · exact False.elim z1
end

/-! ### an object of a slot, looked at while it stays -/
theorem flats_dens {K : PySem.W.Frag} {F : Hp} : ∀ {ds : List D} {us : List V}, flats ds = some us → Dens K F ds us
  | [], _, h => by cases h; rfl
  | d :: ds, us, h => by
    obtain ⟨u, h1, h2⟩ := Option.bind_eq_some_iff.mp h
    obtain ⟨us', h3, rfl⟩ := Option.map_eq_some_iff.mp h2
    refine Dens.cons ?_ (flats_dens h3)
    cases d <;> first | (cases h1; done) | (cases h1; rfl)
def MD.flat : MD → Bool
  | .lst l => (flats l).isSome
  | _ => false
theorem MD.flat_den {K : PySem.W.Frag} {F F' : Hp} {m : MD} {o : HO} (h : m.flat = true) (d : MDen K F m o) : MDen K F' m o := by
  cases m <;> first | (cases h; done) | skip
  obtain ⟨xs, rfl, d⟩ := mden_lst d
  obtain ⟨us, h⟩ := Option.isSome_iff_exists.mp h
  rw [(flats_v h d).1]
  exact flats_dens h
/-- the other objects hold scalars alone -/
def flatEnv (δ : DE) : Prop := ∀ (i : Nat) (s : Sl) (m : MD), δ[i]? = some (some s) → s.mut = some m → m.flat = true
open Classical in
noncomputable def thawN (j : Nat) (f : DE → R MD) : DE → R MD := fun δ => match δ[j]? with
  | some (some (.own m)) => match f (δ.set j (some (.val m.d))) with
    | .ok m' δ2 => if δ2 = δ.set j (some (.val m.d)) ∧ m'.flat = true ∧ flatEnv δ then .ok m' δ else .stuck
    | _ => .stuck
  | _ => .stuck
section
variable {X : Cx} {W : WX} {e : Expr}
theorem rd_thaw {K : PySem.W.Frag} {j : Nat} {f : DE → R MD} {σ : L2.St} {H : Hp} {Q : VK} (z : rdN K W (thawN j f) σ H Q) : rdN K W f σ H Q := by
  obtain ⟨c, F, δ, r, z⟩ := z
  unfold thawN at z
  split at z
  · rename_i m hj
    obtain ⟨a, o, e1, e2, e3, e4, e5, e6⟩ := r.own hj
    obtain ⟨a', o', g1, g2, g3, g4⟩ := r.still hj
    rw [e1] at g1; cases g1
    have eo : o' = o := by
      have := g4.sub a o' upd_same
      rw [e2] at this; exact (Option.some.inj this).symm
    subst eo
    refine ⟨c, _, _, g4, ?_⟩
    split at z
    · rename_i m' δ2 hf
      split at z
      · rename_i hh
        obtain ⟨rfl, hm', hfl⟩ := hh
        rw [hf]
        intro v F' H' r' s' dn
        obtain ⟨p, op, rfl, p1, p2, p3, p4, p5, p6⟩ := dn
        have hl : j < List.length δ := (List.getElem?_eq_some_iff.mp hj).1
        have sF : Same F (fun b => if b = a then none else F' b) := fun b x y => by
          have hb : b ≠ a := fun q => by subst q; rw [e4] at y; cases y
          show (if b = a then none else F' b) = some x
          rw [if_neg hb]
          exact s' b x (g2 b x y)
        have of_ : ∀ {b : Addr} {x : HO}, (if b = a then none else F' b) = some x → F' b = some x := fun {b x} y => by
          split at y
          · cases y
          · exact y
        have none_ : ∀ {b : Addr}, F' b = none → (if b = a then none else F' b) = none := fun {b} y => by
          split
          · rfl
          · exact y
        have ha' : H' a = some o' := r'.sub a o' (s' a o' upd_same)
        refine z _ (fun b => if b = a then none else F' b) H' ⟨fun b x y => r'.sub b x (of_ y), r'.pres, r.low.trans sF, fun b x y => r'.new b x (of_ y), fun b x y => ⟨(r'.gs b x y).1, none_ (r'.gs b x y).2⟩, r.bor0, r.borD, r.binj, r.len, fun i s es => ?_, r.apart, ⟨r'.tab.tabs, fun b x y => r'.tab.fnt b x (of_ y), r.tab.gnt, r.tab.hnt⟩⟩ sF
          ⟨p, op, rfl, p1, MD.flat_den hm' p2, none_ p3, p4, p5, fun i n es => ?_⟩
        · by_cases hi : j = i
          · subst hi
            rw [hj] at es
            cases es
            exact ⟨a, o', by rw [e1]; rfl, ha', e3.mono sF, if_pos rfl, e5, e6⟩
          · have es' : (δ.set j (some (.val m.d)))[i]? = some (some s) := by rw [List.getElem?_set_ne hi]; exact es
            have y := r'.sl i s es'
            cases s with
            | val d =>
              obtain ⟨v, y1, y2⟩ := r.sl i _ es
              exact ⟨v, y1, Den.mono sF _ _ y2⟩
            | own n =>
              obtain ⟨b, ob, y1, y2, y3, y4, y5⟩ := y
              exact ⟨b, ob, y1, y2, MD.flat_den (hfl i _ n es rfl) y3, none_ y4, y5⟩
            | bor n =>
              obtain ⟨hb, ob, y1, y2, y3, y4, y5⟩ := y
              exact ⟨hb, ob, y1, y2, MD.flat_den (hfl i _ n es rfl) y3, none_ y4, y5⟩
        · intro y
          by_cases hi : j = i
          · subst hi
            rw [e1] at y
            have y : a = p := V.ref.inj (Option.some.inj (Option.some.inj y))
            subst y
            rw [s' a o' upd_same] at p3
            cases p3
          · exact p6 i n (by rw [List.getElem?_set_ne hi]; exact es) y
      · exact False.elim z
    · exact False.elim z
  · exact False.elim z
theorem vn_thaw (j : Nat) {f : DE → R MD} (h : VN X W e f) : VN X W e (thawN j f) := PE.to h fun σ H Q z => rd_thaw z
end

/-! ### a, b = x, y -/
def parVN (i j : Nat) (f : DE → R D) (g : DE → R MD) : DE → O := fun δ => bindS (f δ) fun d δ => bindS (g δ) fun m δ => match setSl i (.val d) δ with
  | some δ => match setSl j (.own m) δ with
    | some δ => .nx δ
    | none => .stuck
  | none => .stuck
def parVV (i j : Nat) (f g : DE → R D) : DE → O := fun δ => bindS (f δ) fun d δ => bindS (g δ) fun d' δ => match setSl i (.val d) δ with
  | some δ => match setSl j (.val d') δ with
    | some δ => .nx δ
    | none => .stuck
  | none => .stuck
section
variable {X : Cx} {W : WX} {a b : Expr} {f f' : DE → R D} {g : DE → R MD} {pos : Pos}
theorem vs_parVN {i j : Nat} {x y : Str} {px py pt : Pos} {kt k2 pt2} (hc : X.calm = true) (hN : X.N.Nodup) (hi : X.N[i]? = some x) (hj : X.N[j]? = some y) (hij : i ≠ j)
    (hx : X.env.scope.names.lookup x = some .local) (hy : X.env.scope.names.lookup y = some .local) (ha : VE X W a f) (hb : VN X W b g)
    (hw : swappedStores [.Tuple [.Name x px, .Name y py] kt pt] (.Tuple [a, b] k2 pt2) X.env = pure (some [x, y]) := by rfl)
    (hs : swapsWithSole [.Tuple [.Name x px, .Name y py] kt pt] (.Tuple [a, b] k2 pt2) pos.line X.env = pure false := by rfl) (n1 : starEach [a, b] X.env = (false, eval a X.env) :: starEach [b] X.env := by rfl) (n2 : starEach [b] X.env = (false, eval b X.env) :: starEach [] X.env := by rfl) :
    VS X W (.Assign [.Tuple [.Name x px, .Name y py] kt pt] (.Tuple [a, b] k2 pt2) pos) (parVN i j f g) := PS.to (ps_par hc hN hi hj hij hx hy (pa_cons ha (pa_cons hb pa_nil n2) n1) hw hs) fun N σ H z => by
  refine z.first (DM := dnE X.K) fun c F H1 δ d v r1 d1 z1 => ?_
  refine aftS.next (DM := dnN X.K) (f := g) (g := fun m δ => match setSl i (.val d) δ with
    | some δ => match setSl j (.own m) δ with
      | some δ => .nx δ
      | none => .stuck
    | none => .stuck) r1 z1 fun F2 H2 δ2 m w r2 s2 d2 z2 => ?_
  split at z2
  · rename_i δ3 q3
    split at z2
    · rename_i δ4 q4
      obtain ⟨rfl, nb⟩ := setSl_some q3
      obtain ⟨rfl, nb2⟩ := setSl_some q4
      obtain ⟨p, o, rfl, h1, h2, h3, h4, h5, h6⟩ := d2
      refine ⟨v, .ref p, rfl, z2 _ F2 H2 (Rel.setOwn (r2.set (Den.mono s2 _ _ d1) nb) h1 h3 h4 h5 h2 (fun k n ek => ?_) nb2) (.refl _)⟩
      by_cases hk : i = k
      · subst hk
        rw [List.getElem?_set] at ek
        simp only [if_true] at ek
        split at ek <;> cases ek
      · rw [List.getElem?_set_ne hk] at ek ⊢
        exact h6 k n ek
    · exact False.elim z2
  · exact False.elim z2
theorem vs_parVV {i j : Nat} {x y : Str} {px py pt : Pos} {kt k2 pt2} (hc : X.calm = true) (hN : X.N.Nodup) (hi : X.N[i]? = some x) (hj : X.N[j]? = some y) (hij : i ≠ j)
    (hx : X.env.scope.names.lookup x = some .local) (hy : X.env.scope.names.lookup y = some .local) (ha : VE X W a f) (hb : VE X W b f')
    (hw : swappedStores [.Tuple [.Name x px, .Name y py] kt pt] (.Tuple [a, b] k2 pt2) X.env = pure (some [x, y]) := by rfl)
    (hs : swapsWithSole [.Tuple [.Name x px, .Name y py] kt pt] (.Tuple [a, b] k2 pt2) pos.line X.env = pure false := by rfl) (n1 : starEach [a, b] X.env = (false, eval a X.env) :: starEach [b] X.env := by rfl) (n2 : starEach [b] X.env = (false, eval b X.env) :: starEach [] X.env := by rfl) :
    VS X W (.Assign [.Tuple [.Name x px, .Name y py] kt pt] (.Tuple [a, b] k2 pt2) pos) (parVV i j f f') := PS.to (ps_par hc hN hi hj hij hx hy (pa_cons ha (pa_cons hb pa_nil n2) n1) hw hs) fun N σ H z => by
  refine z.first (DM := dnE X.K) fun c F H1 δ d v r1 d1 z1 => ?_
  refine aftS.next (DM := dnE X.K) (f := f') (g := fun d' δ => match setSl i (.val d) δ with
    | some δ => match setSl j (.val d') δ with
      | some δ => .nx δ
      | none => .stuck
    | none => .stuck) r1 z1 fun F2 H2 δ2 m w r2 s2 d2 z2 => ?_
  split at z2
  · rename_i δ3 q3
    split at z2
    · rename_i δ4 q4
      obtain ⟨rfl, nb⟩ := setSl_some q3
      obtain ⟨rfl, nb2⟩ := setSl_some q4
      exact ⟨v, w, rfl, z2 _ F2 H2 ((r2.set (Den.mono s2 _ _ d1) nb).set d2 nb2) (.refl _)⟩
    · exact False.elim z2
  · exact False.elim z2
end

/-! ### new lists by * and + -/
def mulN (fa fb : DE → R D) : DE → R MD := fun δ => (fa δ).bind fun x δ => (fb δ).bind fun y δ => match lmul x y with
  | some (.lst l) => .ok (.lst l) δ
  | _ => .stuck
section
variable {X : Cx} {W : WX} {a b : Expr} {fa fb : DE → R D} {pos : Pos}
theorem vn_mul (ha : VE X W a fa) (hb : VE X W b fb) : VN X W (.BinOp a .Mult b pos) (mulN fa fb) := PE.to (pe_op op_rep ha hb) fun σ H Q z => by
  refine z.first (DM := dnE X.K) fun c F H1 δ x v r1 d1 z1 => ?_
  refine z1.next (DM := dnE X.K) r1 fun F2 H2 δ2 y w r2 s2 d2 z2 => ?_
  replace d1 := Den.mono s2 _ _ d1
  cases x <;> first | (exact False.elim z2; done) | skip
  cases y <;> first | (exact False.elim z2; done) | skip
  rename_i la n
  obtain ⟨p, xs, rfl, h1, h2⟩ := d1
  by_cases hl : 0 ≤ n ∧ n ≤ 1000 ∧ la.length ≤ 1000
  · have e : lmul (.lst la) (.int n) = some (.lst (List.replicate n.toNat la).flatten) := by
      show (if _ then _ else _) = _
      rw [if_pos hl]
    rw [e] at z2
    refine ⟨p, n, xs, rfl, d2, r2.sub _ _ h1, by omega, by omega, ?_, fun q hq => ?_⟩
    · rw [h2.length]
      exact lim_le (Nat.le_trans (Nat.mul_le_mul hl.2.2 (show n.toNat ≤ 1000 by omega)) (by decide))
    · obtain ⟨g1, g2⟩ := r2.fresh (o := .lst (List.replicate n.toNat xs).flatten) (m := .lst (List.replicate n.toNat la).flatten) hq (Dens.rep h2 _)
      exact z2 _ _ _ g1 (.refl _) g2
  · have e : lmul (.lst la) (.int n) = none := by
      show (if _ then _ else _) = _
      rw [if_neg hl]
    rw [e] at z2
    exact False.elim z2
end
section
variable {X : Cx} {W : WX} {elt tg iter : Expr} {ifs : List Expr} {scope : Scope} {own : List (Str × Nat)} {pos : Pos} {f : DE → R (List D)} {ts : List Nat} {t : D → DE → Option DE} {cond : DE → R Bool} {fe : DE → R D}
/-- y = [..] over an object of a slot that stays -/
theorem vs_setLcT (jt : Nat) {i : Nat} {y : Str} {py spos : Pos} (hc : X.calm = true) (hN : X.N.Nodup) (hy : X.N[i]? = some y) (hyl : X.env.scope.names.lookup y = some .local)
    (hsw : swapsWith (.ListComp elt [⟨tg, iter, ifs, 0⟩] scope pos) (some (.Name y py)) spos.line X.env = pure true) (hi : VI X W tg iter f) (ok : BlkOk X.N X.env.scope scope own) (hts : ∀ i ∈ ts, i ∈ own.map (·.2))
    (hg : ∀ (s : Shared) (H : Hp) (C : Addr) (cl : List (Str × Addr)) (fp : List Addr), VG (X.blk s H scope (compEnvC scope cl C X.env) fp) ts tg t)
    (ht : ∀ (s : Shared) (H : Hp) (C : Addr) (cl : List (Str × Addr)) (fp : List Addr), PTs (X.blk s H scope (compEnvC scope cl C X.env) fp) ifs (rdT X.K W0 cond))
    (he : ∀ (s : Shared) (H : Hp) (C : Addr) (cl : List (Str × Addr)) (fp : List Addr), VE (X.blk s H scope (compEnvC scope cl C X.env) fp) W0 elt fe) (hs : ∀ x, foldedSetIterable iter X.env x = pure x := by intro _; rfl) :
    VS X W (.Assign [.Name y py] (.ListComp elt [⟨tg, iter, ifs, 0⟩] scope pos) spos) (setS i (ofN (thawN jt (lcN f t cond fe (own.map (·.2)))))) := PS.to (ps_setLc hc hN hy hyl hsw hi ok hg ht he hs) fun N σ H z => by
  have z := rd_set z
  exact rd_lc hts (rd_thaw (rd_ofN z))
end
end PV

/-! PV12: the pens of the laws: a list of lists that a loop hands on one by one, each to be written. -/
namespace PV
open PySem PySem.Spec PyProof.Rows L2
variable [Tbl]

section
variable {P : Program} {w : World} {K : PySem.W.Frag} {mg : Str → Option Value} {base : Heap}
theorem VOk.fn {k : Nat} {f : Addr} {fd : FuncData} {ps : List Str} {φ : List Sl → FR} (V0 : VOk false P w K mg base k f fd ps φ) : FnOk P w K mg base (L2.CX P w) k f fd ps (spV K φ) :=
  ⟨fun vs H Q E h => spV.len V0.len h, fun A outer s H args us vs Q E hr en hb rv h => V0.run A outer s H args us vs Q E hr (fun z => absurd z Bool.false_ne_true) en hb rv h⟩
/-- a def that hands back a new object -/
def spNew (K : PySem.W.Frag) (n N : Nat) (f : DE → R MD) : Sp := fun vs H Q _ => ∃ F as m δ', AOk K F H as vs ∧ as.length = n ∧ f (as.map some ++ List.replicate (N - n) none) = .ok m δ' ∧
  ∀ p o F' H', Done K F H as vs F' H' (back as δ') → H' p = some o → MDen K F' m o → F' p = none → pl H p = none → Q (.ref p) H'
theorem Fun.new {x qual : Str} {st : Stmt} {f : Addr} {fd : FuncData} {N ps : List Str} {k n : Nat} {G : DE → R MD} (T : Fun K x qual st f fd) (S : FnScope N ps (defScope st)) (hn : ps.length = n)
    (body : ∀ (cd : Value) (A : Around) (outer : List Env) (s : Shared) (H : Hp) (E : XK), Room k (A.deeper (envOfC qual (defScope st) s.heap.objs.size f cd)) →
      Takes (cxV P w K mg base N qual (defScope st) f cd A outer s H E) (wE E) → ∃ e pos, defBody st = [.Return (some e) pos] ∧ VN (cxV P w K mg base N qual (defScope st) f cd A outer s H E) (wE E) e G) :
    FnOk P w K mg base (L2.CX P w) (k + 1) f fd ps (spNew K n N.length G) := by
  refine T.okX S (fun vs H Q E h => ?_) (fun cd A outer s H vs Q E hr h => ?_)
  · obtain ⟨F, as, m, δ', A, hl, _⟩ := h
    rw [← A.len, hl, hn]
  · obtain ⟨e, pos, eb, hv⟩ := body cd A outer s H E hr (takes_of rfl rfl rfl rfl)
    rw [eb]
    refine ⟨_, pss_one (ps_ret hv), ?_⟩
    obtain ⟨F, as, m, δ', A, hl, hf, q⟩ := h
    refine ⟨cq0 F H as vs, F, _, A.rel, ?_⟩
    rw [hl, hf]
    intro v F' H' r' s' dn
    obtain ⟨p, o, rfl, h1, h2, h3, h4, h5, h6⟩ := dn
    exact q p o F' H' (A.done r') h1 h2 h3 h5
end

/-! ### the pens -/
def penOf (n : Int) : Int × Int := (if n - 10 ^ 18 > 0 then n - 10 ^ 18 else 0, n % 2147483629 + 1)
def penV (p : Int × Int) : List V := [.int p.1, .int p.2, .int 0]
def penD (p : Int × Int) : List D := [.int p.1, .int p.2, .int 0]
def pensOf (ns : List Int) (m : Nat) : List (Int × Int) := (List.range (max 1 (min ns.length m))).map fun k => penOf (ns.getD k 0)
/-- what _law_pens promises -/
def spPens (K : PySem.W.Frag) : Sp := fun vs H Q _ => ∃ (a : Addr) (ns : List Int) (m : Nat), vs = [.ref a, .int (m : Int)] ∧ SqL K H a (ns.map V.int) ∧ ns.length ≤ 1000 ∧ m ≤ 1000 ∧ LamX.Tabs Tbl.T H ∧
  ∀ (l : Addr) (ps : List Addr) (H' : Hp), pl H l = none → (∀ p ∈ ps, pl H p = none) → ps.Nodup → l ∉ ps → Same (pl H) H' → LamX.Tabs Tbl.T H' → H' l = some (.lst (ps.map V.ref)) → ps.length = (pensOf ns m).length →
    (∀ (j : Nat) (p : Addr) (q : Int × Int), ps[j]? = some p → (pensOf ns m)[j]? = some q → H' p = some (.lst (penV q))) → Q (.ref l) H'

section
variable {K : PySem.W.Frag} {c : Cq} {F H H1 : Hp} {σ : L2.St} {δ : DE}
theorem Rel.freePF (r : Rel K c F H σ δ) {p : Addr} (h : pl H p = none) : F p = none := by
  cases e : F p with
  | none => rfl
  | some o => rw [pl_to (r.sub p o e) (r.tab.fnt p o e)] at h; cases h
theorem Rel.freePG (r : Rel K c F H σ δ) {p : Addr} (h : pl H p = none) : c.G p = none := by
  cases e : c.G p with
  | none => rfl
  | some o => rw [pl_to (r.gs p o e).1 (r.tab.gnt p o e).pl] at h; cases h
theorem Rel.extP (r : Rel K c F H σ δ) (h : Same (pl H) H1) (t : LamX.Tabs Tbl.T H1) : Rel K c F H1 σ δ := by
  have k : ∀ {b : Addr} {o : HO}, H b = some o → Pl o → H1 b = some o := fun {b o} e p => h b o (pl_to e p)
  refine ⟨fun b o e => k (r.sub b o e) (r.tab.fnt b o e), fun b o e q => k (r.pres b o e q) (r.tab.hnt b o e), r.low, r.new, fun b o e => ⟨k (r.gs b o e).1 (r.tab.gnt b o e).pl, (r.gs b o e).2⟩, r.bor0, r.borD, r.binj, r.len, fun i s e => ?_, r.apart, ⟨t, r.tab.fnt, r.tab.gnt, r.tab.hnt⟩⟩
  have z := r.sl i s e
  cases s with
  | val d => exact z
  | own m =>
    obtain ⟨a, o, e1, e2, e3, e4⟩ := z
    exact ⟨a, o, e1, k e2 e3.pl, e3, e4⟩
  | bor m =>
    obtain ⟨hi, o, e1, e2, e3, e4⟩ := z
    exact ⟨hi, o, e1, k e2 e3.pl, e3, e4⟩
theorem Rel.less {G' : Hp} (r : Rel K { c with G := G' } F H σ δ) (h : ∀ b o, c.G b = some o → G' b = some o) : Rel K c F H σ δ := by
  have hn : ∀ {a : Addr}, G' a = none → c.G a = none := fun {a} y => by
    cases q : c.G a with
    | none => rfl
    | some o => rw [h a o q] at y; cases y
  refine ⟨r.sub, r.pres, r.low, r.new, fun b o e => r.gs b o (h b o e), r.bor0, r.borD, r.binj, r.len, fun i s e => ?_, r.apart, r.tab.less h⟩
  have z := r.sl i s e
  cases s with
  | val d => exact z
  | own n =>
    obtain ⟨a, x, e1, e2, e3, e4, e5, e6⟩ := z
    exact ⟨a, x, e1, e2, e3, e4, hn e5, e6⟩
  | bor n =>
    obtain ⟨hi, x, e1, e2, e3, e4, e5⟩ := z
    exact ⟨hi, x, e1, e2, e3, e4, hn e5⟩
/-- several things held -/
def gput (G : Hp) : List (Addr × HO) → Hp
  | [] => G
  | (p, o) :: r => upd (gput G r) p o
theorem gput_out {G : Hp} {b : Addr} : ∀ {l : List (Addr × HO)}, (∀ q ∈ l, q.1 ≠ b) → gput G l b = G b
  | [], _ => rfl
  | (p, o) :: r, h => by
    unfold gput
    rw [upd_ne (Ne.symm (h _ List.mem_cons_self))]
    exact gput_out fun q hq => h q (List.mem_cons_of_mem _ hq)
/-- new things of the heap, held -/
theorem Rel.holdAll (r : Rel K c F H σ δ) (h : Same (pl H) H1) (t : LamX.Tabs Tbl.T H1) : ∀ {l : List (Addr × HO)}, (∀ q ∈ l, pl H q.1 = none ∧ H1 q.1 = some q.2 ∧ PlG q.2) → Rel K { c with G := gput c.G l } F H1 σ δ
  | [], _ => r.extP h t
  | (p, o) :: l, hl => by
    have ih := r.holdAll h t (l := l) fun q hq => hl q (List.mem_cons_of_mem _ hq)
    obtain ⟨h1, h2, h3⟩ := hl _ List.mem_cons_self
    refine Rel.hold (c := { c with G := gput c.G l }) ih h2 (r.freePF h1) (fun j n e z => ?_) (fun i hi z => ?_) h3
    · obtain ⟨a, o', e1, e2, e3, _⟩ := r.own e
      rw [z] at e1; cases e1
      rw [pl_to e2 e3.pl] at h1; cases h1
    · have hi : i ∈ c.bs := hi
      have z : c.adr i = p := z
      obtain ⟨m, o', _, _, e2, e3, _⟩ := r.borAt hi
      rw [z] at e2
      rw [pl_to e2 e3.pl] at h1; cases h1
end

/-- for pen in pens: body -/
def penLoop (i : Nat) (g : DE → O) : List (Int × Int) → DE → O
  | [], δ => .nx δ
  | p :: ps, δ => match setSl i (.own (.lst (penD p))) δ with
    | none => .stuck
    | some δ => match g δ with
      | .nx δ => penLoop i g ps δ
      | .cnt δ => penLoop i g ps δ
      | .brk δ => .nx δ
      | o => o
def forPens (s : Nat) (m : Nat) (i : Nat) (g : DE → O) : DE → O := fun δ => match δ[s]? with
  | some (some (.val (.scr ns))) => if ns.length ≤ 1000 ∧ m ≤ 1000 then penLoop i g (pensOf ns m) δ else .stuck
  | _ => .stuck
theorem pen_den {K : PySem.W.Frag} {F : Hp} (q : Int × Int) : MDen K F (.lst (penD q)) (.lst (penV q)) := Dens.cons rfl (Dens.cons rfl (Dens.one rfl))
theorem rd_pens {K : PySem.W.Frag} {W : WX} {sl m i : Nat} {g : DE → O} {N : Ends} {σ : L2.St} {H : Hp} (z : rdS K W (forPens sl m i g) N σ H) :
    tFor (iList K (tCallS (spPens K) (WE W) (tCons (tVar sl) (tCons (tC (.int (m : Int))) tNil)))) (gName i) (rdS K W g) N σ H := by
  obtain ⟨c, F, δ, r, z⟩ := z
  unfold forPens at z
  split at z
  · rename_i ns hs
    split at z
    · rename_i hb
      obtain ⟨v, e1, a, rfl, e2⟩ := r.val hs
      refine ⟨.ref a, e1, a, ns, m, rfl, r.sub.seq e2, hb.1, hb.2, r.tab.tabs, fun l ps H1 f1 f2 f3 f4 f5 f5t f6 f7 f8 => ?_⟩
      refine ⟨l, rfl, ⟨_, .inl (.inl f6)⟩, ?_⟩
      -- what is held
      have zipIn : ∀ q ∈ (ps.zip (pensOf ns m)).map (fun x => (x.1, HO.lst (penV x.2))), pl H q.1 = none ∧ H1 q.1 = some q.2 ∧ q.1 ∈ ps := fun q hq => by
        obtain ⟨x, hx, rfl⟩ := List.mem_map.mp hq
        obtain ⟨j, hj⟩ := List.getElem?_of_mem hx
        have h1 : ps[j]? = some x.1 ∧ (pensOf ns m)[j]? = some x.2 := by
          rw [List.getElem?_zip_eq_some] at hj
          exact hj
        have hm := List.mem_of_getElem? h1.1
        exact ⟨f2 _ hm, f8 j _ _ h1.1 h1.2, hm⟩
      have rl := r.holdAll f5 f5t (l := [(l, .lst (ps.map V.ref))]) fun q hq => by
        rw [List.mem_singleton.mp hq]; exact ⟨f1, f6, trivial⟩
      have hlen := f7
      let rest : Nat → List (Addr × HO) := fun k => ((ps.zip (pensOf ns m)).map (fun x => (x.1, HO.lst (penV x.2)))).drop k
      let cL : Cq := { c with G := gput c.G [(l, .lst (ps.map V.ref))] }
      have gl0 : ∀ {p : Addr}, p ∈ ps → cL.G p = none := fun {p} hp => by
        show gput c.G [(l, HO.lst (ps.map V.ref))] p = none
        rw [gput_out (by intro q hq; rw [List.mem_singleton.mp hq]; exact fun y => f4 (by rw [show l = p from y]; exact hp))]
        exact r.freePG (f2 p hp)
      have r0 : Rel K { cL with G := gput cL.G (rest 0) } F H1 σ δ := by
        have := r.holdAll f5 f5t (l := rest 0 ++ [(l, .lst (ps.map V.ref))]) fun q hq => by
          rcases List.mem_append.mp hq with y | y
          · obtain ⟨y1, y2, _⟩ := zipIn q (by simpa [rest] using y)
            refine ⟨y1, y2, ?_⟩
            obtain ⟨x, hx, e⟩ := List.mem_map.mp (show q ∈ (ps.zip (pensOf ns m)).map (fun x => (x.1, HO.lst (penV x.2))) by simpa [rest] using y)
            rw [← e]; trivial
          · rw [List.mem_singleton.mp y]; exact ⟨f1, f6, trivial⟩
        have e : ∀ (l1 l2 : List (Addr × HO)) (G : Hp), gput G (l1 ++ l2) = gput (gput G l2) l1 := by
          intro l1
          induction l1 with
          | nil => intro l2 G; rfl
          | cons x l1 ih => intro l2 G; obtain ⟨p, o⟩ := x; show upd (gput G (l1 ++ l2)) p o = upd (gput (gput G l2) l1) p o; rw [ih]
        rw [e] at this
        exact this
      have lessG : ∀ (k : Nat) (b : Addr) (o : HO), c.G b = some o → gput cL.G (rest k) b = some o := fun k b o e => by
        have hb : pl H b = some o := pl_to (r.gs b o e).1 (r.tab.gnt b o e).pl
        rw [gput_out fun q hq y => ?_]
        · show gput c.G [(l, HO.lst (ps.map V.ref))] b = some o
          rw [gput_out (by intro q hq y; rw [List.mem_singleton.mp hq] at y; rw [← show l = b from y, f1] at hb; cases hb)]
          exact e
        · obtain ⟨y1, _, _⟩ := zipIn q (List.mem_of_mem_drop hq)
          rw [y, hb] at y1; cases y1
      have lenz : (ps.zip (pensOf ns m)).length = (pensOf ns m).length := by rw [List.length_zip, hlen, Nat.min_self]
      have h0p : ∀ {p : Addr}, p ∈ ps → c.H0 p = none := fun {p} hp => r.freeP (f2 p hp)
      refine ⟨fun k n σ H => ∃ F' δ, Rel K { cL with G := gput cL.G (rest k) } F' H σ δ ∧ Same F F' ∧ k + n = (pensOf ns m).length ∧ aftS K W N c F' (penLoop i g ((pensOf ns m).drop k) δ), ⟨(pensOf ns m).length, F, δ, r0, .refl _, by omega, z⟩, ?_⟩
      rintro k n σ2 H2 ⟨F2, δ2, r2, s2, en, z2⟩
      -- the list is still there
      have lst2 : H2 l = some (.lst (ps.map V.ref)) := by
        refine (r2.gs l _ ?_).1
        show gput (gput c.G [(l, HO.lst (ps.map V.ref))]) (rest k) l = _
        rw [gput_out fun q hq => fun y => f4 (by
          obtain ⟨_, _, y3⟩ := zipIn q (List.mem_of_mem_drop hq)
          rw [y] at y3; exact y3)]
        exact upd_same
      by_cases hk : k < (pensOf ns m).length
      · have hkp : k < ps.length := by rw [hlen]; exact hk
        have eqk := List.getElem?_eq_getElem hk
        have epk := List.getElem?_eq_getElem hkp
        refine .inr ⟨⟨_, V.ref ps[k], .inl (.inl lst2), by rw [List.getElem?_map, epk]; rfl⟩, fun σ' H' => ∃ F' δ, Rel K { cL with G := gput cL.G (rest (k + 1)) } F' H' σ' δ ∧ Same F F' ∧ aftS K W N c F' (penLoop i g ((pensOf ns m).drop (k + 1)) δ), ?_, fun x H3 hy => ?_⟩
        · rintro σ' H' ⟨F3, δ3, r3, s3, z3⟩
          exact ⟨n - 1, by omega, F3, δ3, r3, s3, by omega, z3⟩
        · obtain ⟨rfl, hy⟩ := hy
          have ex := hy _ (.inl (.inl lst2))
          rw [List.getElem?_map, epk] at ex
          have ex : x = V.ref ps[k] := (Option.some.inj ex).symm
          subst ex
          have er : rest k = (ps[k], HO.lst (penV (pensOf ns m)[k])) :: rest (k + 1) := by
            show ((ps.zip (pensOf ns m)).map _).drop k = _
            have hz : k < ((ps.zip (pensOf ns m)).map (fun x => (x.1, HO.lst (penV x.2)))).length := by rw [List.length_map, lenz]; exact hk
            rw [List.drop_eq_getElem_cons hz, List.getElem_map, List.getElem_zip]
          have r2' : Rel K { ({ cL with G := gput cL.G (rest (k + 1)) } : Cq) with G := upd (gput cL.G (rest (k + 1))) ps[k] (.lst (penV (pensOf ns m)[k])) } F2 H3 σ2 δ2 := by
            have q := r2
            rw [er] at q
            exact q
          have memk : ps[k] ∈ ps := List.getElem_mem hkp
          have gk : gput cL.G (rest (k + 1)) ps[k] = none := by
            rw [gput_out fun q hq y => ?_]
            · exact gl0 memk
            · -- no address twice
              obtain ⟨j, hj, rfl⟩ := List.mem_iff_getElem.mp hq
              rw [List.getElem_drop, List.getElem_map, List.getElem_zip] at y
              have hj' : k + 1 + j < ps.length := by
                have : j < (((ps.zip (pensOf ns m)).map (fun x => (x.1, HO.lst (penV x.2)))).drop (k + 1)).length := hj
                rw [List.length_drop, List.length_map, List.length_zip] at this
                omega
              have e1 := List.getElem?_eq_getElem hj'
              have e2 := List.getElem?_eq_getElem hkp
              rw [← y] at e2
              have := (List.getElem?_inj hj' f3).mp (e1.trans e2.symm)
              omega
          obtain ⟨r3, g1, g2, g3, g4⟩ := Rel.drop (c := { cL with G := gput cL.G (rest (k + 1)) }) r2' gk
          rw [List.drop_eq_getElem_cons hk] at z2
          unfold penLoop at z2
          show rdS K W g _ (σ2.set i (some (V.ref ps[k]))) H3
          split at z2
          · exact False.elim z2
          · rename_i δ4 q4
            obtain ⟨rfl, nb⟩ := setSl_some q4
            have r4 := Rel.setOwn r3 g1 g2 gk (h0p memk) (pen_den _) g3 nb
            refine ⟨_, F2, _, r4, ?_⟩
            cases qg : g (δ2.set i (some (.own (.lst (penD (pensOf ns m)[k]))))) with
            | nx δ5 => rw [qg] at z2; exact fun σ' F' H' r' s' => ⟨F', δ5, r', s2.trans s', z2.up s'⟩
            | cnt δ5 => rw [qg] at z2; exact fun σ' F' H' r' s' => ⟨F', δ5, r', s2.trans s', z2.up s'⟩
            | brk δ5 => rw [qg] at z2; exact fun σ' F' H' r' s' => z2 σ' F' H' (Rel.less r' (lessG (k + 1))) s'
            | ret d δ5 => rw [qg] at z2; exact fun v σ' F' H' r' s' d' => z2 v σ' F' H' (Rel.less r' (lessG (k + 1))) s' d'
            | exc x δ5 => rw [qg] at z2; exact fun cls od σ' F' H' r' s' d' => z2 cls od σ' F' H' (Rel.less r' (lessG (k + 1))) s' d'
            | stuck => rw [qg] at z2; exact z2
      · refine .inl ⟨⟨_, .inl (.inl lst2), by rw [List.length_map, hlen]; omega⟩, ?_⟩
        rw [List.drop_eq_nil_of_le (by omega)] at z2
        exact z2 σ2 F2 H2 (Rel.less r2 (lessG k)) (.refl _)
    · exact False.elim z
  · exact False.elim z
end PV

/-! PV13: the defs that the laws share (rest, pen, cell, draw, pick), as functions on data; what they give. -/
namespace PV
open PySem PySem.Spec PyProof.Rows L2
noncomputable def F_rest : DE → O := (retS (op2 isub (var 0) (op2 mulA (op2 idiv (var 0) (var 1)) (var 1))))
noncomputable def ph_rest : List Sl → FR := fnF 2 2 F_rest
noncomputable def F_pen : DE → R MD := (lstN (valA (callB max2D (valA (cst (.int 0)) (valA (op2 isub (var 0) (op2 ipow (cst (.int 10)) (cst (.int 18)))) noA))) (valA (op2 addA (callF ph_rest (valA (var 0) (valA (cst (.int 2147483629)) noA))) (cst (.int 1))) (valA (cst (.int 0)) noA))))
noncomputable def F_cell_at : DE → O := (thenS (ifS (tst (op2 ilt (var 1) (callB lenD (valA (var 0) noA)))) (retS (op2 ixD (var 0) (var 1))) skipS) (retS (cst (.int 0))))
noncomputable def ph_cell_at : List Sl → FR := fnF 2 2 F_cell_at
noncomputable def F_draw : DE → O := (thenS (ifS (tst (op2 igt (ixSl 0 (cst (.int 0))) (cst (.int 0)))) (thenS (setS 3 (callF ph_rest (valA (ixSl 0 (cst (.int 0))) (valA (var 1) noA)))) (thenS (putS 0 (cst (.int 0)) (op2 idiv (ixSl 0 (cst (.int 0))) (var 1))) (retS (var 3)))) skipS) (thenS (putS 0 (cst (.int 2)) (op2 addA (ixSl 0 (cst (.int 2))) (cst (.int 1)))) (thenS (putS 0 (cst (.int 1)) (callF ph_rest (valA (op2 addA (op2 addA (op2 mulA (ixSl 0 (cst (.int 1))) (cst (.int 48271))) (op2 mulA (cst (.int 1009)) (ixSl 0 (cst (.int 2))))) (cst (.int 7))) (valA (cst (.int 2147483647)) noA)))) (thenS (setS 2 (callF ph_rest (valA (op2 addA (op2 addA (op2 mulA (ixSl 0 (cst (.int 1))) (ixSl 0 (cst (.int 1)))) (op2 mulA (cst (.int 69621)) (ixSl 0 (cst (.int 1))))) (cst (.int 11))) (valA (cst (.int 2147483629)) noA)))) (thenS (setS 2 (callF ph_rest (valA (op2 addA (op2 mulA (var 2) (var 2)) (op2 mulA (cst (.int 40014)) (var 2))) (valA (cst (.int 2147483587)) noA)))) (retS (callF ph_rest (valA (op2 idiv (var 2) (cst (.int 16))) (valA (var 1) noA)))))))))
noncomputable def ph_draw : List Sl → FR := fnF 2 4 F_draw
noncomputable def F_pick : DE → O := (retS (op2 ixD (var 1) (callF ph_draw (slotA 0 (valA (callB lenD (valA (var 1) noA)) noA)))))
noncomputable def ph_pick : List Sl → FR := fnF 2 2 F_pick
/-- a slot that may be set -/
def nb : Option Sl → Bool
  | some (.bor _) => false
  | _ => true
theorem setSl_z {s : Sl} {l : DE} : setSl 0 s (none :: l) = some (some s :: l) := rfl
theorem setSl_v {s : Sl} {l : DE} {d : D} : setSl 0 s (some (.val d) :: l) = some (some s :: l) := rfl
theorem setSl_o {s : Sl} {l : DE} {d : MD} : setSl 0 s (some (.own d) :: l) = some (some s :: l) := rfl
theorem setSl_x {x : Option Sl} {s : Sl} {l : DE} (h : nb x = true) : setSl 0 s (x :: l) = some (some s :: l) := by
  cases x with
  | none => rfl
  | some y => cases y <;> first | rfl | cases h
theorem setSl_s {x : Option Sl} {s : Sl} {l : DE} {n : Nat} : setSl (n + 1) s (x :: l) = (setSl n s l).map (x :: ·) := by
  unfold setSl
  rw [List.getElem?_cons_succ]
  cases l[n]? with
  | none => rfl
  | some y => cases y with
    | none => rfl
    | some z => cases z <;> rfl
theorem addA_int {i j : Int} : addA (.int i) (.int j) = some (.int (i + j)) := rfl
theorem isub_int {i j : Int} : isub (.int i) (.int j) = some (.int (i - j)) := rfl
theorem mulA_l {i j : Int} (h : -(2 ^ 64) < i) (g : i < 2 ^ 64) : mulA (.int i) (.int j) = some (.int (i * j)) := by
  have : imul (.int i) (.int j) = some (.int (i * j)) := if_pos (by unfold mulOk; rw [decide_eq_true h, decide_eq_true g]; rfl)
  unfold mulA; rw [this]; rfl
theorem mulA_r {i j : Int} (h : -(2 ^ 64) < j) (g : j < 2 ^ 64) : mulA (.int i) (.int j) = some (.int (i * j)) := by
  have : imul (.int i) (.int j) = some (.int (i * j)) := if_pos (by unfold mulOk; rw [decide_eq_true h, decide_eq_true g]; simp)
  unfold mulA; rw [this]; rfl
theorem idiv_int {i j : Int} (h : 0 < j) (g : j < 2 ^ 64) : idiv (.int i) (.int j) = some (.int (i / j)) := if_pos (by unfold divOk; rw [decide_eq_true h, decide_eq_true g]; rfl)
theorem imod_int {i j : Int} (h : 0 < j) (g : j < 2 ^ 64) : imod (.int i) (.int j) = some (.int (i % j)) := if_pos (by unfold divOk; rw [decide_eq_true h, decide_eq_true g]; rfl)
theorem ipow_int {i j : Int} (h : 0 ≤ j) (g : j ≤ 1000) (k : i.natAbs < 2 ^ 64) : ipow (.int i) (.int j) = some (.int (i ^ j.toNat)) := if_pos (by unfold powOk; rw [decide_eq_true h, decide_eq_true g, decide_eq_true k]; rfl)
theorem ilt_int {i j : Int} : ilt (.int i) (.int j) = some (.bl (decide (i < j))) := rfl
theorem ile_int {i j : Int} : ile (.int i) (.int j) = some (.bl (decide (i ≤ j))) := rfl
theorem igt_int {i j : Int} : igt (.int i) (.int j) = some (.bl (decide (j < i))) := rfl
theorem ige_int {i j : Int} : ige (.int i) (.int j) = some (.bl (decide (j ≤ i))) := rfl
theorem eqD_int {i j : Int} : eqD (.int i) (.int j) = some (.bl (decide (i = j))) := rfl
theorem eqD_str {i j : Str} : eqD (.str i) (.str j) = some (.bl (decide (i = j))) := rfl
theorem rest_ok {n b : Int} (h0 : 0 < b) (h1 : b < 2 ^ 64) : ph_rest [.val (.int n), .val (.int b)] = .ret (.int (n % b)) [.val (.int n), .val (.int b)] := by
  have e : n - n / b * b = n % b := by have := Int.emod_add_ediv_mul n b; omega
  simp (disch := first | assumption | with_reducible rfl | omega | rfl) [fnF, thenS, skipS, retS, dropS, ifS, setS, ownS, bindS, R.bind, R.of, cst, var, op2, tst, andT, orT, notT, andE, orE, notE, ifE, chn, callB, callN, valA, noA, peeks, peekA, PV.addA_int, PV.mulA_l, PV.mulA_r, PV.isub_int, PV.idiv_int, PV.imod_int, PV.ipow_int, PV.ilt_int, PV.ile_int, PV.igt_int, PV.ige_int, PV.eqD_int, PV.eqD_str, negE, lenD, max2D, min2D, ixSl, putS, mutOf, Sl.mut, Sl.wr, atI, ixN, setSl_z, setSl_v, setSl_o, setSl_x, setSl_s, Option.map_some, ixD, lstN, tupE, valsOf, ofN, MD.d, LIM, back, appS, List.getElem?_cons_zero, List.getElem?_cons_succ, callF, lend, unlend, slots, slotA, nmG, tupG, consG, nilG, listN, tupleD, ph_rest, F_rest, e]
theorem cell_ok (ns : List Int) (i : Nat) : ∃ as', ph_cell_at [.val (.scr ns), .val (.int i)] = .ret (.int (ns.getD i 0)) as' := by
  by_cases h : i < ns.length
  · have e : ixD (.scr ns) (.int i) = some (.int (ns.getD i 0)) := by
      show (atI ns i).map D.int = _
      unfold atI ixN
      simp [h]
    have h' : (i : Int) < (ns.length : Int) := by omega
    exact ⟨_, by simp (disch := first | assumption | with_reducible rfl | omega | rfl) [fnF, thenS, skipS, retS, dropS, ifS, setS, ownS, bindS, R.bind, R.of, cst, var, op2, tst, andT, orT, notT, andE, orE, notE, ifE, chn, callB, callN, valA, noA, peeks, peekA, PV.addA_int, PV.mulA_l, PV.mulA_r, PV.isub_int, PV.idiv_int, PV.imod_int, PV.ipow_int, PV.ilt_int, PV.ile_int, PV.igt_int, PV.ige_int, PV.eqD_int, PV.eqD_str, negE, lenD, max2D, min2D, ixSl, putS, mutOf, Sl.mut, Sl.wr, atI, ixN, setSl_z, setSl_v, setSl_o, setSl_x, setSl_s, Option.map_some, ixD, lstN, tupE, valsOf, ofN, MD.d, LIM, back, appS, List.getElem?_cons_zero, List.getElem?_cons_succ, callF, lend, unlend, slots, slotA, nmG, tupG, consG, nilG, listN, tupleD, ph_cell_at, F_cell_at, h', e]; rfl⟩
  · have h' : ¬ (i : Int) < (ns.length : Int) := by omega
    refine ⟨_, by simp (disch := first | assumption | with_reducible rfl | omega | rfl) [fnF, thenS, skipS, retS, dropS, ifS, setS, ownS, bindS, R.bind, R.of, cst, var, op2, tst, andT, orT, notT, andE, orE, notE, ifE, chn, callB, callN, valA, noA, peeks, peekA, PV.addA_int, PV.mulA_l, PV.mulA_r, PV.isub_int, PV.idiv_int, PV.imod_int, PV.ipow_int, PV.ilt_int, PV.ile_int, PV.igt_int, PV.ige_int, PV.eqD_int, PV.eqD_str, negE, lenD, max2D, min2D, ixSl, putS, mutOf, Sl.mut, Sl.wr, atI, ixN, setSl_z, setSl_v, setSl_o, setSl_x, setSl_s, Option.map_some, ixD, lstN, tupE, valsOf, ofN, MD.d, LIM, back, appS, List.getElem?_cons_zero, List.getElem?_cons_succ, callF, lend, unlend, slots, slotA, nmG, tupG, consG, nilG, listN, tupleD, ph_cell_at, F_cell_at, h', h]; rfl⟩
theorem pen_ok (n : Int) : ∃ δ', F_pen [some (.val (.int n))] = .ok (.lst (penD (penOf n))) δ' := by
  refine ⟨_, by simp (disch := first | assumption | with_reducible rfl | omega | rfl) [fnF, thenS, skipS, retS, dropS, ifS, setS, ownS, bindS, R.bind, R.of, cst, var, op2, tst, andT, orT, notT, andE, orE, notE, ifE, chn, callB, callN, valA, noA, peeks, peekA, PV.addA_int, PV.mulA_l, PV.mulA_r, PV.isub_int, PV.idiv_int, PV.imod_int, PV.ipow_int, PV.ilt_int, PV.ile_int, PV.igt_int, PV.ige_int, PV.eqD_int, PV.eqD_str, negE, lenD, max2D, min2D, ixSl, putS, mutOf, Sl.mut, Sl.wr, atI, ixN, setSl_z, setSl_v, setSl_o, setSl_x, setSl_s, Option.map_some, ixD, lstN, tupE, valsOf, ofN, MD.d, LIM, back, appS, List.getElem?_cons_zero, List.getElem?_cons_succ, callF, lend, unlend, slots, slotA, nmG, tupG, consG, nilG, listN, tupleD, F_pen, rest_ok, penD, penOf]; rfl⟩
/-- a pen in use -/
def IsPen (m : MD) : Prop := ∃ a b c : Int, m = .lst [.int a, .int b, .int c] ∧ 0 ≤ a ∧ 0 ≤ b ∧ b < 2 ^ 31
theorem draw_ok {m : MD} {k : Int} (hp : IsPen m) (h0 : 0 < k) (h1 : k < 2 ^ 64) : ∃ r m', IsPen m' ∧ 0 ≤ r ∧ r < k ∧ ph_draw [.bor m, .val (.int k)] = .ret (.int r) [.bor m', .val (.int k)] := by
  obtain ⟨a, b, c, rfl, ha, hb, hc⟩ := hp
  by_cases h : 0 < a
  · refine ⟨a % k, .lst [.int (a / k), .int b, .int c], ⟨_, _, _, rfl, Int.ediv_nonneg ha (by omega), hb, hc⟩, Int.emod_nonneg _ (by omega), Int.emod_lt_of_pos _ h0, ?_⟩
    simp (disch := first | assumption | with_reducible rfl | omega | rfl) [fnF, thenS, skipS, retS, dropS, ifS, setS, ownS, bindS, R.bind, R.of, cst, var, op2, tst, andT, orT, notT, andE, orE, notE, ifE, chn, callB, callN, valA, noA, peeks, peekA, PV.addA_int, PV.mulA_l, PV.mulA_r, PV.isub_int, PV.idiv_int, PV.imod_int, PV.ipow_int, PV.ilt_int, PV.ile_int, PV.igt_int, PV.ige_int, PV.eqD_int, PV.eqD_str, negE, lenD, max2D, min2D, ixSl, putS, mutOf, Sl.mut, Sl.wr, atI, ixN, setSl_z, setSl_v, setSl_o, setSl_x, setSl_s, Option.map_some, ixD, lstN, tupE, valsOf, ofN, MD.d, LIM, back, appS, List.getElem?_cons_zero, List.getElem?_cons_succ, callF, lend, unlend, slots, slotA, nmG, tupG, consG, nilG, listN, tupleD, ph_draw, F_draw, rest_ok, h]
  · have q0 : 0 ≤ (b * 48271 + 1009 * (c + 1) + 7) % 2147483647 := Int.emod_nonneg _ (by decide)
    have q1 : (b * 48271 + 1009 * (c + 1) + 7) % 2147483647 < 2147483647 := Int.emod_lt_of_pos _ (by decide)
    generalize eq : (b * 48271 + 1009 * (c + 1) + 7) % 2147483647 = b' at q0 q1
    let x1 : Int := (b' * b' + 69621 * b' + 11) % 2147483629
    have y0 : 0 ≤ x1 := Int.emod_nonneg _ (by decide)
    have y1 : x1 < 2147483629 := Int.emod_lt_of_pos _ (by decide)
    have e1 : (b' * b' + 69621 * b' + 11) % 2147483629 = x1 := rfl
    have y2 : 0 ≤ b' := q0
    refine ⟨(x1 * x1 + 40014 * x1) % 2147483587 / 16 % k, .lst [.int a, .int b', .int (c + 1)], ⟨_, _, _, rfl, ha, q0, by omega⟩, Int.emod_nonneg _ (by omega), Int.emod_lt_of_pos _ h0, ?_⟩
    generalize x1 = x at *
    simp (disch := first | assumption | with_reducible rfl | omega | rfl) [fnF, thenS, skipS, retS, dropS, ifS, setS, ownS, bindS, R.bind, R.of, cst, var, op2, tst, andT, orT, notT, andE, orE, notE, ifE, chn, callB, callN, valA, noA, peeks, peekA, PV.addA_int, PV.mulA_l, PV.mulA_r, PV.isub_int, PV.idiv_int, PV.imod_int, PV.ipow_int, PV.ilt_int, PV.ile_int, PV.igt_int, PV.ige_int, PV.eqD_int, PV.eqD_str, negE, lenD, max2D, min2D, ixSl, putS, mutOf, Sl.mut, Sl.wr, atI, ixN, setSl_z, setSl_v, setSl_o, setSl_x, setSl_s, Option.map_some, ixD, lstN, tupE, valsOf, ofN, MD.d, LIM, back, appS, List.getElem?_cons_zero, List.getElem?_cons_succ, callF, lend, unlend, slots, slotA, nmG, tupG, consG, nilG, listN, tupleD, ph_draw, F_draw, rest_ok, h, eq, e1]
/-- at a call -/
theorem draw_at {δ : DE} {i : Nat} {fk : DE → R D} {k : Int} {s : Sl} {m : MD} (hk : fk δ = .ok (.int k) δ) (hs : δ[i]? = some (some s)) (hm : s.mut = some m) (hp : IsPen m) (h0 : 0 < k) (h1 : k < 2 ^ 64) :
    ∃ r m', IsPen m' ∧ 0 ≤ r ∧ r < k ∧ callF ph_draw (slotA i (valA fk noA)) δ = .ok (.int r) (δ.set i (some (s.wr m'))) := by
  obtain ⟨r, m', p', r0, r1, e⟩ := draw_ok hp h0 h1
  refine ⟨r, m', p', r0, r1, ?_⟩
  have hmu : mutOf δ i = some (s, m) := by unfold mutOf; rw [hs]; simp [hm]
  simp [callF, slotA, hmu, valA, noA, hk, R.bind, slots, lend, e, unlend]
/-- pick: one of a list's -/
theorem pick_ok {m : MD} {l : List D} (hp : IsPen m) (h0 : 0 < l.length) (h1 : l.length ≤ LIM) : ∃ d m', IsPen m' ∧ d ∈ l ∧ ph_pick [.bor m, .val (.lst l)] = .ret d [.bor m', .val (.lst l)] := by
  obtain ⟨r, m', p', r0, r1, e⟩ := draw_at (δ := [some (.bor m), some (.val (.lst l))]) (i := 0) (s := .bor m) (m := m) (fk := callB lenD (valA (var 1) noA)) (k := l.length) (by simp (disch := first | assumption | with_reducible rfl | omega | rfl) [fnF, thenS, skipS, retS, dropS, ifS, setS, ownS, bindS, R.bind, R.of, cst, var, op2, tst, andT, orT, notT, andE, orE, notE, ifE, chn, callB, callN, valA, noA, peeks, peekA, PV.addA_int, PV.mulA_l, PV.mulA_r, PV.isub_int, PV.idiv_int, PV.imod_int, PV.ipow_int, PV.ilt_int, PV.ile_int, PV.igt_int, PV.ige_int, PV.eqD_int, PV.eqD_str, negE, lenD, max2D, min2D, ixSl, putS, mutOf, Sl.mut, Sl.wr, atI, ixN, setSl_z, setSl_v, setSl_o, setSl_x, setSl_s, Option.map_some, ixD, lstN, tupE, valsOf, ofN, MD.d, LIM, back, appS, List.getElem?_cons_zero, List.getElem?_cons_succ, callF, lend, unlend, slots, slotA, nmG, tupG, consG, nilG, listN, tupleD]) rfl rfl hp (by omega) (by unfold LIM at h1; omega)
  have hr : r.toNat < l.length := by omega
  have ea : atI l r = some l[r.toNat] := by
    unfold atI ixN
    rw [if_pos r0, if_pos (by omega)]
    show l[r.toNat]? = _
    exact List.getElem?_eq_getElem hr
  refine ⟨l[r.toNat], m', p', List.getElem_mem hr, ?_⟩
  unfold ph_pick F_pick
  have e2 : op2 ixD (var 1) (callF ph_draw (slotA 0 (valA (callB lenD (valA (var 1) noA)) noA))) [some (.bor m), some (.val (.lst l))] = .ok l[r.toNat] [some (.bor m'), some (.val (.lst l))] := by
    unfold op2
    simp [var, R.bind, e, ixD, ea, R.of, Sl.wr]
  simp [fnF, retS, e2, bindS, back]
theorem pick_at {δ : DE} {i : Nat} {fl : DE → R D} {l : List D} {s : Sl} {m : MD} (hk : fl δ = .ok (.lst l) δ) (hs : δ[i]? = some (some s)) (hm : s.mut = some m) (hp : IsPen m) (h0 : 0 < l.length) (h1 : l.length ≤ LIM) :
    ∃ d m', IsPen m' ∧ d ∈ l ∧ callF ph_pick (slotA i (valA fl noA)) δ = .ok d (δ.set i (some (s.wr m'))) := by
  obtain ⟨d, m', p', hd, e⟩ := pick_ok hp h0 h1
  refine ⟨d, m', p', hd, ?_⟩
  have hmu : mutOf δ i = some (s, m) := by unfold mutOf; rw [hs]; simp [hm]
  simp [callF, slotA, hmu, valA, noA, hk, R.bind, slots, lend, e, unlend]

/-! ### the pens' reading -/
variable [Tbl]
theorem pens_read {K : PySem.W.Frag} {W : WX} {fm : DE → R D} {N : List Str} {vs : List V} {H : Hp} {Q : VK} {E : XK} (hN : N.length = 3)
    (hm : ∀ (ns : List Int) (m : Nat), fm [some (.val (.scr ns)), some (.val (.int m)), none] = .ok (.int ((max 1 (min ns.length m) : Nat) : Int)) [some (.val (.scr ns)), some (.val (.int m)), none])
    (h : spPens K vs H Q E) : tLc (iRng1 (tCons (rdE K W fm) tNil)) (gName 2) tYes (tCallS (spNew K 1 1 F_pen) (WE W0) (tCons (tCallS (spV K ph_cell_at) (WE W0) (tCons (tVar 0) (tCons (tVar 2) tNil))) tNil)) [2] (L2.start N vs) H Q := by
  obtain ⟨a, ns, m, rfl, hs, hl, hm', ht, q⟩ := h
  have aok : ∀ (Hx : Hp) (i : Int), Same (pl H) Hx → LamX.Tabs Tbl.T Hx → AOk K (pl Hx) Hx [.val (.scr ns), .val (.int i)] [.ref a, .int i] := fun Hx i sm tx => by
    refine ⟨pl_same, rfl, fun j s v e1 e2 => ?_, fun i j b m n e1 => ?_, tx, fun b o e => (pl_of e).2⟩
    · match j with
      | 0 =>
        cases e1; cases e2
        refine ⟨a, rfl, ?_⟩
        rcases hs with (y | ⟨o, y⟩) | y
        · exact .inl (.inl (pl_to (sm _ _ (pl_to y trivial)) trivial))
        · exact .inl (.inr ⟨o, pl_to (sm _ _ (pl_to y trivial)) trivial⟩)
        · exact .inr y
      | 1 => cases e1; cases e2; rfl
      | j + 2 => simp at e1
    · match i with
      | 0 => cases e1
      | 1 => cases e1
      | j + 2 => simp at e1
  have est : L2.start N [.ref a, .int (m : Int)] = [some (.ref a), some (.int m), none] := by
    unfold L2.start
    rw [hN]
    rfl
  have r0 := (aok H m pl_same ht).rel (N := N)
  rw [hN] at r0
  refine ⟨_, pl H, _, r0, ?_⟩
  have e0 := hm ns m
  rw [show ([Sl.val (D.scr ns), Sl.val (D.int m)].map some ++ List.replicate (3 - [Sl.val (D.scr ns), Sl.val (D.int m)].length) none : DE) = [some (.val (.scr ns)), some (.val (.int m)), none] from rfl, e0]
  intro v F1 H1 r1 s1 d1
  have d1 : v = .int _ := d1
  subst d1
  have sm1 : Same (pl H) H1 := s1.trans r1.sub
  have st1 := r1.tab.tabs
  refine ⟨_, rfl, by omega, by omega, fun D hD => ?_⟩
  have hHD : pl H D = none := by
    cases e : pl H D with
    | none => rfl
    | some o => rw [sm1 _ _ e] at hD; cases hD
  rw [est, Int.toNat_natCast]
  have hlen : (pensOf ns m).length = max 1 (min ns.length m) := by unfold pensOf; rw [List.length_map, List.length_range]
  refine lc_range (lo := 0) (fun i Hx => ∃ ps : List Addr, ps.length = i ∧ Hx D = some (.lst (ps.map V.ref)) ∧ (∀ p ∈ ps, pl H p = none) ∧ ps.Nodup ∧ D ∉ ps ∧ Same (pl H) Hx ∧ LamX.Tabs Tbl.T Hx ∧ ∀ (j : Nat) (p : Addr), ps[j]? = some p → Hx p = some (.lst (penV (penOf (ns.getD j 0))))) ?_ ?_ ?_
  · exact ⟨[], rfl, upd_same, fun p hp => (by cases hp), .nil, by simp, sm1.trans (same_new hD), st1.ext (same_new hD), fun j p e => by simp at e⟩
  · rintro i Hx hi ⟨ps, p1, p2, p3, p4, p5, p6, pt, p7⟩
    refine ⟨rfl, ?_⟩
    simp only [tYes, if_true]
    show tCallS _ _ _ _ Hx _
    refine ⟨.ref a, rfl, .int (0 + (i : Int)), rfl, ?_⟩
    obtain ⟨as', ec⟩ := cell_ok ns i
    refine ⟨pl Hx, [.val (.scr ns), .val (.int (0 + (i : Int)))], aok Hx _ p6 pt, ?_⟩
    rw [Int.zero_add, ec]
    intro v F2 H2 dn d2
    have d2 : v = .int _ := d2
    subst d2
    have sm2 : Same (pl Hx) H2 := fun b o e => dn.pres b o e fun j m' e1 => by
      match j with
      | 0 => cases e1
      | 1 => cases e1
      | j + 2 => simp at e1
    obtain ⟨δ', ep⟩ := pen_ok (ns.getD i 0)
    refine ⟨pl H2, [.val (.int (ns.getD i 0))], _, δ', ⟨pl_same, rfl, fun j s v e1 e2 => ?_, fun i j b m n e1 => ?_, dn.args.tabs, fun b o e => (pl_of e).2⟩, rfl, ep, fun p o F3 H3 dn3 h1 h2 h3 h4 => ?_⟩
    · match j with
      | 0 => cases e1; cases e2; rfl
      | j + 1 => simp at e1
    · match i with
      | 0 => cases e1
      | j + 1 => simp at e1
    · have sm3 : Same (pl H2) H3 := fun b o e => dn3.pres b o e fun j m' e1 => by
        match j with
        | 0 => cases e1
        | j + 1 => simp at e1
      have sm : Same (pl Hx) H3 := fun b o e => sm3 b o (pl_to (sm2 b o e) (pl_of e).2)
      have hxp : pl Hx p = none := by
        cases e : pl Hx p with
        | none => rfl
        | some o => rw [pl_to (sm2 _ _ e) (pl_of e).2] at h4; cases h4
      have hpD : p ≠ D := fun e => by rw [e, pl_to p2 trivial] at hxp; cases hxp
      have hpps : p ∉ ps := fun hp => by
        obtain ⟨j, ej⟩ := List.getElem?_of_mem hp
        rw [pl_to (p7 j p ej) trivial] at hxp; cases hxp
      have ho : o = .lst (penV (penOf (ns.getD i 0))) := by
        obtain ⟨xs, rfl, dx⟩ := mden_lst h2
        obtain ⟨v1, r1, rfl, c1, v2, r2, rfl, c2, v3, r3, rfl, c3, c4⟩ := dx
        rw [show v1 = _ from c1, show v2 = _ from c2, show v3 = _ from c3, show r3 = _ from c4]
        rfl
      have hD3 : H3 D = some (.lst (ps.map V.ref)) := sm _ _ (pl_to p2 trivial)
      refine ⟨_, hD3, ?_, ps ++ [p], by rw [List.length_append, p1]; rfl, ?_, ?_, ?_, ?_, ?_, tabs_upd dn3.args.tabs hD3 trivial, ?_⟩
      · rw [List.length_map, p1]
        have : sizeLine ≥ 2000 := by decide
        omega
      · rw [upd_same, List.map_append]; rfl
      · intro x hx
        rcases List.mem_append.mp hx with y | y
        · exact p3 x y
        · rw [List.mem_singleton.mp y]
          cases e : pl H p with
          | none => rfl
          | some o => rw [pl_to (p6 _ _ e) (pl_of e).2] at hxp; cases hxp
      · rw [List.nodup_append]
        refine ⟨p4, by simp, fun x hx y hy => ?_⟩
        rw [List.mem_singleton.mp hy]
        exact fun e => hpps (e ▸ hx)
      · intro hx
        rcases List.mem_append.mp hx with y | y
        · exact p5 y
        · exact hpD (List.mem_singleton.mp y).symm
      · intro b o e
        have hb : b ≠ D := fun y => by rw [y, hHD] at e; cases e
        rw [upd_ne hb]
        exact sm _ _ (pl_to (p6 _ _ e) (pl_of e).2)
      · intro j x ej
        by_cases hj : j < ps.length
        · rw [List.getElem?_append_left hj] at ej
          have hx : x ≠ D := fun y => p5 (by rw [← y]; exact List.mem_of_getElem? ej)
          rw [upd_ne hx]
          exact sm _ _ (pl_to (p7 j x ej) trivial)
        · rw [List.getElem?_append_right (by omega)] at ej
          have hj0 : j = ps.length := by
            have := (List.getElem?_eq_some_iff.mp ej).1
            simp at this
            omega
          rw [hj0, Nat.sub_self] at ej
          cases ej
          rw [upd_ne hpD, h1, ho, hj0, p1]
  · rintro Hx ⟨ps, p1, p2, p3, p4, p5, p6, pt, p7⟩
    refine q D ps Hx hHD p3 p4 p5 p6 pt p2 (by rw [p1, hlen]) fun j p qq e1 e2 => ?_
    rw [p7 j p e1]
    unfold pensOf at e2
    rw [List.getElem?_map] at e2
    obtain ⟨j', e3, e4⟩ := Option.map_eq_some_iff.mp e2
    have := (List.getElem?_eq_some_iff.mp e3)
    obtain ⟨h5, h6⟩ := this
    rw [List.getElem_range] at h6
    rw [← e4, ← h6]
end PV

/-! PV14: plain rules: loops, comprehensions, what repr can show. -/
namespace PV
open PySem PySem.Spec PyProof.Rows L2

/-! ### loops -/
theorem loop_ok {t : D → DE → Option DE} {g : DE → O} {ds : List D} (I : Nat → DE → Prop)
    (hs : ∀ (k : Nat) (d : D) (δ : DE), ds[k]? = some d → I k δ → ∃ δ1 δ2, t d δ = some δ1 ∧ g δ1 = .nx δ2 ∧ I (k + 1) δ2) :
    ∀ (δ : DE), I 0 δ → ∃ δ', loopF t g ds δ = .nx δ' ∧ I ds.length δ' := by
  have key : ∀ (n k : Nat) (δ : DE), k + n = ds.length → I k δ → ∃ δ', loopF t g (ds.drop k) δ = .nx δ' ∧ I ds.length δ' := by
    intro n
    induction n with
    | zero =>
      intro k δ e i
      rw [List.drop_eq_nil_of_le (by omega)]
      exact ⟨δ, rfl, by rw [← e]; exact i⟩
    | succ n ih =>
      intro k δ e i
      have hk : k < ds.length := by omega
      rw [List.drop_eq_getElem_cons hk]
      obtain ⟨δ1, δ2, e1, e2, e3⟩ := hs k _ δ (List.getElem?_eq_getElem hk) i
      obtain ⟨δ', e4, e5⟩ := ih (k + 1) δ2 (by omega) e3
      refine ⟨δ', ?_, e5⟩
      unfold loopF
      rw [e1]
      show (match g δ1 with | .nx δ => _ | .cnt δ => _ | .brk δ => _ | o => o) = _
      rw [e2]
      exact e4
  intro δ i
  exact key ds.length 0 δ (by omega) i
theorem penLoop_ok {i : Nat} {g : DE → O} {ps : List (Int × Int)} (I : DE → Prop)
    (hs : ∀ (p : Int × Int) (δ : DE), p ∈ ps → I δ → ∃ δ1 δ2, setSl i (.own (.lst (penD p))) δ = some δ1 ∧ g δ1 = .nx δ2 ∧ I δ2) : ∀ (δ : DE), I δ → ∃ δ', penLoop i g ps δ = .nx δ' ∧ I δ' := by
  induction ps with
  | nil => intro δ h; exact ⟨δ, rfl, h⟩
  | cons p ps ih =>
    intro δ h
    obtain ⟨δ1, δ2, e1, e2, e3⟩ := hs p δ List.mem_cons_self h
    obtain ⟨δ', e4, e5⟩ := ih (fun p δ hp => hs p δ (List.mem_cons_of_mem _ hp)) δ2 e3
    refine ⟨δ', ?_, e5⟩
    unfold penLoop
    rw [e1]
    show (match g δ1 with | .nx δ => _ | .cnt δ => _ | .brk δ => _ | o => o) = _
    rw [e2]
    exact e4
theorem pens_are {ns : List Int} {m : Nat} {p : Int × Int} (h : p ∈ pensOf ns m) : IsPen (.lst (penD p)) := by
  unfold pensOf at h
  obtain ⟨k, _, rfl⟩ := List.mem_map.mp h
  refine ⟨_, _, _, rfl, ?_, ?_, ?_⟩
  · unfold penOf; dsimp only; split <;> omega
  · have := Int.emod_nonneg (ns.getD k 0) (show (2147483629 : Int) ≠ 0 by decide)
    unfold penOf; dsimp only; omega
  · have := Int.emod_lt_of_pos (ns.getD k 0) (show (0 : Int) < 2147483629 by decide)
    unfold penOf; dsimp only; omega
/-! ### comprehensions whose parts change nothing -/
theorem lcLoop_map {t : D → DE → Option DE} {elt : DE → R D} {vs : List Nat} {δw : DE} (e : D → D) :
    ∀ (ds : List D) (acc : List D), acc.length + ds.length ≤ LIM → (∀ d ∈ ds, ∃ δ1 δ2, t d δw = some δ1 ∧ elt δ1 = .ok (e d) δ2 ∧ wipeD δ2 vs = some δw) → lcLoop t noCond elt vs ds δw acc = .ok (acc ++ ds.map e) δw
  | [], acc, _, _ => by unfold lcLoop; rw [List.map_nil, List.append_nil]
  | d :: ds, acc, hl, h => by
    obtain ⟨δ1, δ2, e1, e2, e3⟩ := h d List.mem_cons_self
    rw [List.length_cons] at hl
    have ih := lcLoop_map e ds (acc ++ [e d]) (by rw [List.length_append, List.length_singleton]; omega) fun d hd => h d (List.mem_cons_of_mem _ hd)
    unfold lcLoop
    simp [e1, noCond, R.calm, R.bind, e2, show acc.length < LIM by omega, e3, ih]
theorem lc_map {f : DE → R (List D)} {t : D → DE → Option DE} {elt : DE → R D} {vs : List Nat} {δ δ0 δw : DE} {ds : List D} (e : D → D) (hf : f δ = .ok ds δ0) (hw : wipeD δ0 vs = some δw) (hl : ds.length ≤ LIM)
    (h : ∀ d ∈ ds, ∃ δ1 δ2, t d δw = some δ1 ∧ elt δ1 = .ok (e d) δ2 ∧ wipeD δ2 vs = some δw) : lcN f t noCond elt vs δ = .ok (.lst (ds.map e)) (unwipe δ0 δw vs) := by
  unfold lcN
  simp [hf, R.bind, hw, lcLoop_map e ds [] (by simpa using hl) h]
/-! ### what repr can show -/
def ShowOk (n k : Nat) (d : D) : Prop := ∃ p, d.py = some p ∧ p.canLay0 = true ∧ p.intsShort 13 = true ∧ p.showable = true ∧ p.depth ≤ k ∧ p.weight ≤ n
theorem ShowOk.mono {n n' k k' : Nat} {d : D} (h : ShowOk n k d) (a : n ≤ n') (b : k ≤ k') : ShowOk n' k' d := by
  obtain ⟨p, h1, h2, h3, h4, h5, h6⟩ := h
  exact ⟨p, h1, h2, h3, h4, by omega, by omega⟩
theorem ShowOk.int {i : Int} (h : i.natAbs < 10 ^ 12) : ShowOk 41 1 (.int i) := by
  have hl : i.natAbs.log2 < 40 := by
    by_cases h0 : i.natAbs = 0
    · rw [h0]; decide
    · exact (Nat.log2_lt h0).mpr (by have : (10 : Nat) ^ 12 < 2 ^ 40 := by decide
                                     omega)
  refine ⟨.int i, by unfold D.py; rfl, by simp [PyData.canLay0], by simp only [PyData.intsShort, decide_eq_true_eq]; exact PyData.shown_int_le h, by simp only [PyData.showable, decide_eq_true_eq]; omega, by simp [PyData.depth], ?_⟩
  simp only [PyData.weight]
  split <;> omega
theorem ShowOk.str {s : Str} (h : PyData.strOk s = true) : ShowOk s.cps.size 1 (.str s) := ⟨.str s, by unfold D.py; rfl, by simpa [PyData.canLay0] using h, by simp [PyData.intsShort], by simp [PyData.showable], by simp [PyData.depth], by simp [PyData.weight]⟩
theorem ShowOk.non : ShowOk 0 1 .non := ⟨.none, by unfold D.py; rfl, by simp [PyData.canLay0], by simp [PyData.intsShort], by simp [PyData.showable], by simp [PyData.depth], by simp [PyData.weight]⟩
theorem ShowOk.bl {b : Bool} : ShowOk 0 1 (.bl b) := ⟨.bool b, by unfold D.py; rfl, by simp [PyData.canLay0], by simp [PyData.intsShort], by simp [PyData.showable], by simp [PyData.depth], by simp [PyData.weight]⟩
theorem ShowOk.all {n k : Nat} : ∀ {l : List D}, (∀ d ∈ l, ShowOk n k d) → ∃ ps, D.pys l = some ps ∧ PyData.canLayAll0 ps = true ∧ PyData.intsShortAll 13 ps = true ∧ PyData.showableAll ps = true ∧ PyData.depthAll ps ≤ k ∧ PyData.weightAll ps ≤ l.length * (n + 1)
  | [], _ => ⟨[], by unfold D.pys; rfl, by simp [PyData.canLayAll0], by simp [PyData.intsShortAll], by simp [PyData.showableAll], by simp [PyData.depthAll], by simp [PyData.weightAll]⟩
  | d :: l, h => by
    obtain ⟨p, h1, h2, h3, h4, h5, h6⟩ := h d List.mem_cons_self
    obtain ⟨ps, g1, g2, g3, g4, g5, g6⟩ := ShowOk.all (l := l) fun d hd => h d (List.mem_cons_of_mem _ hd)
    refine ⟨p :: ps, by unfold D.pys; rw [h1, g1]; rfl, by simp [PyData.canLayAll0, h2, g2], by simp [PyData.intsShortAll, h3, g3], by simp [PyData.showableAll, h4, g4], by simp only [PyData.depthAll]; omega, ?_⟩
    simp only [PyData.weightAll, List.length_cons, Nat.add_mul]
    omega
theorem ShowOk.lst {n k : Nat} {l : List D} (h : ∀ d ∈ l, ShowOk n k d) : ShowOk (l.length * (n + 1)) (k + 1) (.lst l) := by
  obtain ⟨ps, g1, g2, g3, g4, g5, g6⟩ := ShowOk.all h
  exact ⟨.list ps, by unfold D.py; rw [g1]; rfl, by simpa [PyData.canLay0] using g2, by simpa [PyData.intsShort] using g3, by simpa [PyData.showable] using g4, by simp only [PyData.depth]; omega, by simpa [PyData.weight] using g6⟩
theorem ShowOk.tup {n k : Nat} {l : List D} (h : ∀ d ∈ l, ShowOk n k d) : ShowOk (l.length * (n + 1)) (k + 1) (.tup l) := by
  obtain ⟨ps, g1, g2, g3, g4, g5, g6⟩ := ShowOk.all h
  exact ⟨.tuple ps, by unfold D.py; rw [g1]; rfl, by simpa [PyData.canLay0] using g2, by simpa [PyData.intsShort] using g3, by simpa [PyData.showable] using g4, by simp only [PyData.depth]; omega, by simpa [PyData.weight] using g6⟩
theorem ShowOk.shows {n k : Nat} {d : D} (h : ShowOk n k d) (hn : n ≤ 60000) (hk : k ≤ 60) : ∃ s, shows d = some s := by
  obtain ⟨p, h1, h2, h3, h4, h5, h6⟩ := h
  have z := PyData.shown_le 13 (by decide) p (PyData.leavesShort_of_canLay0 13 p h2 h3)
  refine ⟨p.shown, ?_⟩
  unfold PV.shows
  rw [h1]
  simp only [Option.bind_some]
  rw [if_pos ⟨h4, h2, by omega, by unfold LIM; omega⟩]
noncomputable def F_same : DE → O := (retS (op2 eqD (callB reprD (valA (var 0) noA)) (callB reprD (valA (var 1) noA))))
noncomputable def ph_same : List Sl → FR := fnF 2 2 F_same
theorem same_ok {n k : Nat} {d : D} (h : ShowOk n k d) (hn : n ≤ 60000) (hk : k ≤ 60) : ph_same [.val d, .val d] = .ret (.bl true) [.val d, .val d] := by
  obtain ⟨s, e⟩ := h.shows hn hk
  simp (disch := first | assumption | with_reducible rfl | omega | rfl) [fnF, thenS, skipS, retS, dropS, ifS, setS, ownS, bindS, R.bind, R.of, cst, var, op2, tst, andT, orT, notT, andE, orE, notE, ifE, chn, callB, callN, valA, noA, peeks, peekA, PV.addA_int, PV.mulA_l, PV.mulA_r, PV.isub_int, PV.idiv_int, PV.imod_int, PV.ipow_int, PV.ilt_int, PV.ile_int, PV.igt_int, PV.ige_int, PV.eqD_int, PV.eqD_str, negE, lenD, max2D, min2D, ixSl, putS, mutOf, Sl.mut, Sl.wr, atI, ixN, setSl_z, setSl_v, setSl_o, setSl_x, setSl_s, Option.map_some, ixD, lstN, tupE, valsOf, ofN, MD.d, LIM, back, appS, List.getElem?_cons_zero, List.getElem?_cons_succ, callF, lend, unlend, slots, slotA, nmG, tupG, consG, nilG, listN, tupleD, ph_same, F_same, reprD, e]
end PV

/-! PV15: small steps: what each form gives, from what its parts give. -/
namespace PV
open PySem PySem.Spec PyProof.Rows L2
section
variable {δ δ1 δ2 δ3 : DE} {x y z d : D} {f fa fb fc : DE → R D} {o o' : D → D → Option D} {t t' : DE → R Bool} {g h : DE → O} {r ra : DE → R (List Arg)} {as : List Arg} {i : Nat} {m : MD} {fm : DE → R MD} {b : Bool}
theorem e_op2 (ha : fa δ = .ok x δ1) (hb : fb δ1 = .ok y δ2) (ho : o x y = some z) : op2 o fa fb δ = .ok z δ2 := by unfold op2; rw [ha]; simp only [R.bind]; rw [hb]; simp only [R.bind]; rw [ho]; rfl
theorem e_tst (hf : f δ = .ok (.bl b) δ1) : tst f δ = .ok b δ1 := by unfold tst; rw [hf]; rfl
theorem e_notT (hf : t δ = .ok b δ1) : notT t δ = .ok (!b) δ1 := by unfold notT; rw [hf]; rfl
theorem e_orT_t (hf : t δ = .ok true δ1) : orT t t' δ = .ok true δ1 := by unfold orT; rw [hf]; rfl
theorem e_orT_f (hf : t δ = .ok false δ1) : orT t t' δ = t' δ1 := by unfold orT; rw [hf]; rfl
theorem e_andT_f (hf : t δ = .ok false δ1) : andT t t' δ = .ok false δ1 := by unfold andT; rw [hf]; rfl
theorem e_andT_t (hf : t δ = .ok true δ1) : andT t t' δ = t' δ1 := by unfold andT; rw [hf]; rfl
theorem e_andE_t (hf : fa δ = .ok (.bl true) δ1) : andE fa fb δ = fb δ1 := by unfold andE; rw [hf]; rfl
theorem e_andE_f (hf : fa δ = .ok (.bl false) δ1) : andE fa fb δ = .ok (.bl false) δ1 := by unfold andE; rw [hf]; rfl
theorem e_orE_f (hf : fa δ = .ok (.bl false) δ1) : orE fa fb δ = fb δ1 := by unfold orE; rw [hf]; rfl
theorem e_orE_t (hf : fa δ = .ok (.bl true) δ1) : orE fa fb δ = .ok (.bl true) δ1 := by unfold orE; rw [hf]; rfl
theorem e_notE (hf : f δ = .ok (.bl b) δ1) : notE f δ = .ok (.bl (!b)) δ1 := by unfold notE; rw [hf]; rfl
theorem e_ifE_t (hf : t δ = .ok true δ1) : ifE t fa fb δ = fa δ1 := by unfold ifE; rw [hf]; rfl
theorem e_ifE_f (hf : t δ = .ok false δ1) : ifE t fa fb δ = fb δ1 := by unfold ifE; rw [hf]; rfl
theorem e_chn_t {w : D} (ha : fa δ = .ok x δ1) (hb : fb δ1 = .ok y δ2) (ho : o x y = some (.bl true)) (hc : fc δ2 = .ok w δ3) (ho' : o' y w = some z) : chn o o' fa fb fc δ = .ok z δ3 := by
  unfold chn; rw [ha]; simp only [R.bind]; rw [hb]; simp only [R.bind]; rw [ho]; simp only [R.of]; rw [hc]; simp only; rw [ho']
theorem e_valA (hf : f δ = .ok d δ1) (hr : r δ1 = .ok as δ2) : valA f r δ = .ok (.val d :: as) δ2 := by unfold valA; rw [hf]; simp only [R.bind]; rw [hr]
theorem e_slotA {p : Sl × MD} (hm : mutOf δ i = some p) (hr : r δ = .ok as δ2) : slotA i r δ = .ok (.slot i :: as) δ2 := by unfold slotA; rw [hm]; simp only [R.bind]; rw [hr]
theorem e_callB {ds : List D} {ob : List D → Option D} (ha : ra δ = .ok as δ1) (hp : peeks δ1 as = some ds) (ho : ob ds = some z) : callB ob ra δ = .ok z δ1 := by unfold callB; rw [ha]; simp only [R.bind]; rw [hp]; simp only; rw [ho]; rfl
theorem e_callN {ds : List D} {ob : List D → Option MD} (ha : ra δ = .ok as δ1) (hp : peeks δ1 as = some ds) (ho : ob ds = some m) : callN ob ra δ = .ok m δ1 := by unfold callN; rw [ha]; simp only [R.bind]; rw [hp]; simp only; rw [ho]; rfl
theorem e_callF {φ : List Sl → FR} {ss ss' : List Sl} (ha : ra δ = .ok as δ1) (hn : (slots as).Nodup) (hl : lend δ1 as = some ss) (hφ : φ ss = .ret d ss') (hu : unlend δ1 as ss' = δ2 := by rfl) : callF φ ra δ = .ok d δ2 := by
  subst hu
  unfold callF; rw [ha]; simp only [R.bind]; rw [if_pos hn, hl]; simp only; rw [hφ]
theorem e_tupE {ds : List D} (ha : ra δ = .ok as δ1) (hv : valsOf as = some ds) (hl : ds.length ≤ LIM := by simp [LIM]) : tupE ra δ = .ok (.tup ds) δ1 := by unfold tupE; rw [ha]; simp only [R.bind]; rw [hv]; simp only; rw [if_pos hl]
theorem e_lstN {ds : List D} (ha : ra δ = .ok as δ1) (hv : valsOf as = some ds) (hl : ds.length ≤ LIM := by simp [LIM]) : lstN ra δ = .ok (.lst ds) δ1 := by unfold lstN; rw [ha]; simp only [R.bind]; rw [hv]; simp only; rw [if_pos hl]
theorem e_ofN (hm : fm δ = .ok m δ1) : ofN fm δ = .ok m.d δ1 := by unfold ofN; rw [hm]; rfl
theorem e_then (hg : g δ = .nx δ1) : thenS g h δ = h δ1 := by unfold thenS; rw [hg]
theorem e_ret (hf : f δ = .ok d δ1) : retS f δ = .ret d δ1 := by unfold retS; rw [hf]; rfl
theorem e_drop (hf : f δ = .ok d δ1) : dropS f δ = .nx δ1 := by unfold dropS; rw [hf]; rfl
theorem e_if_t (hf : t δ = .ok true δ1) : ifS t g h δ = g δ1 := by unfold ifS; rw [hf]; rfl
theorem e_if_f (hf : t δ = .ok false δ1) : ifS t g h δ = h δ1 := by unfold ifS; rw [hf]; rfl
theorem e_set (hf : f δ = .ok d δ1) (hs : setSl i (.val d) δ1 = some δ2) : setS i f δ = .nx δ2 := by unfold setS; rw [hf]; simp only [bindS]; rw [hs]
theorem e_own (hf : fm δ = .ok m δ1) (hs : setSl i (.own m) δ1 = some δ2) : ownS i fm δ = .nx δ2 := by unfold ownS; rw [hf]; simp only [bindS]; rw [hs]
theorem e_app {s s' : Sl} {l l' : List D} (h0 : mutOf δ i = some (s', .lst l')) (hf : f δ = .ok d δ1) (h1 : mutOf δ1 i = some (s, .lst l)) (hl : l.length < LIM) : appS i f δ = .nx (δ1.set i (some (s.wr (.lst (l ++ [d]))))) := by
  unfold appS; rw [h0]; simp only; rw [hf]; simp only [bindS]; rw [h1]; simp only; rw [if_pos hl]
theorem e_for {fi : DE → R (List D)} {tg : D → DE → Option DE} {ds : List D} (hf : fi δ = .ok ds δ1) : forS fi tg g δ = loopF tg g ds δ1 := by unfold forS; rw [hf]; rfl
theorem e_seq {l : List D} (hf : f δ = .ok (.lst l) δ1) : seqE f δ = .ok l δ1 := by unfold seqE; rw [hf]; rfl
theorem e_seqT {l : List D} (hf : f δ = .ok (.tup l) δ1) : seqE f δ = .ok l δ1 := by unfold seqE; rw [hf]; rfl
theorem e_rng1 {j : Int} (ha : ra δ = .ok [.val (.int j)] δ1) (h1 : j < 2 ^ 62) (h2 : -(2 ^ 62) ≤ j) : rng1 ra δ = .ok ((List.range j.toNat).map fun i => .int ((0 : Int) + (i : Nat))) δ1 := by
  unfold rng1; rw [ha]; simp only [R.bind]; rw [if_pos ⟨h1, h2⟩]
theorem e_enumT {l : List D} (ha : ra δ = .ok [.val (.tup l)] δ1) : enumE ra δ = .ok (pairsD l) δ1 := by unfold enumE; rw [ha]; rfl
theorem e_enumL {l : List D} (ha : ra δ = .ok [.val (.lst l)] δ1) : enumE ra δ = .ok (pairsD l) δ1 := by unfold enumE; rw [ha]; rfl
theorem e_parVN {j : Nat} (hf : f δ = .ok d δ1) (hm : fm δ1 = .ok m δ2) (h1 : setSl i (.val d) δ2 = some δ3) {δ4 : DE} (h2 : setSl j (.own m) δ3 = some δ4) : parVN i j f fm δ = .nx δ4 := by
  unfold parVN; rw [hf]; simp only [bindS]; rw [hm]; simp only; rw [h1]; simp only; rw [h2]
theorem e_fn {n N : Nat} {as : List Sl} (hl : as.length = n) (hg : g (as.map some ++ List.replicate (N - n) none) = .ret d δ1) : fnF n N g as = .ret d (back as δ1) := by unfold fnF; rw [if_pos hl, hg]
theorem e_fnN {n N : Nat} {as : List Sl} (hl : as.length = n) (hg : g (as.map some ++ List.replicate (N - n) none) = .nx δ1) : fnF n N g as = .ret .non (back as δ1) := by unfold fnF; rw [if_pos hl, hg]
theorem e_put {s : Sl} {l : List D} {k : Int} {j : Nat} {fk : DE → R D} {p : Sl × MD} (hf : f δ = .ok d δ1) (h0 : mutOf δ1 i = some p) (hk : fk δ1 = .ok (.int k) δ2) (h1 : mutOf δ2 i = some (s, .lst l)) (hj : ixN l.length k = some j) : putS i fk f δ = .nx (δ2.set i (some (s.wr (.lst (l.set j d))))) := by
  unfold putS; rw [hf]; simp only [bindS]; rw [h0]; simp only; rw [hk]; simp only; rw [h1]; simp only; rw [hj]
theorem e_ixSl {s : Sl} {l : List D} {k : Int} {p : Sl × MD} (h0 : mutOf δ i = some p) (hk : fb δ = .ok (.int k) δ1) (h1 : mutOf δ1 i = some (s, .lst l)) (ha : L2.atI l k = some d) : ixSl i fb δ = .ok d δ1 := by
  unfold ixSl; rw [h0]; simp only; rw [hk]; simp only [R.bind]; rw [h1]; simp only; rw [ha]; rfl
end
theorem atI_nat {α : Type} {l : List α} {k : Nat} {d : α} (h : l[k]? = some d) : L2.atI l (k : Int) = some d := by
  have hk := (List.getElem?_eq_some_iff.mp h).1
  unfold L2.atI L2.ixN
  rw [if_pos (by omega), if_pos (by omega)]
  exact h
theorem ixN_nat {n k : Nat} (h : k < n) : L2.ixN n (k : Int) = some k := by
  unfold L2.ixN
  rw [if_pos (by omega), if_pos (by omega), Int.toNat_natCast]
end PV

/-! PV16: plain facts on lists of whole numbers, enumerations, comprehensions with a test. -/
namespace PV
open PySem PySem.Spec PyProof.Rows L2
theorem lcLoop_fm {t : D → DE → Option DE} {cond : DE → R Bool} {elt : DE → R D} {vs : List Nat} {δw : DE} (q : D → Option D) :
    ∀ (ds : List D) (acc : List D), acc.length + ds.length ≤ LIM → (∀ d ∈ ds, ∃ δ1, t d δw = some δ1 ∧ ((q d = none ∧ ∃ δ2, cond δ1 = .ok false δ2 ∧ wipeD δ2 vs = some δw) ∨
      ∃ y δ2 δ3, q d = some y ∧ cond δ1 = .ok true δ2 ∧ elt δ2 = .ok y δ3 ∧ wipeD δ3 vs = some δw)) → lcLoop t cond elt vs ds δw acc = .ok (acc ++ ds.filterMap q) δw
  | [], acc, _, _ => by unfold lcLoop; rw [List.filterMap_nil, List.append_nil]
  | d :: ds, acc, hl, h => by
    obtain ⟨δ1, e1, k⟩ := h d List.mem_cons_self
    rw [List.length_cons] at hl
    rcases k with ⟨q1, δ2, e2, e3⟩ | ⟨y, δ2, δ3, q1, e2, e3, e4⟩
    · have ih := lcLoop_fm q ds acc (by omega) fun d hd => h d (List.mem_cons_of_mem _ hd)
      unfold lcLoop
      simp [e1, R.calm, R.bind, e2, e3, ih, q1]
    · have ih := lcLoop_fm q ds (acc ++ [y]) (by rw [List.length_append, List.length_singleton]; omega) fun d hd => h d (List.mem_cons_of_mem _ hd)
      unfold lcLoop
      simp [e1, R.calm, R.bind, e2, e3, show acc.length < LIM by omega, e4, ih, q1]
theorem lc_fm {f : DE → R (List D)} {t : D → DE → Option DE} {cond : DE → R Bool} {elt : DE → R D} {vs : List Nat} {δ δ0 δw : DE} {ds : List D} (q : D → Option D) (hf : f δ = .ok ds δ0) (hw : wipeD δ0 vs = some δw) (hl : ds.length ≤ LIM)
    (h : ∀ d ∈ ds, ∃ δ1, t d δw = some δ1 ∧ ((q d = none ∧ ∃ δ2, cond δ1 = .ok false δ2 ∧ wipeD δ2 vs = some δw) ∨
      ∃ y δ2 δ3, q d = some y ∧ cond δ1 = .ok true δ2 ∧ elt δ2 = .ok y δ3 ∧ wipeD δ3 vs = some δw)) : lcN f t cond elt vs δ = .ok (.lst (ds.filterMap q)) (unwipe δ0 δw vs) := by
  unfold lcN
  simp [hf, R.bind, hw, lcLoop_fm q ds [] (by simpa using hl) h]
theorem pairs_at0 {l : List D} {k : Nat} {d : D} (h : (pairsD l)[k]? = some d) : ∃ x, l[k]? = some x ∧ d = .tup [.int k, x] := by
  unfold pairsD at h
  rw [List.getElem?_zipWith] at h
  have hk : k < l.length := by
    by_cases hk : k < l.length
    · exact hk
    · rw [List.getElem?_eq_none (l := l) (by omega)] at h
      split at h <;> simp_all
  rw [List.getElem?_range hk, List.getElem?_eq_getElem hk] at h
  exact ⟨_, List.getElem?_eq_getElem hk, (Option.some.inj h).symm⟩
theorem pairs_at {l : List D} {k : Nat} {x : D} (h : l[k]? = some x) : (pairsD l)[k]? = some (.tup [.int k, x]) := by
  have hk := (List.getElem?_eq_some_iff.mp h).1
  unfold pairsD
  rw [List.getElem?_zipWith, List.getElem?_range hk, h]
theorem ints_of : ∀ (l : List Int), intsOf (l.map D.int) = some l
  | [] => rfl
  | x :: l => by show (intsOf (l.map D.int)).map _ = _; rw [ints_of l]; rfl
theorem maxLD_ints {l : List Int} (h : l ≠ []) : maxLD [.lst (l.map D.int)] = some (.int (maxI l)) := by
  show (intsOf (l.map D.int)).bind _ = _
  rw [ints_of]
  show (if l = [] then none else some (D.int (maxI l))) = _
  rw [if_neg h]
theorem minLD_ints {l : List Int} (h : l ≠ []) : minLD [.lst (l.map D.int)] = some (.int (minI l)) := by
  show (intsOf (l.map D.int)).bind _ = _
  rw [ints_of]
  show (if l = [] then none else some (D.int (minI l))) = _
  rw [if_neg h]
theorem sumLD_ints {l : List Int} : sumLD [.lst (l.map D.int)] = some (.int l.sum) := by
  show (intsOf (l.map D.int)).map _ = _
  rw [ints_of]; rfl
theorem bls_of : ∀ (l : List Bool), blsOf (l.map D.bl) = some l
  | [] => rfl
  | x :: l => by show (blsOf (l.map D.bl)).map _ = _; rw [bls_of l]; rfl
theorem allD_bls {l : List Bool} : allD [.lst (l.map D.bl)] = some (.bl (l.all id)) := by
  show (blsOf (l.map D.bl)).map _ = _
  rw [bls_of]; rfl
theorem anyD_bls {l : List Bool} : anyD [.lst (l.map D.bl)] = some (.bl (l.any id)) := by
  show (blsOf (l.map D.bl)).map _ = _
  rw [bls_of]; rfl
theorem flats_ints : ∀ (l : List Int), flats (l.map D.int) = some (l.map V.int)
  | [] => rfl
  | x :: l => by show (some (V.int x)).bind _ = _; rw [flats_ints l]; rfl
theorem inV_int {k : Int} : ∀ {l : List Int}, inV (.int k) (l.map V.int) = decide (k ∈ l) := by
  intro l
  unfold inV
  induction l with
  | nil => simp
  | cons x l ih =>
    rw [List.map_cons, List.any_cons, ih]
    show (eqV (V.int x) (V.int k) || _) = _
    unfold eqV
    by_cases h : x = k
    · subst h; simp
    · have h' : ¬ k = x := fun e => h e.symm
      simp [h, h']
theorem inF_int {k : Int} {l : List Int} : inF false (.int k) (.lst (l.map D.int)) = some (.bl (decide (k ∈ l))) := by
  unfold inF
  show (match some (V.int k), flats (l.map D.int) with | some u, some us => _ | _, _ => none) = _
  rw [flats_ints]
  show some (D.bl (if false = true then !inV (V.int k) (l.map V.int) else inV (V.int k) (l.map V.int))) = _
  rw [if_neg Bool.false_ne_true, inV_int]
theorem maxI_le {l : List Int} {b : Int} (hn : l ≠ []) (h : ∀ x ∈ l, x ≤ b) : maxI l ≤ b := h _ (by
  induction l with
  | nil => exact absurd rfl hn
  | cons x l ih => cases l with
    | nil => exact List.mem_cons_self
    | cons y r =>
      show max x (maxI (y :: r)) ∈ _
      rcases Int.le_total x (maxI (y :: r)) with q | q
      · rw [Int.max_eq_right q]; exact List.mem_cons_of_mem _ (ih (by simp) fun z hz => h z (List.mem_cons_of_mem _ hz))
      · rw [Int.max_eq_left q]; exact List.mem_cons_self)
theorem le_maxI {l : List Int} {x : Int} (h : x ∈ l) : x ≤ maxI l := by
  induction l with
  | nil => cases h
  | cons y l ih => cases l with
    | nil => rw [List.mem_singleton.mp h]; exact Int.le_refl _
    | cons z r =>
      show x ≤ max y (maxI (z :: r))
      rcases List.mem_cons.mp h with q | q
      · omega
      · have := ih q; omega
theorem maxI_snoc {l : List Int} {x : Int} (h : l ≠ []) : maxI (l ++ [x]) = max (maxI l) x := by
  induction l with
  | nil => exact absurd rfl h
  | cons y l ih => cases l with
    | nil => rfl
    | cons z r =>
      show max y (maxI (z :: (r ++ [x]))) = max (max y (maxI (z :: r))) x
      have e : maxI (z :: (r ++ [x])) = max (maxI (z :: r)) x := ih (by simp)
      rw [e]; omega
theorem ne_nil_ints (l : List Int) : neD (.lst (l.map D.int)) (.lst []) = some (.bl (decide (l ≠ []))) := by
  have hp : ∀ l : List Int, ∃ ps, D.pys (l.map D.int) = some ps ∧ PyData.canLayAll0 ps = true ∧ PyData.depthAll ps = 0 ∧ ps.length = l.length := by
    intro l
    induction l with
    | nil => exact ⟨[], by unfold D.pys; rfl, by simp [PyData.canLayAll0], by simp [PyData.depthAll], rfl⟩
    | cons x l ih =>
      obtain ⟨ps, h1, h2, h3, h4⟩ := ih
      exact ⟨.int x :: ps, by rw [List.map_cons]; unfold D.pys; rw [h1]; unfold D.py; rfl, by simp [PyData.canLayAll0, PyData.canLay0, h2], by simp [PyData.depthAll, PyData.depth, h3], by simp [h4]⟩
  obtain ⟨ps, h1, h2, h3, h4⟩ := hp l
  have e1 : D.py (.lst (l.map D.int)) = some (.list ps) := by unfold D.py; rw [h1]; rfl
  have e2 : D.py (.lst []) = some (.list []) := by unfold D.py D.pys; rfl
  have s1 : SeqAt.shaped (.list ps) = true := by unfold SeqAt.shaped; simp [PyData.canLay0, h2, PyData.depth, h3]
  have s2 : SeqAt.shaped (.list []) = true := by decide +kernel
  have q : eqP (.lst (l.map D.int)) (.lst []) = some (PyData.eqv (.list ps) (.list [])) := by
    unfold eqP; rw [e1, e2]; simp only; rw [if_pos ⟨s1, s2⟩]
  show ((none : Option Bool).or (eqP (.lst (l.map D.int)) (.lst []))).map _ = _
  rw [q]
  cases l with
  | nil =>
    cases ps with
    | nil => simp [PyData.eqv, PyData.eqvAll]
    | cons p ps => simp at h4
  | cons x l =>
    cases ps with
    | nil => simp at h4
    | cons p ps => simp [PyData.eqv, PyData.eqvAll]
theorem lmul_one {d : D} {c : Nat} (h : c ≤ 1000) : lmul (.lst [d]) (.int c) = some (.lst (List.replicate c d)) := by
  show (if 0 ≤ (c : Int) ∧ (c : Int) ≤ 1000 ∧ [d].length ≤ 1000 then some (D.lst (List.replicate (c : Int).toNat [d]).flatten) else none) = _
  rw [if_pos ⟨by omega, by omega, by simp⟩, Int.toNat_natCast]
  congr 2
  induction c with
  | zero => rfl
  | succ c ih => rw [List.replicate_succ, List.flatten_cons, ih (by omega), List.replicate_succ]; rfl
end PV
namespace PV
open PySem PySem.Spec PyProof.Rows L2
/-- a slot without an object -/
def nv : Option Sl → Bool
  | none => true
  | some (.val _) => true
  | _ => false
theorem nv_nb {x : Option Sl} (h : nv x = true) : nb x = true := by
  cases x with
  | none => rfl
  | some s => cases s <;> first | rfl | cases h
theorem nv_mut {s : Sl} {m : MD} (h : nv (some s) = true) (g : s.mut = some m) : False := by
  cases s <;> first | cases h; done | cases g
theorem flat_ints (l : List Int) : MD.flat (.lst (l.map D.int)) = true := by
  show (flats (l.map D.int)).isSome = true
  rw [flats_ints]; rfl
theorem e_thaw {j : Nat} {f : DE → R MD} {δ : DE} {m m' : MD} (hj : δ[j]? = some (some (.own m))) (hf : f (δ.set j (some (.val m.d))) = .ok m' (δ.set j (some (.val m.d)))) (h1 : m'.flat = true) (h2 : flatEnv δ) : thawN j f δ = .ok m' δ := by
  unfold thawN
  rw [hj]
  simp only
  rw [hf]
  simp only
  rw [if_pos ⟨rfl, h1, h2⟩]
theorem pairs_ints (l : List Int) : pairsD (l.map D.int) = (List.range l.length).map fun k => .tup [.int (k : Nat), .int (l.getD k 0)] := by
  apply List.ext_getElem?
  intro k
  by_cases hk : k < l.length
  · rw [pairs_at (x := .int (l.getD k 0)), List.getElem?_map, List.getElem?_range hk]
    · rfl
    · rw [List.getElem?_map, List.getElem?_eq_getElem hk]; simp [hk]
  · rw [List.getElem?_eq_none (by rw [pairs_len, List.length_map]; omega), List.getElem?_eq_none (by rw [List.length_map, List.length_range]; omega)]
/-- every slot of a list is without an object, or its object is flat -/
theorem flatEnv_of {δ : DE} (h : ∀ x ∈ δ, nv x = true ∨ ∃ (s : Sl) (l : List Int), x = some s ∧ s.mut = some (.lst (l.map D.int))) : flatEnv δ := fun i s m e g => by
  rcases h _ (List.mem_of_getElem? e) with q | ⟨s', l, q, q2⟩
  · exact (nv_mut q g).elim
  · cases q
    rw [q2] at g; cases g
    exact flat_ints l
end PV
theorem PV.ixD_head {x : PV.D} {l : List PV.D} : PV.ixD (.lst (x :: l)) (.int 0) = some x := PV.atI_nat (k := 0) rfl
theorem PV.e_lrg1 {f : PV.DE → PV.R PV.D} {δ δ1 : PV.DE} {n : Nat} (h : f δ = .ok (.int n) δ1) (hn : n ≤ 10000) : PV.lrg1 f δ = .ok (.lst (((List.range n).map fun i => ((i : Nat) : Int)).map PV.D.int)) δ1 := by
  unfold PV.lrg1
  rw [h]
  simp only [PV.R.bind]
  rw [if_pos (by omega), Int.toNat_natCast, List.map_map]
  rfl

/-! PV17: exceptions of own classes: raise, try with clauses. -/
namespace PV
open PySem PySem.Spec PyProof.Rows L2
variable [Tbl]

def raiseS (n : Str) : DE → O := fun δ => .exc ⟨n, []⟩ δ
/-- who catches: em tells whether an exception of the first class is one of the second -/
def catchF (em : Str → Str → Option Bool) (x : XD) (δ : DE) : List (Str × (DE → O)) → O
  | [] => .exc x δ
  | (n, h) :: r => match em x.c n with
    | some true => h δ
    | some false => catchF em x δ r
    | none => .stuck
def tryS (em : Str → Str → Option Bool) (g : DE → O) (hs : List (Str × (DE → O))) : DE → O := fun δ => match g δ with
  | .exc x δ1 => catchF em x δ1 hs
  | o => o
def EmOk (K : PySem.W.Frag) (em : Str → Str → Option Bool) : Prop := ∀ n m b C C', em n m = some b → ClsIs K n C → ClsIs K m C' → PySem.W.exmOne K C C' = some b
inductive VHds (X : Cx) (W : WX) : List ExceptHandler → List (Str × (DE → O)) → List (Value × (Addr → Value → Option Addr → TS)) → Prop
  | nil : VHds X W [] [] []
  | cons {x : Str} {c : Value} {g : DE → O} {b₀ : Stmt} {suite : List Stmt} {np pos' : Pos} {hds : List ExceptHandler} {l : List (Str × (DE → O))} {l' : List (Value × (Addr → Value → Option Addr → TS))} (hc : Names X x c) (hk : ClsIs X.K x c)
      (hsu : ∀ (a : Addr) (pn : List (Addr × Obj)), VSs (X.suite a pn) W (b₀ :: suite) g) (r : VHds X W hds l l') :
      VHds X W (.ExceptHandler (some (.Name x np)) none (b₀ :: suite) pos' :: hds) ((x, g) :: l) ((c, fun _ _ _ => rdS X.K W g) :: l')
theorem VHds.ok {X : Cx} {W : WX} : ∀ {hds : List ExceptHandler} {l : List (Str × (DE → O))} {l' : List (Value × (Addr → Value → Option Addr → TS))}, VHds X W hds l l' → HdsOk X hds l'
  | _, _, _, .nil => .nil
  | _, _, _, .cons hc _ hsu r => .cons hc (fun a oe cls d pn _ _ => hsu a ((a, oe) :: pn)) r.ok
section
variable {X : Cx} {W : WX}
theorem vs_raise {B newId initId : String} {bmB : List Value} {C : Addr} {x m : Str} {j : Nat} {p p2 pos pos' : Pos} (hc : X.calm = true) (tk : Takes X W) (F : ExcBaseFacts B newId initId bmB) (q : PySem.W.excIn X.K C bmB newId = true) (gC : X.mg x = some (.ref C)) (kC : PySem.W.keepIn X.K (.ref C) = true)
    (b : PySem.W.subIn X.K (.ref C) (.type "BaseException") = some true) (t : PySem.W.typeIn X.K (.ref C) = some (.type "type")) (nC : PySem.W.nsIn X.K mainGlobals x = some (some (.ref C))) (hg : Gl X x) (hdb : (x == ("__debug__" : Str)) = false := by decide) :
    VS X W (.Raise (some (.Call (.Name x p) [.Constant (.str m) j p2] [] pos)) none pos') (raiseS x) := PS.to (ps_raise hc tk (pmk_own F q gC kC (raises_own b t) hg hdb)) fun N σ H z => by
  obtain ⟨c, F1, δ, r, z⟩ := z
  exact z (.ref C) none σ F1 H r (.refl _) ⟨.inl nC, rfl⟩
theorem catch_rd {K : PySem.W.Frag} {em : Str → Str → Option Bool} (he : EmOk K em) {x : XD} {N : Ends} {c : Cq} {F' H' : Hp} {σ' : L2.St} {δ1 : DE} {cls : Value} {od : Option Addr} (r' : Rel K c F' H' σ' δ1) (xo : XOk K F' H' x cls od) :
    ∀ {X : Cx} {hds : List ExceptHandler} {l : List (Str × (DE → O))} {l' : List (Value × (Addr → Value → Option Addr → TS))}, X.K = K → VHds X W hds l l' → aftS K W N c F' (catchF em x δ1 l) → wMany K W N l' cls od σ' H'
  | _, _, _, _, _, .nil, z => z cls od σ' F' H' r' (.refl _) xo
  | X, _, _, _, ek, .cons (x := n) (c := cc) (g := g) hc hk hsu rr, z => by
    unfold catchF at z
    cases q : em x.c n with
    | none => rw [q] at z; exact False.elim z
    | some b =>
      rw [q] at z
      refine ⟨b, he _ _ _ _ _ q xo.1 (ek ▸ hk), fun hb a ha => ?_, fun hb => ?_⟩
      · subst hb
        rw [ek]
        exact ⟨c, F', δ1, r', z⟩
      · subst hb
        exact catch_rd he r' xo ek rr z
theorem vs_try {em : Str → Str → Option Bool} {body : List Stmt} {h₀ : ExceptHandler} {hds : List ExceptHandler} {g : DE → O} {l : List (Str × (DE → O))} {l' : List (Value × (Addr → Value → Option Addr → TS))} {pos : Pos} (he : EmOk X.K em) (hs : X.stack = X.env :: X.outer) (hf : X.env.frame = some X.env.locals) (tk : Takes X W)
    (hb : ∀ (W' : WX) (pn : List (Addr × Obj)) (xe : Value → Shared → Prop), Takes (X.tr pn xe) W' → VSs (X.tr pn xe) W' body g) (hh : VHds X W (h₀ :: hds) l l') : VS X W (.Try body (h₀ :: hds) [] [] pos) (tryS em g l) :=
  PS.to (ps_try_many (tb := fun W' => rdS X.K W' g) hs hf tk (fun W' pn xe tk' _ => hb W' pn xe tk') hh.ok) fun N σ H z => by
    obtain ⟨c, F, δ, r, z⟩ := z
    refine ⟨c, F, δ, r, ?_⟩
    unfold tryS at z
    cases q : g δ with
    | nx δ1 => rw [q] at z; exact z
    | ret d δ1 => rw [q] at z; exact z
    | brk δ1 => rw [q] at z; exact z
    | cnt δ1 => rw [q] at z; exact z
    | stuck => rw [q] at z; exact z
    | exc x δ1 =>
      rw [q] at z
      intro cls od σ' F' H' r' s' xo
      exact catch_rd he r' xo rfl hh (z.up s')
end
end PV

/-! PV18: a lambda handed to a def that calls it under try and tells the error's kind. -/
namespace PV
open PySem PySem.Spec PyProof.Rows L2 LamX
variable [Tbl]

/-- said(lambda: f): f's value, or the word of the first clause that takes the error -/
def saidCatch (em : Str → Str → Option Bool) (x : XD) (δ : DE) : List (Str × D) → R D
  | [] => .stuck
  | (n, s) :: r => match em x.c n with
    | some true => .ok s δ
    | some false => saidCatch em x δ r
    | none => .stuck
def saidE (em : Str → Str → Option Bool) (f : DE → R D) (hs : List (Str × D)) : DE → R D := fun δ => match f δ with
  | .exc x δ1 => saidCatch em x δ1 hs
  | o => o
/-- what the clauses make of an error -/
def tellW (K : PySem.W.Frag) (Q : VK) : List (Value × V) → Value → Hp → Prop
  | [], _, _ => False
  | (c, s) :: r, cls, H => ∃ b, PySem.W.exmOne K cls c = some b ∧ (b = true → Q s H) ∧ (b = false → tellW K Q r cls H)
def TTm (K : PySem.W.Frag) (l : List (Value × V)) : (XK → Hp → VK → Prop) → Hp → VK → Prop := fun tl H Q => tl (fun cls _ H' => tellW K Q l cls H') H Q
inductive SaidHds (K : PySem.W.Frag) (sg : Scope) (mg : Str → Option Value) : List ExceptHandler → List (Str × D) → List (Value × V) → Prop
  | nil : SaidHds K sg mg [] [] []
  | cons {e : Str} {s : D} {u : V} {ce : Expr} {c : Value} {p4 p6 p7 : Pos} {hds : List ExceptHandler} {ns : List (Str × D)} {l : List (Value × V)} (hge : sg.names.lookup e = some .globalImplicit) (hme : mg e = some c) (hkc : ClsIs K e c) (hde : (e == ("__debug__" : Str)) = false) (hpe : ∀ Z : Cx, PE Z ce (tC u)) (hden : ∀ F, Den K F s u) (r : SaidHds K sg mg hds ns l) :
      SaidHds K sg mg (.ExceptHandler (some (.Name e p4)) none [.Return (some ce) p6] p7 :: hds) ((e, s) :: ns) ((c, u) :: l)
theorem SaidHds.ok {Z : Cx} : ∀ {hds : List ExceptHandler} {ns : List (Str × D)} {l : List (Value × V)}, SaidHds Z.K Z.env.scope Z.mg hds ns l → HdsOk Z hds (l.map fun q => (q.1, fun _ _ _ => tRet (tC q.2)))
  | _, _, _, .nil => .nil
  | _, _, _, .cons hge hme hkc hde hpe hden r => .cons ⟨hge, hde, .inl hme⟩ (fun a oe cls d pn _ _ => pss_one (ps_ret (hpe _))) r.ok
theorem tell_many {K : PySem.W.Frag} {D : Ends} {cls : Value} {d : Option Addr} {σ : L2.St} {H : Hp} : ∀ {l : List (Value × V)}, tellW K D.rt l cls H → wMany K (fun _ _ _ _ => False) D (l.map fun q => (q.1, fun _ _ _ => tRet (tC q.2))) cls d σ H
  | [], h => h.elim
  | (c, s) :: r, ⟨b, e1, e2, e3⟩ => ⟨b, e1, fun hb a _ => e2 hb, fun hb => tell_many (e3 hb)⟩
theorem many_gives {X : Cx} {Ng : List Str} {x a q : Str} {sg : Scope} {g : Addr} {cdg : Value} {p1 p2 p3 p8 : Pos} {h₀ : ExceptHandler} {hds : List ExceptHandler} {ns : List (Str × D)} {l : List (Value × V)} (hh : SaidHds X.K sg X.mg (h₀ :: hds) ns l) (h0 : ∀ f : Addr, (L2.start Ng [V.ref f])[0]? = some (some (V.ref f))) :
    GivesTo X Ng x sg g cdg [.Try [.Return (some (.Call (.Name a p1) [] [] p2)) p3] (h₀ :: hds) [] [] p8] a q (TTm X.K l) := by
  intro f c' s H Q tl act hc h
  refine ⟨_, pss_one (ps_try_many (X := (cxOf C8.CX0 X.prog X.w X.K X.mg X.base Ng x sg g cdg X.A X.stack s H C8.E0).nox)
      (tb := fun W D σ H => ∃ Ech : XK, (∀ cls d σ' H', Ech cls d H' → W cls d σ' H') ∧ σ[0]? = some (some (.ref f)) ∧ H c' = some (CodeO c' q) ∧ tl Ech H D.rt)
      rfl rfl LamX.takes0 (fun W pn xe tk _ => ?_) (SaidHds.ok hh)), ?_⟩
  · refine ⟨fun pins s' σ H' D I h' => ?_⟩
    obtain ⟨Ech, hW, h1, h2, h3⟩ := h'
    have hp := pss_one (ps_ret (pos := p3) (act W pn xe Ech p1 p2 tk hW))
    exact hp.run pins s' σ H' D I ⟨h1, h2, h3⟩
  · exact ⟨fun cls _ H' => tellW X.K Q l cls H', fun cls d σ' H' z => tell_many z, h0 f, hc, h⟩
theorem tell_rd {K : PySem.W.Frag} {em : Str → Str → Option Bool} (he : EmOk K em) {sg : Scope} {mg : Str → Option Value} {x : XD} {cls : Value} {od : Option Addr} {F H : Hp} {W : WX} {c : Cq} {σ : L2.St} {δ : DE} {Q : VK} (r : Rel K c F H σ δ) (xo : XOk K F H x cls od) :
    ∀ {hds : List ExceptHandler} {ns : List (Str × D)} {l : List (Value × V)}, SaidHds K sg mg hds ns l → aft K W (dnE K) c F σ Q (saidCatch em x δ ns) → tellW K Q l cls H
  | _, _, _, .nil, z => z.elim
  | _, _, _, .cons (e := e) (s := s) (u := u) (c := cc) hge hme hkc hde hpe hden rr, z => by
    unfold saidCatch at z
    cases q : em x.c e with
    | none => rw [q] at z; exact z.elim
    | some b =>
      rw [q] at z
      refine ⟨b, he _ _ _ _ _ q xo.1 hkc, fun hb => ?_, fun hb => ?_⟩
      · subst hb
        exact z u F H r (.refl _) (hden F)
      · subst hb
        exact tell_rd he r xo rr z
section
variable {X : Cx} {W : WX}
theorem rd_said {em : Str → Str → Option Bool} (he : EmOk X.K em) {sg : Scope} {f : DE → R D} {hds : List ExceptHandler} {ns : List (Str × D)} {l : List (Value × V)} (hh : SaidHds X.K sg X.mg hds ns l) {σ : L2.St} {H : Hp} {Q : VK}
    (z : rdE X.K W (saidE em f ns) σ H Q) : tLam Tbl.T (TTm X.K l) (fun E => rdE X.K (wE E) f) σ H Q := by
  obtain ⟨c, F, δ, r, z⟩ := z
  refine ⟨r.tab.tabs, fun H1 e1 t1 => ?_⟩
  have r1 := r.extN e1 t1
  refine ⟨c, F, δ, r1, ?_⟩
  unfold saidE at z
  cases q : f δ with
  | ok d δ1 => rw [q] at z; exact z
  | stuck => rw [q] at z; exact z
  | exc x δ1 =>
    rw [q] at z
    intro cls od F' H' r' s' xo
    exact tell_rd he r' xo hh (aft.mono z s' fun _ _ h => h)
theorem ve_said {x a : Str} {g c P : Addr} {fd : FuncData} {st : Stmt} {k : Nat} {Ng : List Str} {em : Str → Str → Option Bool} {params : Arguments} {body : Expr} {scope : Scope} {f : DE → R D} {p lpos pos p1 p2 p3 p8 : Pos} {h₀ : ExceptHandler} {hds : List ExceptHandler} {ns : List (Str × D)} {l : List (Value × V)}
    (he : EmOk X.K em) (F : Fun X.K x x st g fd) (hbg : defBody st = [.Try [.Return (some (.Call (.Name a p1) [] [] p2)) p3] (h₀ :: hds) [] [] p8]) (hh : SaidHds X.K (defScope st) X.mg (h₀ :: hds) ns l) (h0 : ∀ f : Addr, (L2.start Ng [V.ref f])[0]? = some (some (V.ref f)))
    (hg : Gl X x) (hm : X.mg x = some (.ref g)) (hb : L2.Binds X.K fd [a] []) (Sg : FnScope Ng [a] (defScope st)) (hNg : Ng[0]? = some a) (hva : Vis (defScope st) a)
    (TB : TabB X.base X.mg c P) (hcode : X.env.code = .ref c) (hmT : (P, X.env.qual ++ "<lambda>") ∈ Tbl.T) (hu : ∀ p ∈ Tbl.T, p.1 = P → p.2 = X.env.qual ++ "<lambda>") (hr : Room (k + 2) X.A) (L : LamS X.env.scope scope) (hdef : defaultsOf params X.env = ([], []))
    (hbind : ∀ (q : Str) (cl : List (Str × Addr)) (pm cv ctv : Value), bindArgs (PySem.W.kla_fn "<lambda>" q params body scope cl pm cv ctv) ⟨[], []⟩ = pure [])
    (hbody : ∀ (A : Around) (outer : List Env) (s : Shared) (H : Hp) (E : XK) (f' c' : Addr), Room k (A.deeper (lamEnv X scope s.heap.objs.size f' c')) → VE (lamCx X A outer s H E scope f' c') (wE E) body f)
    (hdb : (x == ("__debug__" : Str)) = false := by decide) (hd : (a == ("__debug__" : Str)) = false := by decide) (hcd : (a == ("__classdict__" : Str)) = false := by decide) :
    VE X W (.Call (.Name x p) [.Lambda params body scope lpos] [] pos) (saidE em f ns) := by
  have hk := F.kp
  obtain ⟨oc, od, kV, doc, pm, an, cd, ct, osl, rfl, lk, hc⟩ := F.ex
  exact PE.to (pe_lamcall (T := Tbl.T) (TT := TTm X.K l) (t := fun E => rdE X.K (wE E) f) hg hm hk lk hc hb Sg hNg hva (by rw [hbg]; exact many_gives hh h0) TB hcode hmT hu hr L hdef hbind (fun A outer s H E f' c' hr' => hbody A outer s H E f' c' hr') hdb hd hcd) fun σ H Q z => rd_said he hh z
end
end PV
namespace PV
open PySem PySem.Spec PyProof.Rows L2 LamX
theorem tab_code {K : PySem.W.Frag} {x : Str} {f c P : Addr} {oc : Value} {od : Option Addr} {fd : FuncData} {sl : Array (Option Value)} (a : PySem.W.nsIn K mainGlobals x = some (some (.ref f))) (l : K.lookup f = some ⟨oc, od, .func fd, sl⟩) (t : PySem.W.tabIn K x = some (c, P)) : fd.code = .ref c := by
  unfold PySem.W.tabIn at t
  rw [a] at t
  simp only at t
  rw [l] at t
  simp only at t
  split at t
  · rename_i c' hc
    split at t
    · split at t
      · cases t; exact hc
      · cases t
    · cases t
  · cases t
end PV

/-! PV19: names from a tuple, sorted. -/
namespace PV
open PySem PySem.Spec PyProof.Rows L2
variable [Tbl]
/-- targets = e -/
def asgS (t : D → DE → Option DE) (f : DE → R D) : DE → O := fun δ => bindS (f δ) fun d δ => match t d δ with
  | some δ => .nx δ
  | none => .stuck
section
variable {X : Cx} {W : WX}
theorem vs_asg {ts : List Nat} {tg e : Expr} {t : D → DE → Option DE} {f : DE → R D} {pos : Pos} (he : VE X W e f) (hg : VG X ts tg t) (hs : swapsWithSole [tg] e pos.line X.env = pure false := by rfl) (hw : swappedStores [tg] e X.env = pure none := by rfl)
    (h1 : (assignEach [tg] X.env).map (·.2) = [assign tg X.env] := by rfl) : VS X W (.Assign [tg] e pos) (asgS t f) := PS.to (ps_asg he hg hs hw h1) fun N σ H z => by
  refine z.first (DM := dnE X.K) fun c F H1 δ x v r1 d1 z1 => ?_
  refine ⟨c, F, δ, x, r1, d1, ?_⟩
  cases q : t x δ with
  | none => rw [q] at z1; exact False.elim z1
  | some δ' =>
    rw [q] at z1
    exact fun σ' r' _ _ => z1 σ' F H1 r' (.refl _)
end
def sortI (l : List Int) : List Int := l.mergeSort fun a b => decide (a ≤ b)
omit [Tbl] in
theorem sortI_eq {l l' : List Int} (h : l'.Perm l) (s : l'.Pairwise (· ≤ ·)) : l' = sortI l := by
  have p := List.mergeSort_perm l fun a b => decide (a ≤ b)
  have q := List.pairwise_mergeSort (le := fun a b : Int => decide (a ≤ b)) (fun a b c h1 h2 => decide_eq_true (Int.le_trans (of_decide_eq_true h1) (of_decide_eq_true h2))) (fun a b => by
    rcases Int.le_total a b with z | z
    · rw [decide_eq_true z]; rfl
    · rw [decide_eq_true z, Bool.or_true]) l
  exact List.Perm.eq_of_pairwise (le := (· ≤ ·)) (fun a b _ _ h1 h2 => Int.le_antisymm h1 h2) s (q.imp fun z => of_decide_eq_true z) (h.trans p.symm)
def sortedN : List D → Option MD
  | [.lst l] => (intsOf l).map fun ns => .lst ((sortI ns).map D.int)
  | _ => none
section
variable {X : Cx}
theorem b_sorted : Bn X (.builtin "sorted") sortedN := by
  refine ⟨_, cr_sortedI, fun c F H σ δ ds z vs Q r d1 q k => ?_⟩
  unfold sortedN at q
  split at q
  · obtain ⟨v, rfl, h⟩ := densH1 d1
    obtain ⟨a, xs, rfl, h1, h2⟩ := h.lst r.sub
    obtain ⟨ns, e1, e2⟩ := Option.map_eq_some_iff.mp q
    have e3 := ints_den e1 h2
    rw [e3] at h1
    refine ⟨a, ns, rfl, .inl (.inl h1), fun ns' p hp hs hn => ?_⟩
    rw [sortI_eq hp hs] at *
    rw [← e2] at k
    obtain ⟨g1, g2⟩ := r.fresh (o := .lst ((sortI ns).map V.int)) (m := .lst ((sortI ns).map D.int)) hn (dens_ints _)
    exact k _ _ _ g1 (.refl _) g2
  · cases q
end
end PV

/-! PV20: dicts of a slot, with keys that are ints or strs. -/
namespace PV
open PySem PySem.Spec PyProof.Rows L2
variable [Tbl]
def keyD : D → Option Key
  | .int i => some (.inl i)
  | .str s => some (.inr s)
  | _ => none
omit [Tbl] in
theorem key_den {K : PySem.W.Frag} {F : Hp} {d : D} {v : V} {k : Key} (h : keyD d = some k) (g : Den K F d v) : v = kV k := by
  cases d <;> first | (cases h; done) | skip
  · cases h; exact g
  · cases h; exact g
def valD (l : List (Key × D)) (k : Key) : Option D := (l.find? fun kv => decide (kv.1 = k)).map (·.2)
def putD (l : List (Key × D)) (k : Key) (d : D) : List (Key × D) := if (l.any fun kv => decide (kv.1 = k)) = true then l.map (fun kv => if kv.1 = k then (kv.1, d) else kv) else l ++ [(k, d)]
section
omit [Tbl]
variable {K : PySem.W.Frag} {F : Hp}
theorem DenK.len : ∀ {l : List (Key × D)} {kvs : List (Key × V)}, DenK K F l kvs → kvs.length = l.length
  | [], _, h => by rw [show _ = _ from h]; rfl
  | _ :: _, _, ⟨v, r, e, _, h⟩ => by rw [e, List.length_cons, List.length_cons, h.len]
theorem DenK.val {k : Key} : ∀ {l : List (Key × D)} {kvs : List (Key × V)}, DenK K F l kvs → (valD l k = none ∧ valV kvs k = none) ∨ ∃ d v, valD l k = some d ∧ valV kvs k = some v ∧ Den K F d v
  | [], _, h => by rw [show _ = _ from h]; exact .inl ⟨rfl, rfl⟩
  | (k', d) :: l, _, ⟨v, r, e, h1, h2⟩ => by
    subst e
    by_cases q : k' = k
    · exact .inr ⟨d, v, by unfold valD; rw [List.find?_cons_of_pos (by simpa using q)]; rfl, by unfold valV; rw [List.find?_cons_of_pos (by simpa using q)]; rfl, h1⟩
    · have e1 : valD ((k', d) :: l) k = valD l k := by unfold valD; rw [List.find?_cons_of_neg (by simpa using q)]
      have e2 : valV ((k', v) :: r) k = valV r k := by unfold valV; rw [List.find?_cons_of_neg (by simpa using q)]
      rw [e1, e2]
      exact h2.val
theorem DenK.any {k : Key} : ∀ {l : List (Key × D)} {kvs : List (Key × V)}, DenK K F l kvs → (kvs.any fun kv => decide (kv.1 = k)) = (l.any fun kv => decide (kv.1 = k))
  | [], _, h => by rw [show _ = _ from h]; rfl
  | (k', d) :: l, _, ⟨v, r, e, _, h⟩ => by subst e; rw [List.any_cons, List.any_cons, h.any]
theorem DenK.repl {k : Key} {d : D} {v : V} (hd : Den K F d v) : ∀ {l : List (Key × D)} {kvs : List (Key × V)}, DenK K F l kvs → DenK K F (l.map fun kv => if kv.1 = k then (kv.1, d) else kv) (kvs.map fun kv => if kv.1 = k then (kv.1, v) else kv)
  | [], _, h => by rw [show _ = _ from h]; rfl
  | (k', d') :: l, _, ⟨v', r, e, h1, h2⟩ => by
    subst e
    rw [List.map_cons, List.map_cons]
    by_cases q : k' = k
    · simp only [if_pos q]
      exact ⟨v, _, rfl, hd, h2.repl hd⟩
    · simp only [if_neg q]
      exact ⟨v', _, rfl, h1, h2.repl hd⟩
theorem DenK.snoc {k : Key} {d : D} {v : V} (hd : Den K F d v) : ∀ {l : List (Key × D)} {kvs : List (Key × V)}, DenK K F l kvs → DenK K F (l ++ [(k, d)]) (kvs ++ [(k, v)])
  | [], _, h => by rw [show _ = _ from h]; exact ⟨v, [], rfl, hd, rfl⟩
  | (k', d') :: l, _, ⟨v', r, e, h1, h2⟩ => by subst e; exact ⟨v', _, rfl, h1, h2.snoc hd⟩
theorem DenK.put {k : Key} {d : D} {v : V} (hd : Den K F d v) {l : List (Key × D)} {kvs : List (Key × V)} (h : DenK K F l kvs) : DenK K F (putD l k d) (putK kvs k v) := by
  unfold putD putK
  rw [h.any]
  split
  · exact h.repl hd
  · exact h.snoc hd
theorem mden_dct {l : List (Key × D)} {o : HO} (h : MDen K F (.dct l) o) : ∃ kvs, o = .dK kvs ∧ DenK K F l kvs := by
  cases o <;> first | exact False.elim h | exact ⟨_, rfl, h⟩
end
def dNew : DE → R MD := fun δ => .ok (.dct []) δ
def dIn (neg : Bool) (i : Nat) (fk : DE → R D) : DE → R D := fun δ => (fk δ).bind fun k δ => match mutOf δ i, keyD k with
  | some (_, .dct l), some kk => .ok (.bl (if neg = true then !(valD l kk).isSome else (valD l kk).isSome)) δ
  | _, _ => .stuck
def dPut (i : Nat) (fk f : DE → R D) : DE → O := fun δ => bindS (f δ) fun d δ => match mutOf δ i with
  | some _ => bindS (fk δ) fun k δ => match mutOf δ i, keyD k with
    | some (s, .dct l), some kk => if l.length < LIM then .nx (δ.set i (some (s.wr (.dct (putD l kk d))))) else .stuck
    | _, _ => .stuck
  | none => .stuck
section
variable {X : Cx} {W : WX} {pos : Pos}
theorem vn_dnew : VN X W (.Dict [] [] pos) dNew := PE.to pe_dnewK fun σ H Q z p hp => by
  obtain ⟨c, F, δ, r, z⟩ := z
  obtain ⟨g1, g2⟩ := r.fresh (o := .dK []) (m := .dct []) hp rfl
  exact z _ _ _ g1 (.refl _) g2
theorem dget_of {c : Cq} {F H : Hp} {σ : L2.St} {δ : DE} {i : Nat} {s : Sl} {l : List (Key × D)} {k : Key} (r : Rel X.K c F H σ δ) (q : mutOf δ i = some (s, .dct l)) :
    ∃ a kvs, σ[i]? = some (some (.ref a)) ∧ H a = some (.dK kvs) ∧ DenK X.K F l kvs ∧ DGet H a (kV k) (valV kvs k) ∧ (valV kvs k).isSome = (valD l k).isSome := by
  obtain ⟨g1, g2⟩ := mutOf_some q
  obtain ⟨a, o, y1, y2, y3, y4⟩ := r.mutAt g1 g2
  obtain ⟨kvs, rfl, y3⟩ := mden_dct y3
  refine ⟨a, kvs, y1, y2, y3, .k y2, ?_⟩
  rcases y3.val (k := k) with ⟨e1, e2⟩ | ⟨d, v, e1, e2, _⟩ <;> rw [e1, e2] <;> rfl
theorem vc_din (hu : X.A.units + 1 < cLine) (i : Nat) {x : Str} {px : Pos} {a : Expr} {fk : DE → R D} (hk : VE X W a fk) (hN : X.N[i]? = some x := by rfl) (hv : Vis X.env.scope x := by first | exact Or.inl rfl | exact Or.inr (Or.inl rfl) | exact Or.inr (Or.inr rfl)) (hd : (x == ("__debug__" : Str)) = false := by decide)
    (hcd : (x == ("__classdict__" : Str)) = false := by decide) : VE X W (.Compare a [.In] [.Name x px] pos) (dIn false i fk) := PE.to (pe_cmp (pc_din hu hk (pe_var hN hv hd hcd)) rfl) fun σ H Q z => by
  refine z.first (DM := dnE X.K) fun c F H1 δ k v r1 d1 z1 => ?_
  split at z1
  · rename_i s l kk q1 q2
    obtain ⟨a, kvs, e1, e2, e3, e4, e5⟩ := dget_of (k := kk) r1 q1
    refine ⟨.ref a, e1, a, valV kvs kk, rfl, ?_, ?_⟩
    · rw [key_den q2 d1]; exact e4
    · rw [e5]; exact z1 _ F H1 r1 (.refl _) rfl
  · exact False.elim z1
theorem vc_dnotin (hu : X.A.units + 1 < cLine) (i : Nat) {x : Str} {px : Pos} {a : Expr} {fk : DE → R D} (hk : VE X W a fk) (hN : X.N[i]? = some x := by rfl) (hv : Vis X.env.scope x := by first | exact Or.inl rfl | exact Or.inr (Or.inl rfl) | exact Or.inr (Or.inr rfl)) (hd : (x == ("__debug__" : Str)) = false := by decide)
    (hcd : (x == ("__classdict__" : Str)) = false := by decide) : VE X W (.Compare a [.NotIn] [.Name x px] pos) (dIn true i fk) := PE.to (pe_cmp (pc_dnotin hu hk (pe_var hN hv hd hcd)) rfl) fun σ H Q z => by
  refine z.first (DM := dnE X.K) fun c F H1 δ k v r1 d1 z1 => ?_
  split at z1
  · rename_i s l kk q1 q2
    obtain ⟨a, kvs, e1, e2, e3, e4, e5⟩ := dget_of (k := kk) r1 q1
    refine ⟨.ref a, e1, a, valV kvs kk, rfl, ?_, ?_⟩
    · rw [key_den q2 d1]; exact e4
    · rw [e5]; exact z1 _ F H1 r1 (.refl _) rfl
  · exact False.elim z1
theorem vs_dput (hu : X.A.units + 1 < cLine) (i : Nat) {x : Str} {px pos' : Pos} {ik e : Expr} {fk f : DE → R D} (k : VE X W e f) (kk : VE X W ik fk) (hN : X.N[i]? = some x := by rfl) (hv : Vis X.env.scope x := by first | exact Or.inl rfl | exact Or.inr (Or.inl rfl) | exact Or.inr (Or.inr rfl)) (hd : (x == ("__debug__" : Str)) = false := by decide)
    (hcd : (x == ("__classdict__" : Str)) = false := by decide) (hs : swapsWith e (some (.Subscript (.Name x px) ik pos')) pos.line X.env = pure false := by rfl) :
    VS X W (.Assign [.Subscript (.Name x px) ik pos'] e pos) (dPut i fk f) := PS.to (ps_dput hu (pe_var hN hv hd hcd) kk k hs) fun N σ H z => by
  refine z.first (DM := dnE X.K) fun c F H1 δ d v r1 d1 z1 => ?_
  split at z1
  · rename_i p q0
    obtain ⟨s0, m0⟩ := p
    obtain ⟨q1, q2⟩ := mutOf_some q0
    obtain ⟨a, o, h1, _⟩ := r1.mutAt q1 q2
    refine ⟨.ref a, h1, ?_⟩
    refine aftS.next (DM := dnE X.K) (f := fk) (g := fun k δ => match mutOf δ i, keyD k with
      | some (s, .dct l), some kk => if l.length < LIM then .nx (δ.set i (some (s.wr (.dct (putD l kk d))))) else .stuck
      | _, _ => .stuck) r1 z1 fun F2 H2 δ2 kd kv r2 s2 d2 z2 => ?_
    split at z2
    · rename_i s l kk q q'
      obtain ⟨g1, g2⟩ := mutOf_some q
      obtain ⟨b, o, y1, y2, y3, y4⟩ := r2.mutAt g1 g2
      rw [h1] at y1; cases y1
      obtain ⟨kvs, rfl, y3⟩ := mden_dct y3
      split at z2
      · rename_i hl
        refine ⟨a, _, rfl, ?_, z2 σ F2 _ (r2.write (m' := .dct (putD l kk d)) (o' := .dK (putK kvs kk v)) g1 g2 h1 (DenK.put (Den.mono s2 _ _ d1) y3)) (.refl _)⟩
        rw [key_den q' d2]
        exact .k y2 (by rw [y3.len]; exact Nat.lt_of_lt_of_le hl (by decide))
      · exact False.elim z2
    · exact False.elim z2
  · exact False.elim z1
end
end PV
theorem PV.u1 {n : Nat} (h : n + 64 < PySem.cLine) : n + 1 < PySem.cLine := by omega

/-! PV21: tuple(range(a, b)). -/
namespace PV
open PySem PySem.Spec PyProof.Rows L2
variable [Tbl]
noncomputable def tupRg2 (fa fb : DE → R D) : DE → R D := fun δ => (fa δ).bind fun x δ => (fb δ).bind fun y δ => match x, y with
  | .int i, .int j => @ite _ (i ≤ 10000 ∧ -10000 ≤ i ∧ j ≤ 10000 ∧ -10000 ≤ j) (Classical.propDecidable _) (.ok (.tup ((List.range (j - i).toNat).map fun k => .int (i + (k : Nat)))) δ) .stuck
  | _, _ => .stuck
section
variable {X : Cx} {W : WX} {pos : Pos}
theorem ve_tupRg2 {a b : Expr} {fa fb : DE → R D} {p p2 pos2 : Pos} (hc : X.calm = true) (hg : Gl X "tuple") (hm : X.mg "tuple" = none) (hg2 : Gl X "range") (hm2 : X.mg "range" = none) (ha : VE X W a fa) (hb : VE X W b fb)
    (na : starEach [a, b] X.env = (false, eval a X.env) :: starEach [b] X.env := by rfl) (nb : starEach [b] X.env = (false, eval b X.env) :: starEach [] X.env := by rfl) (hp : (backTo pos2 (starEach [b] X.env)).any (·.1) = false := by rfl)
    (nc : starEach [.Call (.Name "range" p2) [a, b] [] pos2] X.env = (false, eval (.Call (.Name "range" p2) [a, b] [] pos2) X.env) :: starEach [] X.env := by rfl) :
    VE X W (.Call (.Name "tuple" p) [.Call (.Name "range" p2) [a, b] [] pos2] [] pos) (tupRg2 fa fb) :=
  PE.to (pe_tupRg hc hg hm (prg_2 hg2 hm2 ha hb na nb hp) nc) fun σ H Q z => by
    refine z.first (DM := dnE X.K) fun c F H1 δ x v r1 d1 z1 => ?_
    refine z1.next (DM := dnE X.K) r1 fun F2 H2 δ2 y w r2 s2 d2 z2 => ?_
    split at z2
    · rename_i i j
      split at z2
      · rename_i hj
        refine ⟨i, j, d1, d2, ⟨by omega, by omega, by omega, by omega, by omega⟩, fun q hq => ?_⟩
        have r3 := r2.lay (o := .tup (rgV i j)) hq
        refine z2 _ _ _ r3 (same_new (r2.freeF hq)) ⟨q, rgV i j, rfl, upd_same, ?_⟩
        generalize upd F2 q (.tup (rgV i j)) = F3
        unfold rgV
        generalize List.range (j - i).toNat = l
        induction l with
        | nil => exact Dens.nil
        | cons n l ih => exact Dens.cons rfl ih
      · exact False.elim z2
    · exact False.elim z2
end
end PV

/-! PV22: slots that are not read any more are forgotten; loops by a step on a state. -/
namespace PV
open PySem PySem.Spec PyProof.Rows L2
def dropB : Option Sl → Option Sl
  | some (.bor m) => some (.bor m)
  | _ => none
def killM : List Bool → DE → DE
  | true :: ms, x :: δ => dropB x :: killM ms δ
  | false :: ms, x :: δ => x :: killM ms δ
  | _, δ => δ
def bors : DE → DE
  | [] => []
  | x :: δ => dropB x :: bors δ
/-- fewer slots are told -/
structure Less (δ δ' : DE) : Prop where
  len : δ'.length = δ.length
  sl : ∀ (i : Nat) (s : Sl), δ'[i]? = some (some s) → δ[i]? = some (some s)
  bor : ∀ (i : Nat) (m : MD), δ[i]? = some (some (.bor m)) → δ'[i]? = some (some (.bor m))
theorem Less.refl (δ : DE) : Less δ δ := ⟨rfl, fun _ _ h => h, fun _ _ h => h⟩
theorem Less.cons {x y : Option Sl} {δ δ' : DE} (h : Less δ δ') (h1 : ∀ s, y = some s → x = some s) (h2 : ∀ m, x = some (.bor m) → y = some (.bor m)) : Less (x :: δ) (y :: δ') := by
  refine ⟨by simp [h.len], fun i s e => ?_, fun i m e => ?_⟩
  · cases i with
    | zero => simp at e ⊢; exact h1 s e
    | succ i => simp at e ⊢; exact h.sl i s e
  · cases i with
    | zero => simp at e ⊢; exact h2 m e
    | succ i => simp at e ⊢; exact h.bor i m e
theorem dropB_s {x : Option Sl} {s : Sl} (h : dropB x = some s) : x = some s := by
  unfold dropB at h
  split at h
  · exact h
  · cases h
theorem less_bors : ∀ (δ : DE), Less δ (bors δ)
  | [] => .refl _
  | x :: δ => (less_bors δ).cons (fun s h => dropB_s h) fun m h => by rw [h]; rfl
theorem less_kill : ∀ (ms : List Bool) (δ : DE), Less δ (killM ms δ)
  | [], δ => by unfold killM; exact .refl _
  | true :: ms, [] => by unfold killM; exact .refl _
  | false :: ms, [] => by unfold killM; exact .refl _
  | true :: ms, x :: δ => by unfold killM; exact (less_kill ms δ).cons (fun s h => dropB_s h) fun m h => by rw [h]; rfl
  | false :: ms, x :: δ => by unfold killM; exact (less_kill ms δ).cons (fun s h => h) fun m h => h
/-- e: what an exception leaves is cut, too -/
def killS (e : Bool) (ms : List Bool) (g : DE → O) : DE → O := fun δ => match g δ with
  | .nx δ => .nx (killM ms δ)
  | .cnt δ => .cnt (killM ms δ)
  | .brk δ => .brk (killM ms δ)
  | .ret d δ => .ret d (bors δ)
  | .exc x δ => .exc x (if e then bors δ else killM ms δ)
  | .stuck => .stuck
/-- forgotten ahead -/
def preS (ms : List Bool) (g : DE → O) : DE → O := fun δ => g (killM ms δ)
section
variable [Tbl]
theorem Rel.lessD {K : PySem.W.Frag} {c : Cq} {F H : Hp} {σ : L2.St} {δ δ' : DE} (r : Rel K c F H σ δ) (l : Less δ δ') : Rel K c F H σ δ' :=
  ⟨r.sub, r.pres, r.low, r.new, r.gs, r.bor0, fun i hi => let ⟨m, e⟩ := r.borD i hi; ⟨m, l.bor i m e⟩, r.binj, by rw [l.len]; exact r.len, fun i s e => r.sl i s (l.sl i s e), fun i j a m n e1 e2 => r.apart i j a m n (l.sl _ _ e1) (l.sl _ _ e2), r.tab⟩
theorem rd_kill {K : PySem.W.Frag} {W : WX} {e : Bool} {ms : List Bool} {g : DE → O} {N : Ends} {σ : L2.St} {H : Hp} (z : rdS K W (killS e ms g) N σ H) : rdS K W g N σ H := by
  obtain ⟨c, F, δ, r, a⟩ := z
  refine ⟨c, F, δ, r, ?_⟩
  unfold killS at a
  cases q : g δ with
  | nx δ1 => rw [q] at a; exact fun σ' F' H' r' => a σ' F' H' (r'.lessD (less_kill _ _))
  | cnt δ1 => rw [q] at a; exact fun σ' F' H' r' => a σ' F' H' (r'.lessD (less_kill _ _))
  | brk δ1 => rw [q] at a; exact fun σ' F' H' r' => a σ' F' H' (r'.lessD (less_kill _ _))
  | ret d δ1 => rw [q] at a; exact fun v σ' F' H' r' => a v σ' F' H' (r'.lessD (less_bors _))
  | exc x δ1 =>
    rw [q] at a
    refine fun cls od σ' F' H' r' => a cls od σ' F' H' (r'.lessD ?_)
    cases e
    · exact less_kill _ _
    · exact less_bors _
  | stuck => rw [q] at a; exact a
theorem rd_pre {K : PySem.W.Frag} {W : WX} {ms : List Bool} {g : DE → O} {N : Ends} {σ : L2.St} {H : Hp} (z : rdS K W (preS ms g) N σ H) : rdS K W g N σ H := by
  obtain ⟨c, F, δ, r, a⟩ := z
  exact ⟨c, F, _, r.lessD (less_kill ms δ), a⟩
variable {X : Cx} {W : WX} {st : Stmt} {sts : List Stmt} {g : DE → O}
theorem vss_kill (e : Bool) (ms : List Bool) (h : VSs X W sts g) : VSs X W sts (killS e ms g) := PSs.to h fun _ _ _ z => rd_kill z
theorem vs_pre (ms : List Bool) (h : VS X W st g) : VS X W st (preS ms g) := PS.to h fun _ _ _ z => rd_pre z
end
/-! ### loops by a step on a state -/
inductive LR (S : Type) where
  | go (s : S)
  | brk (s : S)
  | ret (d : D) (s : S)
  | exc (x : XD) (s : S)
def runL {S α : Type} (step : S → α → LR S) : List α → S → LR S
  | [], s => .go s
  | a :: as, s => match step s a with
    | .go s => runL step as s
    | .brk s => .go s
    | r => r
def LR.o {S : Type} (mk mr : S → DE) : LR S → O
  | .go s => .nx (mk s)
  | .brk s => .nx (mk s)
  | .ret d s => .ret d (mr s)
  | .exc x s => .exc x (mr s)
/-- one turn -/
def Turn {S α : Type} (mk mr : S → DE) (t : D → DE → Option DE) (g : DE → O) (I : S → Prop) (s : S) (d : D) (r : LR S) : Prop :=
  ∃ δ1, t d (mk s) = some δ1 ∧ match r with
    | .go s' => I s' ∧ (g δ1 = .nx (mk s') ∨ g δ1 = .cnt (mk s'))
    | .brk s' => g δ1 = .brk (mk s')
    | .ret d s' => g δ1 = .ret d (mr s')
    | .exc x s' => g δ1 = .exc x (mr s')
theorem loop_run {S α : Type} {t : D → DE → Option DE} {g : DE → O} (enc : α → D) (mk mr : S → DE) (step : S → α → LR S) (I : S → Prop) :
    ∀ (as : List α), (∀ s a, a ∈ as → I s → Turn (α := α) mk mr t g I s (enc a) (step s a)) → ∀ s, I s → loopF t g (as.map enc) (mk s) = (runL step as s).o mk mr
  | [], _, s, _ => rfl
  | a :: as, h, s, hs => by
    obtain ⟨δ1, e1, q⟩ := h s a List.mem_cons_self hs
    have ih := loop_run enc mk mr step I as fun s a ha => h s a (List.mem_cons_of_mem _ ha)
    rw [List.map_cons]
    unfold loopF runL
    rw [e1]
    cases e : step s a with
    | go s' =>
      rw [e] at q
      rcases q with ⟨i, q | q⟩
      · simp only [q]; exact ih s' i
      · simp only [q]; exact ih s' i
    | brk s' => rw [e] at q; simp only [q]; rfl
    | ret d s' => rw [e] at q; simp only [q]; rfl
    | exc x s' => rw [e] at q; simp only [q]; rfl
/-- a loop that runs through -/
theorem loop_fold {S α : Type} {t : D → DE → Option DE} {g : DE → O} (enc : α → D) (mk : S → DE) (step : S → α → S) (I : S → Prop) :
    ∀ (as : List α), (∀ s a, a ∈ as → I s → I (step s a) ∧ ∃ δ1, t (enc a) (mk s) = some δ1 ∧ (g δ1 = .nx (mk (step s a)) ∨ g δ1 = .cnt (mk (step s a)))) → ∀ s, I s → loopF t g (as.map enc) (mk s) = .nx (mk (as.foldl step s)) ∧ I (as.foldl step s)
  | [], _, s, i => ⟨rfl, i⟩
  | a :: as, h, s, hs => by
    obtain ⟨i, δ1, e1, q⟩ := h s a List.mem_cons_self hs
    have ih := loop_fold enc mk step I as (fun s a ha => h s a (List.mem_cons_of_mem _ ha)) (step s a) i
    rw [List.map_cons, List.foldl_cons]
    unfold loopF
    rw [e1]
    rcases q with q | q
    · simp only [q]; exact ih
    · simp only [q]; exact ih
end PV

/-! PV23: instances of own classes: fields, making, methods, isinstance. -/
namespace PV
open PySem PySem.Spec PyProof.Rows L2
/-- what of the text a class must have -/
structure ClsT (K : PySem.W.Frag) (c : Str) (C : Addr) : Prop where
  ns : PySem.W.nsIn K mainGlobals c = some (some (.ref C))
  cls : Cls K C
  cc : PySem.W.findIn K (.ref C) "__class__" = some (some (.builtin "object.__class__"))
  mo : PySem.W.mroIn K C (.type "object") = some true
theorem ns_uniq {K : PySem.W.Frag} {c : Str} {C C' : Addr} (h : PySem.W.nsIn K mainGlobals c = some (some (.ref C))) (g : PySem.W.nsIn K mainGlobals c = some (some (.ref C'))) : C = C' := by
  rw [h] at g; cases g; rfl
/-! ### fields of data -/
def lkF : List (Str × D) → Str → Option D
  | [], _ => none
  | (g, d) :: r, f => if g = f then some d else lkF r f
def ptF (f : Str) (d : D) : List (Str × D) → List (Str × D)
  | [] => [(f, d)]
  | (g, x) :: r => if g = f then (g, d) :: r else (g, x) :: ptF f d r
section
variable {K : PySem.W.Frag} {F : Hp}
theorem denF_lk {f : Str} {d : D} : ∀ {l : List (Str × D)} {fs : List (Str × V)}, DenF K F l fs → lkF l f = some d → ∃ v, fs.lookup f = some v ∧ Den K F d v
  | [], _, _, h => by cases h
  | (g, x) :: r, _, ⟨v, r', e, h1, h2⟩, h => by
    subst e
    unfold lkF at h
    by_cases q : g = f
    · rw [if_pos q] at h; cases h
      exact ⟨v, by subst q; simp [List.lookup], h1⟩
    · rw [if_neg q] at h
      obtain ⟨w, e1, e2⟩ := denF_lk h2 h
      have hb : (f == g) = false := beq_eq_false_iff_ne.mpr fun z => q z.symm
      exact ⟨w, by simp only [List.lookup, hb]; exact e1, e2⟩
theorem denF_no {f : Str} : ∀ {l : List (Str × D)} {fs : List (Str × V)}, DenF K F l fs → lkF l f = none → fs.lookup f = none
  | [], _, h, _ => by rw [show _ = _ from h]; rfl
  | (g, x) :: r, _, ⟨v, r', e, h1, h2⟩, h => by
    subst e
    unfold lkF at h
    by_cases q : g = f
    · rw [if_pos q] at h; cases h
    · rw [if_neg q] at h
      have hb : (f == g) = false := beq_eq_false_iff_ne.mpr fun z => q z.symm
      simp only [List.lookup, hb]
      exact denF_no h2 h
theorem denF_pt {f : Str} {d : D} {y : V} (hy : Den K F d y) : ∀ {l : List (Str × D)} {fs : List (Str × V)}, DenF K F l fs → DenF K F (ptF f d l) (putF f y fs)
  | [], _, h => by rw [show _ = _ from h]; exact ⟨y, [], rfl, hy, rfl⟩
  | (g, x) :: r, _, ⟨v, r', e, h1, h2⟩ => by
    subst e
    unfold ptF putF
    by_cases q : g = f
    · rw [if_pos q, if_pos q]; exact ⟨y, r', rfl, hy, h2⟩
    · rw [if_neg q, if_neg q]; exact ⟨v, _, rfl, h1, denF_pt hy h2⟩
theorem denF_len : ∀ {l : List (Str × D)} {fs : List (Str × V)}, DenF K F l fs → fs.length = l.length
  | [], _, h => by rw [show _ = _ from h]; rfl
  | (g, x) :: r, _, ⟨v, r', e, h1, h2⟩ => by subst e; simp [denF_len h2]
end
variable [Tbl]
section
variable {X : Cx} {W : WX} {e o : Expr} {fa f : DE → R D} {pos : Pos} {g : Str}
/-- e.g of a frozen instance of one of the classes cs -/
def fldD (cs : List Str) (g : Str) : D → Option D
  | .ins c l => if c ∈ cs then lkF l g else none
  | _ => none
def fldE (cs : List Str) (g : Str) (fa : DE → R D) : DE → R D := fun δ => (fa δ).bind fun x δ => R.of (fldD cs g x) δ
/-- that the classes have no attribute g of their own -/
def NoA (K : PySem.W.Frag) (cs : List Str) (g : Str) : Prop := ∀ c ∈ cs, ∃ C, ClsT K c C ∧ NoAttr K C g
theorem ve_fld (cs : List Str) (hn : NoA X.K cs g) (h : VE X W e fa) (hb : attributeBase e g X.env (eval e X.env) = eval e X.env := by rfl) : VE X W (.Attribute e g pos) (fldE cs g fa) := by
  refine PE.to (pe_fld h hb) fun σ H Q z => z.first (DM := dnE X.K) fun c F H1 δ a v r d1 z1 => ?_
  cases q : fldD cs g a with
  | none => rw [q] at z1; exact False.elim z1
  | some x =>
    rw [q] at z1
    unfold fldD at q
    split at q
    · rename_i cn l
      split at q
      · rename_i hc
        obtain ⟨C, t, na⟩ := hn cn hc
        obtain ⟨C', a', dx, fs, rfl, e0, e1, e2⟩ := d1
        have := ns_uniq t.ns e0
        subst this
        obtain ⟨w, e3, e4⟩ := denF_lk e2 q
        exact ⟨a', C, dx, fs, w, rfl, r.sub _ _ e1, t.cls, na, e3, z1 w F H1 r (.refl _) e4⟩
      · cases q
    · cases q
/-- x.g of an instance that is still written, in slot i -/
def fldSl (cs : List Str) (i : Nat) (g : Str) : DE → R D := fun δ => match mutOf δ i with
  | some (_, .ins c l) => if c ∈ cs then R.of (lkF l g) δ else .stuck
  | _ => .stuck
theorem mden_ins {K : PySem.W.Frag} {F : Hp} {c : Str} {l : List (Str × D)} {o : HO} (h : MDen K F (.ins c l) o) : ∃ C dx fs, o = .ins C dx fs ∧ PySem.W.nsIn K mainGlobals c = some (some (.ref C)) ∧ DenF K F l fs := by
  cases o <;> first | exact False.elim h | exact ⟨_, _, _, rfl, h.1, h.2⟩
theorem ve_fldSl (cs : List Str) (hn : NoA X.K cs g) (i : Nat) {x : Str} {px : Pos} (hN : X.N[i]? = some x := by rfl) (hv : Vis X.env.scope x := by first | exact Or.inl rfl | exact Or.inr (Or.inl rfl) | exact Or.inr (Or.inr rfl)) (hd : (x == ("__debug__" : Str)) = false := by decide) (hcd : (x == ("__classdict__" : Str)) = false := by decide)
    (hb : attributeBase (.Name x px) g X.env (eval (.Name x px) X.env) = eval (.Name x px) X.env := by rfl) : VE X W (.Attribute (.Name x px) g pos) (fldSl cs i g) := by
  refine PE.to (pe_fld (pe_var hN hv hd hcd) hb) fun σ H Q ⟨c, F, δ, r, z⟩ => ?_
  unfold fldSl at z
  split at z
  · rename_i s cn l hm
    split at z
    · rename_i hc
      cases q : lkF l g with
      | none => rw [q] at z; exact False.elim z
      | some y =>
        rw [q] at z
        obtain ⟨h1, h2⟩ := mutOf_some hm
        obtain ⟨a, o, e1, e2, e3, e4⟩ := r.mutAt h1 h2
        obtain ⟨C', dx, fs, rfl, e0, e5⟩ := mden_ins e3
        obtain ⟨C, t, na⟩ := hn cn hc
        have := ns_uniq t.ns e0
        subst this
        obtain ⟨w, e6, e7⟩ := denF_lk e5 q
        exact ⟨.ref a, e1, a, C, dx, fs, w, rfl, e2, t.cls, na, e6, z w F H r (.refl _) e7⟩
    · exact False.elim z
  · exact False.elim z
/-- x.g = e of an instance in slot i -/
def fldS (cs : List Str) (i : Nat) (g : Str) (f : DE → R D) : DE → O := fun δ => bindS (f δ) fun d δ => match mutOf δ i with
  | some (s, .ins c l) => if c ∈ cs ∧ l.length < 900 then .nx (δ.set i (some (s.wr (.ins c (ptF g d l))))) else .stuck
  | _ => .stuck
theorem vs_fld (cs : List Str) (hn : NoA X.K cs g) (i : Nat) {x : Str} {px tpos : Pos} (k : VE X W e f) (hN : X.N[i]? = some x := by rfl) (hv : Vis X.env.scope x := by first | exact Or.inl rfl | exact Or.inr (Or.inl rfl) | exact Or.inr (Or.inr rfl)) (hd : (x == ("__debug__" : Str)) = false := by decide) (hcd : (x == ("__classdict__" : Str)) = false := by decide)
    (hs : swapsWith e (some (.Attribute (.Name x px) g tpos)) pos.line X.env = pure false := by rfl) : VS X W (.Assign [.Attribute (.Name x px) g tpos] e pos) (fldS cs i g f) := by
  refine PS.to (ps_fld (pe_var hN hv hd hcd) k hs) fun N σ H z => z.first (DM := dnE X.K) fun c F H1 δ d v r d1 z1 => ?_
  split at z1
  · rename_i s cn l hm
    split at z1
    · rename_i hc
      obtain ⟨h1, h2⟩ := mutOf_some hm
      obtain ⟨a, o, e1, e2, e3, e4⟩ := r.mutAt h1 h2
      obtain ⟨C', dx, fs, rfl, e0, e5⟩ := mden_ins e3
      obtain ⟨C, t, na⟩ := hn cn hc.1
      have := ns_uniq t.ns e0
      subst this
      refine ⟨.ref a, e1, a, C, dx, fs, rfl, e2, t.cls, na, by rw [denF_len e5]; omega, ?_⟩
      exact z1 σ F _ (r.write (m' := .ins cn (ptF g d l)) (o' := .ins C dx (putF g v fs)) h1 h2 e1 ⟨e0, denF_pt d1 e5⟩) (.refl _)
    · exact False.elim z1
  · exact False.elim z1
end
end PV

/-! PV24: C(..) by __init__, o.m(..), isinstance of own classes. -/
namespace PV
open PySem PySem.Spec PyProof.Rows L2
variable [Tbl]
section
variable {K : PySem.W.Frag} {c : Cq} {F H : Hp} {σ : L2.St} {δ : DE}
theorem snoc_get {α : Type} {l : List (Option α)} {i : Nat} {s : α} (h : (l ++ [none])[i]? = some (some s)) : l[i]? = some (some s) := by
  by_cases q : i < l.length
  · rwa [List.getElem?_append_left q] at h
  · rw [List.getElem?_append_right (by omega)] at h
    cases j : i - l.length with
    | zero => rw [j] at h; cases h
    | succ n => rw [j] at h; simp at h
theorem snoc_of {α : Type} {l : List (Option α)} {i : Nat} {s y : Option α} (h : l[i]? = some s) : (l ++ [y])[i]? = some s := by
  have := (List.getElem?_eq_some_iff.mp h).1
  rw [List.getElem?_append_left this]; exact h
/-- one more place, not yet assigned -/
theorem Rel.snoc (r : Rel K c F H σ δ) : Rel K c F H (σ ++ [none]) (δ ++ [none]) := by
  refine ⟨r.sub, r.pres, r.low, r.new, r.gs, r.bor0, fun i hi => let ⟨m, e⟩ := r.borD i hi; ⟨m, snoc_of e⟩, r.binj, by rw [List.length_append, List.length_append, r.len]; rfl, fun i s e => ?_, fun i j a m n e1 e2 e3 e4 => r.apart i j a m n (snoc_get e1) (snoc_get e2) (snoc_get e3) (snoc_get e4), r.tab⟩
  have e' := snoc_get e
  have hl : i < σ.length := by rw [r.len]; exact (List.getElem?_eq_some_iff.mp e').1
  rw [List.getElem?_append_left hl]
  exact r.sl i s e'
theorem Rel.unsnoc {x : Option V} {y : Option Sl} (r : Rel K c F H (σ ++ [x]) (δ ++ [y])) (hy : ∀ m, y ≠ some (.bor m)) : Rel K c F H σ δ := by
  have hlen : σ.length = δ.length := by have := r.len; simpa using this
  refine ⟨r.sub, r.pres, r.low, r.new, r.gs, r.bor0, fun i hi => ?_, r.binj, hlen, fun i s e => ?_, fun i j a m n e1 e2 e3 e4 => r.apart i j a m n (snoc_of e1) (snoc_of e2) (snoc_of e3) (snoc_of e4), r.tab⟩
  · obtain ⟨m, e⟩ := r.borD i hi
    by_cases q : i < δ.length
    · rw [List.getElem?_append_left q] at e; exact ⟨m, e⟩
    · rw [List.getElem?_append_right (by omega)] at e
      cases j : i - δ.length with
      | zero => rw [j] at e; exact absurd (Option.some.inj e) (hy m)
      | succ n => rw [j] at e; simp at e
  · have z := r.sl i s (snoc_of e)
    have hl : i < σ.length := by rw [hlen]; exact (List.getElem?_eq_some_iff.mp e).1
    rw [List.getElem?_append_left hl] at z
    exact z
theorem unlend_vals : ∀ {as : List Arg} {ds : List D} {ss : List Sl}, valsOf as = some ds → unlend δ as ss = δ
  | [], _, _, _ => by unfold unlend; rfl
  | .val d :: as, _, [], h => by unfold unlend; rfl
  | .val d :: as, _, s :: ss, h => by
    obtain ⟨t, e1, e2⟩ := Option.map_eq_some_iff.mp h
    unfold unlend; exact unlend_vals e1
  | .slot i :: as, _, _, h => by cases h
theorem lend_vals : ∀ {as : List Arg} {ds : List D}, valsOf as = some ds → lend δ as = some (ds.map .val)
  | [], _, h => by cases h; rfl
  | .val d :: as, _, h => by
    obtain ⟨t, e1, e2⟩ := Option.map_eq_some_iff.mp h
    subst e2
    unfold lend; rw [lend_vals e1]; rfl
  | .slot i :: as, _, h => by cases h
theorem slots_vals : ∀ {as : List Arg} {ds : List D}, valsOf as = some ds → slots as = []
  | [], _, _ => rfl
  | .val d :: as, _, h => by
    obtain ⟨t, e1, e2⟩ := Option.map_eq_some_iff.mp h
    exact slots_vals (as := as) e1
  | .slot i :: as, _, h => by cases h
theorem args_snoc {x : Option V} : ∀ {as : List Arg} {ds : List D} {vs : List V}, valsOf as = some ds → ArgsD K F σ as vs → ArgsD K F (σ ++ [x]) as vs
  | [], _, _, _, g => g
  | .val d :: as, _, vs, h, ⟨v, r, e, g1, g2⟩ => by
    obtain ⟨t, e1, e2⟩ := Option.map_eq_some_iff.mp h
    exact ⟨v, r, e, g1, args_snoc e1 g2⟩
  | .slot i :: as, _, _, h, _ => by cases h
end
/-- C(..): a new instance, then __init__ -/
def makeN (c : Str) (φ : List Sl → FR) (fa : DE → R (List Arg)) : DE → R MD := fun δ => (fa δ).bind fun as δ => match valsOf as with
  | some ds => match φ (.bor (.ins c []) :: ds.map .val) with
    | .ret .non (.bor m :: _) => .ok m δ
    | .exc x _ => .exc x δ
    | _ => .stuck
  | none => .stuck
section
variable {K : PySem.W.Frag} {cq : Cq} {F H : Hp} {σ : L2.St} {δ : DE} {c : Str} {C x dx : Addr}
theorem Rel.made (r : Rel K cq F H σ δ) (ns : PySem.W.nsIn K mainGlobals c = some (some (.ref C))) (hx : H x = none) (hdx : H dx = none) (ne : dx ≠ x) :
    Rel K cq F (upd (upd H dx (.own x)) x (.ins C dx [])) (σ ++ [some (.ref x)]) (δ ++ [some (.own (.ins c []))]) := by
  have r1 := r.tmp (o := .own x) hdx
  have hx1 : upd H dx (.own x) x = none := by rw [upd_ne (fun z => ne z.symm)]; exact hx
  have r2 := (r1.tmp (o := .ins C dx []) hx1).snoc
  have hl : σ.length = δ.length := r.len
  have r3 := r2.setOwn (i := δ.length) (p := x) (o := .ins C dx []) (m := .ins c []) upd_same (r1.freeF hx1) (r1.freeG hx1) (r1.free hx1) ⟨ns, rfl⟩ (fun j n e z => ?_) (fun m e => ?_)
  · have e1 : (σ ++ [none]).set δ.length (some (V.ref x)) = σ ++ [some (.ref x)] := by rw [← hl]; simp
    have e2 : (δ ++ [none]).set δ.length (some (Sl.own (.ins c []))) = δ ++ [some (.own (.ins c []))] := by simp
    rw [e1, e2] at r3
    exact r3
  · obtain ⟨a, o, g1, g2, _⟩ := r1.own (snoc_get e)
    rw [snoc_get z] at g1
    cases g1
    rw [hx1] at g2; cases g2
  · simp at e
theorem made_called {as : List Arg} {ds : List D} {vs : List V} {ss' : List Sl} {F' H' : Hp} (r : Rel K cq F H σ δ) (ns : PySem.W.nsIn K mainGlobals c = some (some (.ref C))) (hx : H x = none) (hdx : H dx = none) (ne : dx ≠ x)
    (hv : valsOf as = some ds) (ha : ArgsD K F σ as vs) :
    AOk K F (upd (upd H dx (.own x)) x (.ins C dx [])) (.bor (.ins c []) :: ds.map .val) (.ref x :: vs) ∧
    ∀ {ss' : List Sl} {F' H' : Hp}, Done K F (upd (upd H dx (.own x)) x (.ins C dx [])) (.bor (.ins c []) :: ds.map .val) (.ref x :: vs) F' H' ss' →
      Rel K cq F' H' σ δ ∧ ∀ (m : MD) (q : List Sl), ss' = .bor m :: q → dnN K cq F' H' σ δ m (.ref x) := by
  have r3 := r.made ns hx hdx ne
  have hn : mutOf (δ ++ [some (Sl.own (.ins c []))]) δ.length = some (.own (.ins c []), .ins c []) := by
    unfold mutOf
    rw [List.getElem?_append_right (Nat.le_refl _), Nat.sub_self]
    rfl
  have nd : (slots (Arg.slot δ.length :: as)).Nodup := by
    show (δ.length :: slots as).Nodup
    rw [slots_vals hv]; simp
  have hl : lend (δ ++ [some (Sl.own (.ins c []))]) (Arg.slot δ.length :: as) = some (.bor (.ins c []) :: ds.map .val) := by
    unfold lend
    rw [hn]
    simp only
    rw [lend_vals hv]; rfl
  have hA : ArgsD K F (σ ++ [some (.ref x)]) (Arg.slot δ.length :: as) (.ref x :: vs) := by
    refine ⟨.ref x, vs, rfl, ?_, args_snoc hv ha⟩
    show (σ ++ [some (V.ref x)])[δ.length]? = _
    rw [← r.len]; simp
  refine ⟨r3.lent nd hl hA, fun {ss' F' H'} z => ?_⟩
  have r4 := r3.called nd hl hA z
  obtain ⟨m', hm'⟩ := z.keep 0 (.ins c []) rfl
  cases ss' with
  | nil => simp at hm'
  | cons s0 q0 =>
    have hm' : s0 = .bor m' := by simpa using hm'
    subst hm'
    have eu : unlend (δ ++ [some (Sl.own (.ins c []))]) (Arg.slot δ.length :: as) (.bor m' :: q0) = δ ++ [some (.own m')] := by
      unfold unlend
      rw [hn]
      simp only
      rw [unlend_vals hv]
      simp [Sl.wr]
    rw [eu] at r4
    refine ⟨r4.unsnoc (fun m e => nomatch e), fun m q e => ?_⟩
    cases e
    have hi : (δ ++ [some (Sl.own m')])[δ.length]? = some (some (.own m')) := by simp
    obtain ⟨a, o, g1, g2, g3, g4, g5, g6⟩ := r4.own hi
    have ea : a = x := by
      rw [← r.len] at g1
      simp at g1
      exact g1.symm
    subst ea
    refine ⟨a, o, rfl, g2, g3, g4, g5, g6, fun j n e1 e2 => ?_⟩
    have j1 := snoc_of (y := some (Sl.own m')) e1
    have j2 := snoc_of (y := some (V.ref a)) e2
    have := r4.apart j δ.length a n m' j1 hi j2 (by rw [← r.len]; simp)
    have hj := (List.getElem?_eq_some_iff.mp e1).1
    omega
end
section
variable {X : Cx} {W : WX} {k : Nat} {f C : Addr} {fd : FuncData} {ps : List Str} {φ : List Sl → FR} {x c : Str} {p pos : Pos} {e : Expr} {es : List Expr} {fa : DE → R (List Arg)} {g : Bool}
theorem run_makeV {pins : List (Addr × Obj)} {σ : L2.St} {H : Hp} {s : Shared} {Q : VK} {us : List Value} {vs : List V} (M : Mk X.K C f) (V0 : VOk g X.prog X.w X.K X.mg X.base k f fd ps φ) (room : Room (k + 1) X.A) (gd : g = true → X.A.guards = some []) (hb : Binds X.K fd ps []) (tk : Takes X W)
    (I : L2.Inv X pins σ H s) (rv : Vals vs us)
    (h : ∀ x dx, H x = none → H dx = none → dx ≠ x → spV X.K φ (.ref x :: vs) (upd (upd H dx (.own x)) x (.ins C dx [])) (fun v H2 => v = .non ∧ Q (.ref x) H2) (WE W σ)) :
    wpAny (model X.prog X.w) X.A (call (.ref C) us) (EP X pins σ Q) X.xe s := by
  have hq := h (s.heap.objs.size + 1) s.heap.objs.size (I.hok.fresh (Nat.le_succ _)) (I.hok.fresh (Nat.le_refl _)) (Nat.ne_of_lt (Nat.lt_succ_self _))
  have I2 := Inv.made (C := C) I
  have r2 : Vals (V.ref (s.heap.objs.size + 1) :: vs) (Value.ref (s.heap.objs.size + 1) :: us) := .cons rfl rv
  have hl : (Value.ref (s.heap.objs.size + 1) :: us ++ []).length = ps.length := by
    have e := spV.len V0.len hq
    rw [List.append_nil]
    rw [← e, r2.length]
  have bd := hb _ (Value.ref (s.heap.objs.size + 1) :: us) I2.kIn hl
  rw [List.append_nil] at bd
  refine wpAny_call (make_map (f := f) I.kIn M.makes M.init (beq_iff_eq.mp M.fn) (codeAny_mono (V0.run _ X.stack _ _ ⟨Value.ref (s.heap.objs.size + 1) :: us, []⟩ (Value.ref (s.heap.objs.size + 1) :: us) _ _ (WE W σ) (room.make C us [])
    (fun z => by first | exact gd z | simpa [Around.under] using gd z) (I2.env0.make C us []) bd r2 hq) fun r s' hq' => ?_))
  cases r with
  | error e => exact passAt tk σ pins _ _ e s' I2 hq'
  | ok fl =>
    cases fl with
    | ret u =>
      obtain ⟨v, H', I3, rv, ev, q3⟩ := I2.after hq'
      subst ev
      exact ⟨rv, ⟨V.ref (s.heap.objs.size + 1), H', I3, rfl, q3⟩⟩
    | next => exact False.elim hq'
    | brk => exact False.elim hq'
    | cont => exact False.elim hq'
theorem rd_make {σ : L2.St} {H : Hp} {Q : VK} (ns : PySem.W.nsIn X.K mainGlobals c = some (some (.ref C))) (h : rdN X.K W (makeN c φ fa) σ H Q) : rdA X.K W fa σ H fun vs H1 => ∀ x dx, H1 x = none → H1 dx = none → dx ≠ x → spV X.K φ (.ref x :: vs) (upd (upd H1 dx (.own x)) x (.ins C dx [])) (fun v H2 => v = .non ∧ Q (.ref x) H2) (WE W σ) := by
  refine h.first (DM := dnA X.K) fun cq F H1 δ as vs r d1 z1 x dx hx hdx ne => ?_
  cases hv : valsOf as with
  | none => simp only [hv] at z1; exact False.elim z1
  | some ds =>
    simp only [hv] at z1
    obtain ⟨A, k⟩ := made_called (ss' := []) (F' := F) (H' := H1) r ns hx hdx ne hv d1
    refine ⟨F, _, A, ?_⟩
    split at z1
    · rename_i m q e
      rw [e]
      intro v F' H' dn dv
      obtain ⟨r', dm⟩ := k dn
      exact ⟨dv, z1 _ F' H' r' dn.low (dm m q rfl)⟩
    · rename_i xd q e
      rw [e]
      intro cls od F' H' dn xo
      exact z1 cls od F' H' (k dn).1 dn.low xo
    · exact False.elim z1
theorem vn_make (M : Mk X.K C f) (V0 : VOk g X.prog X.w X.K X.mg X.base k f fd ps φ) (room : Room (k + 1) X.A) (gd : g = true → X.A.guards = some []) (tk : Takes X W) (hg : Gl X x) (hm : X.mg x = some (.ref C)) (ns : PySem.W.nsIn X.K mainGlobals x = some (some (.ref C))) (hb : Binds X.K fd ps [])
    (ha : VA X W (e :: es) fa) (hdb : (x == ("__debug__" : Str)) = false := by decide) (he : starEach (e :: es) X.env = (false, eval e X.env) :: starEach es X.env := by rfl) (hpl : (backTo pos (starEach es X.env)).any (·.1) = false := by rfl) :
    VN X W (.Call (.Name x p) (e :: es) [] pos) (makeN x φ fa) := by
  refine ⟨fun pins s σ H Q I h => wpAny_Call_Name_kw (ld_glob I hg hm ?_ hdb)⟩
  exact PySem.W.callWith_K (h₀ := X.base) I.ok.mod.kin M.kp (thn (ha.run pos pins s σ H _ I (rd_make ns h)) fun us s1 ⟨vs, H1, I1, rv, q⟩ => ⟨I1.kIn, run_makeV M V0 room gd hb tk I1 rv q⟩) he hpl
theorem vn_make0 (M : Mk X.K C f) (V0 : VOk g X.prog X.w X.K X.mg X.base k f fd ps φ) (room : Room (k + 1) X.A) (gd : g = true → X.A.guards = some []) (tk : Takes X W) (hg : Gl X x) (hm : X.mg x = some (.ref C)) (ns : PySem.W.nsIn X.K mainGlobals x = some (some (.ref C))) (hb : Binds X.K fd ps [])
    (hdb : (x == ("__debug__" : Str)) = false := by decide) : VN X W (.Call (.Name x p) [] [] pos) (makeN x φ noA) := by
  refine ⟨fun pins s σ H Q I h => wpAny_Call_Name_kw (ld_glob I hg hm ?_ hdb)⟩
  have h := rd_make ns h
  obtain ⟨cq, F, δ, r, z⟩ := h
  exact PySem.W.callWith_K0 I.kIn M.kp (run_makeV (us := []) M V0 room gd hb tk I .nil (z [] F H r (.refl _) rfl))
end
end PV

/-! PV25: methods, defs held by a name, classes as values, isinstance. -/
namespace PV
open PySem PySem.Spec PyProof.Rows L2
abbrev FT := List (Str × (List Sl → FR))
def lkT : FT → Str → Option (List Sl → FR)
  | [], _ => none
  | (c, φ) :: r, n => if c = n then some φ else lkT r n
variable [Tbl]
section
variable {X : Cx} {W : WX} {k : Nat} {m x : Str} {p pos apos : Pos} {e o : Expr} {es : List Expr} {fo : DE → R D} {fa : DE → R (List Arg)} {g : Bool} {tb : FT}
theorem bind_assoc {α β γ : Type} {r : R α} {f : α → DE → R β} {h : β → DE → R γ} : (r.bind f).bind h = r.bind fun a δ => (f a δ).bind h := by cases r <;> rfl
/-- a call whose first argument is a datum -/
theorem rd_first {φ : List Sl → FR} {c : Cq} {F H : Hp} {σ : L2.St} {δ : DE} {d : D} {v : V} {Q : VK} (r : Rel X.K c F H σ δ) (hd : Den X.K F d v) (z : aft X.K W (dnE X.K) c F σ Q (callF φ (valA (cst d) fa) δ)) :
    rdA X.K W fa σ H fun vs H1 => spV X.K φ (v :: vs) H1 Q (WE W σ) := by
  have z' : aft X.K W (dnE X.K) c F σ Q ((fa δ).bind fun as δ => callF φ (fun δ => .ok (.val d :: as) δ) δ) := by
    have e : callF φ (valA (cst d) fa) δ = (fa δ).bind fun as δ => callF φ (fun δ => .ok (.val d :: as) δ) δ := by
      unfold callF valA
      rw [bind_assoc]
      show (fun x δ => _) d δ = _
      simp only [bind_assoc]
      rfl
    rw [← e]; exact z
  refine z'.next (DM := dnA X.K) r fun F1 H1 δ1 as vs r1 s1 d1 z1 => ?_
  have d2 : ArgsD X.K F1 σ (.val d :: as) (v :: vs) := ⟨v, vs, rfl, Den.mono s1 _ _ hd, d1⟩
  unfold callF at z1
  rw [R.bind_ok] at z1
  by_cases nd : (slots (Arg.val d :: as)).Nodup
  · rw [if_pos nd] at z1
    cases hl : lend δ1 (Arg.val d :: as) with
    | none => rw [hl] at z1; exact False.elim z1
    | some ss =>
      rw [hl] at z1
      refine ⟨F1, ss, r1.lent nd hl d2, ?_⟩
      have z1 : aft X.K W (dnE X.K) c F1 σ Q (match φ ss with
        | .ret d' ss' => .ok d' (unlend δ1 (Arg.val d :: as) ss')
        | .exc x ss' => .exc x (unlend δ1 (Arg.val d :: as) ss')
        | .stuck => .stuck) := z1
      cases hq : φ ss with
      | ret d' ss' => rw [hq] at z1; exact fun v F' H' dn dd => z1 v F' H' (r1.called nd hl d2 dn) dn.low dd
      | exc x ss' => rw [hq] at z1; exact fun cls od F' H' dn dd => z1 cls od F' H' (r1.called nd hl d2 dn) dn.low dd
      | stuck => rw [hq] at z1; exact z1
  · rw [if_neg nd] at z1; exact False.elim z1
/-- o.m(..) of a frozen instance, by its class -/
def callM (m : Str) (tb : FT) (fo : DE → R D) (fa : DE → R (List Arg)) : DE → R D := fun δ => (fo δ).bind fun o δ => match o with
  | .ins c l => match lkT tb c with
    | some φ => if lkF l m = none then callF φ (valA (cst (.ins c l)) fa) δ else .stuck
    | none => .stuck
  | _ => .stuck
/-- the classes' method m -/
def MethV (X : Cx) (k : Nat) (g : Bool) (m : Str) (tb : FT) : Prop := ∀ c φ, lkT tb c = some φ → ∃ C f fd ps, ClsT X.K c C ∧ Meth X.K C m f ∧ VOk g X.prog X.w X.K X.mg X.base k f fd ps φ ∧ Binds X.K fd ps []
theorem MethV.nil : MethV X k g m [] := fun c φ h => by cases h
theorem MethV.cons {c : Str} {φ : List Sl → FR} {C f : Addr} {fd : FuncData} {ps : List Str} {j : Nat} (t : ClsT X.K c C) (hm : Meth X.K C m f) (v : VOk g X.prog X.w X.K X.mg X.base j f fd ps φ) (hj : j ≤ k) (b : Binds X.K fd ps []) (r : MethV X k g m tb) : MethV X k g m ((c, φ) :: tb) := fun c' φ' h => by
  unfold lkT at h
  split at h
  · rename_i q; cases h; subst q; exact ⟨C, f, fd, ps, t, hm, v.mono hj, b⟩
  · exact r c' φ' h
/-- what a method call's object gives -/
def MethR (X : Cx) (W : WX) (m : Str) (tb : FT) (fa : DE → R (List Arg)) (σ : L2.St) (Q : VK) (v : V) (H1 : Hp) : Prop := ∃ c φ C a dx fs, lkT tb c = some φ ∧ PySem.W.nsIn X.K mainGlobals c = some (some (.ref C)) ∧ v = .ref a ∧ H1 a = some (.ins C dx fs) ∧ fs.lookup m = none ∧ rdA X.K W fa σ H1 fun vs H2 => spV X.K φ (v :: vs) H2 Q (WE W σ)
theorem rd_meth {σ : L2.St} {H : Hp} {Q : VK} (h : rdE X.K W (callM m tb fo fa) σ H Q) : rdE X.K W fo σ H (MethR X W m tb fa σ Q) := by
  refine h.first (DM := dnE X.K) fun c F H1 δ d v r d1 z1 => ?_
  split at z1
  · rename_i cn l
    split at z1
    · rename_i φ hφ
      split at z1
      · rename_i hl
        have d0 := d1
        obtain ⟨C, a, dx, fs, rfl, e0, e1, e2⟩ := d1
        exact ⟨cn, φ, C, a, dx, fs, hφ, e0, rfl, r.sub _ _ e1, denF_no e2 hl, rd_first r d0 z1⟩
      · exact False.elim z1
    · exact False.elim z1
  · exact False.elim z1
theorem ve_meth {pl : Sem Bool} (he : VE X W o fo) (tm : MethV X k g m tb) (room : Room k X.A) (gd : g = true → X.A.guards = some []) (tk : Takes X W) (ha : VA X W (e :: es) fa)
    (hst : starEach (e :: es) X.env = (false, eval e X.env) :: starEach es X.env := by rfl) (hpl : (backTo pos (starEach es X.env)).any (·.1) = false := by rfl)
    (ht : eval (.Call (.Attribute o m apos) (e :: es) [] pos) X.env = (do
      let ov ← eval o X.env
      standAt apos.atName
      let (f, first) ← holding [ov] (getMethod ov m pl)
      callWith pos f first (backTo pos (starEach (e :: es) X.env)) (backToKw pos (keywordEach [] X.env))) := by rfl) :
    VE X W (.Call (.Attribute o m apos) (e :: es) [] pos) (callM m tb fo fa) := by
  refine ⟨fun pins s σ H Q I h => ?_⟩
  refine PySem.W.methodCall_KW (pl := pl) (thn (he.run pins s σ H _ I (rd_meth h)) fun u s1 ⟨v, H1, I1, rx, c, φ, C, a, dx, fs, hφ, ns, ex, ea, l, q⟩ => ?_) ht
  subst ex
  obtain rfl : u = Value.ref a := rx
  obtain ⟨C', f, fd, ps, t, hm, V0, hb⟩ := tm c φ hφ
  have := ns_uniq t.ns ns
  subst this
  refine getmeth_ok I1 ea t.cls hm l ?_
  refine PySem.W.callWith_K (first := [.ref a]) (h₀ := X.base) I.ok.mod.kin hm.kp (thn (ha.run pos pins s1 σ H1 _ I1 q) fun us s2 ⟨vs, H2, I2, r, q2⟩ => ⟨I2.kIn, ?_⟩) hst hpl
  exact run_V (us := .ref a :: us) (vs := .ref a :: vs) V0 room gd hb tk I2 (.cons rfl r) q2
theorem ve_meth0 {pl : Sem Bool} (he : VE X W o fo) (tm : MethV X k g m tb) (room : Room k X.A) (gd : g = true → X.A.guards = some []) (tk : Takes X W)
    (ht : eval (.Call (.Attribute o m apos) [] [] pos) X.env = (do
      let ov ← eval o X.env
      standAt apos.atName
      let (f, first) ← holding [ov] (getMethod ov m pl)
      callWith pos f first (backTo pos (starEach [] X.env)) (backToKw pos (keywordEach [] X.env))) := by rfl) :
    VE X W (.Call (.Attribute o m apos) [] [] pos) (callM m tb fo noA) := by
  refine ⟨fun pins s σ H Q I h => ?_⟩
  refine PySem.W.methodCall_KW (pl := pl) (thn (he.run pins s σ H _ I (rd_meth h)) fun u s1 ⟨v, H1, I1, rx, c, φ, C, a, dx, fs, hφ, ns, ex, ea, l, q⟩ => ?_) ht
  subst ex
  obtain rfl : u = Value.ref a := rx
  obtain ⟨C', f, fd, ps, t, hm, V0, hb⟩ := tm c φ hφ
  have := ns_uniq t.ns ns
  subst this
  refine getmeth_ok I1 ea t.cls hm l ?_
  obtain ⟨cq, F, δ, r, z⟩ := q
  exact PySem.W.callWith_K0 (first := [.ref a]) I1.kIn hm.kp (run_V (us := [.ref a]) (vs := [.ref a]) V0 room gd hb tk I1 (.cons rfl .nil) (z [] F H1 r (.refl _) rfl))
/-- a def or an own class as a value -/
theorem ve_fn {a : Addr} (hg : Gl X x) (hm : X.mg x = some (.ref a)) (ns : PySem.W.nsIn X.K mainGlobals x = some (some (.ref a))) (hdb : (x == ("__debug__" : Str)) = false := by decide) : VE X W (.Name x pos) (cst (.fn x)) :=
  ve_glob (v := .ref a) hg hm rfl (fun F => ⟨a, rfl, ns⟩) hdb
/-- f(..) of a def that a name holds -/
def callL (i : Nat) (tb : FT) (fa : DE → R (List Arg)) : DE → R D := fun δ => match δ[i]? with
  | some (some (.val (.fn n))) => match lkT tb n with
    | some φ => callF φ fa δ
    | none => .stuck
  | _ => .stuck
def FnV (X : Cx) (k : Nat) (g : Bool) (tb : FT) : Prop := ∀ n φ, lkT tb n = some φ → ∃ f fd ps, PySem.W.nsIn X.K mainGlobals n = some (some (.ref f)) ∧ VOk g X.prog X.w X.K X.mg X.base k f fd ps φ ∧ PySem.W.keepIn X.K (.ref f) = true ∧ Binds X.K fd ps []
theorem FnV.nil : FnV X k g [] := fun c φ h => by cases h
theorem FnV.cons {c : Str} {φ : List Sl → FR} {f : Addr} {fd : FuncData} {ps : List Str} {j : Nat} (ns : PySem.W.nsIn X.K mainGlobals c = some (some (.ref f))) (v : VOk g X.prog X.w X.K X.mg X.base j f fd ps φ) (hj : j ≤ k) (hk : PySem.W.keepIn X.K (.ref f) = true) (b : Binds X.K fd ps []) (r : FnV X k g tb) : FnV X k g ((c, φ) :: tb) := fun c' φ' h => by
  unfold lkT at h
  split at h
  · rename_i q; cases h; subst q; exact ⟨f, fd, ps, ns, v.mono hj, hk, b⟩
  · exact r c' φ' h
theorem ve_callL (i : Nat) (tf : FnV X k g tb) (room : Room k X.A) (gd : g = true → X.A.guards = some []) (tk : Takes X W) (ha : VA X W (e :: es) fa) (hN : X.N[i]? = some x := by rfl) (hv : Vis X.env.scope x := by first | exact Or.inl rfl | exact Or.inr (Or.inl rfl) | exact Or.inr (Or.inr rfl))
    (hdb : (x == ("__debug__" : Str)) = false := by decide) (hcd : (x == ("__classdict__" : Str)) = false := by decide)
    (he : starEach (e :: es) X.env = (false, eval e X.env) :: starEach es X.env := by rfl) (hpl : (backTo pos (starEach es X.env)).any (·.1) = false := by rfl) : VE X W (.Call (.Name x p) (e :: es) [] pos) (callL i tb fa) := by
  refine ⟨fun pins s σ H Q I h => ?_⟩
  obtain ⟨c, F, δ, r, z⟩ := h
  unfold callL at z
  split at z
  · rename_i n e1
    split at z
    · rename_i φ e2
      obtain ⟨f, fd, ps, ns, V0, hk, hb⟩ := tf n φ e2
      obtain ⟨v, e3, a, rfl, e4⟩ := r.val e1
      have := ns_uniq ns e4
      subst this
      refine wpAny_Call_Name_kw (thn ((pe_var (pos := p) hN hv hdb hcd).run pins s σ H (fun v H1 => v = .ref f ∧ H1 = H) I ⟨.ref f, e3, rfl, rfl⟩) fun u s1 ⟨v, H1, I1, r1, q1⟩ => ?_)
      obtain ⟨rfl, rfl⟩ := q1
      cases r1
      exact PySem.W.callWith_K (h₀ := X.base) I.ok.mod.kin hk (thn (ha.run pos pins s1 σ _ _ I1 (rd_call ⟨c, F, δ, r, z⟩)) fun us s2 ⟨vs, H2, I2, r, q⟩ => ⟨I2.kIn, run_V V0 room gd hb tk I2 r q⟩) he hpl
    · exact False.elim z
  · exact False.elim z
/-! ### isinstance of own classes -/
def D.cnN : D → Option (Bool × Str)
  | .ins c _ => some (true, c)
  | d => d.tyN.map fun (t : String) => (false, Str.ofString t)
/-- im own t c: an instance of t (own: of an own class) is one of c -/
def isiC (im : Bool → Str → Str → Option Bool) : List D → Option D
  | [x, .fn c] => x.cnN.bind fun t => (im t.1 t.2 c).map .bl
  | _ => none
/-- the type of a name -/
def TyIs (K : PySem.W.Frag) : Bool → Str → Value → Prop
  | true, n, v => ∃ C, v = .ref C ∧ ClsT K n C
  | false, n, v => ∃ t : String, n = Str.ofString t ∧ v = .type t
structure ImOk (K : PySem.W.Frag) (im : Bool → Str → Str → Option Bool) : Prop where
  ok : ∀ o n m b T C, im o n m = some b → TyIs K o n T → PySem.W.nsIn K mainGlobals m = some (some (.ref C)) → PySem.W.kitOne K T (.ref C) = some b
  cls : ∀ n m b, im true n m = some b → ∃ C, ClsT K n C
  hn : PySem.W.specialIn K (.builtin "object.__class__") "__get__" = some (some (.builtin "getset_descriptor.__get__"))
  tk : PySem.W.takesIn K (.builtin "object.__class__") = some true
theorem b_isiC {im : Bool → Str → Str → Option Bool} (M : ImOk X.K im) : Bf X (.builtin "isinstance") (isiC im) := by
  refine ⟨_, call_isi, fun c F H σ δ ds z vs Q r d1 q k => ?_⟩
  unfold isiC at q
  split at q
  · rename_i x cn
    obtain ⟨t, q1, q2⟩ := Option.bind_eq_some_iff.mp q
    obtain ⟨b, q3, rfl⟩ := Option.map_eq_some_iff.mp q2
    obtain ⟨v, v', rfl, h1, h2⟩ := densH2 d1
    have h2 := h2.low (fun _ z => nomatch z) (fun _ z => nomatch z) (fun _ z => nomatch z) fun _ _ z => nomatch z
    obtain ⟨C, rfl, nc⟩ := h2
    unfold D.cnN at q1
    split at q1
    · rename_i cn' l
      cases q1
      obtain ⟨C1, t1⟩ := M.cls _ _ _ q3
      have key : ∀ {a dx fs}, H a = some (.ins C1 dx fs) → rIsi X.K [.ref a, .ref C] H Q := fun {a dx fs} ha =>
        ⟨_, _, _, _, b, rfl, .own C, .base (.ins ha t1.cls t1.cc M.hn M.tk t1.mo), M.ok true _ _ b _ C q3 ⟨C1, rfl, t1⟩ nc, k _ F H r (.refl _) rfl⟩
      rcases h1 with ⟨C', a, dx, fs, rfl, e0, e1, e2⟩ | ⟨m, a, o, e', rfl, e1, e2⟩
      · have := ns_uniq t1.ns e0
        subst this
        exact key (r.sub _ _ e1)
      · cases m with
        | lst l => cases e'
        | dct l => cases e'
        | dcT l => cases e'
        | ins c' l' =>
          cases e'
          obtain ⟨C', dx, fs, rfl, e0, e5⟩ := mden_ins e2
          have := ns_uniq t1.ns e0
          subst this
          exact key e1
    · obtain ⟨ty, q4, rfl⟩ := Option.map_eq_some_iff.mp q1
      exact ⟨v, _, _, _, b, rfl, .own C, tyN_x r.sub h1 q4, M.ok false _ _ b _ C q3 ⟨ty, rfl, rfl⟩ nc, k _ F H r (.refl _) rfl⟩
  · cases q
end
end PV

/-! PV26: a def of a class that says super().__init__(..). -/
namespace PV
open PySem PySem.Spec PyProof.Rows L2
structure FnScopeS (N P : List Str) (sc : Scope) : Prop where
  kind : sc.kind = .function
  co : sc.isCoroutine = false
  gen : sc.isGenerator = false
  nd : N.Nodup
  pre : N.take P.length = P
  par : ∀ x ∈ P, sc.names.lookup x = some .local
  nocell : ∀ y ∈ sc.names, y.2 ≠ .cell
  free : ∀ y ∈ sc.names, y.2 = .free → y.1 = "__class__"
  hk : sc.names.lookup ("__class__" : Str) = some .free
  hs : sc.names.lookup ("super" : Str) = some .globalImplicit
structure FunS (K : PySem.W.Frag) (x qual : Str) (st : Stmt) (f : Addr) (fd : FuncData) (cc Dc cda : Addr) (file : Str) : Prop where
  ex : ∃ (oc : Value) (od : Option Addr) (kV doc pm : Value) (an : Option Addr) (ct : Value) (osl : Array (Option Value)),
    fd = PySem.W.fnX x qual (defArgs st) (defBody st) (defScope st) [("__class__", cc)] .none kV doc pm an (.ref cda) ct ∧ K.lookup f = some ⟨oc, od, .func fd, osl⟩
  code : PySem.W.codeIn K (.ref cda) qual = true
  kp : PySem.W.keepIn K (.ref f) = true
  cell : ∃ cl cld csl, K.lookup cc = some ⟨cl, cld, .cell (some (.ref Dc)), csl⟩
  file : ∃ ccl cdd vs ccs tf, K.lookup cda = some ⟨ccl, cdd, .fields vs, ccs⟩ ∧ vs[2]? = some (.str file tf)
theorem FunS.binds {K : PySem.W.Frag} {x qual : Str} {st : Stmt} {f : Addr} {fd : FuncData} {cc Dc cda : Addr} {file : Str} {ps : List Str} (F : FunS K x qual st f fd cc Dc cda file)
    (h : ∀ (kV doc pm : Value) (an : Option Addr) (ct : Value) (us : List Value), us.length = ps.length → bindArgs (PySem.W.fnX x qual (defArgs st) (defBody st) (defScope st) [("__class__", cc)] .none kV doc pm an (.ref cda) ct) ⟨us, []⟩ = pure (ps.zip us)) : Binds K fd ps [] := by
  obtain ⟨oc, od, kV, doc, pm, an, ct, osl, rfl, lk⟩ := F.ex
  exact .all (h kV doc pm an ct)
abbrev envS (qual : Str) (scope : Scope) (L f cda cc : Addr) : Env := PySem.W.envX qual scope L f (.ref cda) [("__class__", cc)]
abbrev cxS (P : Program) (w : World) (K : PySem.W.Frag) (mg : Str → Option Value) (base : Heap) (N : List Str) (qual : Str) (scope : Scope) (f cda cc : Addr) (A : Around) (outer : List Env) (s : Shared) (H : Hp) (E : XK) : Cx where
  prog := P
  w := w
  K := K
  mg := mg
  base := base
  A := A.deeper (envS qual scope s.heap.objs.size f cda cc)
  N := N
  s_0 := s
  H_0 := H
  env := envS qual scope s.heap.objs.size f cda cc
  outer := outer
  stack := envS qual scope s.heap.objs.size f cda cc :: outer
  ex := []
  calm := true
  fn := fun x => !(x == ("__class__" : Str))
  pn := []
  xe := fun e s' => wpAny (model P w) (A.deeper (envS qual scope s.heap.objs.size f cda cc)) (leaving (envS qual scope s.heap.objs.size f cda cc) e) (fun _ s'' => L2.CX P w outer H s E e s'') (fun e' s'' => L2.CX P w outer H s E e' s'') s'
theorem cl1 {x : Str} {cc c : Addr} (h : ([("__class__", cc)] : List (Str × Addr)).lookup x = some c) : x = "__class__" ∧ c = cc := by
  unfold List.lookup at h
  split at h
  · rename_i e; exact ⟨beq_iff_eq.mp e, (Option.some.inj h).symm⟩
  · cases h
theorem zip_lk : ∀ {ps : List Str} {us : List Value} {i : Nat} {y : Str} {u : Value}, ps.Nodup → ps[i]? = some y → us[i]? = some u → (ps.zip us).reverse.lookup y = some u := by
  intro ps us i y u nd h1 h2
  have key : ∀ (l : List (Str × Value)), (l.map (·.1)).Nodup → (y, u) ∈ l → l.lookup y = some u := by
    intro l
    induction l with
    | nil => intro _ h; cases h
    | cons p r ih =>
      intro nd h
      rcases List.mem_cons.mp h with q | q
      · rw [← q]; simp [List.lookup]
      · have nd' := List.nodup_cons.mp (show ((p.1 :: r.map (·.1)) : List Str).Nodup from nd)
        have hb : (y == p.1) = false := beq_eq_false_iff_ne.mpr fun z => nd'.1 (by rw [← z]; exact List.mem_map_of_mem (f := (·.1)) q)
        obtain ⟨p1, p2⟩ := p
        simp only [List.lookup, hb]
        exact ih nd'.2 q
  refine key _ ?_ ?_
  · rw [List.map_reverse]
    have sub : ∀ (ps : List Str) (us : List Value), ((ps.zip us).map (·.1)).Sublist ps := by
      intro ps
      induction ps with
      | nil => intro us; simp
      | cons p ps ih =>
        intro us
        cases us with
        | nil => simp
        | cons u us => simp only [List.zip_cons_cons, List.map_cons]; exact (ih us).cons_cons p
    have : ((ps.zip us).map (·.1)).Nodup := nd.sublist (sub ps us)
    exact (List.reverse_perm _).nodup_iff.mpr this
  · rw [List.mem_reverse]
    have h3 : (ps.zip us)[i]? = some (y, u) := List.getElem?_zip_eq_some.mpr ⟨h1, h2⟩
    exact List.mem_of_getElem? h3
theorem inv_startS {P : Program} {w : World} {K : PySem.W.Frag} {mg : Str → Option Value} {base : Heap} {N ps : List Str} {qual : Str} {scope : Scope} {f cda cc Dc : Addr} {A : Around} {outer : List Env} {s : Shared} {H : Hp} {E : XK} {us : List Value} {vs : List V} {h1 : Heap} {tk : Nat}
    (S : FnScopeS N ps scope) (hd : A.handled = none) (e0 : Env0 P w K mg base A outer s H) (hl : vs.length = ps.length) (r : Vals vs us) (hc : ∃ cl cld csl, K.lookup cc = some ⟨cl, cld, .cell (some (.ref Dc)), csl⟩)
    (hns : h1.Ns s.heap.objs.size (fun x => (ps.zip us).reverse.lookup x)) (hk : ∀ b o, s.heap.get? b = some o → h1.get? b = some o) :
    Inv (cxS P w K mg base N qual scope f cda cc A outer s H E) [] (L2.start N vs) H { s with heap := h1, toks := tk } := by
  have hpl : ps.length ≤ N.length := by have := congrArg List.length S.pre; rw [List.length_take] at this; omega
  have noA : ∀ b : Addr, b ∉ (cxS P w K mg base N qual scope f cda cc A outer s H E).ex := fun b z => absurd (show b ∈ ([] : List Addr) from z) (by simp)
  obtain ⟨cl, cld, csl, hcc⟩ := hc
  have hb := e0.mod.kin _ _ hcc
  refine ⟨⟨e0.mod, S.kind, rfl, rfl, Nat.le_refl _, fun y z c h1 h2 => (cl1 h1).1.trans (cl1 h2).1.symm, fun y hy => ?_, fun y c h3 h => ?_, fun _ => hd, Around.frames_deeper e0.frames, .inr ⟨rfl, rfl⟩, fun b z => absurd z (noA b), e0.bs, e0.bsz, fun b _ _ => noA b, fun b z => absurd z (noA b), e0.funs, e0.frf⟩,
    rfl, e0.bare, Un.kept hk, ⟨_, hns, fun i y v h1 h2 h3 => ?_⟩, fun y c h => ?_, e0.hok.fresh (Nat.le_refl _), fun y c h => ?_, fun p hp => absurd (show p ∈ ([] : List (Addr × Obj)) from hp) (by simp), e0.hok.kept hk, ?_⟩
  · have hy : scope.names.lookup y = some .cell ∨ scope.names.lookup y = some .free := hy
    rcases hy with hy | hy
    · exact absurd rfl (S.nocell _ (PySem.mem_of_lookup hy))
    · have := S.free _ (PySem.mem_of_lookup hy) rfl
      exact ⟨cc, by rw [show y = _ from this]; rfl⟩
  · obtain ⟨rfl, rfl⟩ := cl1 h
    exact absurd h3 (by show ¬ (!(("__class__" : Str) == ("__class__" : Str))) = true; decide)
  · have hi : i < vs.length := by
      unfold L2.start at h2
      by_cases hi : i < vs.length
      · exact hi
      · rw [List.getElem?_append_right (by simpa using hi)] at h2
        rw [List.getElem?_replicate] at h2
        split at h2 <;> cases h2
    have ha : vs[i]? = some v := by
      unfold L2.start at h2
      rw [List.getElem?_append_left (by simpa using hi), List.getElem?_map] at h2
      cases e : vs[i]? with
      | none => rw [e] at h2; cases h2
      | some a => rw [e] at h2; cases h2; rfl
    obtain ⟨u, hu, rv⟩ := r.get ha
    have hp : ps[i]? = some y := by
      rw [← S.pre, List.getElem?_take_of_lt (by omega)]; exact h1
    have ndP : ps.Nodup := by rw [← S.pre]; exact S.nd.sublist (List.take_sublist _ _)
    exact ⟨u, rv, .inl ⟨S.par y (List.mem_of_getElem? hp), zip_lk ndP hp hu⟩⟩
  · obtain ⟨rfl, rfl⟩ := cl1 h
    exact ⟨_, _, hk _ _ (e0.bs _ _ hb).1, rfl⟩
  · obtain ⟨rfl, rfl⟩ := cl1 h
    exact (e0.bs _ _ hb).2
  · unfold L2.start
    show _ = N.length
    rw [List.length_append, List.length_map, List.length_replicate]
    omega
variable [Tbl]
/-- a block, where the code that runs is known -/
def VSA (X : Cx) (W : WX) (c : Code) (sts : List Stmt) (g : DE → O) : Prop := ∀ (pins : List (Addr × Obj)) (s : Shared) (σ : L2.St) (H : Hp) (D : Ends), L2.Inv X pins σ H s → rdS X.K W g D σ H → PySem.wpAt (model X.prog X.w) X.A c (execs sts X.env) (SP X pins D) X.xe s
def VSA1 (X : Cx) (W : WX) (c : Code) (st : Stmt) (g : DE → O) : Prop := ∀ (pins : List (Addr × Obj)) (s : Shared) (σ : L2.St) (H : Hp) (D : Ends), L2.Inv X pins σ H s → rdS X.K W g D σ H → PySem.wpAt (model X.prog X.w) X.A c (exec st X.env) (SP X pins D) X.xe s
section
variable {X : Cx} {W : WX} {c : Code} {st : Stmt} {rest sts : List Stmt} {g h : DE → O}
theorem vsa_of (k : VSs X W sts g) : VSA X W c sts g := fun pins s σ H D I z => PySem.wpAt_of_wpAny (k.run pins s σ H D I z)
theorem vsa1_of (k : VS X W st g) : VSA1 X W c st g := fun pins s σ H D I z => PySem.wpAt_of_wpAny (k.run pins s σ H D I z)
theorem vsa_cons (k : VSA1 X W c st g) (l : VSA X W c rest h) : VSA X W c (st :: rest) (thenS g h) := fun pins s σ H D I z => by
  refine ks_wpAt_execs_cons (PySem.wpAt_mono (k pins s σ H { D with nx := rdS X.K W h D } I (rd_then z)) (fun f s1 q => ?_) fun _ _ x => x)
  cases f with
  | next =>
    obtain ⟨σ', H', I', q⟩ := q
    exact l pins s1 σ' H' D I' q
  | ret v => exact q
  | brk => exact q
  | cont => exact q
theorem vsa_one (k : VSA1 X W c st g) : VSA X W c [st] g := fun pins s σ H D I z => by
  refine ks_wpAt_execs_cons (PySem.wpAt_mono (k pins s σ H D I z) (fun f s1 q => ?_) fun _ _ x => x)
  cases f with
  | next =>
    obtain ⟨σ', H', I', q⟩ := q
    exact PySem.wpAt_of_wpAny (wpAny_execs_nil ⟨σ', H', I', q⟩)
  | ret v => exact q
  | brk => exact q
  | cont => exact q
end
end PV

/-! PV27: super().__init__(..), and the worth of a def that says it. -/
namespace PV
open PySem PySem.Spec PyProof.Rows L2
/-- what the text has for super().__init__ of an instance of the class c, in a def of the class at D -/
structure SupC (K : PySem.W.Frag) (c : Str) (D f2 : Addr) : Prop where
  ex : ∃ C cd, PySem.W.nsIn K mainGlobals c = some (some (.ref C)) ∧ PySem.W.clsIn K C = some cd ∧ PySem.W.mroIn K C (.ref D) = some true ∧ PySem.W.ks_superIn K C D "__init__" = some (some (.ref f2))
structure SupG (X : Cx) (D f2 : Addr) (file : Str) : Prop where
  clsD : ∃ cd, PySem.W.clsIn X.K D = some cd
  sup : X.mg "super" = none
  any : PySem.W.nsIn X.K cStatics "thirdparty.any" = some none
  ty : PySem.W.typeIn X.K (.ref f2) = some (.type "function")
  fn : PySem.W.fnIn X.K f2 = true
  file : ((X.prog.main.file : Str) == file) = true
  top : (X.prog.main.scope.names.lookup ("super" : Str)).isSome = false
variable [Tbl]
def supE (cs : List Str) (φ : List Sl → FR) (fa : DE → R (List Arg)) : DE → R D := fun δ => match mutOf δ 0 with
  | some (_, .ins c _) => if c ∈ cs then callF φ (slotA 0 fa) δ else .stuck
  | _ => .stuck
/-- a call whose first argument is slot 0 -/
theorem rd_slot0 {X : Cx} {W : WX} {fa : DE → R (List Arg)} {φ : List Sl → FR} {c : Cq} {F H : Hp} {σ : L2.St} {δ : DE} {v : V} {Q : VK} {p : Sl × MD} (r : Rel X.K c F H σ δ) (hm : mutOf δ 0 = some p) (hv : σ[0]? = some (some v)) (z : aft X.K W (dnE X.K) c F σ Q (callF φ (slotA 0 fa) δ)) :
    rdA X.K W fa σ H fun vs H1 => spV X.K φ (v :: vs) H1 Q (WE W σ) := by
  have z' : aft X.K W (dnE X.K) c F σ Q ((fa δ).bind fun as δ => callF φ (fun δ => .ok (.slot 0 :: as) δ) δ) := by
    have e : callF φ (slotA 0 fa) δ = (fa δ).bind fun as δ => callF φ (fun δ => .ok (.slot 0 :: as) δ) δ := by
      unfold callF slotA
      rw [hm]
      simp only [bind_assoc]
    rw [← e]; exact z
  refine z'.next (DM := dnA X.K) r fun F1 H1 δ1 as vs r1 s1 d1 z1 => ?_
  have d2 : ArgsD X.K F1 σ (.slot 0 :: as) (v :: vs) := ⟨v, vs, rfl, hv, d1⟩
  unfold callF at z1
  rw [R.bind_ok] at z1
  by_cases nd : (slots (Arg.slot 0 :: as)).Nodup
  · rw [if_pos nd] at z1
    cases hl : lend δ1 (Arg.slot 0 :: as) with
    | none => rw [hl] at z1; exact False.elim z1
    | some ss =>
      rw [hl] at z1
      refine ⟨F1, ss, r1.lent nd hl d2, ?_⟩
      have z1 : aft X.K W (dnE X.K) c F1 σ Q (match φ ss with
        | .ret d' ss' => .ok d' (unlend δ1 (Arg.slot 0 :: as) ss')
        | .exc x ss' => .exc x (unlend δ1 (Arg.slot 0 :: as) ss')
        | .stuck => .stuck) := z1
      cases hq : φ ss with
      | ret d' ss' => rw [hq] at z1; exact fun v F' H' dn dd => z1 v F' H' (r1.called nd hl d2 dn) dn.low dd
      | exc x ss' => rw [hq] at z1; exact fun cls od F' H' dn dd => z1 cls od F' H' (r1.called nd hl d2 dn) dn.low dd
      | stuck => rw [hq] at z1; exact z1
  · rw [if_neg nd] at z1; exact False.elim z1
section
variable {P : Program} {w : World} {K : PySem.W.Frag} {mg : Str → Option Value} {base : Heap}
theorem vsa_super {x qual : Str} {st : Stmt} {f f2 : Addr} {fd fd2 : FuncData} {cc Dc cda : Addr} {file : Str} {N ps ps2 : List Str} {A : Around} {outer : List Env} {s0 : Shared} {H0 : Hp} {E : XK} {W : WX} {bd : List Stmt} {self : Str} {ar : PySem.Arg} {p0 p1 apos pos epos : Pos} {e : Expr} {es : List Expr} {fa : DE → R (List Arg)} {φ : List Sl → FR} {cs : List Str} {k : Nat} {g : Bool} {pl : Sem Bool}
    (T : FunS K x qual st f fd cc Dc cda file) (S : FnScopeS N ps (defScope st)) (hs0 : N[0]? = some self) (hsl : (defScope st).names.lookup self = some .local)
    (hp : ((defArgs st).posonlyargs ++ (defArgs st).args).head? = some ar) (har : ar.arg = self)
    (G : SupG (cxS P w K mg base N qual (defScope st) f cda cc A outer s0 H0 E) Dc f2 file) (sc : ∀ c ∈ cs, SupC K c Dc f2)
    (V0 : VOk g P w K mg base k f2 fd2 ps2 φ) (room : Room k (A.deeper (envS qual (defScope st) s0.heap.objs.size f cda cc))) (gd : g = true → (A.deeper (envS qual (defScope st) s0.heap.objs.size f cda cc)).guards = some []) (hb : Binds K fd2 ps2 [])
    (tk : Takes (cxS P w K mg base N qual (defScope st) f cda cc A outer s0 H0 E) W) (ha : VA (cxS P w K mg base N qual (defScope st) f cda cc A outer s0 H0 E) W (e :: es) fa)
    (hst : starEach (e :: es) (envS qual (defScope st) s0.heap.objs.size f cda cc) = (false, eval e (envS qual (defScope st) s0.heap.objs.size f cda cc)) :: starEach es (envS qual (defScope st) s0.heap.objs.size f cda cc) := by rfl) (hpl : (backTo pos (starEach es (envS qual (defScope st) s0.heap.objs.size f cda cc))).any (·.1) = false := by rfl)
    (hsw : swapsWith (.Call (.Attribute (.Call (.Name "super" p0) [] [] p1) "__init__" apos) (e :: es) [] pos) none epos.line (envS qual (defScope st) s0.heap.objs.size f cda cc) = pure false := by rfl)
    (ht : eval (.Call (.Attribute (.Call (.Name "super" p0) [] [] p1) "__init__" apos) (e :: es) [] pos) (envS qual (defScope st) s0.heap.objs.size f cda cc) = (do
      let ov ← attributeBase (.Call (.Name "super" p0) [] [] p1) "__init__" (envS qual (defScope st) s0.heap.objs.size f cda cc) (eval (.Call (.Name "super" p0) [] [] p1) (envS qual (defScope st) s0.heap.objs.size f cda cc))
      standAt apos.atName
      let (fv, first) ← holding [ov] (getMethod ov "__init__" pl)
      callWith pos fv first (backTo pos (starEach (e :: es) (envS qual (defScope st) s0.heap.objs.size f cda cc))) []) := by rfl) :
    VSA1 (cxS P w K mg base N qual (defScope st) f cda cc A outer s0 H0 E) W (.func bd (envS qual (defScope st) s0.heap.objs.size f cda cc)) (.Expr (.Call (.Attribute (.Call (.Name "super" p0) [] [] p1) "__init__" apos) (e :: es) [] pos) epos) (dropS (supE cs φ fa)) := by
  intro pins s σ H D I z
  have z1 : rdE K W (supE cs φ fa) σ H (fun _ H1 => D.nx σ H1) := z.first (DM := dnE K) (fun c F H1 δ a v r d zz => zz σ F H1 r (.refl _))
  obtain ⟨cq, F, δ, r, z2⟩ := z1
  unfold supE at z2
  split at z2
  rotate_left
  · exact False.elim z2
  rename_i sl cn l hm
  split at z2
  rotate_left
  · exact False.elim z2
  rename_i hcn
  obtain ⟨g1, g2⟩ := mutOf_some hm
  obtain ⟨xa, o, e1, e2, e3, e4⟩ := r.mutAt g1 g2
  obtain ⟨C, dx, fs, rfl, ns, _⟩ := mden_ins e3
  obtain ⟨C', cd, ns', hcd, hmro, hsu⟩ := (sc cn hcn).ex
  have := ns_uniq ns' ns
  subst this
  have za := rd_slot0 (X := cxS P w K mg base N qual (defScope st) f cda cc A outer s0 H0 E) r hm e1 z2
  obtain ⟨mA, O, _, _, _, _⟩ := ins_get I.hok e2
  have hx := O.obj
  obtain ⟨oc, od, kV, doc, pm, an, ct, osl, rfl, lk⟩ := T.ex
  obtain ⟨cl, cld, csl, hcell⟩ := T.cell
  obtain ⟨ccl, cdd, vs, ccs, tf, hcode, hvs⟩ := T.file
  obtain ⟨cdD, hD⟩ := G.clsD
  have kin : K.In s.heap := I.kIn
  obtain ⟨oD, hD1, hD2⟩ : ∃ oD, s.heap.get? Dc = some oD ∧ oD.data = .cls cdD := by
    unfold PySem.W.clsIn at hD
    split at hD
    · rename_i c d cd' sl ho
      cases hD
      exact ⟨_, kin _ _ ho, rfl⟩
    · cases hD
  obtain ⟨off, hof, hofc⟩ : ∃ off, K.lookup f2 = some off ∧ off.cls = .type "function" := by
    have ht' : (K.lookup f2).map (·.cls) = some (.type "function") := G.ty
    cases z : K.lookup f2 with
    | none => rw [z] at ht'; cases ht'
    | some of => rw [z] at ht'; exact ⟨of, rfl, Option.some.inj ht'⟩
  obtain ⟨m0, hns, hloc⟩ := I.loc
  obtain ⟨u0, ru0, lo0⟩ := hloc 0 self (.ref xa) hs0 e1 (.inl hsl)
  obtain rfl : u0 = Value.ref xa := ru0
  have hself : m0 self = some (.ref xa) := by
    rcases lo0 with ⟨_, q⟩ | ⟨q, _⟩
    · exact q
    · have hsl' : (envS qual (defScope st) s0.heap.objs.size f cda cc).kindOf self = some .local := hsl
      rcases q with q | q
      · rw [hsl'] at q; cases q
      · rw [hsl'] at q; cases q
  obtain ⟨mb, hb1, hb2⟩ := I.mod.blt
  refine PySem.wpAt_mono (Q := fun fl s' => fl = .next ∧ ∃ u, EP (cxS P w K mg base N qual (defScope st) f cda cc A outer s0 H0 E) pins σ (fun _ H1 => D.nx σ H1) u s') (ks_wpAt_Expr_any (ks_wpAt_MethodCall (pl := pl) ?_ ht) I.quiet hsw) (fun fl s' q => ?_) fun _ _ x => x
  rotate_left
  · obtain ⟨rfl, u, v, H', I', rv, q⟩ := q
    exact ⟨σ, H', I', q⟩
  refine ks_wpAt_super_base (env := envS qual (defScope st) s0.heap.objs.size f cda cc) S.hs S.hk (by decide) rfl (kin _ _ lk) rfl hp rfl (kin _ _ hcode) rfl hvs G.file G.top ?_
  refine PySem.W.ks_loadName_global S.kind S.hs (Calls.loadGlobal_builtin (env := envS qual (defScope st) s0.heap.objs.size f cda cc) (I.mod.glob.keeps I.bk) G.sup (hb1.keeps I.bk) ((hb2 "super" (by decide)).trans (show bootBuiltins "super" = some (.type "super") by decide +kernel)) ⟨rfl, ?_⟩)
  refine wpAny_loadName_free S.kind S.hk rfl ⟨_, kin _ _ hcell, rfl⟩ ?_
  rw [har]
  refine wpAny_loadName_local S.kind hsl hns hself ?_
  refine ks_wpAny_isType_cls hD1 hD2 ⟨rfl, ?_⟩
  refine ks_wpAny_call_super hD1 hD2 hx rfl (fun c e => nomatch e) (PySem.W.looks_mroIn kin hmro) (fun h' hso kp => ?_)
  have I1 := ClX.pin_new (t' := s.toks) I kp (Nat.le_refl _) hso (fun v z => nomatch z)
  have kin1 : K.In h' := I1.kIn
  have hx1 := kp _ _ hx
  have hne : xa ≠ C' := by
    intro q
    subst q
    unfold PySem.W.clsIn at hcd
    split at hcd
    · rename_i ho
      have e := kin _ _ ho
      rw [hx] at e
      cases e
    · cases hcd
  unfold PySem.W.ks_superIn at hsu
  rw [hcd] at hsu
  refine ks_wpAny_getMethod_super (l₀ := cd.mro) hso (PySem.W.looks_opaque kin1 G.any) (fun A Q E s k q => wpAny_bind ((PySem.W.looks_clsIn kin1 hcd) A _ E s k (wpAny_pure q))) rfl kin1 hsu (kin1 _ _ hof) hofc hne (by decide) ?_
  have I2 := ClX.met_new (g := f2) (C := xa) I1
  refine ClX.callwith_cm I2 (ClX.base_none I1 (Nat.le_refl _)) G.fn ?_ hst hpl
  refine thn (ha.run pos _ _ σ H _ I2 za) fun us s3 ⟨vs', H3, I3, rv, q3⟩ => ⟨⟨ClX.pin_at I3, I3.kIn⟩, ?_⟩
  have lu : (Value.ref xa :: us ++ []).length = ps2.length := by
    have := spV.len V0.len q3
    rw [List.append_nil, List.length_cons, ← rv.length, ← this, List.length_cons]
  have bd2 := hb s3 (Value.ref xa :: us) I3.kIn lu
  rw [List.append_nil] at bd2
  refine wpAny_call (PySem.W.method_call (ClX.pin_at I3) (codeAny_mono (V0.run _ _ s3 H3 ⟨Value.ref xa :: us, []⟩ (Value.ref xa :: us) (.ref xa :: vs') _ (WE W σ) room gd I3.env0 bd2 (.cons rfl rv) q3) fun res s' hq => ?_))
  cases res with
  | error e => exact passAt tk σ _ H3 s3 e s' I3 hq
  | ok fl => cases fl <;> first | exact ⟨rfl, _, ClX.unpinE (ClX.unpinE (I3.after hq))⟩ | exact False.elim hq
/-- THE RULE for a def with super() -/
theorem FunS.val {x qual : Str} {st : Stmt} {f : Addr} {fd : FuncData} {cc Dc cda : Addr} {file : Str} {N ps : List Str} {k n : Nat} {g : Bool} {G : DE → O} (T : FunS K x qual st f fd cc Dc cda file) (S : FnScopeS N ps (defScope st)) (hn : ps.length = n)
    (body : ∀ (A : Around) (outer : List Env) (s : Shared) (H : Hp) (E : XK), Room k (A.deeper (envS qual (defScope st) s.heap.objs.size f cda cc)) → (g = true → (A.deeper (envS qual (defScope st) s.heap.objs.size f cda cc)).guards = some []) →
      Takes (cxS P w K mg base N qual (defScope st) f cda cc A outer s H E) (wE E) → VSA (cxS P w K mg base N qual (defScope st) f cda cc A outer s H E) (wE E) (.func (defBody st) (envS qual (defScope st) s.heap.objs.size f cda cc)) (defBody st) G) :
    VOk g P w K mg base (k + 1) f fd ps (fnF n N.length G) := by
  have hcell := T.cell
  obtain ⟨oc, od, kV, doc, pm, an, ct, osl, rfl, lk⟩ := T.ex
  refine ⟨fun as h => by rw [hn]; exact fnF_len as h, fun A outer s H args us vs Q E room gd en hb rv sp => ?_⟩
  have stays : ∀ b o, base.get? b = some o → s.heap.get? b = some o := fun b o e => (en.bs b o e).1
  have hl : vs.length = ps.length := by rw [hn]; exact spV.len fnF_len sp
  refine ks_codeAny_call_defAt (fd := PySem.W.fnX x qual (defArgs st) (defBody st) (defScope st) [("__class__", cc)] .none kV doc pm an (.ref cda) ct) (body := defBody st) (binds := ps.zip us) room.depth ((en.mod.kin.keeps stays) _ _ lk) rfl (en.mod.nolimit.keeps stays) (PySem.W.codeRec_of (en.mod.kin.keeps stays) T.code) rfl hb S.nocell
    (fun y hy => S.par y.1 (List.of_mem_zip (show (y.1, y.2) ∈ ps.zip us from hy)).1) (fun h1 hns hk => ?_) S.co S.gen S.kind
  have tk : Takes (cxS P w K mg base N qual (defScope st) f cda cc A outer s H E) (wE E) := takes_of rfl rfl rfl rfl
  have J := inv_startS (P := P) (w := w) (qual := qual) (f := f) (cda := cda) (E := E) (tk := s.toks + (ps.zip us).length) S room.hd en hl rv hcell hns hk
  refine PySem.wpAt_mono (body A outer s H E (room.deeper _) (guards_in gd) tk [] _ (L2.start N vs) H _ J (sp_body sp)) (fun fl s' hs => ?_) fun e s' hs => hs
  cases fl with
  | ret u =>
    obtain ⟨v, σ', H', J', rv', q⟩ := hs
    exact ⟨v, H', J'.os, J'.bare, J'.base, J'.hok, rv', q⟩
  | next =>
    obtain ⟨σ', H', J', q⟩ := hs
    exact ⟨V.non, H', J'.os, J'.bare, J'.base, J'.hok, rfl, q⟩
  | brk =>
    obtain ⟨_, _, _, q⟩ := hs
    exact q.elim
  | cont =>
    obtain ⟨_, _, _, q⟩ := hs
    exact q.elim
end
end PV

/-! PV28: zip of two lists or two tuples. -/
namespace PV
open PySem PySem.Spec PyProof.Rows L2
def zipD (l m : List D) : List D := l.zipWith (fun a b => .tup [a, b]) m
def zipItems (as : List Arg) (δ : DE) : R (List D) := match as with
  | [.val (.lst l), .val (.lst m)] => .ok (zipD l m) δ
  | [.val (.tup l), .val (.tup m)] => .ok (zipD l m) δ
  | _ => .stuck
def zipE (fa : DE → R (List Arg)) : DE → R (List D) := fun δ => (fa δ).bind zipItems
theorem zip_get : ∀ {l m : List D} {i : Nat} {d : D}, (zipD l m)[i]? = some d → ∃ a b, l[i]? = some a ∧ m[i]? = some b ∧ d = .tup [a, b] := by
  intro l m i d h
  unfold zipD at h
  rw [List.getElem?_zipWith] at h
  cases e1 : l[i]? with
  | none => rw [e1] at h; cases h
  | some a =>
    cases e2 : m[i]? with
    | none => rw [e1, e2] at h; cases h
    | some b => rw [e1, e2] at h; cases h; exact ⟨a, b, rfl, rfl, rfl⟩
theorem zip_len {l m : List D} : (zipD l m).length = min l.length m.length := by unfold zipD; rw [List.length_zipWith]
variable [Tbl]
theorem it_zipL {K : PySem.W.Frag} {F0 : Hp} {a b : Addr} {xs ys : List V} {ds es : List D} (h : SqL K F0 a xs) (d : Dens K F0 ds xs) (h' : SqL K F0 b ys) (d' : Dens K F0 es ys) : ItF K F0 (Itz K a b) (zipD ds es) := by
  intro c F H σ δ i r s
  have h1 : SqL K H a xs := r.sub.seq (s.seq h)
  have h2 : SqL K H b ys := r.sub.seq (s.seq h')
  refine ⟨fun d0 e => ?_, fun e => ⟨xs, ys, h1, h2, by rw [e, zip_len, d.length, d'.length]; omega⟩⟩
  obtain ⟨x, y, e1, e2, rfl⟩ := zip_get e
  obtain ⟨v, g1, g2⟩ := d.get e1
  obtain ⟨v', g1', g2'⟩ := d'.get e2
  refine ⟨⟨xs, ys, v, v', h1, h2, g1, g1'⟩, fun z H1 y0 => ?_⟩
  obtain ⟨T, w, w', rfl, hT, rfl, y2, y3⟩ := y0
  have := (y2 xs h1).symm.trans g1
  cases this
  have := (y3 ys h2).symm.trans g1'
  cases this
  refine ⟨_, r.lay hT, same_new (r.freeF hT), T, _, rfl, upd_same, ?_⟩
  exact Dens.cons (Den.mono (s.trans (same_new (r.freeF hT))) _ _ g2) (Dens.one (Den.mono (s.trans (same_new (r.freeF hT))) _ _ g2'))
theorem it_zipT {K : PySem.W.Frag} {F0 : Hp} {a b : Addr} {xs ys : List V} {ds es : List D} (h : SqT K F0 a xs) (d : Dens K F0 ds xs) (h' : SqT K F0 b ys) (d' : Dens K F0 es ys) : ItF K F0 (RZ.ItzT K a b) (zipD ds es) := by
  intro c F H σ δ i r s
  have h1 : SqT K H a xs := PV.Same.tup r.sub (PV.Same.tup s h)
  have h2 : SqT K H b ys := PV.Same.tup r.sub (PV.Same.tup s h')
  refine ⟨fun d0 e => ?_, fun e => ⟨xs, ys, h1, h2, by rw [e, zip_len, d.length, d'.length]; omega⟩⟩
  obtain ⟨x, y, e1, e2, rfl⟩ := zip_get e
  obtain ⟨v, g1, g2⟩ := d.get e1
  obtain ⟨v', g1', g2'⟩ := d'.get e2
  refine ⟨⟨xs, ys, v, v', h1, h2, g1, g1'⟩, fun z H1 y0 => ?_⟩
  obtain ⟨T, w, w', rfl, hT, rfl, y2, y3⟩ := y0
  have := (y2 xs h1).symm.trans g1
  cases this
  have := (y3 ys h2).symm.trans g1'
  cases this
  refine ⟨_, r.lay hT, same_new (r.freeF hT), T, _, rfl, upd_same, ?_⟩
  exact Dens.cons (Den.mono (s.trans (same_new (r.freeF hT))) _ _ g2) (Dens.one (Den.mono (s.trans (same_new (r.freeF hT))) _ _ g2'))
theorem argsD2 {K : PySem.W.Frag} {F : Hp} {σ : L2.St} {d e : D} {vs : List V} (h : ArgsD K F σ [.val d, .val e] vs) : ∃ v w, vs = [v, w] ∧ Den K F d v ∧ Den K F e w := by
  obtain ⟨v, r, rfl, h1, w, r', rfl, h2, h3⟩ := h
  rw [show r' = [] from h3]
  exact ⟨v, w, rfl, h1, h2⟩
theorem vi_zip {X : Cx} {W : WX} {a b : Expr} {fa : DE → R (List Arg)} {elts : List Expr} {kk : Nat} {p pos tpos : Pos} (hg : Gl X "zip") (hm : X.mg "zip" = none) (ha : VA X W [a, b] fa)
    (hs : starEach [a, b] X.env = (false, eval a X.env) :: starEach [b] X.env := by rfl) (hpl : (backTo pos (starEach [b] X.env)).any (·.1) = false := by rfl) :
    VI X W (.Tuple elts kk tpos) (.Call (.Name "zip" p) [a, b] [] pos) (zipE fa) := PI.to (RZ.pi_zipA hg hm ha hs hpl) fun σ H Q z => by
  refine z.first (DM := dnA X.K) fun c F H1 δ as vs r d1 z1 => ?_
  unfold zipItems at z1
  split at z1
  · obtain ⟨v, w, rfl, h, h'⟩ := argsD2 d1
    obtain ⟨a, xs, rfl, h1, h2⟩ := h
    obtain ⟨b, ys, rfl, h1', h2'⟩ := h'
    exact ⟨a, b, xs, ys, rfl, .inl ⟨.inl (.inl (r.sub _ _ h1)), .inl (.inl (r.sub _ _ h1')), z1 _ F H1 r (.refl _) (it_zipL (.inl (.inl h1)) h2 (.inl (.inl h1')) h2')⟩⟩
  · obtain ⟨v, w, rfl, h, h'⟩ := argsD2 d1
    obtain ⟨a, xs, rfl, h1, h2⟩ := h
    obtain ⟨b, ys, rfl, h1', h2'⟩ := h'
    exact ⟨a, b, xs, ys, rfl, .inr ⟨sqt (r.sub _ _ h1), sqt (r.sub _ _ h1'), z1 _ F H1 r (.refl _) (it_zipT (sqt h1) h2 (sqt h1') h2')⟩⟩
  · exact False.elim z1
end PV

/-! PV29: several names at once, own objects among the values; lists joined to a new list of one's own. -/
namespace PV
open PySem PySem.Spec PyProof.Rows L2
def catN (fa fb : DE → R D) : DE → R MD := fun δ => (fa δ).bind fun x δ => (fb δ).bind fun y δ => match ladd x y with
  | some (.lst l) => .ok (.lst l) δ
  | _ => .stuck
variable [Tbl]
section
variable {X : Cx} {W : WX} {a b : Expr} {fa fb : DE → R D} {pos : Pos}
theorem vn_cat (ha : VE X W a fa) (hb : VE X W b fb) : VN X W (.BinOp a .Add b pos) (catN fa fb) := PE.to (pe_op op_cat ha hb) fun σ H Q z => by
  refine z.first (DM := dnE X.K) fun c F H1 δ x v r1 d1 z1 => ?_
  refine z1.next (DM := dnE X.K) r1 fun F2 H2 δ2 y w r2 s2 d2 z2 => ?_
  replace d1 := Den.mono s2 _ _ d1
  cases x <;> first | (exact False.elim z2; done) | skip
  cases y <;> first | (exact False.elim z2; done) | skip
  rename_i la lb
  obtain ⟨p, xs, rfl, h1, h2⟩ := d1
  obtain ⟨q, ys, rfl, h1', h2'⟩ := d2
  by_cases hl : la.length + lb.length ≤ LIM
  · have e : ladd (.lst la) (.lst lb) = some (.lst (la ++ lb)) := by
      show (if _ then _ else _) = _
      rw [if_pos hl]
    rw [e] at z2
    refine ⟨p, q, xs, ys, rfl, rfl, r2.sub _ _ h1, r2.sub _ _ h1', by rw [h2.length, h2'.length]; exact lim_le hl, fun t ht => ?_⟩
    obtain ⟨g1, g2⟩ := r2.fresh (o := .lst (xs ++ ys)) (m := .lst (la ++ lb)) ht (Dens.append h2 h2')
    exact z2 _ _ _ g1 (.refl _) g2
  · have e : ladd (.lst la) (.lst lb) = none := by
      show (if _ then _ else _) = _
      rw [if_neg hl]
    rw [e] at z2
    exact False.elim z2
end
/-! ### values, own objects among them -/
def ItD (K : PySem.W.Frag) (c : Cq) (F H : Hp) (σ : L2.St) (δ : DE) : Sl → V → Prop
  | .val d, v => Den K F d v
  | .own m, v => dnN K c F H σ δ m v
  | .bor _, _ => False
def dnL (K : PySem.W.Frag) (c : Cq) (F H : Hp) (σ : L2.St) (δ : DE) : List Sl → List V → Prop
  | [], vs => vs = []
  | s :: ss, vs => ∃ v r, vs = v :: r ∧ ItD K c F H σ δ s v ∧ dnL K c F H σ δ ss r ∧ ∀ m, s = .own m → ∀ (k : Nat) (n : MD), ss[k]? = some (.own n) → r[k]? ≠ some v
abbrev rdL (K : PySem.W.Frag) (W : WX) (f : DE → R (List Sl)) : TA := rd K W (dnL K) f
def noI : DE → R (List Sl) := fun δ => .ok [] δ
def valI (f : DE → R D) (r : DE → R (List Sl)) : DE → R (List Sl) := fun δ => (f δ).bind fun d δ => (r δ).bind fun ss δ => .ok (.val d :: ss) δ
def ownI (f : DE → R MD) (r : DE → R (List Sl)) : DE → R (List Sl) := fun δ => (f δ).bind fun m δ => (r δ).bind fun ss δ => .ok (.own m :: ss) δ
abbrev VL (X : Cx) (W : WX) (es : List Expr) (f : DE → R (List Sl)) : Prop := PA X es (rdL X.K W f)
section
variable {X : Cx} {W : WX} {e : Expr} {es : List Expr} {f : DE → R D} {fm : DE → R MD} {r : DE → R (List Sl)}
theorem vl_nil : VL X W [] noI := PA.to pa_nil fun σ H Q z => by
  obtain ⟨c, F, δ, r, z⟩ := z
  exact z [] F H r (.refl _) rfl
theorem vl_val (h : VE X W e f) (k : VL X W es r) (hs : starEach (e :: es) X.env = (false, eval e X.env) :: starEach es X.env := by rfl) : VL X W (e :: es) (valI f r) := PA.to (pa_cons h k hs) fun σ H Q z => by
  refine z.first (DM := dnE X.K) fun c F H1 δ x v r1 d1 z1 => ?_
  refine z1.next (DM := dnL X.K) r1 fun F2 H2 δ2 as vs r2 s2 d2 z2 => ?_
  exact z2 _ F2 H2 r2 (.refl _) ⟨v, vs, rfl, Den.mono s2 _ _ d1, d2, fun m e => nomatch e⟩
theorem dnN_hold {K : PySem.W.Frag} {c : Cq} {F H : Hp} {σ : L2.St} {δ : DE} {m : MD} {v : V} {p : Addr} {o : HO} (h : dnN K { c with G := upd c.G p o } F H σ δ m v) : dnN K c F H σ δ m v ∧ v ≠ .ref p := by
  obtain ⟨q, o', rfl, h1, h2, h3, h4, h5, h6⟩ := h
  have h4 : upd c.G p o q = none := h4
  have ne : q ≠ p := fun z => by rw [z, upd_same] at h4; cases h4
  rw [upd_ne ne] at h4
  exact ⟨⟨q, o', rfl, h1, h2, h3, h4, h5, h6⟩, fun z => ne (V.ref.inj z)⟩
theorem dnL_hold {K : PySem.W.Frag} {c : Cq} {F H : Hp} {σ : L2.St} {δ : DE} {p : Addr} {o : HO} : ∀ {ss : List Sl} {vs : List V}, dnL K { c with G := upd c.G p o } F H σ δ ss vs → dnL K c F H σ δ ss vs ∧ ∀ (k : Nat) (n : MD), ss[k]? = some (.own n) → vs[k]? ≠ some (.ref p)
  | [], _, h => ⟨h, fun k n e => by simp at e⟩
  | s :: ss, _, ⟨v, r, e, h1, h2, h3⟩ => by
    subst e
    obtain ⟨i1, i2⟩ := dnL_hold h2
    have g : ItD K c F H σ δ s v ∧ ∀ m, s = .own m → v ≠ .ref p := by
      cases s with
      | val d => exact ⟨h1, fun m e => nomatch e⟩
      | own m => exact ⟨(dnN_hold h1).1, fun _ _ => (dnN_hold h1).2⟩
      | bor m => exact False.elim h1
    refine ⟨⟨v, r, rfl, g.1, i1, h3⟩, fun k n e => ?_⟩
    cases k with
    | zero =>
      have e : s = .own n := by simpa using e
      have := g.2 n e
      simpa using this
    | succ k => simpa using i2 k n (by simpa using e)
theorem vl_own (h : VN X W e fm) (k : VL X W es r) (hs : starEach (e :: es) X.env = (false, eval e X.env) :: starEach es X.env := by rfl) : VL X W (e :: es) (ownI fm r) := PA.to (pa_cons h k hs) fun σ H Q z => by
  refine z.first (DM := dnN X.K) fun c F H1 δ m v r1 d1 z1 => ?_
  obtain ⟨p, o, rfl, h1, h2, h3, h4, h5, h6⟩ := d1
  have hb : ∀ i ∈ c.bs, c.adr i ≠ p := fun i hi q => r1.bor0 i hi (by rw [q]; exact h5)
  have rh := r1.hold h1 h3 h6 hb h2.plg
  refine ⟨_, F, δ, rh, ?_⟩
  cases q : r δ with
  | stuck => rw [q] at z1; exact z1
  | exc x δ2 =>
    rw [q] at z1
    intro cls od F' H' r' s' xo
    exact z1 cls od F' H' (r'.drop h4).1 s' xo
  | ok ss δ2 =>
    rw [q] at z1
    intro vs F' H' r' s' dl
    obtain ⟨r2, g1, g2, g3, g4⟩ := r'.drop h4
    obtain ⟨j1, j2⟩ := dnL_hold dl
    exact z1 _ F' H' r2 s' ⟨.ref p, vs, rfl, ⟨p, o, rfl, g1, h2.mono s', g2, h4, h5, g3⟩, j1, fun _ _ => j2⟩
end
/-- the slots take them -/
def setAll : List Nat → List Sl → DE → Option DE
  | [], [], δ => some δ
  | i :: is, s :: ss, δ => (setSl i s δ).bind (setAll is ss)
  | _, _, _ => none
def setV : List Nat → List V → L2.St → L2.St
  | i :: is, v :: vs, σ => setV is vs (σ.set i (some v))
  | _, _, σ => σ
def parS (is : List Nat) (f : DE → R (List Sl)) : DE → O := fun δ => bindS (f δ) fun ss δ => match setAll is ss δ with
  | some δ => .nx δ
  | none => .stuck
section
variable {K : PySem.W.Frag} {c : Cq} {F H : Hp} {σ : L2.St} {δ : DE}
theorem Rel.setIt (r : Rel K c F H σ δ) {i : Nat} {s : Sl} {v : V} (h : ItD K c F H σ δ s v) (nb : ∀ m, δ[i]? ≠ some (some (.bor m))) : Rel K c F H (σ.set i (some v)) (δ.set i (some s)) := by
  cases s with
  | val d => exact r.set h nb
  | own m =>
    obtain ⟨p, o, rfl, h1, h2, h3, h4, h5, h6⟩ := h
    exact r.setOwn h1 h3 h4 h5 h2 h6 nb
  | bor m => exact False.elim h
theorem dnL_set {i : Nat} {s : Sl} {v : V} : ∀ {ss : List Sl} {vs : List V}, dnL K c F H σ δ ss vs → (∀ m, s = .own m → ∀ (k : Nat) (n : MD), ss[k]? = some (.own n) → vs[k]? ≠ some v) → dnL K c F H (σ.set i (some v)) (δ.set i (some s)) ss vs
  | [], _, h, _ => h
  | t :: ss, _, ⟨w, r, e, h1, h2, h3⟩, g => by
    subst e
    refine ⟨w, r, rfl, ?_, dnL_set h2 (fun m e k n q => by simpa using g m e (k + 1) n (by simpa using q)), h3⟩
    cases t with
    | val d => exact h1
    | bor m => exact False.elim h1
    | own m =>
      obtain ⟨p, o, rfl, q1, q2, q3, q4, q5, q6⟩ := h1
      refine ⟨p, o, rfl, q1, q2, q3, q4, q5, fun j n e1 e2 => ?_⟩
      by_cases hj : i = j
      · subst hj
        rw [List.getElem?_set] at e1 e2
        simp only [if_true] at e1 e2
        split at e1
        · split at e2
          · cases e2
            cases e1
            exact g n rfl 0 m rfl rfl
          · cases e2
        · cases e1
      · rw [List.getElem?_set_ne hj] at e1 e2
        exact q6 j n e1 e2
theorem Rel.setAll : ∀ {is : List Nat} {ss : List Sl} {vs : List V} {σ : L2.St} {δ δ' : DE}, Rel K c F H σ δ → dnL K c F H σ δ ss vs → PV.setAll is ss δ = some δ' → Rel K c F H (setV is vs σ) δ'
  | [], [], _, _, _, _, r, h, e => by cases e; rw [show _ = _ from h]; exact r
  | [], _ :: _, _, _, _, _, _, _, e => by cases e
  | _ :: _, [], _, _, _, _, _, _, e => by cases e
  | i :: is, s :: ss, _, σ, δ, δ', r, ⟨v, q, e1, h1, h2, h3⟩, e => by
    subst e1
    unfold PV.setAll at e
    obtain ⟨δ1, g1, g2⟩ := Option.bind_eq_some_iff.mp e
    obtain ⟨rfl, nb⟩ := setSl_some g1
    unfold setV
    exact Rel.setAll (r.setIt h1 nb) (dnL_set h2 h3) g2
end
section
variable {X : Cx} {W : WX} {a b d : Expr} {f : DE → R (List Sl)} {pos : Pos}
theorem dnL_len {K : PySem.W.Frag} {c : Cq} {F H : Hp} {σ : L2.St} {δ : DE} : ∀ {ss : List Sl} {vs : List V}, dnL K c F H σ δ ss vs → vs.length = ss.length
  | [], _, h => by rw [show _ = _ from h]; rfl
  | s :: ss, _, ⟨v, r, e, _, h2, _⟩ => by subst e; simp [dnL_len h2]
theorem setAll_len : ∀ {is : List Nat} {ss : List Sl} {δ δ' : DE}, setAll is ss δ = some δ' → ss.length = is.length
  | [], [], _, _, _ => rfl
  | [], _ :: _, _, _, e => by cases e
  | _ :: _, [], _, _, e => by cases e
  | i :: is, s :: ss, δ, δ', e => by
    unfold setAll at e
    obtain ⟨δ1, g1, g2⟩ := Option.bind_eq_some_iff.mp e
    simp [setAll_len g2]
theorem vs_par2 {i j : Nat} {x y : Str} {px py pt : Pos} {kt k2 pt2} (hc : X.calm = true) (hN : X.N.Nodup) (hi : X.N[i]? = some x) (hj : X.N[j]? = some y) (hij : i ≠ j)
    (hx : X.env.scope.names.lookup x = some .local) (hy : X.env.scope.names.lookup y = some .local) (ha : VL X W [a, b] f)
    (hw : swappedStores [.Tuple [.Name x px, .Name y py] kt pt] (.Tuple [a, b] k2 pt2) X.env = pure (some [x, y]) := by rfl)
    (hs : swapsWithSole [.Tuple [.Name x px, .Name y py] kt pt] (.Tuple [a, b] k2 pt2) pos.line X.env = pure false := by rfl) :
    VS X W (.Assign [.Tuple [.Name x px, .Name y py] kt pt] (.Tuple [a, b] k2 pt2) pos) (parS [i, j] f) := PS.to (ps_par hc hN hi hj hij hx hy ha hw hs) fun N σ H z => by
  refine z.first (DM := dnL X.K) fun c F H1 δ ss vs r1 d1 z1 => ?_
  split at z1
  · rename_i δ' e
    have hl := (dnL_len d1).trans (setAll_len e)
    match vs, hl with
    | [v, w], _ => exact ⟨v, w, rfl, z1 _ F H1 (r1.setAll d1 e) (.refl _)⟩
  · exact False.elim z1
theorem vs_par3 {i j l : Nat} {x y z : Str} {px py pz pt : Pos} {kt k2 pt2} (hc : X.calm = true) (hN : X.N.Nodup) (hi : X.N[i]? = some x) (hj : X.N[j]? = some y) (hl : X.N[l]? = some z) (hij : i ≠ j) (hil : i ≠ l) (hjl : j ≠ l)
    (hx : X.env.scope.names.lookup x = some .local) (hy : X.env.scope.names.lookup y = some .local) (hz : X.env.scope.names.lookup z = some .local) (ha : VL X W [a, b, d] f)
    (hw : swappedStores [.Tuple [.Name x px, .Name y py, .Name z pz] kt pt] (.Tuple [a, b, d] k2 pt2) X.env = pure (some [x, y, z]) := by rfl)
    (hs : swapsWithSole [.Tuple [.Name x px, .Name y py, .Name z pz] kt pt] (.Tuple [a, b, d] k2 pt2) pos.line X.env = pure false := by rfl) :
    VS X W (.Assign [.Tuple [.Name x px, .Name y py, .Name z pz] kt pt] (.Tuple [a, b, d] k2 pt2) pos) (parS [i, j, l] f) := PS.to (ps_par3 hc hN hi hj hl hij hil hjl hx hy hz ha hw hs) fun N σ H z => by
  refine z.first (DM := dnL X.K) fun c F H1 δ ss vs r1 d1 z1 => ?_
  split at z1
  · rename_i δ' e
    have hl := (dnL_len d1).trans (setAll_len e)
    match vs, hl with
    | [v, w, u], _ => exact ⟨v, w, u, rfl, z1 _ F H1 (r1.setAll d1 e) (.refl _)⟩
  · exact False.elim z1
def gNames (is : List Nat) : TGs := fun vs σ H Q => vs.length = is.length ∧ Q (setV is vs σ) H
theorem gn_nil : PGs X [] (gNames []) := PGs.to pgs_nil fun v σ H Q z => by
  obtain ⟨h1, h2⟩ := z
  have e : v = [] := List.eq_nil_of_length_eq_zero h1
  subst e
  exact ⟨rfl, h2⟩
theorem gn_cons {i : Nat} {x : Str} {p : Pos} {es : List Expr} {is : List Nat} (hN : X.N.Nodup) (hi : X.N[i]? = some x) (hx : Loc X.env.scope x) (k : PGs X es (gNames is)) (hf : X.fn x = true ∨ X.env.scope.names.lookup x = some .local := by first | exact .inl rfl | exact .inr rfl | assumption)
    (hs : (assignEach (.Name x p :: es) X.env).map (·.2) = assign (.Name x p) X.env :: (assignEach es X.env).map (·.2) := by rfl) : PGs X (.Name x p :: es) (gNames (i :: is)) := PGs.to (pgs_cons (pg_name hN hi hx hf) k hs) fun v σ H Q z => by
  obtain ⟨h1, h2⟩ := z
  cases v with
  | nil => cases h1
  | cons v vs => exact ⟨v, vs, rfl, by simpa using h1, h2⟩
theorem dnL_tmp {K : PySem.W.Frag} {c : Cq} {F H : Hp} {σ : L2.St} {δ : DE} {p : Addr} {o : HO} (hp : H p = none) : ∀ {ss : List Sl} {vs : List V}, dnL K c F H σ δ ss vs → dnL K c F (upd H p o) σ δ ss vs
  | [], _, h => h
  | s :: ss, _, ⟨v, r, e, h1, h2, h3⟩ => by
    subst e
    refine ⟨v, r, rfl, ?_, dnL_tmp hp h2, h3⟩
    cases s with
    | val d => exact h1
    | bor m => exact False.elim h1
    | own m =>
      obtain ⟨q, o', rfl, q1, q2⟩ := h1
      exact ⟨q, o', rfl, by rw [upd_ne (ne_of_none q1 hp)]; exact q1, q2⟩
theorem vs_parT {es vs : List Expr} {is : List Nat} {kt k2 : Nat} {pt pt2 : Pos} {n : Nat} (hc : X.calm = true) (hg : PGs X es (gNames is)) (ha : VL X W vs f) (hn : (assignEach es X.env).length = n := by rfl) (hst : (assignEach es X.env).findIdx? (·.1) = none := by rfl) (hni : is.length = n := by rfl) (hsm : n ≤ 1000 := by decide)
    (hs : swapsWithSole [.Tuple es kt pt] (.Tuple vs k2 pt2) pos.line X.env = pure false := by rfl) (hw : swappedStores [.Tuple es kt pt] (.Tuple vs k2 pt2) X.env = pure none := by rfl) (h1 : (assignEach [.Tuple es kt pt] X.env).map (·.2) = [assign (.Tuple es kt pt) X.env] := by rfl) :
    VS X W (.Assign [.Tuple es kt pt] (.Tuple vs k2 pt2) pos) (parS is f) := PS.to (ps_asg (pe_tup ha) (pg_tup hc hg hn hst) hs hw h1) fun N σ H z => by
  refine z.first (DM := dnL X.K) fun c F H1 δ ss us r1 d1 z1 => ?_
  split at z1
  · rename_i δ' e
    have hl := (dnL_len d1).trans (setAll_len e)
    refine ⟨by rw [hl, hni]; exact Nat.le_trans hsm (by decide), fun p hp => ⟨p, us, rfl, .inl (.inl upd_same), by rw [hl, hni], hl, ?_⟩⟩
    exact z1 _ F _ (Rel.setAll (r1.tmp hp) (dnL_tmp hp d1) e) (.refl _)
  · exact False.elim z1
end
end PV

/-! PV30: readings on data evaluated by simp. Only what is reached is looked at (the congr rows). -/
namespace PV
open PySem PySem.Spec PyProof.Rows L2
section
variable {α β : Type} {δ δ1 : DE} {x : XD} {c : Prop} [Decidable c]
@[simp] theorem bind_ok {a : α} {g : α → DE → R β} : (R.ok a δ).bind g = g a δ := rfl
@[simp] theorem bind_exc {g : α → DE → R β} : (R.exc x δ : R α).bind g = .exc x δ := rfl
@[simp] theorem bind_stuck {g : α → DE → R β} : (R.stuck : R α).bind g = .stuck := rfl
@[simp] theorem bind_ite {r s : R α} {g : α → DE → R β} : (if c then r else s).bind g = if c then r.bind g else s.bind g := by split <;> rfl
@[simp] theorem bindS_ok {a : α} {g : α → DE → O} : bindS (R.ok a δ) g = g a δ := rfl
@[simp] theorem bindS_exc {g : α → DE → O} : bindS (R.exc x δ : R α) g = .exc x δ := rfl
@[simp] theorem bindS_stuck {g : α → DE → O} : bindS (R.stuck : R α) g = .stuck := rfl
@[simp] theorem bindS_ite {r s : R α} {g : α → DE → O} : bindS (if c then r else s) g = if c then bindS r g else bindS s g := by split <;> rfl
@[simp] theorem of_some {a : α} : R.of (some a) δ = .ok a δ := rfl
@[simp] theorem of_none : (R.of none δ : R α) = .stuck := rfl
@[simp] theorem of_ite {a b : Option α} : R.of (if c then a else b) δ = if c then R.of a δ else R.of b δ := by split <;> rfl
@[simp] theorem calm_ok {a : α} : (R.ok a δ).calm = .ok a δ := rfl
@[simp] theorem calm_exc : (R.exc x δ : R α).calm = .stuck := rfl
@[simp] theorem calm_stuck : (R.stuck : R α).calm = .stuck := rfl
@[simp] theorem calm_ite {r s : R α} : (if c then r else s).calm = if c then r.calm else s.calm := by split <;> rfl
end
/-! ### expressions -/
def varR (o : Option (Option Sl)) (i : Nat) (δ : DE) : R D := match o with
  | some (some (.val d)) => .ok d δ
  | some (some (.own m)) => .ok m.d (δ.set i (some (.val m.d)))
  | _ => .stuck
section
variable {δ : DE} {i : Nat} {d e : D} {m : MD} {f g h fa fb fc : DE → R D} {t u : DE → R Bool} {o o' : D → D → Option D} {ra : DE → R (List Arg)} {k : DE → O} {l : DE → O}
@[simp] theorem ev_cst : cst d δ = .ok d δ := rfl
@[simp] theorem ev_var : var i δ = varR δ[i]? i δ := rfl
@[simp] theorem varR_val : varR (some (some (.val d))) i δ = .ok d δ := rfl
@[simp] theorem varR_own : varR (some (some (.own m))) i δ = .ok m.d (δ.set i (some (.val m.d))) := rfl
def k_op1 (o : D → D → Option D) (x y : D) (δ : DE) : R D := R.of (o x y) δ
def k_op2 (o : D → D → Option D) (fb : DE → R D) (x : D) (δ : DE) : R D := (fb δ).bind (k_op1 o x)
@[simp] theorem ev_op2 : op2 o fa fb δ = (fa δ).bind (k_op2 o fb) := rfl
@[simp] theorem ev_kop2 : k_op2 o fb d δ = (fb δ).bind (k_op1 o d) := rfl
@[simp] theorem ev_kop1 {x y : D} : k_op1 o x y δ = R.of (o x y) δ := rfl
def tstK (x : D) (δ : DE) : R Bool := match x with
  | .bl b => .ok b δ
  | _ => .stuck
@[simp] theorem ev_tst : tst f δ = (f δ).bind tstK := rfl
@[simp] theorem tstK_bl {b : Bool} : tstK (.bl b) δ = .ok b δ := rfl
@[simp] theorem tstK_ite {c : Prop} [Decidable c] : tstK (if c then d else e) δ = if c then tstK d δ else tstK e δ := by split <;> rfl
def k_andT (u : DE → R Bool) (b : Bool) (δ : DE) : R Bool := if b = true then u δ else .ok false δ
def k_orT (u : DE → R Bool) (b : Bool) (δ : DE) : R Bool := if b = true then .ok true δ else u δ
def k_notT (b : Bool) (δ : DE) : R Bool := .ok (!b) δ
@[simp] theorem ev_andT : andT t u δ = (t δ).bind (k_andT u) := rfl
@[simp] theorem ev_kandT {b : Bool} : k_andT u b δ = if b = true then u δ else .ok false δ := rfl
@[simp] theorem ev_korT {b : Bool} : k_orT u b δ = if b = true then .ok true δ else u δ := rfl
@[simp] theorem ev_knotT {b : Bool} : k_notT b δ = .ok (!b) δ := rfl
@[simp] theorem ev_orT : orT t u δ = (t δ).bind (k_orT u) := rfl
@[simp] theorem ev_notT : notT t δ = (t δ).bind k_notT := rfl
def andK (g : DE → R D) (b : D) (δ : DE) : R D := match b with
  | .bl true => g δ
  | .bl false => .ok (.bl false) δ
  | _ => .stuck
@[simp] theorem ev_andE : andE f g δ = (f δ).bind (andK g) := rfl
@[simp] theorem andK_t : andK g (.bl true) δ = g δ := rfl
@[simp] theorem andK_f : andK g (.bl false) δ = .ok (.bl false) δ := rfl
theorem andK_b {b : Bool} : andK g (.bl b) δ = if b = true then g δ else .ok (.bl false) δ := by cases b <;> rfl
@[simp] theorem andK_dec {p : Prop} [Decidable p] : andK g (.bl (decide p)) δ = if p then g δ else .ok (.bl false) δ := by by_cases h : p <;> simp [h]
def orK (g : DE → R D) (b : D) (δ : DE) : R D := match b with
  | .bl true => .ok (.bl true) δ
  | .bl false => g δ
  | _ => .stuck
@[simp] theorem ev_orE : orE f g δ = (f δ).bind (orK g) := rfl
@[simp] theorem orK_t : orK g (.bl true) δ = .ok (.bl true) δ := rfl
@[simp] theorem orK_f : orK g (.bl false) δ = g δ := rfl
theorem orK_b {b : Bool} : orK g (.bl b) δ = if b = true then .ok (.bl true) δ else g δ := by cases b <;> rfl
@[simp] theorem orK_dec {p : Prop} [Decidable p] : orK g (.bl (decide p)) δ = if p then .ok (.bl true) δ else g δ := by by_cases h : p <;> simp [h]
def notK (b : D) (δ : DE) : R D := match b with
  | .bl b => .ok (.bl (!b)) δ
  | _ => .stuck
@[simp] theorem ev_notE : notE f δ = (f δ).bind notK := rfl
@[simp] theorem notK_bl {b : Bool} : notK (.bl b) δ = .ok (.bl (!b)) δ := rfl
def k_ifE (f g : DE → R D) (b : Bool) (δ : DE) : R D := if b = true then f δ else g δ
@[simp] theorem ev_ifE : ifE t f g δ = (t δ).bind (k_ifE f g) := rfl
@[simp] theorem ev_kifE {b : Bool} : k_ifE f g b δ = if b = true then f δ else g δ := rfl
def chnK (o' : D → D → Option D) (y : D) (fc : DE → R D) (z : D) (δ : DE) : R D := match z with
  | .bl true => (fc δ).bind fun w δ => R.of (o' y w) δ
  | .bl false => .ok (.bl false) δ
  | _ => .stuck
def k_ch1 (o o' : D → D → Option D) (fc : DE → R D) (x y : D) (δ : DE) : R D := (R.of (o x y) δ).bind (chnK o' y fc)
def k_ch2 (o o' : D → D → Option D) (fb fc : DE → R D) (x : D) (δ : DE) : R D := (fb δ).bind (k_ch1 o o' fc x)
@[simp] theorem ev_chn : chn o o' fa fb fc δ = (fa δ).bind (k_ch2 o o' fb fc) := rfl
@[simp] theorem ev_kch2 : k_ch2 o o' fb fc d δ = (fb δ).bind (k_ch1 o o' fc d) := rfl
@[simp] theorem ev_kch1 {x y : D} : k_ch1 o o' fc x y δ = (R.of (o x y) δ).bind (chnK o' y fc) := rfl
@[simp] theorem chnK_dec {p : Prop} [Decidable p] : chnK o' d fc (.bl (decide p)) δ = if p then (fc δ).bind (k_op1 o' d) else .ok (.bl false) δ := by
  by_cases h : p
  · rw [if_pos h, decide_eq_true h]; rfl
  · rw [if_neg h, decide_eq_false h]; rfl
@[simp] theorem chnK_t : chnK o' d fc (.bl true) δ = (fc δ).bind (k_op1 o' d) := rfl
@[simp] theorem chnK_f : chnK o' d fc (.bl false) δ = .ok (.bl false) δ := rfl
def negK (x : D) (δ : DE) : R D := match x with
  | .int i => .ok (.int (-i)) δ
  | _ => .stuck
@[simp] theorem ev_negE : negE f δ = (f δ).bind negK := rfl
@[simp] theorem negK_int {i : Int} : negK (.int i) δ = .ok (.int (-i)) δ := rfl
@[simp] theorem ev_noA : noA δ = .ok [] δ := rfl
def k_va1 (a : Arg) (as : List Arg) (δ : DE) : R (List Arg) := .ok (a :: as) δ
def k_va2 (ra : DE → R (List Arg)) (d : D) (δ : DE) : R (List Arg) := (ra δ).bind (k_va1 (.val d))
@[simp] theorem ev_valA : valA f ra δ = (f δ).bind (k_va2 ra) := rfl
@[simp] theorem ev_kva2 : k_va2 ra d δ = (ra δ).bind (k_va1 (.val d)) := rfl
@[simp] theorem ev_kva1 {a : Arg} {as : List Arg} : k_va1 a as δ = .ok (a :: as) δ := rfl
def slotK (o : Option (Sl × MD)) (i : Nat) (r : DE → R (List Arg)) (δ : DE) : R (List Arg) := match o with
  | some _ => (r δ).bind fun as δ => .ok (.slot i :: as) δ
  | none => .stuck
@[simp] theorem ev_slotA : slotA i ra δ = slotK (mutOf δ i) i ra δ := rfl
@[simp] theorem slotK_some {p : Sl × MD} : slotK (some p) i ra δ = (ra δ).bind (k_va1 (.slot i)) := rfl
def mutK (o : Option (Option Sl)) : Option (Sl × MD) := match o with
  | some (some s) => s.mut.map fun m => (s, m)
  | _ => none
@[simp] theorem mutOf_eq : mutOf δ i = mutK δ[i]? := rfl
@[simp] theorem mutK_own : mutK (some (some (.own m))) = some (.own m, m) := rfl
@[simp] theorem mutK_bor : mutK (some (some (.bor m))) = some (.bor m, m) := rfl
@[simp] theorem mutK_val : mutK (some (some (.val d))) = none := rfl
@[simp] theorem mutK_non : mutK (some none) = none := rfl
@[simp] theorem wr_own {n : MD} : Sl.wr (.own m) n = .own n := rfl
@[simp] theorem wr_bor {n : MD} : Sl.wr (.bor m) n = .bor n := rfl
@[simp] theorem md_lst {l : List D} : MD.d (.lst l) = .lst l := rfl
@[simp] theorem md_dct {l : List (Key × D)} : MD.d (.dct l) = .dct l := rfl
@[simp] theorem md_dcT {l : List (List Key × D)} : MD.d (.dcT l) = .dcT l := rfl
@[simp] theorem md_ins {c : Str} {l : List (Str × D)} : MD.d (.ins c l) = .ins c l := rfl
@[simp] theorem peekA_val : peekA δ (.val d) = some d := rfl
@[simp] theorem peekA_slot : peekA δ (.slot i) = (mutOf δ i).map fun p => p.2.d := rfl
@[simp] theorem peeks_nil : peeks δ [] = some [] := rfl
@[simp] theorem peeks_cons {a : Arg} {as : List Arg} : peeks δ (a :: as) = (peekA δ a).bind fun d => (peeks δ as).map fun r => d :: r := rfl
def cbK {α : Type} (o : List D → Option α) (p : Option (List D)) (δ : DE) : R α := match p with
  | some ds => R.of (o ds) δ
  | none => .stuck
def k_cb {α : Type} (o : List D → Option α) (as : List Arg) (δ : DE) : R α := cbK o (peeks δ as) δ
@[simp] theorem ev_callB {ob : List D → Option D} : callB ob ra δ = (ra δ).bind (k_cb ob) := rfl
@[simp] theorem ev_callN {ob : List D → Option MD} : callN ob ra δ = (ra δ).bind (k_cb ob) := rfl
@[simp] theorem ev_kcb {α : Type} {ob : List D → Option α} {as : List Arg} : k_cb ob as δ = cbK ob (peeks δ as) δ := rfl
@[simp] theorem cbK_some {α : Type} {ob : List D → Option α} {ds : List D} : cbK ob (some ds) δ = R.of (ob ds) δ := rfl
@[simp] theorem valsOf_nil : valsOf [] = some [] := rfl
@[simp] theorem valsOf_cons {as : List Arg} : valsOf (.val d :: as) = (valsOf as).map fun r => d :: r := rfl
def tupK (p : Option (List D)) (δ : DE) : R D := match p with
  | some ds => if ds.length ≤ LIM then .ok (.tup ds) δ else .stuck
  | none => .stuck
def k_tup (as : List Arg) (δ : DE) : R D := tupK (valsOf as) δ
@[simp] theorem ev_tupE : tupE ra δ = (ra δ).bind k_tup := rfl
@[simp] theorem ev_ktup {as : List Arg} : k_tup as δ = tupK (valsOf as) δ := rfl
@[simp] theorem tupK_some {ds : List D} : tupK (some ds) δ = if ds.length ≤ LIM then .ok (.tup ds) δ else .stuck := rfl
def lstK (p : Option (List D)) (δ : DE) : R MD := match p with
  | some ds => if ds.length ≤ LIM then .ok (.lst ds) δ else .stuck
  | none => .stuck
def k_lst (as : List Arg) (δ : DE) : R MD := lstK (valsOf as) δ
@[simp] theorem ev_lstN : lstN ra δ = (ra δ).bind k_lst := rfl
@[simp] theorem ev_klst {as : List Arg} : k_lst as δ = lstK (valsOf as) δ := rfl
@[simp] theorem lstK_some {ds : List D} : lstK (some ds) δ = if ds.length ≤ LIM then .ok (.lst ds) δ else .stuck := rfl
def k_ofN (m : MD) (δ : DE) : R D := .ok m.d δ
@[simp] theorem ev_ofN {fm : DE → R MD} : ofN fm δ = (fm δ).bind k_ofN := rfl
@[simp] theorem ev_kofN : k_ofN m δ = .ok m.d δ := rfl
@[simp] theorem lim_eq : LIM = 1000000 := rfl
/-! ### calls -/
def frK (o : FR) (as : List Arg) (δ : DE) : R D := match o with
  | .ret d ss' => .ok d (unlend δ as ss')
  | .exc x ss' => .exc x (unlend δ as ss')
  | .stuck => .stuck
def leK (φ : List Sl → FR) (o : Option (List Sl)) (as : List Arg) (δ : DE) : R D := match o with
  | none => .stuck
  | some ss => frK (φ ss) as δ
def k_cf (φ : List Sl → FR) (as : List Arg) (δ : DE) : R D := if (slots as).Nodup then leK φ (lend δ as) as δ else .stuck
@[simp] theorem ev_callF {φ : List Sl → FR} : callF φ ra δ = (ra δ).bind (k_cf φ) := rfl
@[simp] theorem ev_kcf {φ : List Sl → FR} {as : List Arg} : k_cf φ as δ = if (slots as).Nodup then leK φ (lend δ as) as δ else .stuck := rfl
@[simp] theorem leK_some {φ : List Sl → FR} {ss : List Sl} {as : List Arg} : leK φ (some ss) as δ = frK (φ ss) as δ := rfl
@[simp] theorem frK_ret {ss : List Sl} {as : List Arg} : frK (.ret d ss) as δ = .ok d (unlend δ as ss) := rfl
@[simp] theorem frK_exc {x : XD} {ss : List Sl} {as : List Arg} : frK (.exc x ss) as δ = .exc x (unlend δ as ss) := rfl
@[simp] theorem frK_ite {c : Prop} [Decidable c] {a b : FR} {as : List Arg} : frK (if c then a else b) as δ = if c then frK a as δ else frK b as δ := by split <;> rfl
@[simp] theorem slots_nil : slots [] = [] := rfl
@[simp] theorem slots_val {as : List Arg} : slots (.val d :: as) = slots as := rfl
@[simp] theorem slots_slot {as : List Arg} : slots (.slot i :: as) = i :: slots as := rfl
@[simp] theorem lend_nil : lend δ [] = some [] := rfl
@[simp] theorem lend_val {as : List Arg} : lend δ (.val d :: as) = (lend δ as).map fun r => .val d :: r := rfl
def lendK (o : Option (Sl × MD)) (r : Option (List Sl)) : Option (List Sl) := match o with
  | some (_, m) => r.map fun r => .bor m :: r
  | none => none
@[simp] theorem lend_slot {as : List Arg} : lend δ (.slot i :: as) = lendK (mutOf δ i) (lend δ as) := rfl
@[simp] theorem lendK_some {s : Sl} {r : Option (List Sl)} : lendK (some (s, m)) r = r.map fun r => .bor m :: r := rfl
@[simp] theorem unlend_nil {ss : List Sl} : unlend δ [] ss = δ := by unfold unlend; rfl
@[simp] theorem unlend_val {as : List Arg} {s : Sl} {ss : List Sl} : unlend δ (.val d :: as) (s :: ss) = unlend δ as ss := by conv => lhs; unfold unlend
def unK (o : Option (Sl × MD)) (m : MD) (i : Nat) (δ : DE) : DE := match o with
  | some (s, _) => δ.set i (some (s.wr m))
  | none => δ
@[simp] theorem unlend_bor {as : List Arg} {ss : List Sl} : unlend δ (.slot i :: as) (.bor m :: ss) = unK (mutOf δ i) m i (unlend δ as ss) := by
  conv => lhs; unfold unlend
  cases mutOf δ i <;> rfl
@[simp] theorem unK_some {s : Sl} {n : MD} : unK (some (s, n)) m i δ = δ.set i (some (s.wr m)) := rfl
def mkK (o : FR) (δ : DE) : R MD := match o with
  | .ret .non (.bor m :: _) => .ok m δ
  | .exc x _ => .exc x δ
  | _ => .stuck
def mkV (c : Str) (φ : List Sl → FR) (p : Option (List D)) (δ : DE) : R MD := match p with
  | some ds => mkK (φ (.bor (.ins c []) :: ds.map .val)) δ
  | none => .stuck
def k_mk (c : Str) (φ : List Sl → FR) (as : List Arg) (δ : DE) : R MD := mkV c φ (valsOf as) δ
@[simp] theorem ev_makeN {c : Str} {φ : List Sl → FR} : makeN c φ ra δ = (ra δ).bind (k_mk c φ) := rfl
@[simp] theorem ev_kmk {c : Str} {φ : List Sl → FR} {as : List Arg} : k_mk c φ as δ = mkV c φ (valsOf as) δ := rfl
@[simp] theorem mkV_some {c : Str} {φ : List Sl → FR} {ds : List D} : mkV c φ (some ds) δ = mkK (φ (.bor (.ins c []) :: ds.map .val)) δ := rfl
@[simp] theorem mkK_ret {ss : List Sl} : mkK (.ret .non (.bor m :: ss)) δ = .ok m δ := rfl
@[simp] theorem mkK_exc {x : XD} {ss : List Sl} : mkK (.exc x ss) δ = .exc x δ := rfl
@[simp] theorem mkK_ite {c : Prop} [Decidable c] {a b : FR} : mkK (if c then a else b) δ = if c then mkK a δ else mkK b δ := by split <;> rfl
def k_fld (cs : List Str) (n : Str) (x : D) (δ : DE) : R D := R.of (fldD cs n x) δ
@[simp] theorem ev_fldE {cs : List Str} {n : Str} : fldE cs n f δ = (f δ).bind (k_fld cs n) := rfl
@[simp] theorem ev_kfld {cs : List Str} {n : Str} : k_fld cs n d δ = R.of (fldD cs n d) δ := rfl
@[simp] theorem fldD_ins {cs : List Str} {n c : Str} {l : List (Str × D)} : fldD cs n (.ins c l) = if c ∈ cs then lkF l n else none := rfl
def meK (m : Str) (tb : FT) (fa : DE → R (List Arg)) (o : D) (δ : DE) : R D := match o with
  | .ins c l => match lkT tb c with
    | some φ => if lkF l m = none then callF φ (valA (cst (.ins c l)) fa) δ else .stuck
    | none => .stuck
  | _ => .stuck
@[simp] theorem ev_callM {n : Str} {tb : FT} : callM n tb f ra δ = (f δ).bind (meK n tb ra) := rfl
/-! ### statements -/
def O.seq (o : O) (h : DE → O) : O := match o with
  | .nx δ => h δ
  | o => o
@[simp] theorem ev_then : thenS k l δ = (k δ).seq l := rfl
@[simp] theorem seq_nx : (O.nx δ).seq l = l δ := rfl
@[simp] theorem seq_ret : (O.ret d δ).seq l = .ret d δ := rfl
@[simp] theorem seq_exc {x : XD} : (O.exc x δ).seq l = .exc x δ := rfl
@[simp] theorem seq_brk : (O.brk δ).seq l = .brk δ := rfl
@[simp] theorem seq_cnt : (O.cnt δ).seq l = .cnt δ := rfl
@[simp] theorem seq_stuck : (O.stuck).seq l = .stuck := rfl
@[simp] theorem seq_ite {c : Prop} [Decidable c] {a b : O} : (if c then a else b).seq l = if c then a.seq l else b.seq l := by split <;> rfl
@[simp] theorem ev_skip : skipS δ = .nx δ := rfl
@[simp] theorem ev_ret : retS f δ = bindS (f δ) O.ret := rfl
def k_drop (_ : D) (δ : DE) : O := .nx δ
@[simp] theorem ev_drop : dropS f δ = bindS (f δ) k_drop := rfl
@[simp] theorem ev_kdrop : k_drop d δ = .nx δ := rfl
def k_if (k l : DE → O) (b : Bool) (δ : DE) : O := if b = true then k δ else l δ
@[simp] theorem ev_if : ifS t k l δ = bindS (t δ) (k_if k l) := rfl
@[simp] theorem ev_kif {b : Bool} : k_if k l b δ = if b = true then k δ else l δ := rfl
@[simp] theorem ev_raise {n : Str} : raiseS n δ = .exc ⟨n, []⟩ δ := rfl
def stK (o : Option DE) : O := match o with
  | some δ => .nx δ
  | none => .stuck
@[simp] theorem stK_some : stK (some δ) = .nx δ := rfl
def k_set (i : Nat) (d : D) (δ : DE) : O := stK (setSl i (.val d) δ)
def k_own (i : Nat) (m : MD) (δ : DE) : O := stK (setSl i (.own m) δ)
@[simp] theorem ev_set : setS i f δ = bindS (f δ) (k_set i) := by
  unfold setS
  congr 1
@[simp] theorem ev_own {fm : DE → R MD} : ownS i fm δ = bindS (fm δ) (k_own i) := by
  unfold ownS
  congr 1
@[simp] theorem ev_kset : k_set i d δ = stK (setSl i (.val d) δ) := rfl
@[simp] theorem ev_kown : k_own i m δ = stK (setSl i (.own m) δ) := rfl
def slK (o : Option (Option Sl)) (s : Sl) (i : Nat) (δ : DE) : Option DE := match o with
  | some (some (.bor _)) => none
  | some _ => some (δ.set i (some s))
  | none => none
@[simp] theorem setSl_eq {s : Sl} : setSl i s δ = slK δ[i]? s i δ := rfl
@[simp] theorem slK_non {s : Sl} : slK (some none) s i δ = some (δ.set i (some s)) := rfl
@[simp] theorem slK_val {s : Sl} : slK (some (some (.val d))) s i δ = some (δ.set i (some s)) := rfl
@[simp] theorem slK_own {s : Sl} : slK (some (some (.own m))) s i δ = some (δ.set i (some s)) := rfl
def k_asg (tg : D → DE → Option DE) (d : D) (δ : DE) : O := stK (tg d δ)
@[simp] theorem ev_asg {tg : D → DE → Option DE} : asgS tg f δ = bindS (f δ) (k_asg tg) := by unfold asgS; congr 1
@[simp] theorem ev_kasg {tg : D → DE → Option DE} : k_asg tg d δ = stK (tg d δ) := rfl
@[simp] theorem ev_nmG : nmG i d δ = setSl i (.val d) δ := rfl
@[simp] theorem ev_nilG : nilG [] δ = some δ := rfl
@[simp] theorem ev_consG {tg : D → DE → Option DE} {r : List D → DE → Option DE} {ds : List D} : consG tg r (d :: ds) δ = (tg d δ).bind (r ds) := rfl
@[simp] theorem ev_tupG {n : Nat} {r : List D → DE → Option DE} {ds : List D} : tupG n r (.tup ds) δ = if ds.length = n then r ds δ else none := rfl
def k_par (is : List Nat) (ss : List Sl) (δ : DE) : O := stK (setAll is ss δ)
@[simp] theorem ev_parS {is : List Nat} {fl : DE → R (List Sl)} : parS is fl δ = bindS (fl δ) (k_par is) := by unfold parS; congr 1
@[simp] theorem ev_kpar {is : List Nat} {ss : List Sl} : k_par is ss δ = stK (setAll is ss δ) := rfl
def k_it (s : Sl) (ss : List Sl) (δ : DE) : R (List Sl) := .ok (s :: ss) δ
def k_vI (fl : DE → R (List Sl)) (d : D) (δ : DE) : R (List Sl) := (fl δ).bind (k_it (.val d))
def k_oI (fl : DE → R (List Sl)) (d : MD) (δ : DE) : R (List Sl) := (fl δ).bind (k_it (.own d))
@[simp] theorem ev_kit {s : Sl} {ss : List Sl} : k_it s ss δ = .ok (s :: ss) δ := rfl
@[simp] theorem ev_kvI {fl : DE → R (List Sl)} : k_vI fl d δ = (fl δ).bind (k_it (.val d)) := rfl
@[simp] theorem ev_koI {fl : DE → R (List Sl)} : k_oI fl m δ = (fl δ).bind (k_it (.own m)) := rfl
@[simp] theorem ev_noI : noI δ = .ok [] δ := rfl
@[simp] theorem ev_valI {fl : DE → R (List Sl)} : valI f fl δ = (f δ).bind (k_vI fl) := rfl
@[simp] theorem ev_ownI {fm : DE → R MD} {fl : DE → R (List Sl)} : ownI fm fl δ = (fm δ).bind (k_oI fl) := rfl
@[simp] theorem setAll_nil : setAll [] [] δ = some δ := rfl
@[simp] theorem setAll_cons {is : List Nat} {s : Sl} {ss : List Sl} : setAll (i :: is) (s :: ss) δ = (setSl i s δ).bind (setAll is ss) := rfl
def apK (o : Option (Sl × MD)) (i : Nat) (d : D) (δ : DE) : O := match o with
  | some (s, .lst l) => if l.length < LIM then .nx (δ.set i (some (s.wr (.lst (l ++ [d]))))) else .stuck
  | _ => .stuck
def k_ap (i : Nat) (d : D) (δ : DE) : O := apK (mutOf δ i) i d δ
def apA (o : Option (Sl × MD)) (i : Nat) (f : DE → R D) (δ : DE) : O := match o with
  | some (_, .lst _) => bindS (f δ) (k_ap i)
  | _ => .stuck
@[simp] theorem ev_app : appS i f δ = apA (mutOf δ i) i f δ := by
  unfold appS apA
  cases mutOf δ i with
  | none => rfl
  | some p => obtain ⟨s, m⟩ := p; cases m <;> rfl
@[simp] theorem apA_lst {s : Sl} {l : List D} : apA (some (s, .lst l)) i f δ = bindS (f δ) (k_ap i) := rfl
@[simp] theorem ev_kap : k_ap i d δ = apK (mutOf δ i) i d δ := rfl
@[simp] theorem apK_lst {s : Sl} {l : List D} : apK (some (s, .lst l)) i d δ = if l.length < LIM then .nx (δ.set i (some (s.wr (.lst (l ++ [d]))))) else .stuck := rfl
@[simp] theorem ev_for {fi : DE → R (List D)} {tg : D → DE → Option DE} : forS fi tg k δ = bindS (fi δ) (loopF tg k) := rfl
def O.kill (e : Bool) (ms : List Bool) : O → O
  | .nx δ => .nx (killM ms δ)
  | .cnt δ => .cnt (killM ms δ)
  | .brk δ => .brk (killM ms δ)
  | .ret d δ => .ret d (bors δ)
  | .exc x δ => .exc x (if e then bors δ else killM ms δ)
  | .stuck => .stuck
variable {e : Bool} {ms : List Bool}
@[simp] theorem ev_kill : killS e ms k δ = (k δ).kill e ms := by
  unfold killS O.kill
  cases k δ <;> rfl
@[simp] theorem kill_nx : (O.nx δ).kill e ms = .nx (killM ms δ) := rfl
@[simp] theorem kill_cnt : (O.cnt δ).kill e ms = .cnt (killM ms δ) := rfl
@[simp] theorem kill_brk : (O.brk δ).kill e ms = .brk (killM ms δ) := rfl
@[simp] theorem kill_ret : (O.ret d δ).kill e ms = .ret d (bors δ) := rfl
@[simp] theorem kill_exc {x : XD} : (O.exc x δ).kill true ms = .exc x (bors δ) := rfl
@[simp] theorem kill_excf {x : XD} : (O.exc x δ).kill false ms = .exc x (killM ms δ) := rfl
@[simp] theorem kill_stuck : (O.stuck).kill e ms = .stuck := rfl
@[simp] theorem kill_ite {c : Prop} [Decidable c] {a b : O} : (if c then a else b).kill e ms = if c then a.kill e ms else b.kill e ms := by split <;> rfl
@[simp] theorem bors_nil : bors [] = [] := rfl
@[simp] theorem bors_cons {x : Option Sl} : bors (x :: δ) = dropB x :: bors δ := rfl
@[simp] theorem dropB_non : dropB none = none := rfl
@[simp] theorem dropB_val : dropB (some (.val d)) = none := rfl
@[simp] theorem dropB_own : dropB (some (.own m)) = none := rfl
@[simp] theorem dropB_bor : dropB (some (.bor m)) = some (.bor m) := rfl
@[simp] theorem killM_nil : killM [] δ = δ := by unfold killM; rfl
@[simp] theorem killM_t {x : Option Sl} : killM (true :: ms) (x :: δ) = dropB x :: killM ms δ := rfl
@[simp] theorem killM_f {x : Option Sl} : killM (false :: ms) (x :: δ) = x :: killM ms δ := rfl
def O.fin (as : List Sl) : O → FR
  | .ret d δ => .ret d (back as δ)
  | .nx δ => .ret .non (back as δ)
  | .exc x δ => .exc x (back as δ)
  | _ => .stuck
theorem ev_fn {n N : Nat} {as : List Sl} : fnF n N k as = if as.length = n then (k (as.map some ++ List.replicate (N - n) none)).fin as else .stuck := by
  unfold fnF O.fin
  split
  · cases k (as.map some ++ List.replicate (N - n) none) <;> rfl
  · rfl
@[simp] theorem fin_ret {as : List Sl} : (O.ret d δ).fin as = .ret d (back as δ) := rfl
@[simp] theorem fin_nx {as : List Sl} : (O.nx δ).fin as = .ret .non (back as δ) := rfl
@[simp] theorem fin_exc {x : XD} {as : List Sl} : (O.exc x δ).fin as = .exc x (back as δ) := rfl
@[simp] theorem fin_ite {c : Prop} [Decidable c] {a b : O} {as : List Sl} : (if c then a else b).fin as = if c then a.fin as else b.fin as := by split <;> rfl
@[simp] theorem back_nil : back [] δ = [] := by unfold back; rfl
@[simp] theorem back_vc {x : Option Sl} {as : List Sl} : back (.val d :: as) (x :: δ) = .val d :: back as δ := by cases x <;> rfl
@[simp] theorem back_bc {n : MD} {as : List Sl} : back (.bor m :: as) (some (.bor n) :: δ) = .bor n :: back as δ := rfl
end
/-! ### operations on data -/
section
variable {i j : Int} {s t : Str} {a b : Bool} {d : D}
@[simp] theorem op_add : addA (.int i) (.int j) = some (.int (i + j)) := rfl
@[simp] theorem op_sub : isub (.int i) (.int j) = some (.int (i - j)) := rfl
@[simp] theorem op_lt : ilt (.int i) (.int j) = some (.bl (decide (i < j))) := rfl
@[simp] theorem op_le : ile (.int i) (.int j) = some (.bl (decide (i ≤ j))) := rfl
@[simp] theorem op_gt : igt (.int i) (.int j) = some (.bl (decide (j < i))) := rfl
@[simp] theorem op_ge : ige (.int i) (.int j) = some (.bl (decide (j ≤ i))) := rfl
@[simp] theorem op_eqI : eqD (.int i) (.int j) = some (.bl (decide (i = j))) := rfl
@[simp] theorem op_neI : neD (.int i) (.int j) = some (.bl (!decide (i = j))) := rfl
@[simp] theorem op_eqS : eqD (.str s) (.str t) = some (.bl (decide (s = t))) := rfl
@[simp] theorem op_neS : neD (.str s) (.str t) = some (.bl (!decide (s = t))) := rfl
@[simp] theorem op_addT {l m : List D} : addA (.tup l) (.tup m) = if l.length + m.length ≤ LIM then some (.tup (l ++ m)) else none := rfl
@[simp] theorem op_addL {l m : List D} : addA (.lst l) (.lst m) = if l.length + m.length ≤ LIM then some (.lst (l ++ m)) else none := by
  show (none : Option D).or ((none : Option D).or ((ladd (.lst l) (.lst m)).or (tadd (.lst l) (.lst m)))) = _
  show ((if l.length + m.length ≤ LIM then some (D.lst (l ++ m)) else none).or none) = _
  split <;> rfl
@[simp] theorem op_lenT {l : List D} : lenD [.tup l] = some (.int l.length) := rfl
@[simp] theorem op_lenL {l : List D} : lenD [.lst l] = some (.int l.length) := rfl
@[simp] theorem op_tupL {l : List D} : tupleD [.lst l] = some (.tup l) := rfl
@[simp] theorem op_tupT {l : List D} : tupleD [.tup l] = some (.tup l) := rfl
@[simp] theorem op_lstL {l : List D} : listN [.lst l] = some (.lst l) := rfl
@[simp] theorem op_lstT {l : List D} : listN [.tup l] = some (.lst l) := rfl
@[simp] theorem op_isN : isNo d .non = some (.bl d.isN) := rfl
@[simp] theorem op_notN : notNo d .non = some (.bl (!d.isN)) := rfl
@[simp] theorem op_ixT {l : List D} : ixD (.tup l) (.int i) = atI l i := rfl
@[simp] theorem op_ixL {l : List D} : ixD (.lst l) (.int i) = atI l i := rfl
def D.bInt : D → Bool
  | .int _ => true
  | .bl _ => true
  | _ => false
def D.bBl : D → Bool
  | .bl _ => true
  | _ => false
def D.bStr : D → Bool
  | .str _ => true
  | _ => false
def D.bTup : D → Bool
  | .tup _ => true
  | _ => false
def D.bLst : D → Bool
  | .lst _ => true
  | _ => false
def D.bDct : D → Bool
  | .dct _ => true
  | _ => false
/-- what isinstance can tell of -/
def D.kn (d : D) : Bool := d.tyN.isSome
theorem kn_cases {p : D → Prop} (h : d.kn = true) (h1 : p .non) (h2 : ∀ b, p (.bl b)) (h3 : ∀ b, p (.int b)) (h4 : ∀ b, p (.str b)) (h5 : ∀ b, p (.byt b)) (h6 : ∀ b, p (.tup b)) (h7 : ∀ b, p (.lst b)) (h8 : ∀ b, p (.dct b)) : p d := by
  cases d with
  | non => exact h1
  | bl b => exact h2 b
  | int b => exact h3 b
  | str b => exact h4 b
  | byt b => exact h5 b
  | tup b => exact h6 b
  | lst b => exact h7 b
  | dct b => exact h8 b
  | ty n => cases h
  | fn n => cases h
  | adr n => cases h
  | scr n => cases h
  | dcT n => cases h
  | dcF n => cases h
  | ctp n => cases h
  | ins c n => cases h
theorem isi_int (h : d.kn = true) : isiD [d, .ty "int"] = some (.bl d.bInt) := by
  refine kn_cases (p := fun d => isiD [d, .ty "int"] = some (.bl d.bInt)) h ?_ ?_ ?_ ?_ ?_ ?_ ?_ ?_ <;> intros <;> rfl
theorem isi_bl (h : d.kn = true) : isiD [d, .ty "bool"] = some (.bl d.bBl) := by
  refine kn_cases (p := fun d => isiD [d, .ty "bool"] = some (.bl d.bBl)) h ?_ ?_ ?_ ?_ ?_ ?_ ?_ ?_ <;> intros <;> rfl
theorem isi_str (h : d.kn = true) : isiD [d, .ty "str"] = some (.bl d.bStr) := by
  refine kn_cases (p := fun d => isiD [d, .ty "str"] = some (.bl d.bStr)) h ?_ ?_ ?_ ?_ ?_ ?_ ?_ ?_ <;> intros <;> rfl
theorem isi_tup (h : d.kn = true) : isiD [d, .ty "tuple"] = some (.bl d.bTup) := by
  refine kn_cases (p := fun d => isiD [d, .ty "tuple"] = some (.bl d.bTup)) h ?_ ?_ ?_ ?_ ?_ ?_ ?_ ?_ <;> intros <;> rfl
@[simp] theorem kn_non : D.kn .non = true := id rfl
@[simp] theorem kn_bl : D.kn (.bl a) = true := id rfl
@[simp] theorem kn_int : D.kn (.int i) = true := id rfl
@[simp] theorem kn_byt {b : Array UInt8} : D.kn (.byt b) = true := id rfl
@[simp] theorem kn_str : D.kn (.str s) = true := id rfl
@[simp] theorem kn_tup {l : List D} : D.kn (.tup l) = true := id rfl
@[simp] theorem kn_lst {l : List D} : D.kn (.lst l) = true := id rfl
@[simp] theorem kn_dct {l : List (Key × D)} : D.kn (.dct l) = true := id rfl
@[simp] theorem bTup_tup {l : List D} : D.bTup (.tup l) = true := rfl
@[simp] theorem bInt_int : D.bInt (.int i) = true := rfl
@[simp] theorem bBl_int : D.bBl (.int i) = false := rfl
@[simp] theorem bInt_bl : D.bInt (.bl a) = true := rfl
@[simp] theorem bBl_bl : D.bBl (.bl a) = true := rfl
@[simp] theorem bStr_str : D.bStr (.str s) = true := rfl
theorem inV_str {k : Str} : ∀ {l : List Str}, inV (.str k) (l.map V.str) = decide (k ∈ l) := by
  intro l
  unfold inV
  induction l with
  | nil => simp
  | cons x l ih =>
    rw [List.map_cons, List.any_cons, ih]
    show (eqV (V.str x) (V.str k) || _) = _
    unfold eqV
    by_cases h : x = k
    · subst h; simp
    · have h' : ¬ k = x := fun e => h e.symm
      simp [h, h']
theorem flats_strs : ∀ (l : List Str), flats (l.map D.str) = some (l.map V.str)
  | [] => rfl
  | x :: l => by show (some (V.str x)).bind _ = _; rw [flats_strs l]; rfl
theorem inF_strT {k : Str} {l : List Str} : inF false (.str k) (.tup (l.map D.str)) = some (.bl (decide (k ∈ l))) := by
  unfold inF
  show (match some (V.str k), flats (l.map D.str) with | some u, some us => _ | _, _ => none) = _
  rw [flats_strs]
  show some (D.bl (if false = true then !inV (V.str k) (l.map V.str) else inV (V.str k) (l.map V.str))) = _
  rw [if_neg Bool.false_ne_true, inV_str]
theorem inF_strL {k : Str} {l : List Str} : inF false (.str k) (.lst (l.map D.str)) = some (.bl (decide (k ∈ l))) := by
  unfold inF
  show (match some (V.str k), flats (l.map D.str) with | some u, some us => _ | _, _ => none) = _
  rw [flats_strs]
  show some (D.bl (if false = true then !inV (V.str k) (l.map V.str) else inV (V.str k) (l.map V.str))) = _
  rw [if_neg Bool.false_ne_true, inV_str]
/-! ### loops with a test -/
theorem runL_all {α : Type} {p : α → Bool} {d : D} : ∀ {as : List α}, runL (S := Unit) (fun _ a => if p a = true then .go () else .ret d ()) as () = if as.all p = true then .go () else .ret d ()
  | [] => rfl
  | a :: as => by
    unfold runL
    by_cases h : p a = true
    · simp only [h, if_true, runL_all (as := as), List.all_cons, Bool.true_and]
    · simp [h]
/-- a comprehension whose parts change nothing: items a of a list, kept or not -/
theorem lcE_fm {α : Type} {f : DE → R (List D)} {t : D → DE → Option DE} {cond : DE → R Bool} {elt : DE → R D} {vs : List Nat} {δ δ0 δw : DE} {as : List α} (enc : α → D) (q : α → Option D) (hf : f δ = .ok (as.map enc) δ0) (hw : wipeD δ0 vs = some δw) (hl : as.length ≤ LIM)
    (h : ∀ a ∈ as, ∃ δ1, t (enc a) δw = some δ1 ∧ ((q a = none ∧ ∃ δ2, cond δ1 = .ok false δ2 ∧ wipeD δ2 vs = some δw) ∨
      ∃ y δ2 δ3, q a = some y ∧ cond δ1 = .ok true δ2 ∧ elt δ2 = .ok y δ3 ∧ wipeD δ3 vs = some δw)) : lcN f t cond elt vs δ = .ok (.lst (as.filterMap q)) (unwipe δ0 δw vs) := by
  have key : ∀ (as : List α) (acc : List D), acc.length + as.length ≤ LIM → (∀ a ∈ as, ∃ δ1, t (enc a) δw = some δ1 ∧ ((q a = none ∧ ∃ δ2, cond δ1 = .ok false δ2 ∧ wipeD δ2 vs = some δw) ∨
      ∃ y δ2 δ3, q a = some y ∧ cond δ1 = .ok true δ2 ∧ elt δ2 = .ok y δ3 ∧ wipeD δ3 vs = some δw)) → lcLoop t cond elt vs (as.map enc) δw acc = .ok (acc ++ as.filterMap q) δw := by
    intro as
    induction as with
    | nil => intro acc _ _; unfold lcLoop; simp
    | cons a as ih =>
      intro acc hl h
      obtain ⟨δ1, e1, k⟩ := h a List.mem_cons_self
      rw [List.length_cons] at hl
      rw [List.map_cons]
      rcases k with ⟨q1, δ2, e2, e3⟩ | ⟨y, δ2, δ3, q1, e2, e3, e4⟩
      · have ih := ih acc (by omega) fun d hd => h d (List.mem_cons_of_mem _ hd)
        unfold lcLoop
        simp [e1, e2, e3, ih, q1]
      · have ih := ih (acc ++ [y]) (by rw [List.length_append, List.length_singleton]; omega) fun d hd => h d (List.mem_cons_of_mem _ hd)
        unfold lcLoop
        rw [lim_eq] at hl
        simp [e1, e2, e3, show acc.length < 1000000 by omega, e4, ih, q1]
  unfold lcN
  simp [hf, hw, key as [] (by simpa using hl) h]
theorem lcE_map {α : Type} {f : DE → R (List D)} {t : D → DE → Option DE} {elt : DE → R D} {vs : List Nat} {δ δ0 δw : DE} {as : List α} (enc : α → D) (q : α → D) (hf : f δ = .ok (as.map enc) δ0) (hw : wipeD δ0 vs = some δw) (hl : as.length ≤ LIM)
    (h : ∀ a ∈ as, ∃ δ1 δ3, t (enc a) δw = some δ1 ∧ elt δ1 = .ok (q a) δ3 ∧ wipeD δ3 vs = some δw) : lcN f t noCond elt vs δ = .ok (.lst (as.map q)) (unwipe δ0 δw vs) := by
  have := lcE_fm (cond := noCond) enc (fun a => some (q a)) hf hw hl fun a ha => by
    obtain ⟨δ1, δ3, h1, h2, h3⟩ := h a ha
    exact ⟨δ1, h1, .inr ⟨_, δ1, δ3, rfl, rfl, h2, h3⟩⟩
  rw [this]
  simp
def k_seq (x : D) (δ : DE) : R (List D) := match x with
  | .lst l => .ok l δ
  | .tup l => .ok l δ
  | .scr l => .ok (l.map .int) δ
  | .str s => .ok (s.cps.toList.map fun c => .str ⟨#[c]⟩) δ
  | _ => .stuck
@[simp] theorem ev_seqE_t {f : DE → R D} {δ : DE} : seqE f δ = (f δ).bind k_seq := rfl
@[simp] theorem ev_kseqL {l : List D} {δ : DE} : k_seq (.lst l) δ = .ok l δ := rfl
@[simp] theorem ev_kseqT {l : List D} {δ : DE} : k_seq (.tup l) δ = .ok l δ := rfl
@[simp] theorem unwipe_nil {δ0 δ : DE} : unwipe δ0 δ [] = δ := rfl
@[simp] theorem unwipe_cons {δ0 δ : DE} {v : Nat} {vs : List Nat} : unwipe δ0 δ (v :: vs) = (unwipe δ0 δ vs).set v (δ0[v]?.getD none) := rfl
theorem allD_b {l : List Bool} : allD [.lst (l.map D.bl)] = some (.bl (l.all id)) := allD_bls
/-! ### slices, zip, ranges -/
@[simp] theorem ev_oNo {δ : DE} : oNo δ = .ok none δ := rfl
def oK (x : D) (δ : DE) : R (Option Int) := match x with
  | .int i => .ok (some i) δ
  | _ => .stuck
@[simp] theorem ev_oSome {f : DE → R D} {δ : DE} : oSome f δ = (f δ).bind oK := rfl
@[simp] theorem oK_int {i : Int} {δ : DE} : oK (.int i) δ = .ok (some i) δ := rfl
def k_sl1 (x : D) (lo hi : Option Int) (δ : DE) : R D := R.of (slD x lo hi) δ
def k_sl2 (fh : DE → R (Option Int)) (x : D) (lo : Option Int) (δ : DE) : R D := (fh δ).bind (k_sl1 x lo)
def k_sl3 (fl fh : DE → R (Option Int)) (x : D) (δ : DE) : R D := (fl δ).bind (k_sl2 fh x)
@[simp] theorem ev_slE {fa : DE → R D} {fl fh : DE → R (Option Int)} {δ : DE} : slE fa fl fh δ = (fa δ).bind (k_sl3 fl fh) := rfl
@[simp] theorem ev_ksl3 {fl fh : DE → R (Option Int)} {x : D} {δ : DE} : k_sl3 fl fh x δ = (fl δ).bind (k_sl2 fh x) := rfl
@[simp] theorem ev_ksl2 {fh : DE → R (Option Int)} {x : D} {lo : Option Int} {δ : DE} : k_sl2 fh x lo δ = (fh δ).bind (k_sl1 x lo) := rfl
@[simp] theorem ev_ksl1 {x : D} {lo hi : Option Int} {δ : DE} : k_sl1 x lo hi δ = R.of (slD x lo hi) δ := rfl
@[simp] theorem slD_tup {l : List D} {lo hi : Option Int} : slD (.tup l) lo hi = some (.tup (cutD l lo hi)) := rfl
@[simp] theorem slD_lst {l : List D} {lo hi : Option Int} : slD (.lst l) lo hi = some (.lst (cutD l lo hi)) := rfl
theorem cut_from {α : Type} {l : List α} (k : Nat) : cutD l (some (k : Int)) none = l.drop k := by
  unfold cutD
  rw [HT.sIx_nat, HT.sIx_none]
  by_cases h : k ≤ l.length
  · rw [Nat.min_eq_left h, List.take_of_length_le (by rw [List.length_drop]; exact Nat.le_refl _)]
  · rw [Nat.min_eq_right (by omega), List.drop_eq_nil_of_le (show l.length ≤ k by omega), List.drop_eq_nil_of_le (Nat.le_refl _), List.take_nil]
theorem cut_to {α : Type} {l : List α} (k : Nat) : cutD l none (some (k : Int)) = l.take k := by
  unfold cutD
  rw [HT.sIx_nat, HT.sIx_none, List.drop_zero, Nat.sub_zero]
  by_cases h : k ≤ l.length
  · rw [Nat.min_eq_left h]
  · rw [Nat.min_eq_right (by omega), List.take_of_length_le (show l.length ≤ k by omega), List.take_of_length_le (Nat.le_refl _)]
@[simp] theorem ev_zipE {fa : DE → R (List Arg)} {δ : DE} : zipE fa δ = (fa δ).bind zipItems := rfl
@[simp] theorem zipI_tup {l m : List D} {δ : DE} : zipItems [.val (.tup l), .val (.tup m)] δ = .ok (zipD l m) δ := rfl
@[simp] theorem zipI_lst {l m : List D} {δ : DE} : zipItems [.val (.lst l), .val (.lst m)] δ = .ok (zipD l m) δ := rfl
noncomputable def rgK (as : List Arg) (δ : DE) : R (List D) := match as with
  | [.val (.int j)] => @ite _ (j < 2 ^ 62 ∧ -(2 ^ 62) ≤ j) (Classical.propDecidable _) (.ok ((List.range j.toNat).map fun i => .int ((0 : Int) + (i : Nat))) δ) .stuck
  | _ => .stuck
@[simp] theorem ev_rng1 {fa : DE → R (List Arg)} {δ : DE} : rng1 fa δ = (fa δ).bind rgK := id rfl
theorem rgK_nat {n : Nat} {δ : DE} (h : n ≤ 1000000) : rgK [.val (.int n)] δ = .ok ((List.range n).map fun i => .int (i : Nat)) δ := by
  unfold rgK
  simp only
  rw [if_pos ⟨by omega, by omega⟩]
  simp
@[simp] theorem ev_enumE {fa : DE → R (List Arg)} {δ : DE} : enumE fa δ = (fa δ).bind enumItems := rfl
@[simp] theorem enumI_tup {l : List D} {δ : DE} : enumItems [.val (.tup l)] δ = .ok (pairsD l) δ := rfl
@[simp] theorem enumI_lst {l : List D} {δ : DE} : enumItems [.val (.lst l)] δ = .ok (pairsD l) δ := rfl
/-! ### comprehensions that draw -/
theorem lcLoop_st {α S : Type} {t : D → DE → Option DE} {cond : DE → R Bool} {elt : DE → R D} {vs : List Nat} (enc : α → D) (mk : S → DE) (P : S → Prop) (Q : α → D → Prop) :
    ∀ (as : List α), (∀ s a, a ∈ as → P s → ∃ δ1 b δ2, t (enc a) (mk s) = some δ1 ∧ cond δ1 = .ok b δ2 ∧ (b = false → ∃ s', P s' ∧ wipeD δ2 vs = some (mk s')) ∧ (b = true → ∃ y δ3 s', elt δ2 = .ok y δ3 ∧ P s' ∧ wipeD δ3 vs = some (mk s') ∧ Q a y)) →
      ∀ s acc, P s → acc.length + as.length ≤ LIM → ∃ (ps : List (α × D)) (s' : S), lcLoop t cond elt vs (as.map enc) (mk s) acc = .ok (acc ++ ps.map (·.2)) (mk s') ∧ P s' ∧ (ps.map (·.1)).Sublist as ∧ ∀ p ∈ ps, Q p.1 p.2
  | [], _, s, acc, hs, _ => ⟨[], s, by unfold lcLoop; simp, hs, List.Sublist.slnil, fun p hp => by cases hp⟩
  | a :: as, h, s, acc, hs, hl => by
    obtain ⟨δ1, b, δ2, e1, e2, hf, ht⟩ := h s a List.mem_cons_self hs
    rw [List.length_cons] at hl
    rw [List.map_cons]
    cases b with
    | false =>
      obtain ⟨s1, p1, w1⟩ := hf rfl
      obtain ⟨ps, s', i1, i2, i3, i4⟩ := lcLoop_st enc mk P Q as (fun s a ha => h s a (List.mem_cons_of_mem _ ha)) s1 acc p1 (by omega)
      refine ⟨ps, s', ?_, i2, i3.cons _, i4⟩
      unfold lcLoop
      simp [e1, e2, w1, i1]
    | true =>
      obtain ⟨y, δ3, s1, e3, p1, w1, q1⟩ := ht rfl
      obtain ⟨ps, s', i1, i2, i3, i4⟩ := lcLoop_st enc mk P Q as (fun s a ha => h s a (List.mem_cons_of_mem _ ha)) s1 (acc ++ [y]) p1 (by rw [List.length_append, List.length_singleton]; omega)
      refine ⟨(a, y) :: ps, s', ?_, i2, by rw [List.map_cons]; exact i3.cons_cons _, fun p hp => ?_⟩
      · unfold lcLoop
        rw [lim_eq] at hl
        simp [e1, e2, e3, show acc.length < 1000000 by omega, w1, i1]
      · rcases List.mem_cons.mp hp with rfl | hp
        · exact q1
        · exact i4 p hp
theorem lcN_st {α S : Type} {f : DE → R (List D)} {t : D → DE → Option DE} {cond : DE → R Bool} {elt : DE → R D} {vs : List Nat} {δ δ0 : DE} {as : List α} (enc : α → D) (mk : S → DE) (P : S → Prop) (Q : α → D → Prop) {s : S} (hf : f δ = .ok (as.map enc) δ0) (hw : wipeD δ0 vs = some (mk s)) (hs : P s) (hl : as.length ≤ LIM)
    (h : ∀ s a, a ∈ as → P s → ∃ δ1 b δ2, t (enc a) (mk s) = some δ1 ∧ cond δ1 = .ok b δ2 ∧ (b = false → ∃ s', P s' ∧ wipeD δ2 vs = some (mk s')) ∧ (b = true → ∃ y δ3 s', elt δ2 = .ok y δ3 ∧ P s' ∧ wipeD δ3 vs = some (mk s') ∧ Q a y)) :
    ∃ (ps : List (α × D)) (s' : S), lcN f t cond elt vs δ = .ok (.lst (ps.map (·.2))) (unwipe δ0 (mk s') vs) ∧ P s' ∧ (ps.map (·.1)).Sublist as ∧ ∀ p ∈ ps, Q p.1 p.2 := by
  obtain ⟨ps, s', i1, i2, i3, i4⟩ := lcLoop_st enc mk P Q as h s [] hs (by simpa using hl)
  refine ⟨ps, s', ?_, i2, i3, i4⟩
  unfold lcN
  simp [hf, hw, i1]
end
/-! ### repr, for longer ints -/
def ShowW (n k : Nat) (d : D) : Prop := ∃ p, d.py = some p ∧ p.canLay0 = true ∧ p.intsShort 43 = true ∧ p.showable = true ∧ p.depth ≤ k ∧ p.weight ≤ n
theorem ShowW.mono {n n' k k' : Nat} {d : D} (h : ShowW n k d) (a : n ≤ n') (b : k ≤ k') : ShowW n' k' d := by
  obtain ⟨p, h1, h2, h3, h4, h5, h6⟩ := h
  exact ⟨p, h1, h2, h3, h4, by omega, by omega⟩
theorem ShowW.int {i : Int} (h : i.natAbs < 10 ^ 42) : ShowW 141 1 (.int i) := by
  have hl : i.natAbs.log2 < 140 := by
    by_cases h0 : i.natAbs = 0
    · rw [h0]; decide
    · exact (Nat.log2_lt h0).mpr (by have : (10 : Nat) ^ 42 < 2 ^ 140 := by decide
                                     omega)
  have e : (PyData.shown (.int i)).length ≤ 43 := by
    have e := int_text_length_le10 (k := 42) (by decide) h
    show (Str.ofString (toString i)).length ≤ 43
    rw [PySem.ofString_length]; exact e
  refine ⟨.int i, by unfold D.py; rfl, by simp [PyData.canLay0], by simp only [PyData.intsShort, decide_eq_true_eq]; exact e, by simp only [PyData.showable, decide_eq_true_eq]; omega, by simp [PyData.depth], ?_⟩
  simp only [PyData.weight]
  split <;> omega
theorem ShowW.str {s : Str} (h : PyData.strOk s = true) : ShowW s.cps.size 1 (.str s) := ⟨.str s, by unfold D.py; rfl, by simpa [PyData.canLay0] using h, by simp [PyData.intsShort], by simp [PyData.showable], by simp [PyData.depth], by simp [PyData.weight]⟩
theorem ShowW.non : ShowW 0 1 .non := ⟨.none, by unfold D.py; rfl, by simp [PyData.canLay0], by simp [PyData.intsShort], by simp [PyData.showable], by simp [PyData.depth], by simp [PyData.weight]⟩
theorem ShowW.bl {b : Bool} : ShowW 0 1 (.bl b) := ⟨.bool b, by unfold D.py; rfl, by simp [PyData.canLay0], by simp [PyData.intsShort], by simp [PyData.showable], by simp [PyData.depth], by simp [PyData.weight]⟩
theorem ShowW.all {n k : Nat} : ∀ {l : List D}, (∀ d ∈ l, ShowW n k d) → ∃ ps, D.pys l = some ps ∧ PyData.canLayAll0 ps = true ∧ PyData.intsShortAll 43 ps = true ∧ PyData.showableAll ps = true ∧ PyData.depthAll ps ≤ k ∧ PyData.weightAll ps ≤ l.length * (n + 1)
  | [], _ => ⟨[], by unfold D.pys; rfl, by simp [PyData.canLayAll0], by simp [PyData.intsShortAll], by simp [PyData.showableAll], by simp [PyData.depthAll], by simp [PyData.weightAll]⟩
  | d :: l, h => by
    obtain ⟨p, h1, h2, h3, h4, h5, h6⟩ := h d List.mem_cons_self
    obtain ⟨ps, g1, g2, g3, g4, g5, g6⟩ := ShowW.all (l := l) fun d hd => h d (List.mem_cons_of_mem _ hd)
    refine ⟨p :: ps, by unfold D.pys; rw [h1, g1]; rfl, by simp [PyData.canLayAll0, h2, g2], by simp [PyData.intsShortAll, h3, g3], by simp [PyData.showableAll, h4, g4], by simp only [PyData.depthAll]; omega, ?_⟩
    simp only [PyData.weightAll, List.length_cons, Nat.add_mul]
    omega
theorem ShowW.lst {n k : Nat} {l : List D} (h : ∀ d ∈ l, ShowW n k d) : ShowW (l.length * (n + 1)) (k + 1) (.lst l) := by
  obtain ⟨ps, g1, g2, g3, g4, g5, g6⟩ := ShowW.all h
  exact ⟨.list ps, by unfold D.py; rw [g1]; rfl, by simpa [PyData.canLay0] using g2, by simpa [PyData.intsShort] using g3, by simpa [PyData.showable] using g4, by simp only [PyData.depth]; omega, by simpa [PyData.weight] using g6⟩
theorem ShowW.tup {n k : Nat} {l : List D} (h : ∀ d ∈ l, ShowW n k d) : ShowW (l.length * (n + 1)) (k + 1) (.tup l) := by
  obtain ⟨ps, g1, g2, g3, g4, g5, g6⟩ := ShowW.all h
  exact ⟨.tuple ps, by unfold D.py; rw [g1]; rfl, by simpa [PyData.canLay0] using g2, by simpa [PyData.intsShort] using g3, by simpa [PyData.showable] using g4, by simp only [PyData.depth]; omega, by simpa [PyData.weight] using g6⟩
theorem ShowW.shows {n k : Nat} {d : D} (h : ShowW n k d) (hn : n ≤ 20000) (hk : k ≤ 60) : ∃ s, shows d = some s := by
  obtain ⟨p, h1, h2, h3, h4, h5, h6⟩ := h
  have z := PyData.shown_le 43 (by decide) p (PyData.leavesShort_of_canLay0 43 p h2 h3)
  refine ⟨p.shown, ?_⟩
  unfold PV.shows
  rw [h1]
  simp only [Option.bind_some]
  rw [if_pos ⟨h4, h2, by omega, by unfold LIM; omega⟩]

theorem same_w {n k : Nat} {d : D} (h : ShowW n k d) (hn : n ≤ 20000) (hk : k ≤ 60) : ph_same [.val d, .val d] = .ret (.bl true) [.val d, .val d] := by
  obtain ⟨s, e⟩ := h.shows hn hk
  unfold ph_same F_same
  simp [ev_fn, reprD, e]
/-! ### loops whose state speaks of what is left -/
theorem loop_runI {S α : Type} {t : D → DE → Option DE} {g : DE → O} (enc : α → D) (mk mr : S → DE) (step : S → α → LR S) (I : List α → S → Prop)
    (h : ∀ s a as, I (a :: as) s → ∃ δ1, t (enc a) (mk s) = some δ1 ∧ match step s a with
      | .go s' => I as s' ∧ (g δ1 = .nx (mk s') ∨ g δ1 = .cnt (mk s'))
      | .brk s' => g δ1 = .brk (mk s')
      | .ret d s' => g δ1 = .ret d (mr s')
      | .exc x s' => g δ1 = .exc x (mr s')) :
    ∀ (as : List α) s, I as s → loopF t g (as.map enc) (mk s) = (runL step as s).o mk mr
  | [], s, _ => rfl
  | a :: as, s, hs => by
    obtain ⟨δ1, e1, q⟩ := h s a as hs
    have ih := loop_runI enc mk mr step I h as
    rw [List.map_cons]
    unfold loopF runL
    rw [e1]
    cases e : step s a with
    | go s' =>
      rw [e] at q
      rcases q with ⟨i, q | q⟩
      · simp only [q]; exact ih s' i
      · simp only [q]; exact ih s' i
    | brk s' => rw [e] at q; simp only [q]; rfl
    | ret d s' => rw [e] at q; simp only [q]; rfl
    | exc x s' => rw [e] at q; simp only [q]; rfl
section
end
end PV

/-! PV31: a lambda handed to a def that calls it under try and looks at what it gave. -/
namespace PV
open PySem PySem.Spec PyProof.Rows L2 LamX
variable [Tbl]

/-- said(lambda: f) where said is «try: made = call(); rest / except ...» -/
def saidR (em : Str → Str → Option Bool) (f : DE → R D) (g : DE → O) (hs : List (Str × D)) : DE → R D := fun δ => match f δ with
  | .exc x δ1 => saidCatch em x δ1 hs
  | .ok d δ1 => match g [none, some (.val d)] with
    | .ret d' _ => .ok d' δ1
    | _ => .stuck
  | .stuck => .stuck
def restW (K : PySem.W.Frag) (g : DE → O) (Q : VK) : VK := fun v H => ∃ F d, AOk K F H [.val d] [v] ∧ match g [none, some (.val d)] with
  | .ret d' _ => ∀ v' F' H', Done K F H [.val d] [v] F' H' [.val d] → Den K F' d' v' → Q v' H'
  | _ => False
def TTr (K : PySem.W.Frag) (l : List (Value × V)) (g : DE → O) : (XK → Hp → VK → Prop) → Hp → VK → Prop := fun tl H Q => tl (fun cls _ H' => tellW K Q l cls H') H (restW K g Q)
theorem PE.weak {X : Cx} {e : Expr} {t : TE} (h : PE X e t) : PE X e (fun σ H Q => ∃ Q1, t σ H Q1 ∧ ∀ v H', Q1 v H' → Q v H') := ⟨fun pins s σ H Q I ⟨Q1, z, hq⟩ => thn (h.run pins s σ H Q1 I z) fun u s1 ⟨v, H1, I1, rv, q⟩ => ⟨v, H1, I1, rv, hq _ _ q⟩⟩
theorem rest_rel {K : PySem.W.Frag} {F H : Hp} {d : D} {v : V} {x : Option V} (A : AOk K F H [.val d] [v]) : Rel K (cq0 F H [.val d] [v]) F H [x, some v] [none, some (.val d)] := by
  have r := A.rel (N := ["a"])
  refine ⟨r.sub, r.pres, r.low, r.new, r.gs, r.bor0, fun i hi => ?_, r.binj, rfl, fun i s e => ?_, fun i j a m n e => ?_, r.tab⟩
  · obtain ⟨m, e⟩ := mem_bIx.mp hi
    cases i with
    | zero => cases e
    | succ i => cases e
  · match i, e with
    | 0, e => cases e
    | 1, e => cases e; exact ⟨v, rfl, A.ok 0 _ _ rfl rfl⟩
    | i + 2, e => cases e
  · match i, e with
    | 0, e => cases e
    | 1, e => cases e
    | i + 2, e => cases e
theorem rest_gives {X : Cx} {x a m q : Str} {sg : Scope} {g : Addr} {cdg : Value} {p1 p2 p3 p8 pa : Pos} {rest : List Stmt} {G : DE → O} {h₀ : ExceptHandler} {hds : List ExceptHandler} {ns : List (Str × D)} {l : List (Value × V)} (hh : SaidHds X.K sg X.mg (h₀ :: hds) ns l) (hnd : [a, m].Nodup) (hm : Loc sg m) (hl : sg.names.lookup m = some .local)
    (hr : ∀ (s : Shared) (H : Hp) (W : WX) (pn : List (Addr × Obj)) (xe : Value → Shared → Prop), Takes ((cxOf C8.CX0 X.prog X.w X.K X.mg X.base [a, m] x sg g cdg X.A X.stack s H C8.E0).tr pn xe) W → VSs ((cxOf C8.CX0 X.prog X.w X.K X.mg X.base [a, m] x sg g cdg X.A X.stack s H C8.E0).tr pn xe) W rest G) :
    GivesTo X [a, m] x sg g cdg [.Try (.Assign [.Name m pa] (.Call (.Name a p1) [] [] p2) p3 :: rest) (h₀ :: hds) [] [] p8] a q (TTr X.K l G) := by
  intro f c' s H Q tl act hc h
  refine ⟨_, pss_one (ps_try_many (X := (cxOf C8.CX0 X.prog X.w X.K X.mg X.base [a, m] x sg g cdg X.A X.stack s H C8.E0).nox)
      (tb := fun W D σ H => ∃ (Ech : XK) , (∀ cls d σ' H', Ech cls d H' → W cls d σ' H') ∧ σ = [some (.ref f), none] ∧ H c' = some (CodeO c' q) ∧ tl Ech H (restW X.K G D.rt))
      rfl rfl LamX.takes0 (fun W pn xe tk _ => ?_) (SaidHds.ok hh)), ?_⟩
  · refine ⟨fun pins s' σ H' D I h' => ?_⟩
    obtain ⟨Ech, hW, h1, h2, h3⟩ := h'
    have hp := pss_cons (ps_set (i := 1) (pos := p3) (pos' := pa) hnd rfl hm (PE.weak (act W pn xe Ech p1 p2 tk hW)) rfl (.inr hl)) (hr s H W pn xe tk)
    refine hp.run pins s' σ H' D I ⟨restW X.K G D.rt, ⟨?_, h2, h3⟩, fun v H1 z => ?_⟩
    · rw [h1]; rfl
    · obtain ⟨F, d, A, z⟩ := z
      rw [h1]
      refine ⟨_, F, _, rest_rel A, ?_⟩
      cases qg : G [none, some (.val d)] with
      | ret d' δ' =>
        rw [qg] at z
        intro v' σ' F' H'' r' s'' dd
        exact z v' F' H'' (by have := A.done r'; cases δ' <;> exact this) dd
      | nx _ => rw [qg] at z; exact z.elim
      | brk _ => rw [qg] at z; exact z.elim
      | cnt _ => rw [qg] at z; exact z.elim
      | exc _ _ => rw [qg] at z; exact z.elim
      | stuck => rw [qg] at z; exact z.elim
  · exact ⟨fun cls _ H' => tellW X.K Q l cls H', fun cls d σ' H' z => tell_many z, rfl, hc, h⟩
section
variable {X : Cx} {W : WX}
theorem rd_saidR {em : Str → Str → Option Bool} (he : EmOk X.K em) {sg : Scope} {f : DE → R D} {G : DE → O} {hds : List ExceptHandler} {ns : List (Str × D)} {l : List (Value × V)} (hh : SaidHds X.K sg X.mg hds ns l) {σ : L2.St} {H : Hp} {Q : VK}
    (z : rdE X.K W (saidR em f G ns) σ H Q) : tLam Tbl.T (TTr X.K l G) (fun E => rdE X.K (wE E) f) σ H Q := by
  obtain ⟨c, F, δ, r, z⟩ := z
  refine ⟨r.tab.tabs, fun H1 e1 t1 => ?_⟩
  have r1 := r.extN e1 t1
  refine ⟨c, F, δ, r1, ?_⟩
  unfold saidR at z
  cases q : f δ with
  | ok d δ1 =>
    rw [q] at z
    intro v F1 H2 r2 s2 dd
    have ha : ArgsD X.K F1 σ [.val d] [v] := ⟨v, [], rfl, dd, rfl⟩
    have A : AOk X.K F1 H2 [.val d] [v] := r2.lent (as := [.val d]) (ss := [.val d]) (show ([] : List Nat).Nodup from .nil) rfl ha
    refine ⟨F1, d, A, ?_⟩
    cases qg : G [none, some (.val d)] with
    | ret d' δ' =>
      simp only [qg] at z ⊢
      intro v' F' H' dn dd'
      exact z v' F' H' (r2.called (as := [.val d]) (show ([] : List Nat).Nodup from .nil) rfl ha dn) (s2.trans dn.low) dd'
    | nx _ => simp only [qg] at z; exact z.elim
    | brk _ => simp only [qg] at z; exact z.elim
    | cnt _ => simp only [qg] at z; exact z.elim
    | exc _ _ => simp only [qg] at z; exact z.elim
    | stuck => simp only [qg] at z; exact z.elim
  | stuck => rw [q] at z; exact z
  | exc x δ1 =>
    rw [q] at z
    intro cls od F' H' r' s' xo
    exact tell_rd he r' xo hh (aft.mono z s' fun _ _ h => h)
theorem ve_saidR {x a m : Str} {g c P : Addr} {fd : FuncData} {st : Stmt} {k : Nat} {em : Str → Str → Option Bool} {params : Arguments} {body : Expr} {scope : Scope} {f : DE → R D} {G : DE → O} {p lpos pos p1 p2 p3 p8 pa : Pos} {rest : List Stmt} {h₀ : ExceptHandler} {hds : List ExceptHandler} {ns : List (Str × D)} {l : List (Value × V)}
    (he : EmOk X.K em) (F : Fun X.K x x st g fd) (hbg : defBody st = [.Try (.Assign [.Name m pa] (.Call (.Name a p1) [] [] p2) p3 :: rest) (h₀ :: hds) [] [] p8]) (hh : SaidHds X.K (defScope st) X.mg (h₀ :: hds) ns l) (hnd : [a, m].Nodup) (hlm : Loc (defScope st) m) (hll : (defScope st).names.lookup m = some .local)
    (hrest : ∀ (cd : Value) (s : Shared) (H : Hp) (W : WX) (pn : List (Addr × Obj)) (xe : Value → Shared → Prop), Takes ((cxOf C8.CX0 X.prog X.w X.K X.mg X.base [a, m] x (defScope st) g cd X.A X.stack s H C8.E0).tr pn xe) W → VSs ((cxOf C8.CX0 X.prog X.w X.K X.mg X.base [a, m] x (defScope st) g cd X.A X.stack s H C8.E0).tr pn xe) W rest G)
    (hg : Gl X x) (hm : X.mg x = some (.ref g)) (hb : L2.Binds X.K fd [a] []) (Sg : FnScope [a, m] [a] (defScope st)) (hva : Vis (defScope st) a)
    (TB : TabB X.base X.mg c P) (hcode : X.env.code = .ref c) (hmT : (P, X.env.qual ++ "<lambda>") ∈ Tbl.T) (hu : ∀ p ∈ Tbl.T, p.1 = P → p.2 = X.env.qual ++ "<lambda>") (hr : Room (k + 2) X.A) (L : LamS X.env.scope scope) (hdef : defaultsOf params X.env = ([], []))
    (hbind : ∀ (q : Str) (cl : List (Str × Addr)) (pm cv ctv : Value), bindArgs (PySem.W.kla_fn "<lambda>" q params body scope cl pm cv ctv) ⟨[], []⟩ = pure [])
    (hbody : ∀ (A : Around) (outer : List Env) (s : Shared) (H : Hp) (E : XK) (f' c' : Addr), Room k (A.deeper (lamEnv X scope s.heap.objs.size f' c')) → VE (lamCx X A outer s H E scope f' c') (wE E) body f)
    (hdb : (x == ("__debug__" : Str)) = false := by decide) (hd : (a == ("__debug__" : Str)) = false := by decide) (hcd : (a == ("__classdict__" : Str)) = false := by decide) :
    VE X W (.Call (.Name x p) [.Lambda params body scope lpos] [] pos) (saidR em f G ns) := by
  have hk := F.kp
  obtain ⟨oc, od, kV, doc, pm, an, cd, ct, osl, rfl, lk, hc⟩ := F.ex
  exact PE.to (pe_lamcall (T := Tbl.T) (TT := TTr X.K l G) (t := fun E => rdE X.K (wE E) f) hg hm hk lk hc hb Sg rfl hva (by rw [hbg]; exact rest_gives hh hnd hlm hll (hrest cd)) TB hcode hmT hu hr L hdef hbind (fun A outer s H E f' c' hr' => hbody A outer s H E f' c' hr') hdb hd hcd) fun σ H Q z => rd_saidR he hh z
end
end PV

/-! PV32: repr of tuples with dicts in them; dict displays of constants. -/
namespace PV
open PySem PySem.Spec PyProof.Rows L2
def keyPy : Key → PyData
  | .inl i => .int i
  | .inr s => .str s
mutual
def D.pyX : D → Option PyData
  | .non => some .none
  | .bl b => some (.bool b)
  | .int i => some (.int i)
  | .str s => some (.str s)
  | .tup l => (D.pyXs l).map .tuple
  | .dct l => (D.pyXk l).map .dict
  | _ => none
def D.pyXs : List D → Option (List PyData)
  | [] => some []
  | d :: ds => (D.pyX d).bind fun p => (D.pyXs ds).map fun ps => p :: ps
def D.pyXk : List (Key × D) → Option (List (PyData × PyData))
  | [] => some []
  | (k, d) :: ds => (D.pyX d).bind fun p => (D.pyXk ds).map fun ps => (keyPy k, p) :: ps
end
section
variable {X : Cx} {pins : List (Addr × Obj)} {σ : L2.St} {F H : Hp} {s : Shared}
mutual
theorem readsX (I : Inv X pins σ H s) (e : Same F H) : ∀ {d : D} {p : PyData} {v : V} {u : Value}, d.pyX = some p → Den X.K F d v → RelV v u → ∃ as, Reads s.heap u p as ∧ sysModules ∉ as
  | .non, _, _, _, h, g, r => by unfold D.pyX at h; cases h; cases g; cases r; exact ⟨_, Reads.none, by simp⟩
  | .bl b, _, _, _, h, g, r => by unfold D.pyX at h; cases h; cases g; cases r; exact ⟨_, Reads.bool b, by simp⟩
  | .int b, _, _, _, h, g, r => by unfold D.pyX at h; cases h; cases g; obtain ⟨t, rfl⟩ := r; exact ⟨_, Reads.int b t, by simp⟩
  | .str b, _, _, _, h, g, r => by unfold D.pyX at h; cases h; cases g; obtain ⟨t, rfl⟩ := r; exact ⟨_, Reads.str b t, by simp⟩
  | .byt _, _, _, _, h, _, _ => by unfold D.pyX at h; cases h
  | .ty _, _, _, _, h, _, _ => by unfold D.pyX at h; cases h
  | .fn _, _, _, _, h, _, _ => by unfold D.pyX at h; cases h
  | .adr _, _, _, _, h, _, _ => by unfold D.pyX at h; cases h
  | .scr _, _, _, _, h, _, _ => by unfold D.pyX at h; cases h
  | .lst _, _, _, _, h, _, _ => by unfold D.pyX at h; cases h
  | .dcT _, _, _, _, h, _, _ => by unfold D.pyX at h; cases h
  | .dcF _, _, _, _, h, _, _ => by unfold D.pyX at h; cases h
  | .ctp _, _, _, _, h, _, _ => by unfold D.pyX at h; cases h
  | .ins _ _, _, _, _, h, _, _ => by unfold D.pyX at h; cases h
  | .tup l, _, _, _, h, g, r => by
    unfold D.pyX at h
    obtain ⟨ps, h1, rfl⟩ := Option.map_eq_some_iff.mp h
    obtain ⟨a, xs, rfl, g1, g2⟩ := g
    cases r
    obtain ⟨its, rv, ⟨o, ho, hc, n, hd⟩, _⟩ := I.tuple (sqt (e _ _ g1))
    obtain ⟨as, hr, hn⟩ := readsXs I e h1 g2 rv
    exact ⟨_, Reads.tuple ho hc hd hr, hn⟩
  | .dct l, _, _, _, h, g, r => by
    unfold D.pyX at h
    obtain ⟨ps, h1, rfl⟩ := Option.map_eq_some_iff.mp h
    obtain ⟨a, kvs, rfl, g1, g2⟩ := g
    cases r
    obtain ⟨_, hm, vs, kv, o, es, ep, ho, hx, hd, _, hp, _⟩ := I.hok a _ (e _ _ g1)
    obtain ⟨as, bs, r1, r2, n1, n2⟩ := readsXk I e h1 g2 kv hp
    refine ⟨_, Reads.dict ho hx.1 hd r1 r2, ?_⟩
    simp only [List.cons_append, List.mem_cons, List.mem_append, not_or]
    exact ⟨fun q => by rw [← q] at hm; simp at hm, n1, n2⟩
theorem readsXs (I : Inv X pins σ H s) (e : Same F H) : ∀ {l : List D} {ps : List PyData} {vs : List V} {us : List Value}, D.pyXs l = some ps → Dens X.K F l vs → Vals vs us → ∃ as, ReadsAll s.heap us ps as ∧ sysModules ∉ as
  | [], _, _, _, h, g, r => by
    unfold D.pyXs at h; cases h; rw [show _ = _ from g] at r; cases r; exact ⟨_, .nil, by simp⟩
  | d :: ds, _, _, _, h, ⟨v, rr, e1, g1, g2⟩, r => by
    unfold D.pyXs at h
    obtain ⟨p, h1, h2⟩ := Option.bind_eq_some_iff.mp h
    obtain ⟨ps, h3, rfl⟩ := Option.map_eq_some_iff.mp h2
    subst e1
    cases r with
    | cons r1 r2 =>
      obtain ⟨as, q1, n1⟩ := readsX I e h1 g1 r1
      obtain ⟨bs, q2, n2⟩ := readsXs I e h3 g2 r2
      exact ⟨_, .cons q1 q2, by simp only [List.mem_append, not_or]; exact ⟨n1, n2⟩⟩
theorem readsXk (I : Inv X pins σ H s) (e : Same F H) : ∀ {l : List (Key × D)} {ps : List (PyData × PyData)} {kvs : List (Key × V)} {vs : List (Key × Value)} {es : List DictEntry}, D.pyXk l = some ps → DenK X.K F l kvs → KV kvs vs → Pairs (mixKind X.prog X.w) es vs →
    ∃ as bs, ReadsAll s.heap (es.map (·.key)) (ps.map (·.1)) as ∧ ReadsAll s.heap (es.map (·.val)) (ps.map (·.2)) bs ∧ sysModules ∉ as ∧ sysModules ∉ bs
  | [], _, _, _, _, h, g, r, q => by
    unfold D.pyXk at h; cases h; rw [show _ = _ from g] at r; cases r; cases q; exact ⟨_, _, .nil, .nil, by simp, by simp⟩
  | (k, d) :: ds, _, _, _, _, h, ⟨v, rr, e1, g1, g2⟩, r, q => by
    unfold D.pyXk at h
    obtain ⟨p, h1, h2⟩ := Option.bind_eq_some_iff.mp h
    obtain ⟨ps, h3, rfl⟩ := Option.map_eq_some_iff.mp h2
    subst e1
    cases r with
    | cons r1 r2 =>
      cases q with
      | @cons ee _ _ _ q1 q2 q3 =>
        obtain ⟨as, bs, z1, z2, n1, n2⟩ := readsXk I e h3 g2 r2 q3
        obtain ⟨cs, y, n3⟩ := readsX I e h1 g1 r1.2
        rw [← q2] at y
        have q1 := q1
        rw [← r1.1] at q1
        have hk : Reads s.heap ee.key (keyPy k) [] := by
          rcases keyIs_shape q1 with ⟨i, t, e1, e2⟩ | ⟨i, t, e1, e2⟩
          · cases e1; rw [e2]; exact .int i t
          · cases e1; rw [e2]; exact .str i t
        exact ⟨_, _, .cons hk z1, .cons y z2, by simpa using n1, by simp only [List.mem_append, not_or]; exact ⟨n3, n2⟩⟩
end
end
variable [Tbl]
def showsX (d : D) : Option Str := match shows d with
  | some s => some s
  | none => d.pyX.bind fun p => if p.showable = true ∧ p.depth ≤ 60 ∧ p.shown.length ≤ LIM then some p.shown else none
def reprX : List D → Option D
  | [.tup l] => (showsX (.tup l)).map .str
  | [d] => (shows d).map .str
  | _ => none
theorem b_reprX {X : Cx} (hu : X.A.units + 64 < cLine) (hg : X.A.guards = some []) : Bf X (.builtin "repr") reprX := by
  have hcr : CallR X (.builtin "repr") (fun xs H Q => (∃ v p, xs = [v] ∧ Dp X.K H v p ∧ p.showable = true ∧ p.canLay0 = true ∧ p.depth ≤ 60 ∧ p.shown.length ≤ sizeLine ∧ Q (.str p.shown) H) ∨
      ∃ l v F p, xs = [v] ∧ Den X.K F (.tup l) v ∧ Same F H ∧ (D.tup l).pyX = some p ∧ p.showable = true ∧ p.depth ≤ 60 ∧ p.shown.length ≤ sizeLine ∧ Q (.str p.shown) H) := by
    intro pins s σ H xs us Q I rv h
    rcases h with h | ⟨l, v, F, p, rfl, dn, sm, py, hs, hd, hz, q⟩
    · exact cr_repr hu hg pins s σ H xs us Q I rv h
    obtain ⟨u, rfl, ru⟩ := Vals.one rv
    have fin : ∀ (h' : Heap) (t tk : Tok), (∀ b o, s.heap.get? b = some o → h'.get? b = some o) → EP X pins σ Q (.str p.shown t) { s with heap := h', toks := tk } := fun h' t tk hk => ⟨.str p.shown, H, I.kept (t' := tk) hk, ⟨t, rfl⟩, q⟩
    obtain ⟨as, rr, hn⟩ := readsX I sm py dn ru
    obtain ⟨a, xs, rfl, _⟩ := dn
    cases (show u = Value.ref a from ru)
    exact repr_of_reads' rr hs (fun _ => hn) hg (by omega) (fun _ _ e => e) (fun h' t tk hk => fin h' t tk hk) hz
  refine ⟨_, hcr, fun c F H σ δ ds z vs Q r d1 q k => ?_⟩
  have old : ∀ {d : D}, ds = [d] → (shows d).map .str = some z → ∃ v p, vs = [v] ∧ Dp X.K H v p ∧ p.showable = true ∧ p.canLay0 = true ∧ p.depth ≤ 60 ∧ p.shown.length ≤ sizeLine ∧ Q (.str p.shown) H := by
    intro d ed q'
    subst ed
    obtain ⟨t, q1, rfl⟩ := Option.map_eq_some_iff.mp q'
    obtain ⟨p, q2, q3⟩ := Option.bind_eq_some_iff.mp q1
    split at q3
    · rename_i hh
      cases q3
      obtain ⟨v, rfl, h⟩ := densH1 d1
      exact ⟨v, p, rfl, dpH r.sub h q2, hh.1, hh.2.1, hh.2.2.1, lim_le hh.2.2.2, k _ F H r (.refl _) rfl⟩
    · cases q3
  unfold reprX at q
  split at q
  · rename_i l
    unfold showsX at q
    split at q
    · rename_i t ht
      exact .inl (old rfl (by rw [ht]; exact q))
    · obtain ⟨t, q1, rfl⟩ := Option.map_eq_some_iff.mp q
      obtain ⟨p, q2, q3⟩ := Option.bind_eq_some_iff.mp q1
      split at q3
      · rename_i hh
        cases q3
        obtain ⟨v, rfl, h⟩ := densH1 d1
        rcases h with h | ⟨m, a, o, e, _⟩
        · exact .inr ⟨l, v, F, p, rfl, h, r.sub, q2, hh.1, hh.2.1, lim_le hh.2.2, k _ F H r (.refl _) rfl⟩
        · cases m <;> (unfold MD.d at e; cases e)
      · cases q3
  · exact .inl (old rfl q)
  · cases q
/-- {k: v} of constants -/
def dOne (k v : Int) : DE → R MD := fun δ => .ok (.dct [(.inl k, .int v)]) δ
theorem vn_dOne {X : Cx} {W : WX} {k v : Int} {j1 j2} {p1 p2 pos : Pos} : VN X W (.Dict [some (.Constant (.int k) j1 p1)] [.Constant (.int v) j2 p2] pos) (dOne k v) := PE.to (pe_disp (pps_cons pe_int pe_int pps_nil) rfl rfl (by simp) (by simp)) fun σ H Q z p hp => by
  obtain ⟨c, F, δ, r, z⟩ := z
  refine ⟨upd_same, [(.inl k, .int v)], rfl, by simp, ?_⟩
  rw [upd_upd]
  obtain ⟨g1, g2⟩ := r.fresh (o := .dK [(.inl k, .int v)]) (m := .dct [(.inl k, .int v)]) hp ⟨_, _, rfl, rfl, rfl⟩
  exact z _ _ _ g1 (.refl _) g2
noncomputable def tupRg1 (fa : DE → R D) : DE → R D := fun δ => (fa δ).bind fun x δ => match x with
  | .int j => @ite _ (j ≤ 10000 ∧ -10000 ≤ j) (Classical.propDecidable _) (.ok (.tup ((List.range j.toNat).map fun k => .int ((k : Nat) : Int))) δ) .stuck
  | _ => .stuck
theorem ve_tupRg1 {X : Cx} {W : WX} {pos : Pos} {a : Expr} {fa : DE → R D} {p p2 pos2 : Pos} (hc : X.calm = true) (hg : Gl X "tuple") (hm : X.mg "tuple" = none) (hg2 : Gl X "range") (hm2 : X.mg "range" = none) (ha : VE X W a fa)
    (na : starEach [a] X.env = (false, eval a X.env) :: starEach [] X.env := by rfl)
    (nc : starEach [.Call (.Name "range" p2) [a] [] pos2] X.env = (false, eval (.Call (.Name "range" p2) [a] [] pos2) X.env) :: starEach [] X.env := by rfl) :
    VE X W (.Call (.Name "tuple" p) [.Call (.Name "range" p2) [a] [] pos2] [] pos) (tupRg1 fa) :=
  PE.to (pe_tupRg hc hg hm (prg_1 hg2 hm2 ha na) nc) fun σ H Q z => by
    refine z.first (DM := dnE X.K) fun c F H1 δ x v r1 d1 z1 => ?_
    split at z1
    · rename_i j
      split at z1
      · rename_i hj
        refine ⟨j, d1, ⟨by omega, by omega, by omega, by omega, by omega⟩, fun q hq => ?_⟩
        have r3 := r1.lay (o := .tup (rgV 0 j)) hq
        refine z1 _ _ _ r3 (same_new (r1.freeF hq)) ⟨q, rgV 0 j, rfl, upd_same, ?_⟩
        generalize upd F q (.tup (rgV 0 j)) = F3
        unfold rgV
        rw [show (j - 0).toNat = j.toNat from by rw [Int.sub_zero]]
        generalize List.range j.toNat = l
        induction l with
        | nil => exact Dens.nil
        | cons n l ih => exact Dens.cons (by show V.int _ = _; rw [Int.zero_add]) ih
      · exact False.elim z1
    · exact False.elim z1
theorem kit_refl {K : PySem.W.Frag} {t : Value} : PySem.W.kitOne K t t = some true := if_pos (beq_self_eq_true _)
theorem kit_sub {K : PySem.W.Frag} {t : Value} {C : Addr} {cd : ClassData} (h1 : PySem.W.clsIn K C = some cd) (h2 : PySem.W.typeIn K (.ref C) = some (.type "type")) (h3 : PySem.W.subIn K t (.ref C) = some true) : PySem.W.kitOne K t (.ref C) = some true := by
  unfold PySem.W.kitOne
  split
  · rfl
  · unfold PySem.W.kitCls
    simp only
    rw [h1, h2, if_pos (by simp)]
    exact h3
end PV

/-! PV33: while. -/
namespace PV
open PySem PySem.Spec PyProof.Rows L2
def whileF (f : DE → R Bool) (g : DE → O) : Nat → DE → O
  | 0, _ => .stuck
  | n + 1, δ => bindS (f δ) fun b δ => if b = true then (match g δ with
      | .nx δ => whileF f g n δ
      | .cnt δ => whileF f g n δ
      | .brk δ => .nx δ
      | o => o) else .nx δ
/-- n: more turns than there are -/
def whileS (n : Nat) (f : DE → R Bool) (g : DE → O) : DE → O := fun δ => whileF f g n δ
section
variable [Tbl]
theorem vs_while {X : Cx} {W : WX} {e : Expr} {body : List Stmt} {f : DE → R Bool} {g : DE → O} {pos : Pos} (n : Nat) (hp : PassesOwn (model X.prog X.w) X.A X.env X.xe) (hc : VT X W e f) (hb : VSs X W body g) : VS X W (.While e body [] pos) (whileS n f g) :=
  PS.to (ps_while hp hc hb) fun N σ H z => by
    obtain ⟨c, F, δ, r, z⟩ := z
    refine ⟨fun m σ H => ∃ F' δ, Rel X.K c F' H σ δ ∧ aftS X.K W N c F' (whileF f g m δ), ⟨n, F, δ, r, z⟩, ?_⟩
    rintro m σ H ⟨F1, δ1, r1, z1⟩
    cases m with
    | zero => exact False.elim z1
    | succ m =>
      have z1 : rdS X.K W (fun δ => bindS (f δ) fun b δ => if b = true then (match g δ with
        | .nx δ => whileF f g m δ
        | .cnt δ => whileF f g m δ
        | .brk δ => .nx δ
        | o => o) else .nx δ) N σ H := by
          refine ⟨c, F1, δ1, r1, ?_⟩
          unfold whileF at z1
          exact z1
      -- the same frame throughout
      have key : aft X.K W dnB c F1 σ (fun b H1 => if b = true then ∃ M : L2.St → Hp → Prop, (∀ σ' H', M σ' H' → ∃ m', m' < m + 1 ∧ ∃ F' δ, Rel X.K c F' H' σ' δ ∧ aftS X.K W N c F' (whileF f g m' δ)) ∧ rdS X.K W g { N with nx := M, ct := M, bk := N.nx } σ H1 else N.nx σ H1) (f δ1) := by
        rename_i z0
        unfold whileF at z0
        cases q : f δ1 with
        | stuck => rw [q] at z0; exact False.elim z0
        | exc x δ2 => rw [q] at z0; exact fun cls od F' H' r' s' xo => z0 cls od σ F' H' r' s' xo
        | ok b δ2 =>
          rw [q] at z0
          intro v F2 H2 r2 s2 dd
          cases (show v = b from dd)
          cases b with
          | false => exact z0 σ F2 H2 r2 s2
          | true =>
            rw [if_pos rfl]
            refine ⟨fun σ' H' => ∃ F' δ, Rel X.K c F' H' σ' δ ∧ aftS X.K W N c F' (whileF f g m δ), fun σ' H' hM => ⟨m, by omega, hM⟩, c, F2, δ2, r2, ?_⟩
            have z2 : aftS X.K W N c F1 (match g δ2 with
              | .nx δ => whileF f g m δ
              | .cnt δ => whileF f g m δ
              | .brk δ => .nx δ
              | o => o) := z0
            have z2 := z2.up s2
            cases q2 : g δ2 with
            | nx δ5 => rw [q2] at z2; exact fun σ' F' H' r' s' => ⟨F', δ5, r', z2.up s'⟩
            | cnt δ5 => rw [q2] at z2; exact fun σ' F' H' r' s' => ⟨F', δ5, r', z2.up s'⟩
            | brk δ5 => rw [q2] at z2; exact z2
            | ret d δ5 => rw [q2] at z2; exact z2
            | exc x δ5 => rw [q2] at z2; exact z2
            | stuck => rw [q2] at z2; exact z2
      exact ⟨c, F1, δ1, r1, key⟩
end
/-- one turn, as a rule -/
theorem while_go {f : DE → R Bool} {g : DE → O} {n : Nat} {δ δ1 δ2 : DE} (h1 : f δ = .ok true δ1) (h2 : g δ1 = .nx δ2) : whileF f g (n + 1) δ = whileF f g n δ2 := by
  conv => lhs; unfold whileF
  simp only [h1, bindS, h2, if_true]
theorem while_end {f : DE → R Bool} {g : DE → O} {n : Nat} {δ δ1 : DE} (h1 : f δ = .ok false δ1) : whileF f g (n + 1) δ = .nx δ1 := by
  conv => lhs; unfold whileF
  simp only [h1, bindS]
  rfl
end PV

/-! PV34: max of a tuple of ints, () * n. -/
namespace PV
open PySem PySem.Spec PyProof.Rows L2
section
variable {prog : Program} {w : World} {A : Around} {E : Value → Shared → Prop} {s : Shared} {l : Addr}
theorem max_intTup {xs : Array (Int × Tok)} {Q : Value → Shared → Prop} (hh : A.handled = none) (hl : s.heap.IsTuple l (intItems xs)) (hne : 0 < xs.size)
    (h : ∀ v h' tk, (intItems xs)[argBest (fun i j => decide (numAt xs i > numAt xs j)) (xs.size - 1)]? = some v → (∀ b o, s.heap.get? b = some o → h'.get? b = some o) → Q v { s with heap := h', toks := tk }) :
    wpAny (model prog w) A (call (.builtin "max") [.ref l]) Q E s := by
  have hlt : l < s.heap.objs.size := by obtain ⟨_, e, _⟩ := hl; exact Heap.lt_size e
  refine call_max_walk (wpAny_pyIter_tuple hl ?_)
  refine ⟨_, [_, l], [_], _, _, _, _, rfl, Walks.tuple (A := A.in1) hh _ l (Nat.ne_of_lt hlt) (intItems xs), ⟨⟨_, Heap.get?_push_size _ rfl, rfl, rfl⟩, hl.push _⟩, fun c hc => ?_, by simpa [intItems] using hne, CmpOf.ints_gt (numAt xs) (fun _ _ => intItems_at), fun v h' tk hP hk => ?_⟩
  · show c < (s.heap.push _).objs.size
    rw [Heap.size_push]
    rcases List.mem_cons.mp hc with rfl | hc
    · exact Nat.lt_succ_self _
    · rcases List.mem_cons.mp hc with rfl | hc
      · exact Nat.lt_succ_of_lt hlt
      · cases hc
  · refine h v h' tk (by simpa [intItems] using hP) fun b o e => ?_
    refine hk b o (fun hm => ?_) (Heap.get?_push_of_some _ e)
    rcases List.mem_cons.mp hm with e1 | hm
    · exact absurd (e1 ▸ Heap.lt_size e) (Nat.lt_irrefl _)
    · cases hm
theorem max_rawT {its : List Value} {ns : List Int} {Q : Value → Shared → Prop} (hh : A.handled = none) (hl : s.heap.IsTuple l its.toArray) (hi : IntsAre its ns) (hne : 0 < ns.length)
    (h : ∀ h' tk M t', (∀ b o, s.heap.get? b = some o → h'.get? b = some o) → M ∈ ns → (∀ a, a ∈ ns → a ≤ M) → Q (.int M t') { s with heap := h', toks := tk }) : wpAny (model prog w) A (call (.builtin "max") [.ref l]) Q E s := by
  obtain ⟨xs, e⟩ := hi.allInts.items
  have hn : numsOf (intItems xs).toList = ns := by rw [← e]; exact hi.numsOf
  rw [nums_intItems] at hn
  subst hn
  rw [e] at hl
  have hsz : 0 < xs.size := by simpa using hne
  refine max_intTup hh hl hsz fun v h' tk hv hk => ?_
  obtain ⟨t, rfl⟩ := intItems_at hv
  obtain ⟨h1, h2⟩ := argBest_gt (numAt xs) (xs.size - 1)
  refine h h' tk _ t hk ?_ fun a ha => ?_
  · rw [numAt_eq]; exact PySem.getD_mem (by rw [List.length_map, Array.length_toList]; omega)
  · obtain ⟨j, hj, rfl⟩ := mem_getD ha
    rw [List.length_map, Array.length_toList] at hj
    rw [← numAt_eq]; exact h2 j (by omega)
end
def rMaxT (K : PySem.W.Frag) : List V → Hp → VK → Prop := fun vs H Q => ∃ (a : Addr) (ns : List Int), vs = [V.ref a] ∧ SqT K H a (ns.map V.int) ∧ 0 < ns.length ∧ ∀ m, m ∈ ns → (∀ y, y ∈ ns → y ≤ m) → Q (.int m) H
theorem cr_maxT {X : Cx} (hc : X.calm = true) : CallR X (.builtin "max") (rMaxT X.K) := by
  intro pins s σ H vs us Q I r h
  obtain ⟨a, ns, rfl, hs, hne, q⟩ := h
  obtain ⟨its, rv, hl, _⟩ := I.tuple hs
  rw [Vals.ref1 r]
  exact max_rawT (I.ok.hd hc) hl rv.ints hne fun h' tk m t' hk h1 h2 => ⟨.int _, H, I.kept hk, ⟨_, rfl⟩, q m h1 h2⟩
variable [Tbl]
def maxTD : List D → Option D
  | [.tup l] => (intsOf l).bind fun ns => if ns = [] then none else some (.int (maxI ns))
  | _ => none
theorem b_maxT {X : Cx} (hc : X.calm = true) : Bf X (.builtin "max") maxTD := by
  refine ⟨_, cr_maxT hc, fun c F H σ δ ds z vs Q r d1 q k => ?_⟩
  unfold maxTD at q
  split at q
  · obtain ⟨ns, q1, q2⟩ := Option.bind_eq_some_iff.mp q
    split at q2
    · cases q2
    · rename_i hne
      cases q2
      obtain ⟨v, rfl, h⟩ := densH1 d1
      rcases h with ⟨a, xs, rfl, h1, h2⟩ | ⟨m, a, o, e, _⟩
      · rw [ints_den q1 h2] at h1
        refine ⟨a, ns, rfl, sqt (r.sub _ _ h1), List.length_pos_iff.mpr hne, fun m hm hy => ?_⟩
        obtain ⟨g1, g2⟩ := maxI_mem hne
        have : m = maxI ns := Int.le_antisymm (g2 m hm) (hy _ g1)
        rw [this]
        exact k _ F H r (.refl _) rfl
      · cases m <;> (unfold MD.d at e; cases e)
  · cases q
/-! ### () * n -/
omit [Tbl] in
theorem tuple_mul0 (l : Addr) (n : Nat) (dd : Option Addr) (sl : Array (Option Value)) (x : Int) (u : Tok) (c0 : (decide (x < -(2 ^ 63)) || decide (x ≥ 2 ^ 63)) = false) :
    Meets (Builtin.«tuple.__mul__» ⟨[.ref l, .int x u], []⟩) (fun _ R s => s.heap.get? l = some { cls := .type "tuple", dict := dd, data := .seq #[] n, slots := sl } ∧ R (.ok (.ret (Value.ref l))) s) :=
  .of_wp fun prog w A R s h => by
    obtain ⟨hp, g, d, tk, os⟩ := s
    obtain ⟨hl, h⟩ := h
    have f1 := AutoSeq1.idx_int
    wp_walk using wpAny_loadPart' hl
    repeat (first
      | (refine wpAny_ite_false (decide_eq_false (by rw [c0]; exact Bool.false_ne_true)) ?_; wp_walk using wpAny_loadPart' hl)
      | (refine wpAny_ite_true (decide_eq_true (by rfl)) ?_; wp_walk using wpAny_loadPart' hl))
    exact ⟨_, rfl, h⟩
omit [Tbl] in
theorem op_rep0 {X : Cx} : OpR X (binaryOp .Mult) (fun x y H Q => ∃ l k, x = .ref l ∧ y = .int k ∧ SqT X.K H l [] ∧ 0 ≤ k ∧ k ≤ 1000 ∧ Q (.ref l) H) := by
  intro pins s σ H x y v u Q I rx ry h
  obtain ⟨l, k, rfl, rfl, hT, h1, h2, q⟩ := h
  cases rx
  obtain ⟨t, rfl⟩ := ry
  obtain ⟨its, r, ⟨⟨cls, dd, data, sl⟩, ho, hc, n, hd⟩, hs⟩ := I.tuple hT
  simp only at hc hd
  subst hc hd
  cases r
  have c0 : (decide (k < -(2 ^ 63)) || decide (k ≥ 2 ^ 63)) = false := by
    rw [decide_eq_false (by omega), decide_eq_false (by omega)] <;> rfl
  exact wpAny_binaryOp_repeat_ref (T := "tuple") (U := "int") (by decide) ⟨_, ho, rfl⟩ (fun s' => typeIs_int s' k t) noFill_tuple_mul F.fills_int_mul F.slot_int_rmul repeat_tuple F.slot_int_index.lookup
    (call_meets F.slot_int_rmul (typeIs_int s k t) F.entry_int_rmul (F.args_int_rmul_2 _ _) (int_rmul_tuple k t l #[] n dd sl)
      ⟨ho, rfl, ⟨_, ho, rfl⟩, call_meets F.slot_tuple_mul ⟨_, ho, rfl⟩ F.entry_tuple_mul (F.args_tuple_mul_2 _ _) (tuple_mul0 l n dd sl k t c0) ⟨ho, ⟨.ref l, H, I, rfl, q⟩⟩⟩)
def tmul0 : D → D → Option D
  | .tup [], .int k => if 0 ≤ k ∧ k ≤ 1000 then some (.tup []) else none
  | _, _ => none
theorem o_tmul0 {X : Cx} : Op2 X (binaryOp .Mult) tmul0 := by
  refine ⟨_, op_rep0, fun c F H σ δ d e z v w Q r d1 d2 q k => ?_⟩
  unfold tmul0 at q
  split at q
  · rename_i n
    split at q
    · rename_i hl
      cases q
      obtain ⟨a, xs, rfl, h1, h2⟩ := d1
      cases (show xs = [] from h2)
      exact ⟨a, n, rfl, d2, sqt (r.sub _ _ h1), hl.1, hl.2, k _ F H r (.refl _) ⟨a, [], rfl, h1, rfl⟩⟩
    · cases q
  · cases q
def mulX (x y : D) : Option D := (mulA x y).or (tmul0 x y)
theorem o_mulX {X : Cx} : Op2 X (binaryOp .Mult) mulX := o_mul.or o_tmul0
end PV

/-! PV35: defs called within an except suite with the caught error; isinstance of it; list.count, list.index. -/
namespace PV
open PySem PySem.Spec PyProof.Rows L2 LamX
variable [Tbl]

/-- the pinned error a is of class C and has no fields -/
def ExP (pn : List (Addr × Obj)) (a C : Addr) : Prop := ∃ oe : Obj, (a, oe) ∈ pn ∧ Zc (.ref C) none oe ∧ ∃ vs, oe.data = .fields vs
theorem call_isP {X : Cx} {a C : Addr} (E : ExcC X.K C) (hp : ExP X.pn a C) : CallR X (.builtin "isinstance") (rIsE X.K C a) := by
  intro pins s σ H xs us Q I r h
  obtain ⟨c, cv, b, rfl, hcv, e, q⟩ := h
  obtain ⟨oe, hm, hz, vs, hv⟩ := hp
  cases r with
  | cons rx rr =>
    cases rr with
    | cons rt rr =>
      cases rr
      cases rx
      cases (hcv _ rt)
      have hget := (I.pin (a, oe) (List.mem_append.mpr (.inl hm))).1
      have J : PySem.W.InstAt s.heap a oe C none := by
        cases oe with
        | mk oc od oda osl =>
          obtain ⟨h1, h2⟩ := hz
          dsimp only at h1 h2 hv
          subst h1 h2 hv
          exact ⟨hget, rfl, rfl, trivial⟩
      exact PySem.W.kia_one (PySem.W.handS_kitx_exc E.hg E.hk E.hs E.hd E.ha E.hn E.ht E.hm) I.kIn J e (fun z => nomatch z) fun tk => ⟨.bl b, H, I.kept (t' := tk) fun _ _ z => z, rfl, q⟩
/-- isinstance(e, c) of the caught error: o tells (own class, name) -/
def isE (a : Addr) (o : Str → Option Bool) : List D → Option D
  | [.adr b, .fn c] => if b = a then (o c).map .bl else none
  | [.adr b, .ty n] => if b = a ∧ n = "ValueError" then some (.bl true) else none
  | _ => none
structure IeOk (K : PySem.W.Frag) (C : Addr) (o : Str → Option Bool) : Prop where
  own : ∀ c b C', o c = some b → PySem.W.nsIn K mainGlobals c = some (some (.ref C')) → PySem.W.kitOne K (.ref C) (.ref C') = some b
  ty : PySem.W.kitOne K (.ref C) (.type "ValueError") = some true
theorem b_isE {X : Cx} {a C : Addr} {o : Str → Option Bool} (E : ExcC X.K C) (hp : ExP X.pn a C) (M : IeOk X.K C o) : Bf X (.builtin "isinstance") (isE a o) := by
  refine ⟨_, call_isP E hp, fun c F H σ δ ds z vs Q r d1 q k => ?_⟩
  unfold isE at q
  split at q
  · rename_i b cn
    split at q
    · rename_i hb
      subst hb
      obtain ⟨t, q3, rfl⟩ := Option.map_eq_some_iff.mp q
      obtain ⟨v, v', rfl, h1, h2⟩ := densH2 d1
      have h1 := h1.low (fun _ z => nomatch z) (fun _ z => nomatch z) (fun _ z => nomatch z) fun _ _ z => nomatch z
      have h2 := h2.low (fun _ z => nomatch z) (fun _ z => nomatch z) (fun _ z => nomatch z) fun _ _ z => nomatch z
      cases h1
      obtain ⟨C', rfl, nc⟩ := h2
      exact ⟨_, .ref C', t, rfl, fun u hu => hu, M.own _ _ _ q3 nc, k _ F H r (.refl _) rfl⟩
    · cases q
  · rename_i b n
    split at q
    · rename_i hb
      obtain ⟨hb, hn⟩ := hb
      subst hb hn
      cases q
      obtain ⟨v, v', rfl, h1, h2⟩ := densH2 d1
      have h1 := h1.low (fun _ z => nomatch z) (fun _ z => nomatch z) (fun _ z => nomatch z) fun _ _ z => nomatch z
      have h2 := h2.low (fun _ z => nomatch z) (fun _ z => nomatch z) (fun _ z => nomatch z) fun _ _ z => nomatch z
      cases h1
      cases h2
      exact ⟨_, .type "ValueError", true, rfl, fun u hu => hu, M.ty, k _ F H r (.refl _) rfl⟩
    · cases q
  · cases q

/-! ### a def that is called with the caught error -/
abbrev cxW (P : Program) (w : World) (K : PySem.W.Frag) (mg : Str → Option Value) (base : Heap) (N : List Str) (qual : Str) (scope : Scope) (f : Addr) (cd : Value) (A : Around) (outer : List Env) (s : Shared) (H : Hp) (E : XK) (p : Addr × Obj) : Cx :=
  { cxOf (L2.CX P w) P w K mg base N qual scope f cd A outer s H E with calm := false, pn := [p] }
structure VOkH (g : Bool) (P : Program) (w : World) (K : PySem.W.Frag) (mg : Str → Option Value) (base : Heap) (k : Nat) (f : Addr) (fd : FuncData) (ps : List Str) (a C : Addr) (φ : List Sl → FR) : Prop where
  len : ∀ as, φ as ≠ .stuck → as.length = ps.length
  run : ∀ (A : Around) (outer : List Env) (s : Shared) (H : Hp) (args : Args) (us : List Value) (vs : List V) (Q : VK) (E : XK) (p : Addr × Obj), L2H.RoomH k A → (g = true → A.guards = some []) → ExP [p] a C → L2H.PinOk outer H s p → Env0 P w K mg base A outer s H → BindsTo s fd args (ps.zip us) →
    Vals vs us → spV K φ vs H Q E → codeAny (model P w) A (.call (.ref f) args) (CR (L2.CX P w) outer P w H s Q E) s
section
variable {P : Program} {w : World} {K : PySem.W.Frag} {mg : Str → Option Value} {base : Heap}
theorem Fun.valH {x qual : Str} {st : Stmt} {f : Addr} {fd : FuncData} {N ps : List Str} {k n : Nat} {g : Bool} {a C : Addr} {G : DE → O} (T : Fun K x qual st f fd) (S : FnScope N ps (defScope st)) (hn : ps.length = n)
    (body : ∀ (cd : Value) (A : Around) (outer : List Env) (s : Shared) (H : Hp) (E : XK) (p : Addr × Obj), fd.code = cd → L2H.RoomH k (A.deeper (envOfC qual (defScope st) s.heap.objs.size f cd)) → (g = true → (A.deeper (envOfC qual (defScope st) s.heap.objs.size f cd)).guards = some []) → ExP [p] a C →
      Takes (cxW P w K mg base N qual (defScope st) f cd A outer s H E p) (wE E) → VSs (cxW P w K mg base N qual (defScope st) f cd A outer s H E p) (wE E) (defBody st) G) :
    VOkH g P w K mg base (k + 1) f fd ps a C (fnF n N.length G) := by
  obtain ⟨oc, od, kV, doc, pm, an, cd, ct, osl, rfl, lk, hc⟩ := T.ex
  refine ⟨fun as h => by rw [hn]; exact fnF_len as h, fun A outer s H args us vs Q E p room gd ep pin en hb rv sp => ?_⟩
  have stays : ∀ b o, base.get? b = some o → s.heap.get? b = some o := fun b o e => (en.bs b o e).1
  have hl : vs.length = ps.length := by rw [hn]; exact spV.len fnF_len sp
  have kinds : ∀ y ∈ ps.zip us, (defScope st).names.lookup y.1 = some .local ∨ ((defScope st).names.lookup y.1 = some .cell ∧ ((cellsFrom (s.heap.objs.size + 1) (defScope st).names []).lookup y.1).isSome = true) := by
    rintro ⟨nm, vl⟩ hy
    rcases S.par nm (List.of_mem_zip hy).1 with q | q
    · left; exact q
    · right; exact ⟨q, PySem.W.cellsFrom_some _ _ _ (Or.inl q)⟩
  refine codeAny_call_function room.depth ((en.mod.kin.keeps stays) _ _ lk) rfl S.co S.gen rfl (PySem.W.codeRec_of (en.mod.kin.keeps stays) hc) (hb _ _ _ _ ?_)
  refine wpAny_newFunctionEnv_cells S.kind kinds fun env he s1 inC => ?_
  subst he
  refine ⟨(en.mod.nolimit.keeps stays).keeps inC.toInCall.keep, codeAny_func ?_⟩
  have tk : Takes (cxW P w K mg base N qual (defScope st) f cd A outer s H E p) (wE E) := takes_of rfl rfl rfl rfl
  have J : Inv (cxW P w K mg base N qual (defScope st) f cd A outer s H E p) [] (L2.start N vs) H s1 := L2H.inv_startH (CX := L2.CX P w) (E := E) S pin en hl rv inC
  refine wpAny_mono ((body cd A outer s H E p rfl (room.deeper _) (guards_in gd) ep tk).run [] s1 (L2.start N vs) H _ J (sp_body sp)) (fun fl s' hs => ?_) fun e s' hs => hs
  cases fl with
  | ret u =>
    obtain ⟨v, σ', H', J', rv', q⟩ := hs
    exact ⟨v, H', J'.os, J'.bare, J'.base, J'.hok, rv', q⟩
  | next =>
    obtain ⟨σ', H', J', q⟩ := hs
    exact ⟨.non, H', J'.os, J'.bare, J'.base, J'.hok, rfl, q⟩
  | brk =>
    obtain ⟨_, _, _, q⟩ := hs
    exact False.elim q
  | cont =>
    obtain ⟨_, _, _, q⟩ := hs
    exact False.elim q
end

/-! ### list.count, list.index of flat things -/
def D.fv : D → Option V
  | .non => some .non
  | .bl b => some (.bl b)
  | .int i => some (.int i)
  | .str s => some (.str s)
  | _ => none
def fvs : List D → Option (List V)
  | [] => some []
  | d :: l => d.fv.bind fun v => (fvs l).map (v :: ·)
theorem fv_den {K : PySem.W.Frag} {F : Hp} {d : D} {v v' : V} (h : d.fv = some v') (g : Den K F d v) : v = v' ∧ flatV v = true := by
  cases d <;> first | (cases h; cases g; exact ⟨rfl, rfl⟩) | cases h
theorem fvs_dens {K : PySem.W.Frag} {F : Hp} : ∀ {l : List D} {xs ys : List V}, fvs l = some ys → Dens K F l xs → xs = ys ∧ xs.all flatV = true
  | [], xs, ys, h, g => by cases h; cases g; exact ⟨rfl, rfl⟩
  | d :: l, xs, ys, h, g => by
    obtain ⟨v, r, rfl, g1, g2⟩ := g
    obtain ⟨v', h1, h2⟩ := Option.bind_eq_some_iff.mp h
    obtain ⟨zs, h3, rfl⟩ := Option.map_eq_some_iff.mp h2
    obtain ⟨rfl, f1⟩ := fv_den h1 g1
    obtain ⟨rfl, f2⟩ := fvs_dens h3 g2
    exact ⟨rfl, by rw [List.all_cons, f1, f2]; rfl⟩
def cntL (l : List D) (y : D) : Option D := (fvs l).bind fun xs => y.fv.map fun y' => .int ((xs.countP fun z => eqV z y' : Nat) : Int)
def ixV (y : V) : List V → Option Nat
  | [] => none
  | z :: l => if eqV z y = true then some 0 else (ixV y l).map (· + 1)
theorem ixV_at {y : V} : ∀ {l : List V} {j : Nat}, ixV y l = some j → ∃ z, l[j]? = some z ∧ eqV z y = true ∧ ∀ (m : Nat) (z' : V), m < j → l[m]? = some z' → eqV z' y = false
  | [], _, h => by cases h
  | z :: l, j, h => by
    unfold ixV at h
    split at h
    · rename_i hz
      cases h
      exact ⟨z, rfl, hz, fun m _ hm => absurd hm (Nat.not_lt_zero _)⟩
    · rename_i hz
      obtain ⟨i, h1, rfl⟩ := Option.map_eq_some_iff.mp h
      obtain ⟨w, g1, g2, g3⟩ := ixV_at h1
      refine ⟨w, g1, g2, fun m z' hm e => ?_⟩
      cases m with
      | zero => cases e; exact Bool.eq_false_iff.mpr hz
      | succ m => exact g3 m z' (by omega) e
def idxL (l : List D) (y : D) : Option D := (fvs l).bind fun xs => y.fv.bind fun y' => (ixV y' xs).map fun j => .int (j : Nat)
/-- x.m(e) of a list that stays -/
def mtL (o : List D → D → Option D) (f g : DE → R D) : DE → R D := fun δ => (f δ).bind fun d δ => match d with
  | .lst l => (g δ).bind fun e δ => R.of (o l e) δ
  | _ => .stuck
def rCntV (K : PySem.W.Frag) : V → List V → Hp → VK → Prop := fun x xs H Q => ∃ (a : Addr) (ys : List V) (y : V), x = V.ref a ∧ xs = [y] ∧ SqL K H a ys ∧ flatV y = true ∧ ys.all flatV = true ∧ Q (.int ((ys.countP fun z => eqV z y : Nat) : Int)) H
theorem countP_vals {y : V} : ∀ {ys : List V} {us : List Value}, Vals ys us → ys.all flatV = true → us.countP (eqU y) = ys.countP fun z => eqV z y
  | _, _, .nil, _ => rfl
  | z :: ys, u :: us, .cons r t, f => by
    rw [List.all_cons, Bool.and_eq_true] at f
    rw [List.countP_cons, List.countP_cons, countP_vals t f.2, eqU_of r f.1]
theorem mt_countV {X : Cx} : MtR X "list.count" (rCntV X.K) := by
  intro pins s σ H x xs v us Q I rx rxs h
  obtain ⟨a, ys, y, rfl, rfl, hs, fy, fys, q⟩ := h
  cases rx
  obtain ⟨u, rfl, ru⟩ := rxs.one
  obtain ⟨its, rv, ⟨⟨cls, dd, data, sl⟩, n, ho, hc, hdn, hd⟩, hlen⟩ := I.list hs
  simp only at hc hd
  subst hc hd
  refine call_meets PySem.F.slot_list_count ⟨_, ho, rfl⟩ PySem.F.entry_list_count (PySem.F.args_list_count_2 _ _)
    (SeqAt.list_countAt a its.toArray n dd sl u (eqU y)) ⟨ho, fun u' hu' => mem_eqAt ru fy rv fys u' (by simpa using hu'), ?_⟩
  have ec : its.toArray.toList.countP (eqU y) = ys.countP fun z => eqV z y := countP_vals rv fys
  refine ⟨.int ((ys.countP fun z => eqV z y : Nat) : Int), H, I.tok _, ⟨s.toks, ?_⟩, q⟩
  show Value.int ((its.toArray.toList.countP (eqU y) : Nat) : Int) s.toks = Value.int _ s.toks
  rw [ec]
section
variable {X : Cx} {W : WX} {o e : Expr} {f g : DE → R D} {apos cpos : Pos}
theorem rd_mtL {op : List D → D → Option D} {r : V → List V → Hp → VK → Prop}
    (h : ∀ c F H σ δ a l y z xs v (Q : VK), Rel X.K c F H σ δ → F a = some (.lst xs) → Dens X.K F l xs → Den X.K F y v → op l y = some z → (∀ u, Den X.K F z u → Q u H) → r (.ref a) [v] H Q) {σ : L2.St} {H : Hp} {Q : VK}
    (z : rdE X.K W (mtL op f g) σ H Q) : tBM X.K "list" r (rdE X.K W f) (rdA X.K W (valA g noA)) σ H Q := by
  refine z.first fun c F H1 δ d v r1 d1 z1 => ?_
  cases d with
  | lst l =>
    obtain ⟨a, xs, rfl, e1, e2⟩ := d1
    refine ⟨.inl ⟨rfl, xs, .inl (.inl (r1.sub _ _ e1))⟩, ?_⟩
    have z1 : aft X.K W (dnE X.K) c F σ Q ((g δ).bind fun e δ => R.of (op l e) δ) := z1
    refine ⟨c, F, δ, r1, ?_⟩
    unfold valA
    cases qg : g δ with
    | ok y δ1 =>
      rw [qg] at z1
      have z1 : aft X.K W (dnE X.K) c F σ Q (R.of (op l y) δ1) := z1
      intro vs F2 H2 r2 s2 d2
      obtain ⟨w, rfl, dw⟩ : ∃ w, vs = [w] ∧ Den X.K F2 y w := by
        obtain ⟨w, r, e1, h1, h2⟩ := d2
        cases (show r = [] from h2)
        exact ⟨w, e1, h1⟩
      cases q2 : op l y with
      | none => rw [q2] at z1; exact False.elim z1
      | some q =>
        rw [q2] at z1
        exact h c F2 H2 σ δ1 a l y q xs w Q r2 (s2 _ _ e1) (Dens.mono s2 _ _ e2) dw q2 fun u hu => z1 u F2 H2 r2 s2 hu
    | exc x δ1 => rw [qg] at z1; exact z1
    | stuck => rw [qg] at z1; exact z1
  | _ => exact False.elim z1
theorem ve_count (ho : VE X W o f) (he : VE X W e g) (hbase : attributeBase o "count" X.env (eval o X.env) = eval o X.env := by rfl)
    (hfew : ((backTo cpos (starEach [e] X.env)).all (fun x => !x.1) && (backToKw cpos (keywordEach [] X.env)).all (fun x => x.1.isSome)
      && decide (([e] : List Expr).length + ([] : List Keyword).length + (if ([] : List Keyword).isEmpty then 0 else 1) < 30)) = true := by rfl)
    (hline : (apos.endLine == cpos.line) = true := by rfl) (hs : starEach [e] X.env = (false, eval e X.env) :: starEach [] X.env := by rfl) :
    VE X W (.Call (.Attribute o "count" apos) [e] [] cpos) (mtL cntL f g) :=
  PE.to (pe_bm PySem.F.plainAttrs_list PySem.F.slot_list_count PySem.F.type_list_count mt_countV ho (va_val he va_nil hs) hbase hfew hline hs rfl) fun σ H Q z => rd_mtL (fun c F H σ δ a l y z xs v Q r e1 e2 d q k => by
    unfold cntL at q
    obtain ⟨xs', q1, q2⟩ := Option.bind_eq_some_iff.mp q
    obtain ⟨y', q3, rfl⟩ := Option.map_eq_some_iff.mp q2
    obtain ⟨rfl, f1⟩ := fvs_dens q1 e2
    obtain ⟨rfl, f2⟩ := fv_den q3 d
    exact ⟨a, xs, v, rfl, rfl, .inl (.inl (r.sub _ _ e1)), f2, f1, k _ rfl⟩) z
theorem ve_index (ho : VE X W o f) (he : VE X W e g) (hbase : attributeBase o "index" X.env (eval o X.env) = eval o X.env := by rfl)
    (hfew : ((backTo cpos (starEach [e] X.env)).all (fun x => !x.1) && (backToKw cpos (keywordEach [] X.env)).all (fun x => x.1.isSome)
      && decide (([e] : List Expr).length + ([] : List Keyword).length + (if ([] : List Keyword).isEmpty then 0 else 1) < 30)) = true := by rfl)
    (hline : (apos.endLine == cpos.line) = true := by rfl) (hs : starEach [e] X.env = (false, eval e X.env) :: starEach [] X.env := by rfl) :
    VE X W (.Call (.Attribute o "index" apos) [e] [] cpos) (mtL idxL f g) :=
  PE.to (pe_bm PySem.F.plainAttrs_list PySem.F.slot_list_index PySem.F.type_list_index mt_index ho (va_val he va_nil hs) hbase hfew hline hs rfl) fun σ H Q z => rd_mtL (fun c F H σ δ a l y z xs v Q r e1 e2 d q k => by
    unfold idxL at q
    obtain ⟨xs', q1, q2⟩ := Option.bind_eq_some_iff.mp q
    obtain ⟨y', q3, q4⟩ := Option.bind_eq_some_iff.mp q2
    obtain ⟨j, q5, rfl⟩ := Option.map_eq_some_iff.mp q4
    obtain ⟨rfl, f1⟩ := fvs_dens q1 e2
    obtain ⟨rfl, f2⟩ := fv_den q3 d
    obtain ⟨z, g1, g2, g3⟩ := ixV_at q5
    exact ⟨a, xs, v, j, z, rfl, rfl, .inl (.inl (r.sub _ _ e1)), f2, f1, g1, g2, g3, k _ rfl⟩) z
end
end PV

/-! PV36: a lambda handed to «try: return repr(call()) / except X as e: return '! ' + kind(e)»; recursion. -/
namespace PV
open PySem PySem.Spec PyProof.Rows L2 LamX
variable [Tbl]

def neverE : DE → R D := fun _ => .stuck
theorem ve_neverE {X : Cx} {W : WX} {e : Expr} : VE X W e neverE := ⟨fun pins s σ H Q I h => by
  obtain ⟨c, F, δ, r, z⟩ := h
  exact False.elim z⟩
/-- a def that is never called -/
theorem vok_stuck {g : Bool} {P : Program} {w : World} {K : PySem.W.Frag} {mg : Str → Option Value} {base : Heap} {k : Nat} {f : Addr} {fd : FuncData} {ps : List Str} : VOk g P w K mg base k f fd ps (fun _ => .stuck) :=
  ⟨fun as h => absurd rfl h, fun A outer s H args us vs Q E _ _ _ _ _ sp => by
    obtain ⟨F, as, A, z⟩ := sp
    exact False.elim z⟩
section
variable {X : Cx} {W : WX} {x : Str} {p pos : Pos} {e : Expr} {es : List Expr} {fa : DE → R (List Arg)} {k : Nat} {f : Addr} {fd : FuncData} {ps : List Str} {φ : List Sl → FR} {g : Bool} {a C : Addr}
theorem run_VH {pins : List (Addr × Obj)} {σ : L2.St} {H : Hp} {s : Shared} {Q : VK} {us : List Value} {vs : List V} (V0 : VOkH g X.prog X.w X.K X.mg X.base k f fd ps a C φ) (room : L2H.RoomH k X.A) (gd : g = true → X.A.guards = some []) (hp : ExP X.pn a C) (hb : Binds X.K fd ps []) (tk : Takes X W)
    (I : L2.Inv X pins σ H s) (rv : Vals vs us) (h : spV X.K φ vs H Q (WE W σ)) : wpAny (model X.prog X.w) X.A (call (.ref f) us) (EP X pins σ Q) X.xe s := by
  have lu : (us ++ []).length = ps.length := by rw [List.append_nil, ← rv.length]; exact spV.len V0.len h
  have bd := hb s us I.kIn lu
  rw [List.append_nil] at bd
  obtain ⟨oe, hm, hz⟩ := hp
  have P1 := I.pin (a, oe) (List.mem_append_left _ hm)
  have hpin : L2H.PinOk X.stack H s (a, oe) := ⟨P1.1, P1.2.1, fun hm => (List.mem_cons.mp (I.stkSub a hm)).elim P1.2.2.1 P1.2.2.2.1, P1.2.2.2.2⟩
  refine wpAny_call (codeAny_mono (V0.run X.A X.stack s H ⟨us, []⟩ us vs Q (WE W σ) (a, oe) room gd ⟨oe, List.mem_cons_self, hz⟩ hpin I.env0 bd rv h) fun res s' hq => ?_)
  cases res with
  | error e => exact passAt tk σ pins H s e s' I hq
  | ok fl => cases fl <;> first | exact I.after hq | exact False.elim hq
theorem ve_callH (V0 : VOkH g X.prog X.w X.K X.mg X.base k f fd ps a C φ) (room : L2H.RoomH k X.A) (gd : g = true → X.A.guards = some []) (hp : ExP X.pn a C) (tk : Takes X W) (hg : Gl X x) (hm : X.mg x = some (.ref f)) (hk : PySem.W.keepIn X.K (.ref f) = true) (hb : Binds X.K fd ps [])
    (ha : VA X W (e :: es) fa) (hdb : (x == ("__debug__" : Str)) = false := by decide) (he : starEach (e :: es) X.env = (false, eval e X.env) :: starEach es X.env := by rfl) (hpl : (backTo pos (starEach es X.env)).any (·.1) = false := by rfl) :
    VE X W (.Call (.Name x p) (e :: es) [] pos) (callF φ fa) := by
  refine ⟨fun pins s σ H Q I h => wpAny_Call_Name_kw (ld_glob I hg hm ?_ hdb)⟩
  exact PySem.W.callWith_K (h₀ := X.base) I.ok.mod.kin hk (thn (ha.run pos pins s σ H _ I (rd_call h)) fun us s1 ⟨vs, H1, I1, rv, q⟩ => ⟨I1.kIn, run_VH V0 room gd hp hb tk I1 rv q⟩) he hpl
end

/-! ### said -/
/-- said(lambda: f): the repr of what it gives, or «! » and the word of the error's class -/
def saidX (em : Str → Str → Option Bool) (nm : Str) (kw : Str → Option Str) (f : DE → R D) : DE → R D := fun δ => match f δ with
  | .exc x δ1 => match em x.c nm, x.fs, kw x.c with
    | some true, [], some w => .ok (.str (("! " : Str) ++ w)) δ1
    | _, _, _ => .stuck
  | .ok d δ1 => match reprD [d] with
    | some z => .ok z δ1
    | none => .stuck
  | .stuck => .stuck
/-- the suite's reading -/
def kindG (φ : List Sl → FR) : DE → O := retS (op2 addA (cst (.str "! ")) (callF φ (valA (var 1) noA)))
def reprW (K : PySem.W.Frag) (Q : VK) : VK := fun v H => ∃ F d z, AOk K F H [.val d] [v] ∧ reprD [d] = some z ∧ ∀ v' F' H', Done K F H [.val d] [v] F' H' [.val d] → Den K F' z v' → Q v' H'
def kindW (K : PySem.W.Frag) (cN : Value) (φ : Addr → Str → List Sl → FR) (kw : Str → Option Str) (Q : VK) : XK := fun cls od H => ∃ c C F w, cls = .ref C ∧ od = none ∧ PySem.W.nsIn K mainGlobals c = some (some (.ref C)) ∧ PySem.W.exmOne K cls cN = some true ∧ kw c = some w ∧
  ∀ a, H a = none → AOk K F H [.val (.adr a)] [.ref a] ∧ ∀ v' F' H', Done K F H [.val (.adr a)] [.ref a] F' H' [.val (.adr a)] → Den K F' (.str (("! " : Str) ++ w)) v' → Q v' H'
def TTk (K : PySem.W.Frag) (cN : Value) (φ : Addr → Str → List Sl → FR) (kw : Str → Option Str) : (XK → Hp → VK → Prop) → Hp → VK → Prop := fun tl H Q => tl (kindW K cN φ kw Q) H (reprW K Q)
/-- what kind's def is worth -/
def KindOk (P : Program) (w : World) (K : PySem.W.Frag) (mg : Str → Option Value) (base : Heap) (k : Nat) (f : Addr) (fd : FuncData) (ps : List Str) (φ : Addr → Str → List Sl → FR) (kw : Str → Option Str) : Prop :=
  ∀ c w1, kw c = some w1 → ∀ (a C : Addr), PySem.W.nsIn K mainGlobals c = some (some (.ref C)) → VOkH false P w K mg base k f fd ps a C (φ a c) ∧ φ a c [.val (.adr a)] = .ret (.str w1) [.val (.adr a)] ∧ ("! " : Str).length + w1.length ≤ LIM
theorem suite_kind {X : Cx} {x a n kn : Str} {sg : Scope} {g fk C : Addr} {cdg : Value} {k : Nat} {fdk : FuncData} {psk : List Str} {φ : List Sl → FR} {s : Shared} {H : Hp} {ea : Addr} {oe : Obj} {pn : List (Addr × Obj)} {j : Nat} {q1 q2 q3 q4 q5 q6 : Pos}
    (V0 : VOkH false X.prog X.w X.K X.mg X.base k fk fdk psk ea C φ) (hr : L2H.RoomH k (X.A.deeper (envOfC x sg s.heap.objs.size g cdg))) (hgk : ∀ Z : Cx, Z.env.scope = sg → Gl Z kn) (hmk : X.mg kn = some (.ref fk)) (hkk : PySem.W.keepIn X.K (.ref fk) = true) (hbk : Binds X.K fdk psk [])
    (hz : Zc (.ref C) none oe) (hf : ∃ vs, oe.data = .fields vs) (hvn : Vis sg n) (hdn : (n == ("__debug__" : Str)) = false) (hcn : (n == ("__classdict__" : Str)) = false) (hdk : (kn == ("__debug__" : Str)) = false) :
    VSs (((cxOf C8.CX0 X.prog X.w X.K X.mg X.base [a, n] x sg g cdg X.A X.stack s H C8.E0).nox).suite ea ((ea, oe) :: pn)) (fun _ _ _ _ => False) [.Return (some (.BinOp (.Constant (.str "! ") j q1) .Add (.Call (.Name kn q2) [.Name n q3] [] q4) q5)) q6] (kindG φ) :=
  vss_one (vs_ret (ve_op o_add ve_str (ve_callH V0 (L2H.RoomH.mk hr.dp hr.un) (fun z => absurd z Bool.false_ne_true) ⟨oe, List.mem_cons_self, hz, hf⟩ L2.takes0 (hgk _ rfl) hmk hkk hbk (va_val (ve_var 1 rfl hvn hdn hcn) va_nil) hdk rfl rfl)))
theorem kind_run {φ : List Sl → FR} {ea : Addr} {w : Str} (hl : ("! " : Str).length + w.length ≤ LIM) (h : φ [.val (.adr ea)] = .ret (.str w) [.val (.adr ea)]) : kindG φ [none, some (.val (.adr ea))] = .ret (.str (("! " : Str) ++ w)) [none, some (.val (.adr ea))] := by
  have e : addA (.str "! ") (.str w) = some (.str (("! " : Str) ++ w)) := by
    show (none : Option D).or ((sadd (.str "! ") (.str w)).or _) = _
    rw [show sadd (.str "! ") (.str w) = some (.str (("! " : Str) ++ w)) from if_pos hl]
    rfl
  unfold kindG
  simp [h, e]
theorem kind_gives {X : Cx} {x a n kn nm q : Str} {sg : Scope} {g fk : Addr} {cdg cN : Value} {k : Nat} {fdk : FuncData} {psk : List Str} {φ : Addr → Str → List Sl → FR} {kw : Str → Option Str} {j : Nat} {p1 p2 p3 p4 p5 p8 q1 q2 q3 q4 q5 q6 np pos' : Pos}
    (KO : KindOk X.prog X.w X.K X.mg X.base k fk fdk psk φ kw) (hr : Room (k + 1) X.A) (gd : X.A.guards = some []) (hnd : [a, n].Nodup) (hln : sg.names.lookup n = some .local) (hgk : ∀ Z : Cx, Z.env.scope = sg → Gl Z kn) (hmk : X.mg kn = some (.ref fk)) (hkk : PySem.W.keepIn X.K (.ref fk) = true) (hbk : Binds X.K fdk psk [])
    (hgr : ∀ Z : Cx, Z.env.scope = sg → Gl Z "repr") (hmr : X.mg "repr" = none) (hgn : ∀ Z : Cx, Z.env.scope = sg → Gl Z nm) (hmn : X.mg nm = some cN) (hvn : Vis sg n) (hdm : (nm == ("__debug__" : Str)) = false) (hdn : (n == ("__debug__" : Str)) = false) (hcn : (n == ("__classdict__" : Str)) = false) (hdk : (kn == ("__debug__" : Str)) = false) :
    GivesTo X [a, n] x sg g cdg [.Try [.Return (some (.Call (.Name "repr" p4) [.Call (.Name a p1) [] [] p2] [] p5)) p3] [.ExceptHandler (some (.Name nm np)) (some n) [.Return (some (.BinOp (.Constant (.str "! ") j q1) .Add (.Call (.Name kn q2) [.Name n q3] [] q4) q5)) q6] pos'] [] [] p8] a q (TTk X.K cN φ kw) := by
  intro f c' s H Q tl act hc h
  have hr' : L2H.RoomH k (X.A.deeper (envOfC x sg s.heap.objs.size g cdg)) := (L2H.roomH_of hr).deeper _
  refine ⟨_, pss_one (ps_try_as (X := (cxOf C8.CX0 X.prog X.w X.K X.mg X.base [a, n] x sg g cdg X.A X.stack s H C8.E0).nox) (i := 1) (Wout := fun _ _ _ _ => False)
      (tb := fun W D σ H => ∃ (Ech : XK), (∀ cls d σ' H', Ech cls d H' → W cls d σ' H') ∧ σ = [some (.ref f), none] ∧ H c' = some (CodeO c' q) ∧ tl Ech H (reprW X.K D.rt))
      (ts := fun ea cls d N σ H => ∃ (c : Str) (C : Addr) (w : Str) (F : Hp) (σ0 : L2.St), cls = .ref C ∧ d = none ∧ PySem.W.nsIn X.K mainGlobals c = some (some (.ref C)) ∧ kw c = some w ∧ σ = σ0.set 1 (some (.ref ea)) ∧ AOk X.K F H [.val (.adr ea)] [.ref ea] ∧ ∀ v' F' H', Done X.K F H [.val (.adr ea)] [.ref ea] F' H' [.val (.adr ea)] → Den X.K F' (.str (("! " : Str) ++ w)) v' → N.rt v' H')
      rfl rfl hnd rfl hln ⟨hgn _ rfl, hdm, .inl hmn⟩ L2.takes0 (fun W pn xe tk _ => ?_) (fun ea oe cls d pn hz hf => ?_)), ?_⟩
  · refine ⟨fun pins s' σ H' D I h' => ?_⟩
    obtain ⟨Ech, hW, h1, h2, h3⟩ := h'
    obtain ⟨r, c1, c2⟩ := b_repr (X := (cxOf C8.CX0 X.prog X.w X.K X.mg X.base [a, n] x sg g cdg X.A X.stack s H C8.E0).tr pn xe) (by have := hr'.un; show (X.A.deeper (envOfC x sg s.heap.objs.size g cdg)).units + 64 < _; omega) (guards_in (g := true) (fun _ => gd) rfl)
    have hp := pss_one (ps_ret (pos := p3) (pe_callB (p := p4) (pos := p5) c1 (hgr _ rfl) hmr (by decide +kernel) (pa_cons (PE.weak (act W pn xe Ech p1 p2 tk hW)) pa_nil)))
    refine hp.run pins s' σ H' D I ⟨reprW X.K D.rt, ⟨?_, h2, h3⟩, fun v H1 z => ?_⟩
    · rw [h1]; rfl
    · obtain ⟨F, d, zz, A, e1, z⟩ := z
      refine c2 _ F H1 _ _ [d] zz [v] _ (A.rel (N := ["a"])) ⟨v, [], rfl, .inl (A.ok 0 _ _ rfl rfl), rfl⟩ e1 fun u F' H2 r' s2 dd => z u F' H2 (by have := A.done r'; exact this) dd
  · refine ⟨fun pins s' σ H' D I h' => ?_⟩
    obtain ⟨c, C, w, F, σ0, rfl, rfl, ns, hk, es, A, z⟩ := h'
    obtain ⟨x0, ex⟩ : ∃ x0, σ = [x0, some (.ref ea)] := by
      have hl : σ.length = 2 := I.len
      rw [es, List.length_set] at hl
      match σ0, hl with
      | [y, y'], _ => exact ⟨y, es⟩
    refine (suite_kind (q6 := q6) (q5 := q5) (q1 := q1) (q2 := q2) (q3 := q3) (q4 := q4) (j := j) (KO c w hk ea C ns).1 hr' hgk hmk hkk hbk hz hf hvn hdn hcn hdk).run pins s' σ H' D I ?_
    rw [ex]
    refine ⟨_, F, _, rest_rel A, ?_⟩
    rw [kind_run (KO c w hk ea C ns).2.2 (KO c w hk ea C ns).2.1]
    intro v' σ' F' H'' r' s'' dd
    exact z v' F' H'' (by have := A.done r'; exact this) dd
  · refine ⟨kindW X.K cN φ kw Q, fun cls d σ' H' z => ?_, rfl, hc, h⟩
    obtain ⟨c, C, F, w, rfl, rfl, ns, ex, hk, z⟩ := z
    refine ⟨true, ex, fun _ ea ha => ?_, fun z => Bool.noConfusion z⟩
    obtain ⟨A, z⟩ := z ea ha
    exact ⟨c, C, w, F, σ', rfl, rfl, ns, hk, rfl, A, z⟩
section
variable {X : Cx} {W : WX}
theorem rd_saidX {em : Str → Str → Option Bool} (he : EmOk X.K em) {nm : Str} {cN : Value} (hN : ClsIs X.K nm cN) {φ : Addr → Str → List Sl → FR} {kw : Str → Option Str} (hns : ∀ c w, kw c = some w → ∃ C, PySem.W.nsIn X.K mainGlobals c = some (some (.ref C))) {f : DE → R D} {σ : L2.St} {H : Hp} {Q : VK}
    (z : rdE X.K W (saidX em nm kw f) σ H Q) : tLam Tbl.T (TTk X.K cN φ kw) (fun E => rdE X.K (wE E) f) σ H Q := by
  obtain ⟨c, F, δ, r, z⟩ := z
  refine ⟨r.tab.tabs, fun H1 e1 t1 => ?_⟩
  have r1 := r.extN e1 t1
  refine ⟨c, F, δ, r1, ?_⟩
  unfold saidX at z
  cases q : f δ with
  | ok d δ1 =>
    rw [q] at z
    intro v F1 H2 r2 s2 dd
    have ha : ArgsD X.K F1 σ [.val d] [v] := ⟨v, [], rfl, dd, rfl⟩
    have A : AOk X.K F1 H2 [.val d] [v] := r2.lent (as := [.val d]) (ss := [.val d]) (show ([] : List Nat).Nodup from .nil) rfl ha
    cases qr : reprD [d] with
    | none => simp only [qr] at z; exact z.elim
    | some zz =>
      simp only [qr] at z
      exact ⟨F1, d, zz, A, qr, fun v' F' H' dn dd' => z v' F' H' (r2.called (as := [.val d]) (show ([] : List Nat).Nodup from .nil) rfl ha dn) (s2.trans dn.low) dd'⟩
  | stuck => rw [q] at z; exact z
  | exc x δ1 =>
    rw [q] at z
    intro cls od F' H' r' s' xo
    obtain ⟨xc, xf⟩ := x
    simp only at z
    generalize h1 : em xc nm = eo at z
    generalize h3 : kw xc = ko at z
    match eo, xf, ko, h1, h3, z, xo with
    | some true, [], some w, h1, h3, z, xo =>
      obtain ⟨C, hC⟩ := hns _ _ h3
      have ec := xo.1.uniq (.inl hC)
      subst ec
      cases od with
      | some o => exact absurd rfl xo.2.1
      | none =>
        refine ⟨xc, C, F', w, rfl, rfl, hC, he _ _ _ _ _ h1 xo.1 hN, h3, fun a ha0 => ?_⟩
        have ha : ArgsD X.K F' σ [.val (.adr a)] [.ref a] := ⟨.ref a, [], rfl, rfl, rfl⟩
        refine ⟨r'.lent (as := [.val (.adr a)]) (ss := [.val (.adr a)]) (show ([] : List Nat).Nodup from .nil) rfl ha, fun v' F2 H2 dn dd' => ?_⟩
        exact z v' F2 H2 (r'.called (as := [.val (.adr a)]) (show ([] : List Nat).Nodup from .nil) rfl ha dn) (s'.trans dn.low) dd'
    | some true, [], none, _, _, z, _ => exact False.elim z
    | some true, _ :: _, none, _, _, z, _ => exact False.elim z
    | some true, _ :: _, some _, _, _, z, _ => exact False.elim z
    | some false, [], none, _, _, z, _ => exact False.elim z
    | some false, [], some _, _, _, z, _ => exact False.elim z
    | some false, _ :: _, none, _, _, z, _ => exact False.elim z
    | some false, _ :: _, some _, _, _, z, _ => exact False.elim z
    | none, [], none, _, _, z, _ => exact False.elim z
    | none, [], some _, _, _, z, _ => exact False.elim z
    | none, _ :: _, none, _, _, z, _ => exact False.elim z
    | none, _ :: _, some _, _, _, z, _ => exact False.elim z
/-- said(lambda: body) -/
theorem ve_saidX {x a n kn nm : Str} {g c P fk : Addr} {fd fdk : FuncData} {st : Stmt} {k kk : Nat} {em : Str → Str → Option Bool} {cN : Value} {psk : List Str} {φ : Addr → Str → List Sl → FR} {kw : Str → Option Str} {params : Arguments} {body : Expr} {scope : Scope} {f : DE → R D} {j : Nat} {p lpos pos p1 p2 p3 p4 p5 p8 q1 q2 q3 q4 q5 q6 np pos' : Pos}
    (he : EmOk X.K em) (F : Fun X.K x x st g fd) (hbg : defBody st = [.Try [.Return (some (.Call (.Name "repr" p4) [.Call (.Name a p1) [] [] p2] [] p5)) p3] [.ExceptHandler (some (.Name nm np)) (some n) [.Return (some (.BinOp (.Constant (.str "! ") j q1) .Add (.Call (.Name kn q2) [.Name n q3] [] q4) q5)) q6] pos'] [] [] p8])
    (KO : KindOk X.prog X.w X.K X.mg X.base kk fk fdk psk φ kw) (hkk' : kk ≤ k + 1) (hns : ∀ c w, kw c = some w → ∃ C, PySem.W.nsIn X.K mainGlobals c = some (some (.ref C))) (gd : X.A.guards = some []) (hnd : [a, n].Nodup) (hln : (defScope st).names.lookup n = some .local) (hgk : ∀ Z : Cx, Z.env.scope = defScope st → Gl Z kn) (hmk : X.mg kn = some (.ref fk)) (hkk : PySem.W.keepIn X.K (.ref fk) = true) (hbk : L2.Binds X.K fdk psk [])
    (hgr : ∀ Z : Cx, Z.env.scope = defScope st → Gl Z "repr") (hmr : X.mg "repr" = none) (hgn : ∀ Z : Cx, Z.env.scope = defScope st → Gl Z nm) (hmn : X.mg nm = some cN) (hcN : ClsIs X.K nm cN) (hvn : Vis (defScope st) n)
    (hg : Gl X x) (hm : X.mg x = some (.ref g)) (hb : L2.Binds X.K fd [a] []) (Sg : FnScope [a, n] [a] (defScope st)) (hva : Vis (defScope st) a)
    (TB : TabB X.base X.mg c P) (hcode : X.env.code = .ref c) (hmT : (P, X.env.qual ++ "<lambda>") ∈ Tbl.T) (hu : ∀ p ∈ Tbl.T, p.1 = P → p.2 = X.env.qual ++ "<lambda>") (hr : Room (k + 2) X.A) (L : LamS X.env.scope scope) (hdef : defaultsOf params X.env = ([], []))
    (hbind : ∀ (q : Str) (cl : List (Str × Addr)) (pm cv ctv : Value), bindArgs (PySem.W.kla_fn "<lambda>" q params body scope cl pm cv ctv) ⟨[], []⟩ = pure [])
    (hbody : ∀ (A : Around) (outer : List Env) (s : Shared) (H : Hp) (E : XK) (f' c' : Addr), Room k (A.deeper (lamEnv X scope s.heap.objs.size f' c')) → VE (lamCx X A outer s H E scope f' c') (wE E) body f)
    (hdm : (nm == ("__debug__" : Str)) = false := by decide) (hdn : (n == ("__debug__" : Str)) = false := by decide) (hcn : (n == ("__classdict__" : Str)) = false := by decide) (hdk : (kn == ("__debug__" : Str)) = false := by decide)
    (hdb : (x == ("__debug__" : Str)) = false := by decide) (hd : (a == ("__debug__" : Str)) = false := by decide) (hcd : (a == ("__classdict__" : Str)) = false := by decide) :
    VE X W (.Call (.Name x p) [.Lambda params body scope lpos] [] pos) (saidX em nm kw f) := by
  have hk := F.kp
  obtain ⟨oc, od, kV, doc, pm, an, cd, ct, osl, rfl, lk, hc⟩ := F.ex
  exact PE.to (pe_lamcall (T := Tbl.T) (TT := TTk X.K cN φ kw) (t := fun E => rdE X.K (wE E) f) hg hm hk lk hc hb Sg rfl hva (by rw [hbg]; exact kind_gives KO (hr.mono (by omega)) gd hnd hln hgk hmk hkk hbk hgr hmr hgn hmn hvn hdm hdn hcn hdk) TB hcode hmT hu hr L hdef hbind (fun A outer s H E f' c' hr' => hbody A outer s H E f' c' hr') hdb hd hcd) fun σ H Q z => rd_saidX he hcN hns z
end
end PV

/-! PV37: x[::-1]; displays of a dict with one key. -/
namespace PV
open PySem PySem.Spec PyProof.Rows L2 HT
section
variable {prog : Program} {w : World} {A : Around} {E : Value → Shared → Prop} {s : Shared}
theorem adjust_rev (n : Nat) : Builtin.Slice.sliceAdjust none none (-1) (n : Int) = ((n : Int) - 1, -1) := by
  first
  | rfl
  | (unfold Builtin.Slice.sliceAdjust; simp)
theorem places_rev (n : Nat) : Builtin.Slice.slicePlaces ((n : Int) - 1) (-1) (-1) = n := by
  unfold Builtin.Slice.slicePlaces
  have h1 : ¬ ((-1 : Int) > 0) := by omega
  simp only [h1, if_false]
  by_cases h : (-1 : Int) < (n : Int) - 1
  · simp [h]
  · have : n = 0 := by omega
    subst this
    simp
theorem applied_rev {sl : Addr} {vl vu vs : Value} {n : Nat} {Q : Int × Int × Nat → Shared → Prop} (hs : s.heap.IsSliceOf sl vl vu vs) (pl : IsPart vl none) (pu : IsPart vu none) (ps : IsPart vs (some (-1)))
    (h : Q ((n : Int) - 1, -1, n) s) : wpAny (model prog w) A (Builtin.Slice.sliceApplied (.ref sl) (pure (n : Int))) Q E s := by
  obtain ⟨os, hos, hcs, hds⟩ := id hs
  unfold Builtin.Slice.sliceApplied Builtin.Slice.sliceFields
  refine wpAny_bind (wpAny_bind (wpAny_field hos hds (x := vl) rfl (wpAny_bind (wpAny_field hos hds (x := vu) rfl (wpAny_bind (wpAny_field hos hds (x := vs) rfl (wpAny_pure ?_)))))))
  refine wpAny_bind (slicePart_ ps ?_)
  show wpAny _ _ (if ((-1 : Int) == 0) = true then _ else _) _ _ s
  rw [if_neg (by decide)]
  refine wpAny_bind (slicePart_ pl (wpAny_bind (slicePart_ pu (wpAny_bind (wpAny_pure ?_)))))
  show wpAny _ _ (match Builtin.Slice.sliceAdjust none none (-1) (n : Int) with | (lo, hi) => pure (lo, (-1 : Int), Builtin.Slice.slicePlaces lo hi (-1))) _ _ s
  rw [adjust_rev n]
  show wpAny _ _ (pure ((n : Int) - 1, (-1 : Int), Builtin.Slice.slicePlaces ((n : Int) - 1) (-1) (-1))) _ _ s
  rw [places_rev]
  exact wpAny_pure h
theorem fm_congr {α β : Type} {f g : α → Option β} : ∀ {l : List α}, (∀ x ∈ l, f x = g x) → l.filterMap f = l.filterMap g
  | [], _ => rfl
  | a :: l, h => by
    rw [List.filterMap_cons, List.filterMap_cons, h a List.mem_cons_self, fm_congr fun x hx => h x (List.mem_cons_of_mem _ hx)]
theorem pick_rev (xs : Array Value) : ((List.range xs.size).filterMap fun (m : Nat) => xs[((xs.size : Int) - 1 + (m : Int) * (-1)).toNat]?).toArray = xs.toList.reverse.toArray := by
  have h := PySem.W.krv_pick xs
  unfold slicePick at h
  rw [PySem.W.krv_bounds] at h
  have h : ((sliceRange ((xs.size : Int) - 1) (-1) (-1)).filterMap (xs[·]?)).toArray = xs.toList.reverse.toArray := h
  rw [PySem.W.krv_sliceRange, List.filterMap_map] at h
  rw [← h]
  refine congrArg List.toArray (fm_congr fun k hk => ?_)
  have := List.mem_range.mp hk
  have e : ((xs.size : Int) - 1 + (k : Int) * (-1)).toNat = xs.size - 1 - k := by omega
  rw [e]
  rfl
theorem getItem_tuple_rev {t sl : Addr} {items : Array Value} {vl vu vs : Value} {Q : Value → Shared → Prop} (ht : IsTup s.heap t items) (hs : s.heap.IsSliceOf sl vl vu vs) (pl : IsPart vl none) (pu : IsPart vu none) (ps : IsPart vs (some (-1)))
    (h : Q (.ref s.heap.objs.size) { s with heap := s.heap.push { cls := .type "tuple", data := .seq items.toList.reverse.toArray } })
    (hsz : items.size ≤ sizeLine) : wpAny (model prog w) A (getItem (.ref t) (.ref sl)) Q E s := by
  have htake : sizeOk (.seq items.toList.reverse.toArray) := by
    show items.toList.reverse.toArray.size ≤ sizeLine
    rw [List.size_toArray, List.length_reverse, Array.length_toList]
    exact hsz
  obtain ⟨os, hos, hcs, hds⟩ := id hs
  have hTs : s.TypeIs (.ref sl) "slice" := ⟨os, hos, hcs⟩
  unfold getItem
  try with_reducible refine wpAny_holding ?_
  first | refine wpAny_bind (wpAny_pure ?_) | skip
  refine wpAny_bind (wpAny_sequenceKey ht.typeIs (by decide) ?_)
  refine wpAny_bind (wpAny_callSpecial?_slot (name := Str.ofString "__getitem__") ht.typeIs PyProof.Rows.slot_tuple_getitem
    (wpAny_call_entry PyProof.Rows.slot_tuple_getitem ht.typeIs PyProof.Rows.entry_tuple_getitem ?_ (PyProof.Rows.args_tuple_getitem _ _)))
  show wpAny _ _ (Builtin.Tuple.tupleItemsOf (.ref t) >>= _) _ _ s
  refine wpAny_bind (tupleItemsOf_ ht ?_)
  refine wpAny_bind (wpAny_typeOf hTs ?_)
  rw [if_pos (by decide)]
  refine wpAny_bind (applied_rev hs pl pu ps ?_)
  have hno : ¬ (((items.size : Int) - 1 == 0 && (-1 : Int) == 1 && items.size == items.size) = true) := by
    intro q
    rw [Bool.and_eq_true, Bool.and_eq_true] at q
    exact absurd q.1.2 (by decide)
  show wpAny _ _ (if ((items.size : Int) - 1 == 0 && (-1 : Int) == 1 && items.size == items.size) = true then _ else _) _ _ s
  rw [if_neg hno, pick_rev]
  first
    | exact wpAny_bind (m := Builtin.Tuple.tupleExact _) (wpAny_newObj_type (wpAny_pure ⟨_, rfl, wpAny_pure h⟩) htake)
    | exact wpAny_bind (m := Builtin.Tuple.tupleExact _) (wpAny_newObj_type (wpAny_bind (wpAny_pure (wpAny_pure ⟨_, rfl, wpAny_pure h⟩))) htake)
    | exact wpAny_bind (wpAny_bind (m := Builtin.Tuple.tupleExact _) (wpAny_newObj_type (wpAny_pure (wpAny_pure ⟨_, rfl, wpAny_pure h⟩)) htake))
    | exact wpAny_bind (wpAny_bind (m := Builtin.Tuple.tupleExact _) (wpAny_newObj_type (wpAny_pure ⟨_, rfl, wpAny_pure h⟩) htake))
end
def tRev (K : PySem.W.Frag) (te : TE) : TE := fun σ H Q => te σ H fun x H1 => ∃ a xs, x = .ref a ∧ ((SqL K H1 a xs ∧ ∀ p, H1 p = none → Q (.ref p) (upd H1 p (.lst xs.reverse))) ∨ (SqT K H1 a xs ∧ ∀ p, H1 p = none → Q (.ref p) (upd H1 p (.tup xs.reverse))))
theorem pe_rev {X : Cx} {e : Expr} {te : TE} {k : Nat} {p1 p2 p3 pos : Pos} (he : PE X e te) : PE X (.Subscript e (.Slice none none (some (.UnaryOp .USub (.Constant (.int 1) k p1) p2)) p3) pos) (tRev X.K te) := by
  refine ⟨fun pins s σ H Q I h => ?_⟩
  refine Subscript_ (thn (he.run pins s σ H _ I h) fun v s1 ⟨x, H1, I1, r1, q1⟩ => ?_)
  obtain ⟨a, xs, ex, q⟩ := q1
  subst ex
  cases r1
  have hst : PO X (some (.UnaryOp .USub (.Constant (.int 1) k p1) p2)) (tPart (tUn (rU fun i => .int (-i)) (tC (.int 1)))) := po_some (pe_un un_neg pe_int)
  refine wpAny_Slice (thn (po_none.run pins s1 σ H1 (fun o H2 => o = none ∧ H2 = H1) I1 ⟨rfl, rfl⟩) fun vl s2 ⟨l, H2, I2, pl, el, e2⟩ => ?_)
  subst el e2
  refine thn (po_none.run pins s2 σ H2 (fun o H3 => o = none ∧ H3 = H2) I2 ⟨rfl, rfl⟩) fun vu s3 ⟨u, H3, I3, pu, eu, e3⟩ => ?_
  subst eu e3
  refine thn (hst.run pins s3 σ H3 (fun o H4 => o = some (-1) ∧ H4 = H3) I3 ⟨1, rfl, -1, rfl, rfl, rfl⟩) fun vs s4 ⟨o, H4, I4, ps, eo, e4⟩ => ?_
  subst eo e4
  have I5 : Inv X pins σ H4 { s4 with heap := s4.heap.push { cls := .type "slice", data := .fields #[vl, vu, vs] } } := I4.kept (t' := s4.toks) fun b ob q => Heap.get?_push_of_some _ q
  show wpAny (model X.prog X.w) X.A (subscriptTail e (.Slice none none (some (.UnaryOp .USub (.Constant (.int 1) k p1) p2)) p3) (.ref a) (.ref s4.heap.objs.size)) (EP X pins σ Q) X.xe { s4 with heap := s4.heap.push { cls := .type "slice", data := .fields #[vl, vu, vs] } }
  rcases q with ⟨hx, q⟩ | ⟨hx, q⟩
  · obtain ⟨its, r, ht, hz⟩ := I5.list hx
    have hlen := r.length
    refine tail_any (ops := [.ref a, .ref s4.heap.objs.size]) ht.isList.typeIs (PySem.slot_list_getitem.lookup) ?_ (by with_unfolding_all rfl)
    refine wpAny_getItem_list_slice ht.isList (Heap.IsSliceOf.new _ vl vu vs) pl pu ps (by decide) ?_ (by rw [List.size_toArray]; omega)
    rw [PySem.W.krv_pick]
    refine ⟨.ref _, _, I5.laid (t' := s4.toks) (o := .lst xs.reverse) (fun b ob q => Heap.get?_push_of_some _ q) (Nat.le_refl _) ?_, rfl, q _ (I5.hok.fresh (Nat.le_refl _))⟩
    exact ⟨by rw [List.length_reverse]; exact hz, _, 0, r.reverse, Heap.get?_push_size _ rfl⟩
  · obtain ⟨its, r, ht, hz⟩ := I5.tuple hx
    have hlen := r.length
    refine tail_any (ops := [.ref a, .ref s4.heap.objs.size]) ht.typeIs (PyProof.Rows.slot_tuple_getitem.lookup) ?_ (by with_unfolding_all rfl)
    refine getItem_tuple_rev ht (Heap.IsSliceOf.new _ vl vu vs) pl pu ps ?_ (by rw [List.size_toArray]; omega)
    refine ⟨.ref _, _, I5.laid (t' := s4.toks) (o := .tup xs.reverse) (fun b ob q => Heap.get?_push_of_some _ q) (Nat.le_refl _) ?_, rfl, q _ (I5.hok.fresh (Nat.le_refl _))⟩
    exact ⟨by rw [List.length_reverse]; exact hz, _, r.reverse, IsTup.new _ _⟩
variable [Tbl]
def revD : D → Option D
  | .lst l => some (.lst l.reverse)
  | .tup l => some (.tup l.reverse)
  | _ => none
def revE (f : DE → R D) : DE → R D := fun δ => (f δ).bind fun d δ => R.of (revD d) δ
theorem ve_rev {X : Cx} {W : WX} {e : Expr} {f : DE → R D} {k : Nat} {p1 p2 p3 pos : Pos} (he : VE X W e f) : VE X W (.Subscript e (.Slice none none (some (.UnaryOp .USub (.Constant (.int 1) k p1) p2)) p3) pos) (revE f) := PE.to (pe_rev he) fun σ H Q z => by
  refine z.first (DM := dnE X.K) fun c F H1 δ x v r1 d1 z1 => ?_
  cases x <;> first | (exact False.elim z1; done) | skip
  · rename_i l
    obtain ⟨p, xs, rfl, g1, g2⟩ := d1
    exact ⟨p, xs, rfl, .inr ⟨sqt (r1.sub _ _ g1), fun q hq => z1 _ _ _ (r1.lay hq) (same_new (r1.freeF hq)) ⟨q, _, rfl, upd_same, Dens.mono (same_new (r1.freeF hq)) _ _ g2.reverse⟩⟩⟩
  · obtain ⟨p, xs, rfl, g1, g2⟩ := d1
    exact ⟨p, xs, rfl, .inl ⟨.inl (.inl (r1.sub _ _ g1)), fun q hq => z1 _ _ _ (r1.lay hq) (same_new (r1.freeF hq)) ⟨q, _, rfl, upd_same, Dens.mono (same_new (r1.freeF hq)) _ _ g2.reverse⟩⟩⟩
def k_rev (d : D) (δ : DE) : R D := R.of (revD d) δ
theorem ev_rev {f : DE → R D} {δ : DE} : revE f δ = (f δ).bind k_rev := rfl
/-- {'k': 'v'} -/
def dOneS (k v : Str) : DE → R MD := fun δ => .ok (.dct [(.inr k, .str v)]) δ
theorem vn_dOneS {X : Cx} {W : WX} {k v : Str} {j1 j2} {p1 p2 pos : Pos} : VN X W (.Dict [some (.Constant (.str k) j1 p1)] [.Constant (.str v) j2 p2] pos) (dOneS k v) := PE.to (pe_disp (pps_cons pe_str pe_str pps_nil) rfl rfl (by simp) (by simp)) fun σ H Q z p hp => by
  obtain ⟨c, F, δ, r, z⟩ := z
  refine ⟨upd_same, [(.inr k, .str v)], rfl, by simp, ?_⟩
  rw [upd_upd]
  obtain ⟨g1, g2⟩ := r.fresh (o := .dK [(.inr k, .str v)]) (m := .dct [(.inr k, .str v)]) hp ⟨_, _, rfl, rfl, rfl⟩
  exact z _ _ _ g1 (.refl _) g2
end PV

/-! PV38: facts about caught errors; readings evaluated by simp for what PV35 to PV37 brought. -/
theorem L2H.RoomH.units {k : Nat} {A : PySem.Around} (r : L2H.RoomH k A) : A.units + 64 < PySem.cLine := by have := r.un; omega
namespace PV
open PySem PySem.Spec PyProof.Rows L2
theorem kit_exm {K : PySem.W.Frag} {t c : Value} {b : Bool} (h : PySem.W.exmOne K t c = some b) (hs : PySem.W.exmOne K t t = some true) : PySem.W.kitOne K t c = some b := by
  unfold PySem.W.kitOne
  split
  · rename_i e
    have e := eq_of_beq e
    subst e
    exact hs.symm.trans h
  · unfold PySem.W.exmOne at h
    split at h
    · exact h
    · cases h
/-- who the caught error is: of class c, one of names that have no fields -/
abbrev kNames : List Str := ["InvalidName", "InvalidWord", "InvalidRule", "InvalidNotice", "InvalidCopy", "InvalidRoom", "InvalidCells", "UnknownCell", "NameTaken", "TransactionOpen", "UnknownSavepoint", "Ended", "InvalidStep", "InvalidNumber", "InvalidGraph", "InvalidRun", "InvalidWay", "InvalidClients", "InvalidDay", "InvalidHistory"]
abbrev kMore : List Str := ["InvalidText", "Conflict", "Full", "TooLarge", "InvalidFrame"]
abbrev kAll : List Str := kNames ++ kMore
def ieK (c : Str) (n : Str) : Option Bool := if kAll.contains n = true then some (n == c) else none
theorem ieK_own {c n : Str} {b : Bool} (h : ieK c n = some b) : n ∈ kAll ∧ b = (n == c) := by
  unfold ieK at h
  split at h
  · rename_i hn
    cases h
    exact ⟨List.contains_iff_mem.mp hn, rfl⟩
  · cases h
/-- the error's classes, told by facts for each name -/
theorem ieok_mk {K : PySem.W.Frag} {C : Addr} {c : Str} (hs : PySem.W.exmOne K (.ref C) (.ref C) = some true) (hv : PySem.W.kitOne K (.ref C) (.type "ValueError") = some true)
    (h : ∀ n ∈ kAll, ∀ C', PySem.W.nsIn K mainGlobals n = some (some (.ref C')) → PySem.W.exmOne K (.ref C) (.ref C') = some (n == c)) : IeOk K C (ieK c) :=
  ⟨fun n b C' q ns => by
    obtain ⟨h1, rfl⟩ := ieK_own q
    exact kit_exm (h n h1 C' ns) hs, hv⟩
def k_mtL (o : List D → D → Option D) (g : DE → R D) (d : D) (δ : DE) : R D := match d with
  | .lst l => (g δ).bind fun e δ => R.of (o l e) δ
  | _ => .stuck
@[simp] theorem ev_mtL {o : List D → D → Option D} {f g : DE → R D} {δ : DE} : mtL o f g δ = (f δ).bind (k_mtL o g) := rfl
def k_mtV (o : List D → D → Option D) (l : List D) (e : D) (δ : DE) : R D := R.of (o l e) δ
@[simp] theorem ev_kmtL {o : List D → D → Option D} {g : DE → R D} {l : List D} {δ : DE} : k_mtL o g (.lst l) δ = (g δ).bind (k_mtV o l) := rfl
@[simp] theorem ev_kmtV {o : List D → D → Option D} {l : List D} {e : D} {δ : DE} : k_mtV o l e δ = R.of (o l e) δ := rfl
@[simp] theorem ev_rev' {f : DE → R D} {δ : DE} : revE f δ = (f δ).bind k_rev := rfl
@[simp] theorem ev_krev {d : D} {δ : DE} : k_rev d δ = R.of (revD d) δ := rfl
@[simp] theorem revD_lst {l : List D} : revD (.lst l) = some (.lst l.reverse) := rfl
@[simp] theorem revD_tup {l : List D} : revD (.tup l) = some (.tup l.reverse) := rfl
@[simp] theorem ev_dOneS {k v : Str} {δ : DE} : dOneS k v δ = .ok (.dct [(.inr k, .str v)]) δ := rfl
@[simp] theorem ev_neverE {δ : DE} : neverE δ = .stuck := rfl
@[simp] theorem isE_own {a : Addr} {o : Str → Option Bool} {c : Str} : isE a o [.adr a, .fn c] = (o c).map .bl := if_pos rfl
@[simp] theorem isE_ty {a : Addr} {o : Str → Option Bool} : isE a o [.adr a, .ty "ValueError"] = some (.bl true) := if_pos ⟨rfl, rfl⟩
/-- what said makes of what the lambda did -/
def saidXK (em : Str → Str → Option Bool) (nm : Str) (kw : Str → Option Str) (r : R D) : R D := match r with
  | .exc x δ1 => match em x.c nm, x.fs, kw x.c with
    | some true, [], some w => .ok (.str (("! " : Str) ++ w)) δ1
    | _, _, _ => .stuck
  | .ok d δ1 => match reprD [d] with
    | some z => .ok z δ1
    | none => .stuck
  | .stuck => .stuck
@[simp] theorem ev_saidX {em : Str → Str → Option Bool} {nm : Str} {kw : Str → Option Str} {f : DE → R D} {δ : DE} : saidX em nm kw f δ = saidXK em nm kw (f δ) := rfl
theorem saidX_ok {em : Str → Str → Option Bool} {nm : Str} {kw : Str → Option Str} {d z : D} {δ : DE} (h : reprD [d] = some z) : saidXK em nm kw (.ok d δ) = .ok z δ := by
  show (match reprD [d] with | some z => R.ok z δ | none => R.stuck) = _
  rw [h]
theorem saidX_exc {em : Str → Str → Option Bool} {nm : Str} {kw : Str → Option Str} {c w : Str} {δ : DE} (h : em c nm = some true) (hk : kw c = some w) : saidXK em nm kw (.exc ⟨c, []⟩ δ) = .ok (.str (("! " : Str) ++ w)) δ := by
  show (match em c nm, ([] : List (Str × D)), kw c with | some true, [], some w => R.ok (D.str (("! " : Str) ++ w)) δ | _, _, _ => R.stuck) = _
  rw [h, hk]
end PV

/-! PV39: repr of any data, lists and dicts in them too; sorted(set(tuple of ints)). -/
namespace PV
open PySem PySem.Spec PyProof.Rows L2
mutual
def D.pyY : D → Option PyData
  | .non => some .none
  | .bl b => some (.bool b)
  | .int i => some (.int i)
  | .str s => some (.str s)
  | .tup l => (D.pyYs l).map .tuple
  | .lst l => (D.pyYs l).map .list
  | .dct l => (D.pyYk l).map .dict
  | _ => none
def D.pyYs : List D → Option (List PyData)
  | [] => some []
  | d :: ds => (D.pyY d).bind fun p => (D.pyYs ds).map fun ps => p :: ps
def D.pyYk : List (Key × D) → Option (List (PyData × PyData))
  | [] => some []
  | (k, d) :: ds => (D.pyY d).bind fun p => (D.pyYk ds).map fun ps => (keyPy k, p) :: ps
end
/-! ### data that are shown: what stands for them in a heap; a dict is none of the interpreter's own -/
mutual
inductive RdD (h : Heap) : Value → PyData → Prop
  | non : RdD h .none .none
  | bl (b : Bool) : RdD h (.bool b) (.bool b)
  | int (i : Int) (t : Tok) : RdD h (.int i t) (.int i)
  | str (x : Str) (t : Tok) : RdD h (.str x t) (.str x)
  | lst {a : Addr} {o : Obj} {us : Array Value} {n : Nat} {ps : List PyData} : h.get? a = some o → o.cls = .type "list" → o.data = .seq us n → RdDs h us.toList ps → RdD h (.ref a) (.list ps)
  | tup {a : Addr} {o : Obj} {us : Array Value} {n : Nat} {ps : List PyData} : h.get? a = some o → o.cls = .type "tuple" → o.data = .seq us n → RdDs h us.toList ps → RdD h (.ref a) (.tuple ps)
  | dct {a : Addr} {o : Obj} {es : Array DictEntry} {n : Nat} {kvs : List (PyData × PyData)} : h.get? a = some o → o.cls = .type "dict" → o.data = .dict es n → (a == sysModules) = false → RdDs h (es.toList.map (·.key)) (kvs.map (·.1)) → RdDs h (es.toList.map (·.val)) (kvs.map (·.2)) → RdD h (.ref a) (.dict kvs)
inductive RdDs (h : Heap) : List Value → List PyData → Prop
  | nil : RdDs h [] []
  | cons {v : Value} {vs : List Value} {p : PyData} {ps : List PyData} : RdD h v p → RdDs h vs ps → RdDs h (v :: vs) (p :: ps)
end
section
variable {h : Heap}
mutual
theorem RdD.old : ∀ {v : Value} {p : PyData}, RdD h v p → ∃ as, Reads h v p as
  | _, _, .non => ⟨_, .none⟩
  | _, _, .bl b => ⟨_, .bool b⟩
  | _, _, .int i t => ⟨_, .int i t⟩
  | _, _, .str x t => ⟨_, .str x t⟩
  | _, _, .lst q1 q2 q3 q4 => by obtain ⟨as, z⟩ := q4.old; exact ⟨_, .list q1 q2 q3 z⟩
  | _, _, .tup q1 q2 q3 q4 => by obtain ⟨as, z⟩ := q4.old; exact ⟨_, .tuple q1 q2 q3 z⟩
  | _, _, .dct q1 q2 q3 _ q4 q5 => by
    obtain ⟨as, z⟩ := q4.old
    obtain ⟨bs, y⟩ := q5.old
    exact ⟨_, .dict q1 q2 q3 z y⟩
theorem RdDs.old : ∀ {vs : List Value} {ps : List PyData}, RdDs h vs ps → ∃ as, ReadsAll h vs ps as
  | _, _, .nil => ⟨_, .nil⟩
  | _, _, .cons q r => by
    obtain ⟨as, z⟩ := q.old
    obtain ⟨bs, y⟩ := r.old
    exact ⟨_, .cons z y⟩
end
variable {prog : Program} {w : World}
mutual
/-- repr's walk over such a thing -/
theorem RdD.walk : ∀ {v : Value} {p : PyData}, RdD h v p → p.showable = true → p.shown.length ≤ sizeLine → ∃ bs, ReadAtMost h p.depth bs ∧ ReprK prog w bs h p.depth v p.shown
  | _, _, .non, _, _ => ⟨[], fun _ z => (nomatch z), by simp only [PyData.shown]; exact .of_is ReprIs.none _ _ _⟩
  | _, _, .bl b, _, _ => ⟨[], fun _ z => (nomatch z), by simp only [PyData.shown]; exact .of_is (ReprIs.bool b) _ _ _⟩
  | _, _, .int i t, hs, _ => ⟨[], fun _ z => (nomatch z), by simp only [PyData.shown]; exact .of_is (ReprIs.int t (by simpa [PyData.showable] using hs)) _ _ _⟩
  | _, _, .str x t, _, hz => ⟨[], fun _ z => (nomatch z), by simp only [PyData.shown]; exact .of_is (ReprIs.str x t (by simpa only [PyData.shown] using hz)) _ _ _⟩
  | _, _, .lst (a := a) (us := us) (ps := ps) q1 q2 q3 q4, hs, hz => by
    have lim : (listText (PyData.shownAll ps)).length ≤ sizeLine := by simpa only [PyData.shown] using hz
    obtain ⟨bs, m1, m2⟩ := q4.walk (by simpa [PyData.showable] using hs) fun t ht => Nat.le_trans (listText_mem_le ht) lim
    obtain ⟨as, z⟩ := q4.old
    have top := Reads.list q1 q2 q3 z
    have out : a ∉ bs := not_mem_of_deeper top (by simp only [PyData.depth]; omega) m1
    refine ⟨a :: bs, m1.cons top (by simp only [PyData.depth]; omega), ?_⟩
    simp only [PyData.depth, PyData.shown]
    rcases us with ⟨l⟩
    cases l with
    | nil =>
      cases (show RdDs h [] ps from q4)
      simp only [PyData.shownAll, listText_nil]
      exact .listEmpty q1 q2 q3
    | cons x l => exact .list q1 q2 q3 out (by simpa using m2.length_eq) fun i y e => m2.item i y (by simpa using e)
  | _, _, .tup (a := a) (ps := ps) q1 q2 q3 q4, hs, hz => by
    have lim : (tupleText (PyData.shownAll ps)).length ≤ sizeLine := by simpa only [PyData.shown] using hz
    obtain ⟨bs, m1, m2⟩ := q4.walk (by simpa [PyData.showable] using hs) fun t ht => Nat.le_trans (tupleText_mem_le ht) lim
    obtain ⟨as, z⟩ := q4.old
    have top := Reads.tuple q1 q2 q3 z
    have out : a ∉ bs := not_mem_of_deeper top (by simp only [PyData.depth]; omega) m1
    refine ⟨a :: bs, m1.cons top (by simp only [PyData.depth]; omega), ?_⟩
    simp only [PyData.depth, PyData.shown]
    exact .tuple q1 q2 q3 out m2
  | _, _, .dct (a := a) (es := es) (kvs := kvs) q1 q2 q3 qs q4 q5, hs, hz => by
    have lim : (dictText (PyData.shownKv kvs)).length ≤ sizeLine := by simpa only [PyData.shown] using hz
    obtain ⟨s1, s2⟩ := PyData.showableKv_split kvs (by simpa [PyData.showable] using hs)
    obtain ⟨b1, m1, m2⟩ := q4.walk s1 fun t ht => by
      obtain ⟨p, hp, hl⟩ := PyData.shownKv_key_le kvs t ht
      exact Nat.le_trans hl (Nat.le_trans (dictText_mem_le hp) lim)
    obtain ⟨b2, n1, n2⟩ := q5.walk s2 fun t ht => by
      obtain ⟨p, hp, hl⟩ := PyData.shownKv_val_le kvs t ht
      exact Nat.le_trans hl (Nat.le_trans (dictText_mem_le hp) lim)
    obtain ⟨as, z⟩ := q4.old
    obtain ⟨cs, y⟩ := q5.old
    have top := Reads.dict q1 q2 q3 z y
    have both : ReadAtMost h (PyData.depthKv kvs) (b1 ++ b2) := (m1.mono (PyData.depthAll_keys_le kvs)).append (n1.mono (PyData.depthAll_vals_le kvs))
    have out : a ∉ b1 ++ b2 := not_mem_of_deeper top (by simp only [PyData.depth]; omega) both
    refine ⟨a :: (b1 ++ b2), both.cons top (by simp only [PyData.depth]; omega), ?_⟩
    simp only [PyData.depth, PyData.shown, PyData.shownKv_eq]
    exact .dict q1 q2 q3 qs out (ReprEntriesK.of_two es.toList _ _ (m2.more_le (fun b hb => List.mem_append_left _ hb) (PyData.depthAll_keys_le kvs)) (n2.more_le (fun b hb => List.mem_append_right _ hb) (PyData.depthAll_vals_le kvs)))
theorem RdDs.walk : ∀ {vs : List Value} {ps : List PyData}, RdDs h vs ps → PyData.showableAll ps = true → (∀ t ∈ PyData.shownAll ps, t.length ≤ sizeLine) → ∃ bs, ReadAtMost h (PyData.depthAll ps) bs ∧ ReprAllK prog w bs h (PyData.depthAll ps) vs (PyData.shownAll ps)
  | _, _, .nil, _, _ => ⟨[], fun _ z => (nomatch z), by simp only [PyData.shownAll]; exact .nil⟩
  | _, _, .cons (p := p) (ps := ps) q r, hs, hz => by
    obtain ⟨s1, s2⟩ : p.showable = true ∧ PyData.showableAll ps = true := by simpa [PyData.showableAll] using hs
    obtain ⟨b1, m1, m2⟩ := q.walk s1 (hz _ (by simp only [PyData.shownAll]; exact List.mem_cons_self ..))
    obtain ⟨b2, n1, n2⟩ := r.walk s2 fun t ht => hz t (by simp only [PyData.shownAll]; exact List.mem_cons_of_mem _ ht)
    refine ⟨b1 ++ b2, fun b hm => ?_, ?_⟩
    · simp only [PyData.depthAll]
      rcases List.mem_append.mp hm with hm | hm
      · obtain ⟨d', as', r', hd'⟩ := m1 b hm
        exact ⟨d', as', r', by omega⟩
      · obtain ⟨d', as', r', hd'⟩ := n1 b hm
        exact ⟨d', as', r', by omega⟩
    · simp only [PyData.depthAll, PyData.shownAll]
      exact .cons ((m2.more fun b hb => List.mem_append_left _ hb).level_le (Nat.le_max_left _ _)) (n2.more_le (fun b hb => List.mem_append_right _ hb) (Nat.le_max_right _ _))
end
/-- repr of such a list or tuple -/
theorem RdD.repr {A : Around} {E : Value → Shared → Prop} {s : Shared} {Q : Value → Shared → Prop} {a : Addr} {p : PyData} (r : RdD h (.ref a) p) (hl : ∃ ps, p = .list ps ∨ p = .tuple ps) (hs : p.showable = true) (hg : A.guards = some []) (hu : A.units + (p.depth + 1) < cLine) (hk0 : ∀ b o, h.get? b = some o → s.heap.get? b = some o)
    (hQ : ∀ h' u tk, (∀ b o, s.heap.get? b = some o → h'.get? b = some o) → Q (.str p.shown u) { s with heap := h', toks := tk }) (hsz : p.shown.length ≤ sizeLine) : wpAny (model prog w) A (call (.builtin "repr") [.ref a]) Q E s := by
  obtain ⟨ps, rfl | rfl⟩ := hl
  · cases r with
    | lst q1 q2 q3 q4 =>
      rename_i o us n
      have lim : (listText (PyData.shownAll ps)).length ≤ sizeLine := by simpa only [PyData.shown] using hsz
      obtain ⟨bs, m1, m2⟩ := q4.walk (prog := prog) (w := w) (by simpa [PyData.showable] using hs) fun t ht => Nat.le_trans (listText_mem_le ht) lim
      obtain ⟨as, z⟩ := q4.old
      have out : a ∉ bs := not_mem_of_deeper (Reads.list q1 q2 q3 z) (by simp only [PyData.depth]; omega) m1
      have ty : s.TypeIs (.ref a) "list" := ⟨o, hk0 _ _ q1, q2⟩
      refine call_repr_slot (by omega) ty F.slot_list_repr.toG ?_
      simp only [PyData.depth] at hu
      simp only [PyData.shown] at hQ
      rcases us with ⟨l⟩
      cases l with
      | nil =>
        cases (show RdDs h [] ps from q4)
        simp only [PyData.shownAll, listText_nil] at hQ
        exact call_list_repr_empty ty (hk0 _ _ q1) q3 ⟨_, _, rfl, hQ s.heap _ _ fun _ _ e => e⟩
      | cons x l => exact call_list_reprK q1 q2 q3 out (by simpa using m2.length_eq) (fun i y e => m2.item i y (by simpa using e)) hg (fun b _ => Clear.nil b) (by show A.units + 1 + _ < _; omega) hk0 (fun h' u tk hk => ⟨_, _, rfl, hQ h' u tk hk⟩) lim
  · cases r with
    | tup q1 q2 q3 q4 =>
      rename_i o us n
      have lim : (tupleText (PyData.shownAll ps)).length ≤ sizeLine := by simpa only [PyData.shown] using hsz
      obtain ⟨bs, m1, m2⟩ := q4.walk (prog := prog) (w := w) (by simpa [PyData.showable] using hs) fun t ht => Nat.le_trans (tupleText_mem_le ht) lim
      obtain ⟨as, z⟩ := q4.old
      have out : a ∉ bs := not_mem_of_deeper (Reads.tuple q1 q2 q3 z) (by simp only [PyData.depth]; omega) m1
      have ty : s.TypeIs (.ref a) "tuple" := ⟨o, hk0 _ _ q1, q2⟩
      refine call_repr_slot (by omega) ty F.slot_tuple_repr ?_
      simp only [PyData.depth] at hu
      simp only [PyData.shown] at hQ
      exact call_tuple_reprK q1 q2 q3 out m2 hg (fun b _ => Clear.nil b) (by show A.units + 1 + _ < _; omega) hk0 (fun h' u tk hk => ⟨_, _, rfl, hQ h' u tk hk⟩) lim
end
section
variable {X : Cx} {pins : List (Addr × Obj)} {σ : L2.St} {F H : Hp} {s : Shared}
mutual
theorem readsY (I : Inv X pins σ H s) (e : Same F H) : ∀ {d : D} {p : PyData} {v : V} {u : Value}, d.pyY = some p → Den X.K F d v → RelV v u → RdD s.heap u p
  | .non, _, _, _, h, g, r => by unfold D.pyY at h; cases h; cases g; cases r; exact .non
  | .bl b, _, _, _, h, g, r => by unfold D.pyY at h; cases h; cases g; cases r; exact .bl b
  | .int b, _, _, _, h, g, r => by unfold D.pyY at h; cases h; cases g; obtain ⟨t, rfl⟩ := r; exact .int b t
  | .str b, _, _, _, h, g, r => by unfold D.pyY at h; cases h; cases g; obtain ⟨t, rfl⟩ := r; exact .str b t
  | .byt _, _, _, _, h, _, _ => by unfold D.pyY at h; cases h
  | .ty _, _, _, _, h, _, _ => by unfold D.pyY at h; cases h
  | .fn _, _, _, _, h, _, _ => by unfold D.pyY at h; cases h
  | .adr _, _, _, _, h, _, _ => by unfold D.pyY at h; cases h
  | .scr _, _, _, _, h, _, _ => by unfold D.pyY at h; cases h
  | .dcT _, _, _, _, h, _, _ => by unfold D.pyY at h; cases h
  | .dcF _, _, _, _, h, _, _ => by unfold D.pyY at h; cases h
  | .ctp _, _, _, _, h, _, _ => by unfold D.pyY at h; cases h
  | .ins _ _, _, _, _, h, _, _ => by unfold D.pyY at h; cases h
  | .tup l, _, _, _, h, g, r => by
    unfold D.pyY at h
    obtain ⟨ps, h1, rfl⟩ := Option.map_eq_some_iff.mp h
    obtain ⟨a, xs, rfl, g1, g2⟩ := g
    cases r
    obtain ⟨its, rv, ⟨o, ho, hc, n, hd⟩, _⟩ := I.tuple (sqt (e _ _ g1))
    exact .tup ho hc hd (by simpa using readsYs I e h1 g2 rv)
  | .lst l, _, _, _, h, g, r => by
    unfold D.pyY at h
    obtain ⟨ps, h1, rfl⟩ := Option.map_eq_some_iff.mp h
    obtain ⟨a, xs, rfl, g1, g2⟩ := g
    cases r
    obtain ⟨_, its, n, rv, ho⟩ := I.hok a _ (e _ _ g1)
    exact .lst ho rfl rfl (by simpa using readsYs I e h1 g2 rv)
  | .dct l, _, _, _, h, g, r => by
    unfold D.pyY at h
    obtain ⟨ps, h1, rfl⟩ := Option.map_eq_some_iff.mp h
    obtain ⟨a, kvs, rfl, g1, g2⟩ := g
    cases r
    obtain ⟨_, hm, vs, kv, o, es, ep, ho, hx, hd, _, hp, _⟩ := I.hok a _ (e _ _ g1)
    obtain ⟨r1, r2⟩ := readsYk I e h1 g2 kv hp
    exact .dct ho hx.1 hd hm r1 r2
theorem readsYs (I : Inv X pins σ H s) (e : Same F H) : ∀ {l : List D} {ps : List PyData} {vs : List V} {us : List Value}, D.pyYs l = some ps → Dens X.K F l vs → Vals vs us → RdDs s.heap us ps
  | [], _, _, _, h, g, r => by
    unfold D.pyYs at h; cases h; rw [show _ = _ from g] at r; cases r; exact .nil
  | d :: ds, _, _, _, h, ⟨v, rr, e1, g1, g2⟩, r => by
    unfold D.pyYs at h
    obtain ⟨p, h1, h2⟩ := Option.bind_eq_some_iff.mp h
    obtain ⟨ps, h3, rfl⟩ := Option.map_eq_some_iff.mp h2
    subst e1
    cases r with
    | cons r1 r2 => exact .cons (readsY I e h1 g1 r1) (readsYs I e h3 g2 r2)
theorem readsYk (I : Inv X pins σ H s) (e : Same F H) : ∀ {l : List (Key × D)} {ps : List (PyData × PyData)} {kvs : List (Key × V)} {vs : List (Key × Value)} {es : List DictEntry}, D.pyYk l = some ps → DenK X.K F l kvs → KV kvs vs → Pairs (mixKind X.prog X.w) es vs →
    RdDs s.heap (es.map (·.key)) (ps.map (·.1)) ∧ RdDs s.heap (es.map (·.val)) (ps.map (·.2))
  | [], _, _, _, _, h, g, r, q => by
    unfold D.pyYk at h; cases h; rw [show _ = _ from g] at r; cases r; cases q; exact ⟨.nil, .nil⟩
  | (k, d) :: ds, _, _, _, _, h, ⟨v, rr, e1, g1, g2⟩, r, q => by
    unfold D.pyYk at h
    obtain ⟨p, h1, h2⟩ := Option.bind_eq_some_iff.mp h
    obtain ⟨ps, h3, rfl⟩ := Option.map_eq_some_iff.mp h2
    subst e1
    cases r with
    | cons r1 r2 =>
      cases q with
      | @cons ee _ _ _ q1 q2 q3 =>
        obtain ⟨z1, z2⟩ := readsYk I e h3 g2 r2 q3
        have y := readsY I e h1 g1 r1.2
        rw [← q2] at y
        have q1 := q1
        rw [← r1.1] at q1
        have hk : RdD s.heap ee.key (keyPy k) := by
          rcases keyIs_shape q1 with ⟨i, t, e1, e2⟩ | ⟨i, t, e1, e2⟩
          · cases e1; rw [e2]; exact .int i t
          · cases e1; rw [e2]; exact .str i t
        exact ⟨.cons hk z1, .cons y z2⟩
end
end
def showsY (d : D) : Option Str := d.pyY.bind fun p => if p.showable = true ∧ p.depth ≤ 60 ∧ p.shown.length ≤ LIM then some p.shown else none
/-- repr of a list or tuple, whatever is in it -/
def reprY : List D → Option D
  | [.tup l] => (showsY (.tup l)).map .str
  | [.lst l] => (showsY (.lst l)).map .str
  | _ => none
variable [Tbl]
theorem b_reprY {X : Cx} (hu : X.A.units + 64 < cLine) (hg : X.A.guards = some []) : Bf X (.builtin "repr") reprY := by
  have hcr : CallR X (.builtin "repr") (fun xs H Q => ∃ d v F p, xs = [v] ∧ DenH X.K F H d v ∧ (∃ l, d = .tup l ∨ d = .lst l) ∧ Same F H ∧ d.pyY = some p ∧ p.showable = true ∧ p.depth ≤ 60 ∧ p.shown.length ≤ sizeLine ∧ Q (.str p.shown) H) := by
    intro pins s σ H xs us Q I rv h
    obtain ⟨d, v, F, p, rfl, dn, hl, sm, py, hs, hd, hz, q⟩ := h
    obtain ⟨u, rfl, ru⟩ := Vals.one rv
    have fin : ∀ (h' : Heap) (t tk : Tok), (∀ b o, s.heap.get? b = some o → h'.get? b = some o) → EP X pins σ Q (.str p.shown t) { s with heap := h', toks := tk } := fun h' t tk hk => ⟨.str p.shown, H, I.kept (t' := tk) hk, ⟨t, rfl⟩, q⟩
    have key : ∃ a, u = .ref a ∧ RdD s.heap (.ref a) p ∧ ∃ ps, p = .list ps ∨ p = .tuple ps := by
      rcases dn with dn | ⟨m, a, o, ed, rfl, e1, e2⟩
      · have rr := readsY I sm py dn ru
        obtain ⟨l, rfl | rfl⟩ := hl
        · obtain ⟨a, xs, rfl, _⟩ := dn
          cases (show u = Value.ref a from ru)
          unfold D.pyY at py
          obtain ⟨ps, _, rfl⟩ := Option.map_eq_some_iff.mp py
          exact ⟨a, rfl, rr, ps, .inr rfl⟩
        · obtain ⟨a, xs, rfl, _⟩ := dn
          cases (show u = Value.ref a from ru)
          unfold D.pyY at py
          obtain ⟨ps, _, rfl⟩ := Option.map_eq_some_iff.mp py
          exact ⟨a, rfl, rr, ps, .inl rfl⟩
      · cases (show u = Value.ref a from ru)
        obtain ⟨l, rfl | rfl⟩ := hl
        · cases m <;> (unfold MD.d at ed; cases ed)
        · cases m with
          | lst l' =>
            cases ed
            obtain ⟨xs, rfl, e2⟩ := mden_lst e2
            unfold D.pyY at py
            obtain ⟨ps, h1, rfl⟩ := Option.map_eq_some_iff.mp py
            obtain ⟨_, its, n, rv, ho⟩ := I.hok a _ e1
            exact ⟨a, rfl, .lst ho rfl rfl (by simpa using readsYs I sm h1 e2 rv), ps, .inl rfl⟩
          | dct l' => cases ed
          | dcT l' => cases ed
          | ins c l' => cases ed
    obtain ⟨a, rfl, rr, hp⟩ := key
    exact rr.repr hp hs hg (by omega) (fun _ _ e => e) (fun h' t tk hk => fin h' t tk hk) hz
  refine ⟨_, hcr, fun c F H σ δ ds z vs Q r d1 q k => ?_⟩
  have fin : ∀ d : D, ds = [d] → (∃ l, d = .tup l ∨ d = .lst l) → (showsY d).map D.str = some z → ∃ d v F p, vs = [v] ∧ DenH X.K F H d v ∧ (∃ l, d = .tup l ∨ d = .lst l) ∧ Same F H ∧ d.pyY = some p ∧ p.showable = true ∧ p.depth ≤ 60 ∧ p.shown.length ≤ sizeLine ∧ Q (.str p.shown) H := by
    intro d ed hl qq
    clear q
    subst ed
    obtain ⟨t, q1, rfl⟩ := Option.map_eq_some_iff.mp qq
    unfold showsY at q1
    obtain ⟨p, q2, q3⟩ := Option.bind_eq_some_iff.mp q1
    split at q3
    · rename_i hh
      cases q3
      obtain ⟨v, rfl, h⟩ := densH1 d1
      exact ⟨d, v, F, p, rfl, h, hl, r.sub, q2, hh.1, hh.2.1, lim_le hh.2.2, k _ F H r (.refl _) rfl⟩
    · cases q3
  unfold reprY at q
  split at q
  · exact fin _ rfl ⟨_, .inl rfl⟩ q
  · exact fin _ rfl ⟨_, .inr rfl⟩ q
  · cases q
/-! ### sorted(set(t)) -/
def rSetI (K : PySem.W.Frag) (w : World) : List V → Hp → VK → Prop := fun xs H Q => ∃ (l : Addr) (ns : List Int), xs = [.ref l] ∧ SqT K H l (ns.map V.int) ∧ ns.length ≤ 1000 ∧ ∀ p c, H p = none → c ≤ ns.length → Q (.ref p) (upd H p (SetO w p (fun j => decide (j ∈ ns)) c))
theorem cr_setI {X : Cx} (hc : X.calm = true) : CallR X (.type "set") (rSetI X.K X.w) := by
  intro pins s σ H xs us Q I r h
  obtain ⟨l, ns, rfl, hs, hl, q⟩ := h
  obtain ⟨u, rfl, ru⟩ := Vals.one r
  cases ru
  obtain ⟨its, rv, ht, hz⟩ := I.tuple hs
  have hb : (1002 : Nat) < scanBound := by decide
  refine call_set_tupI ns (I.ok.hd hc) ht (by simpa using ints_of_vals rv) (by omega) fun h' tk c R hcn keep => ?_
  exact ⟨.ref s.heap.objs.size, _, I.laid (t' := tk) keep (Nat.le_refl _) (setO_new R), rfl, q _ c (I.hok.fresh (Nat.le_refl _)) hcn⟩
def insU (k : Int) : List Int → List Int
  | [] => [k]
  | a :: r => if k < a then k :: a :: r else if k = a then a :: r else a :: insU k r
def sortU (l : List Int) : List Int := l.foldr insU []
omit [Tbl] in
theorem insU_mem {k j : Int} : ∀ {l : List Int}, j ∈ insU k l ↔ j = k ∨ j ∈ l
  | [] => by simp [insU]
  | a :: r => by
    unfold insU
    split
    · simp
    · split
      · rename_i h; subst h; simp
      · rw [List.mem_cons, insU_mem (l := r), List.mem_cons]
        constructor
        · rintro (h | h | h)
          · exact .inr (.inl h)
          · exact .inl h
          · exact .inr (.inr h)
        · rintro (h | h | h)
          · exact .inr (.inl h)
          · exact .inl h
          · exact .inr (.inr h)
omit [Tbl] in
theorem insU_asc {k : Int} : ∀ {l : List Int}, l.Pairwise (· < ·) → (insU k l).Pairwise (· < ·)
  | [], _ => by simp [insU]
  | a :: r, h => by
    obtain ⟨h1, h2⟩ := List.pairwise_cons.mp h
    unfold insU
    split
    · rename_i hk
      exact List.pairwise_cons.mpr ⟨fun x hx => by
        rcases List.mem_cons.mp hx with rfl | hx
        · exact hk
        · have := h1 x hx; omega, h⟩
    · split
      · exact h
      · refine List.pairwise_cons.mpr ⟨fun x hx => ?_, insU_asc h2⟩
        rcases insU_mem.mp hx with rfl | hx
        · omega
        · exact h1 x hx
omit [Tbl] in
theorem sortU_mem {j : Int} : ∀ {l : List Int}, j ∈ sortU l ↔ j ∈ l
  | [] => by simp [sortU]
  | a :: r => by
    show j ∈ insU a (sortU r) ↔ _
    rw [insU_mem, sortU_mem (l := r), List.mem_cons]
omit [Tbl] in
theorem sortU_asc : ∀ {l : List Int}, (sortU l).Pairwise (· < ·)
  | [] => by simp [sortU]
  | a :: r => insU_asc (sortU_asc (l := r))
omit [Tbl] in
theorem asc_uniq : ∀ {a b : List Int}, a.Pairwise (· < ·) → b.Pairwise (· < ·) → (∀ k, k ∈ a ↔ k ∈ b) → a = b
  | [], [], _, _, _ => rfl
  | [], y :: b, _, _, h => absurd ((h y).mpr List.mem_cons_self) (by simp)
  | x :: a, [], _, _, h => absurd ((h x).mp List.mem_cons_self) (by simp)
  | x :: a, y :: b, ha, hb, h => by
    obtain ⟨a1, a2⟩ := List.pairwise_cons.mp ha
    obtain ⟨b1, b2⟩ := List.pairwise_cons.mp hb
    have e : x = y := by
      rcases List.mem_cons.mp ((h x).mp List.mem_cons_self) with e | e
      · exact e
      · rcases List.mem_cons.mp ((h y).mpr List.mem_cons_self) with q | q
        · exact q.symm
        · have := a1 y q; have := b1 x e; omega
    subst e
    rw [asc_uniq a2 b2 fun k => ?_]
    constructor
    · intro hk
      rcases List.mem_cons.mp ((h k).mp (List.mem_cons_of_mem _ hk)) with q | q
      · subst q; have := a1 k hk; omega
      · exact q
    · intro hk
      rcases List.mem_cons.mp ((h k).mpr (List.mem_cons_of_mem _ hk)) with q | q
      · subst q; have := b1 k hk; omega
      · exact q
def sortSetD : D → Option MD
  | .tup l => (intsOf l).bind fun ns => if ns.length < 64 then some (.lst ((sortU ns).map D.int)) else none
  | _ => none
def sortSetN (f : DE → R D) : DE → R MD := fun δ => (f δ).bind fun d δ => R.of (sortSetD d) δ
theorem vn_sortSet {X : Cx} {W : WX} {a : Expr} {fa : DE → R D} {p p2 pos pos2 : Pos} (hc : X.calm = true) (hg : Gl X "sorted") (hm : X.mg "sorted" = none) (hg2 : Gl X "set") (hm2 : X.mg "set" = none) (ha : VE X W a fa) (na : starEach [a] X.env = (false, eval a X.env) :: starEach [] X.env := by rfl)
    (nb : starEach [.Call (.Name "set" p2) [a] [] pos2] X.env = (false, eval (.Call (.Name "set" p2) [a] [] pos2) X.env) :: starEach [] X.env := by rfl) : VN X W (.Call (.Name "sorted" p) [.Call (.Name "set" p2) [a] [] pos2] [] pos) (sortSetN fa) :=
  PE.to (pe_callB (cr_sortedSet hc) hg hm (by decide +kernel) (pa_cons (pe_callTy (cr_setI hc) hg2 hm2 (by decide +kernel) (pa_cons ha pa_nil na) (by decide) (by decide) na rfl) pa_nil nb) (by decide) (by decide) nb rfl) fun σ H Q z => by
    refine z.first (DM := dnE X.K) fun c F H1 δ x v r1 d1 z1 => ?_
    cases x <;> first | exact False.elim z1 | skip
    rename_i l
    obtain ⟨q, xs, rfl, g1, g2⟩ := d1
    have z1 : aft X.K W (dnN X.K) c F σ Q (R.of ((intsOf l).bind fun ns => if ns.length < 64 then some (.lst ((sortU ns).map D.int)) else none) δ) := z1
    cases e : intsOf l with
    | none => rw [e] at z1; exact False.elim z1
    | some ns =>
      rw [e] at z1
      have z1 : aft X.K W (dnN X.K) c F σ Q (R.of (if ns.length < 64 then some (.lst ((sortU ns).map D.int)) else none) δ) := z1
      split at z1
      · rename_i h64
        have e3 := ints_den e g2
        subst e3
        refine ⟨q, ns, rfl, sqt (r1.sub _ _ g1), by omega, fun p2 n hp2 hn => ?_⟩
        have r2 := r1.tmp (o := SetO X.w p2 (fun j => decide (j ∈ ns)) n) hp2
        refine ⟨p2, _, n, rfl, upd_same, by omega, fun out p3 h1 h2 _ hp3 => ?_⟩
        have eo : out = sortU ns := asc_uniq h1 sortU_asc fun k => by rw [h2 k, sortU_mem, decide_eq_true_eq]
        subst eo
        obtain ⟨g3, g4⟩ := r2.fresh (o := .lst ((sortU ns).map V.int)) (m := .lst ((sortU ns).map D.int)) hp3 (dens_ints _)
        exact z1 _ _ _ g3 (.refl _) g4
      · exact False.elim z1
end PV

/-! PV40: bounds of what repr tells; readings of PV39 by simp. -/
namespace PV
open PySem PySem.Spec PyProof.Rows L2
def k_sortSet (d : D) (δ : DE) : R MD := R.of (sortSetD d) δ
@[simp] theorem ev_sortSet {f : DE → R D} {δ : DE} : sortSetN f δ = (f δ).bind k_sortSet := rfl
@[simp] theorem ev_ksortSet {d : D} {δ : DE} : k_sortSet d δ = R.of (sortSetD d) δ := rfl
def ShowY (n k : Nat) (d : D) : Prop := ∃ p, d.pyY = some p ∧ p.leavesShort 43 = true ∧ p.showable = true ∧ p.depth ≤ k ∧ p.weight ≤ n
def ShowYs (n k : Nat) (l : List D) : Prop := ∃ ps, D.pyYs l = some ps ∧ PyData.leavesShortAll 43 ps = true ∧ PyData.showableAll ps = true ∧ PyData.depthAll ps ≤ k ∧ PyData.weightAll ps ≤ n
theorem ShowY.mono {n n' k k' : Nat} {d : D} (h : ShowY n k d) (a : n ≤ n') (b : k ≤ k') : ShowY n' k' d := by
  obtain ⟨p, h1, h2, h3, h4, h5⟩ := h
  exact ⟨p, h1, h2, h3, by omega, by omega⟩
theorem ShowYs.mono {n n' k k' : Nat} {d : List D} (h : ShowYs n k d) (a : n ≤ n') (b : k ≤ k') : ShowYs n' k' d := by
  obtain ⟨p, h1, h2, h3, h4, h5⟩ := h
  exact ⟨p, h1, h2, h3, by omega, by omega⟩
theorem ShowW.y0 {n k : Nat} {d : D} (h : ShowW n k d) {p : PyData} (e : d.pyY = d.py) : ShowY n k d := by
  obtain ⟨p, h1, h2, h3, h4, h5, h6⟩ := h
  exact ⟨p, e.trans h1, PyData.leavesShort_of_canLay0 43 p h2 h3, h4, h5, h6⟩
theorem ShowY.non : ShowY 0 1 .non := ShowW.non.y0 (p := .none) (by unfold D.pyY D.py; rfl)
theorem ShowY.bl {b : Bool} : ShowY 0 1 (.bl b) := ShowW.bl.y0 (p := .none) (by unfold D.pyY D.py; rfl)
theorem ShowY.int {i : Int} (h : i.natAbs < 10 ^ 42) : ShowY 141 1 (.int i) := (ShowW.int h).y0 (p := .none) (by unfold D.pyY D.py; rfl)
theorem ShowY.str {s : Str} (h : PyData.strOk s = true) : ShowY s.cps.size 1 (.str s) := (ShowW.str h).y0 (p := .none) (by unfold D.pyY D.py; rfl)
theorem ShowYs.nil {k : Nat} : ShowYs 0 k [] := ⟨[], by unfold D.pyYs; rfl, by simp [PyData.leavesShortAll], by simp [PyData.showableAll], by simp [PyData.depthAll], by simp [PyData.weightAll]⟩
theorem ShowYs.cons {n m k : Nat} {d : D} {l : List D} (h : ShowY n k d) (g : ShowYs m k l) : ShowYs (n + 1 + m) k (d :: l) := by
  obtain ⟨p, h1, h2, h3, h4, h5⟩ := h
  obtain ⟨ps, g1, g2, g3, g4, g5⟩ := g
  exact ⟨p :: ps, by unfold D.pyYs; rw [h1, g1]; rfl, by simp [PyData.leavesShortAll, h2, g2], by simp [PyData.showableAll, h3, g3], by simp only [PyData.depthAll]; omega, by simp only [PyData.weightAll]; omega⟩
theorem ShowYs.uncons {n k : Nat} {d : D} {l : List D} (h : ShowYs n k (d :: l)) : ∃ a b, a + 1 + b ≤ n ∧ ShowY a k d ∧ ShowYs b k l := by
  obtain ⟨ps, h1, h2, h3, h4, h5⟩ := h
  unfold D.pyYs at h1
  obtain ⟨p, g1, g2⟩ := Option.bind_eq_some_iff.mp h1
  obtain ⟨qs, g3, rfl⟩ := Option.map_eq_some_iff.mp g2
  simp only [PyData.leavesShortAll, PyData.showableAll, Bool.and_eq_true] at h2 h3
  simp only [PyData.depthAll, PyData.weightAll] at h4 h5
  exact ⟨p.weight, PyData.weightAll qs, h5, ⟨p, g1, h2.1, h3.1, by omega, Nat.le_refl _⟩, ⟨qs, g3, h2.2, h3.2, by omega, Nat.le_refl _⟩⟩
theorem ShowYs.append {n m k : Nat} : ∀ {l l' : List D}, ShowYs n k l → ShowYs m k l' → ShowYs (n + m) k (l ++ l')
  | [], l', _, g => g.mono (by omega) (Nat.le_refl _)
  | d :: l, l', h, g => by
    obtain ⟨a, b, hab, h1, h2⟩ := h.uncons
    exact (ShowYs.cons h1 (ShowYs.append h2 g)).mono (by omega) (Nat.le_refl _)
theorem ShowYs.split {n k : Nat} : ∀ {l : List D} (r : Nat), ShowYs n k l → ∃ a b, a + b ≤ n ∧ ShowYs a k (l.take r) ∧ ShowYs b k (l.drop r)
  | l, 0, h => ⟨0, n, by omega, by rw [List.take_zero]; exact .nil, by rw [List.drop_zero]; exact h⟩
  | [], r + 1, h => ⟨0, 0, by omega, by rw [List.take_nil]; exact .nil, by rw [List.drop_nil]; exact .nil⟩
  | d :: l, r + 1, h => by
    obtain ⟨a, b, hab, h1, h2⟩ := h.uncons
    obtain ⟨x, y, hxy, g1, g2⟩ := ShowYs.split r h2
    exact ⟨a + 1 + x, y, by omega, by rw [List.take_succ_cons]; exact .cons h1 g1, by rw [List.drop_succ_cons]; exact g2⟩
theorem ShowYs.rev {n k : Nat} : ∀ {l : List D}, ShowYs n k l → ShowYs n k l.reverse
  | [], h => h
  | d :: l, h => by
    obtain ⟨a, b, hab, h1, h2⟩ := h.uncons
    rw [List.reverse_cons]
    exact (ShowYs.append (ShowYs.rev h2) (ShowYs.cons h1 .nil)).mono (by omega) (Nat.le_refl _)
theorem ShowYs.mem {n k : Nat} : ∀ {l : List D}, ShowYs n k l → ∀ x ∈ l, ShowY n k x
  | [], _, x, hx => (nomatch hx)
  | d :: l, h, x, hx => by
    obtain ⟨a, b, hab, h1, h2⟩ := h.uncons
    rcases List.mem_cons.mp hx with rfl | hx
    · exact h1.mono (by omega) (Nat.le_refl _)
    · exact (ShowYs.mem h2 x hx).mono (by omega) (Nat.le_refl _)
theorem ShowYs.all {n k : Nat} : ∀ {l : List D}, (∀ x ∈ l, ShowY n k x) → ShowYs (l.length * (n + 1)) k l
  | [], _ => .mono .nil (by omega) (Nat.le_refl _)
  | d :: l, h => (ShowYs.cons (h d List.mem_cons_self) (ShowYs.all fun x hx => h x (List.mem_cons_of_mem _ hx))).mono (by rw [List.length_cons, Nat.add_mul]; omega) (Nat.le_refl _)
theorem ShowYs.tup {n k : Nat} {l : List D} (h : ShowYs n k l) : ShowY n (k + 1) (.tup l) := by
  obtain ⟨ps, g1, g2, g3, g4, g5⟩ := h
  exact ⟨.tuple ps, by unfold D.pyY; rw [g1]; rfl, by simpa [PyData.leavesShort] using g2, by simpa [PyData.showable] using g3, by simp only [PyData.depth]; omega, by simpa [PyData.weight] using g5⟩
theorem ShowYs.lst {n k : Nat} {l : List D} (h : ShowYs n k l) : ShowY n (k + 1) (.lst l) := by
  obtain ⟨ps, g1, g2, g3, g4, g5⟩ := h
  exact ⟨.list ps, by unfold D.pyY; rw [g1]; rfl, by simpa [PyData.leavesShort] using g2, by simpa [PyData.showable] using g3, by simp only [PyData.depth]; omega, by simpa [PyData.weight] using g5⟩
theorem ShowY.untup {n k : Nat} {l : List D} (h : ShowY n (k + 1) (.tup l)) : ShowYs n k l := by
  obtain ⟨p, h1, h2, h3, h4, h5⟩ := h
  unfold D.pyY at h1
  obtain ⟨ps, g1, rfl⟩ := Option.map_eq_some_iff.mp h1
  exact ⟨ps, g1, by simpa [PyData.leavesShort] using h2, by simpa [PyData.showable] using h3, by simp only [PyData.depth] at h4; omega, by simpa [PyData.weight] using h5⟩
theorem ShowY.dct0 : ShowY 0 1 (.dct []) := ⟨.dict [], by unfold D.pyY D.pyYk; rfl, by decide, by decide, by decide, by decide⟩
theorem ShowY.dct1 : ShowY 4 2 (.dct [(.inr "a", .str "x")]) := ⟨.dict [(.str "a", .str "x")], by simp [D.pyY, D.pyYk, keyPy], by decide +kernel, by decide +kernel, by decide +kernel, by decide +kernel⟩
theorem ShowY.repr {n k : Nat} {d : D} (h : ShowY n k d) (hl : ∃ l, d = .tup l ∨ d = .lst l) (hn : n ≤ 20000) (hk : k ≤ 60) : ∃ s, reprY [d] = some (.str s) := by
  obtain ⟨p, h1, h2, h3, h4, h5⟩ := h
  have z := PyData.shown_le 43 (by decide) p h2
  have e : showsY d = some p.shown := by
    unfold showsY
    rw [h1, Option.bind_some, if_pos ⟨h3, by omega, by unfold LIM; omega⟩]
  refine ⟨p.shown, ?_⟩
  obtain ⟨l, rfl | rfl⟩ := hl
  · show (showsY (.tup l)).map D.str = _
    rw [e]; rfl
  · show (showsY (.lst l)).map D.str = _
    rw [e]; rfl
def k_cat1 (x y : D) (δ : DE) : R MD := match ladd x y with
  | some (.lst l) => .ok (.lst l) δ
  | _ => .stuck
def k_cat2 (fb : DE → R D) (x : D) (δ : DE) : R MD := (fb δ).bind (k_cat1 x)
@[simp] theorem ev_catN {fa fb : DE → R D} {δ : DE} : catN fa fb δ = (fa δ).bind (k_cat2 fb) := rfl
@[simp] theorem ev_kcat2 {fb : DE → R D} {x : D} {δ : DE} : k_cat2 fb x δ = (fb δ).bind (k_cat1 x) := rfl
@[simp] theorem ev_kcat1 {l m : List D} {δ : DE} : k_cat1 (.lst l) (.lst m) δ = if l.length + m.length ≤ 1000000 then .ok (.lst (l ++ m)) δ else .stuck := by
  have e : ladd (.lst l) (.lst m) = if l.length + m.length ≤ LIM then some (.lst (l ++ m)) else none := rfl
  unfold k_cat1
  rw [e]
  have hL : LIM = 1000000 := rfl
  rw [hL]
  split <;> rename_i h
  · split at h
    · cases h; rename_i q; rw [if_pos q]
    · cases h
  · split at h
    · rename_i q; exact absurd rfl (h _)
    · rename_i q; rw [if_neg q]
/-! ### == [] -/
def eqZ : D → D → Option D
  | .lst l, .lst [] => some (.bl l.isEmpty)
  | _, _ => none
def neZ : D → D → Option D
  | .lst l, .lst [] => some (.bl (!l.isEmpty))
  | _, _ => none
@[simp] theorem op_eqZ {l : List D} : eqZ (.lst l) (.lst []) = some (.bl l.isEmpty) := by cases l <;> rfl
@[simp] theorem op_neZ {l : List D} : neZ (.lst l) (.lst []) = some (.bl (!l.isEmpty)) := by cases l <;> rfl
section
variable [Tbl] {X : Cx}
def rEqZ (K : PySem.W.Frag) (g : Bool → Bool) : R2 := fun x y H Q => ∃ a b xs, x = .ref a ∧ y = .ref b ∧ SqL K H a xs ∧ SqL K H b [] ∧ Q (.bl (g xs.isEmpty)) H
theorem op_eq0 (hu : X.A.units + 64 < cLine) : OpR X (compareOp .Eq) (rEqZ X.K id) := by
  intro pins s σ H x y v u Q I rx ry h
  obtain ⟨a, b, xs, rfl, rfl, ha, hb, q⟩ := h
  cases rx
  cases ry
  obtain ⟨its, r1, l1, _⟩ := I.list ha
  obtain ⟨its2, r2, l2, _⟩ := I.list hb
  cases r2
  have hk : SeqAt.RcAt X.A s (.ref a) (.ref b) xs.isEmpty := by
    cases r1 with
    | nil => exact SeqAt.RcAt.lists (e := fun _ => true) l1.isList l2.isList rfl (by omega) (fun j h1 => absurd h1 (by simp))
    | cons r rr => exact SeqAt.RcAt.lists_lengths l1.isList l2.isList (by simp) (by omega)
  exact hk X.prog X.w _ _ ⟨.bl xs.isEmpty, H, I, rfl, q⟩
theorem op_ne0 (hu : X.A.units + 64 < cLine) : OpR X (compareOp .NotEq) (rEqZ X.K not) := by
  intro pins s σ H x y v u Q I rx ry h
  obtain ⟨a, b, xs, rfl, rfl, ha, hb, q⟩ := h
  cases rx
  cases ry
  obtain ⟨its, r1, l1, _⟩ := I.list ha
  obtain ⟨its2, r2, l2, _⟩ := I.list hb
  cases r2
  have hk : SeqAt.RcNeAt X.A s (.ref a) (.ref b) (!xs.isEmpty) := by
    cases r1 with
    | nil => exact SeqAt.RcNeAt.lists (e := fun _ => true) l1.isList l2.isList rfl (by omega) (fun j h1 => absurd h1 (by simp))
    | cons r rr => exact SeqAt.RcNeAt.lists_lengths l1.isList l2.isList (by simp) (by omega)
  exact hk X.prog X.w _ _ ⟨.bl (!xs.isEmpty), H, I, rfl, q⟩
theorem dens_empty {K : PySem.W.Frag} {F : Hp} {l : List D} {xs : List V} (h : Dens K F l xs) : xs.isEmpty = l.isEmpty := by
  have := h.length
  cases xs <;> cases l <;> simp_all
theorem o_eqZ (hu : X.A.units + 64 < cLine) : Op2 X (compareOp .Eq) eqZ := by
  refine ⟨_, op_eq0 hu, fun c F H σ δ d e z v w Q r d1 d2 q k => ?_⟩
  unfold eqZ at q
  split at q
  · cases q
    obtain ⟨a, xs, rfl, g1, g2⟩ := d1
    obtain ⟨b, ys, rfl, g3, g4⟩ := d2
    cases (show ys = [] from g4)
    exact ⟨a, b, xs, rfl, rfl, .inl (.inl (r.sub _ _ g1)), .inl (.inl (r.sub _ _ g3)), k _ F H r (.refl _) (by rw [dens_empty g2]; rfl)⟩
  · cases q
theorem o_neZ (hu : X.A.units + 64 < cLine) : Op2 X (compareOp .NotEq) neZ := by
  refine ⟨_, op_ne0 hu, fun c F H σ δ d e z v w Q r d1 d2 q k => ?_⟩
  unfold neZ at q
  split at q
  · cases q
    obtain ⟨a, xs, rfl, g1, g2⟩ := d1
    obtain ⟨b, ys, rfl, g3, g4⟩ := d2
    cases (show ys = [] from g4)
    exact ⟨a, b, xs, rfl, rfl, .inl (.inl (r.sub _ _ g1)), .inl (.inl (r.sub _ _ g3)), k _ F H r (.refl _) (by rw [dens_empty g2]; rfl)⟩
  · cases q
end
end PV

/-! PV41: dicts whose keys are tuples: the kit's side (display of one pair, locking a name's dict, the walk over items). -/
namespace PV
open PySem PySem.Spec PyProof.Rows L2

section
variable {X : Cx} {pos : Pos}
/-- {k: v}, k a tuple of ints and texts -/
def tDisp1T (tk tv : TE) : TE := fun σ H Q => ∀ p, H p = none → tk σ (upd H p (.dT [])) fun x H1 => tv σ H1 fun y H2 => ∃ b ks, x = .ref b ∧ H2 p = some (.dT []) ∧ H2 b = some (.tup (ks.map kV)) ∧ Q (.ref p) (upd H2 p (.dT [(ks, y)]))
theorem pe_disp1T {k v : Expr} {tk tv : TE} (hu : X.A.units + 1 < cLine) (hk : PE X k tk) (hv : PE X v tv) : PE X (.Dict [some k] [v] pos) (tDisp1T tk tv) := by
  refine ⟨fun pins s σ H Q I q => ?_⟩
  have hn := I.hok.fresh (Nat.le_refl s.heap.objs.size)
  have I1 := I.laid (a := s.heap.objs.size) (o := .dT []) (h' := s.heap.push { cls := .type "dict", data := .dict #[] }) (t' := s.toks) (fun _ _ q => Heap.get?_push_of_some _ q) (Nat.le_refl _) (dt_empty s.heap I.big)
  have hn1 := pairTrees_length [some k] [v] X.env pos rfl rfl
  rw [arm_eval_Dict, zip_pairTrees [some k] [v] X.env pos rfl rfl, dictDisplay_pairs _ (by intro e; rw [e] at hn1; cases hn1) (by rw [hn1]; simp)]
  refine wpAny_bind (wpAny_standAt (wpAny_bind (wpAny_subDictH (knd := tupleKind (mixKind X.prog X.w)) (Q := fun d s' => wpAny (model X.prog X.w) X.A (pure (Value.ref d)) _ X.xe s') (show X.A.units < cLine by omega) (by rw [hn1]; simp) ?_)))
  refine pairTrees_cons_walk (thn (hk.run pins _ σ _ _ I1 (q _ hn)) fun u s1 ⟨x, H1, J1, rx, q1⟩ => thn (hv.run pins s1 σ H1 _ J1 q1) fun w2 s2 ⟨y, H2, I2, ry, b, ks, ex, e, eb, q2⟩ => pairTrees_nil_walk ?_)
  subst ex
  cases (show u = Value.ref b from rx)
  obtain ⟨z, hd, xs, rel, dd⟩ := dt_of I2.hok e
  cases rel
  refine ⟨[(ks, b, w2)], ⟨rfl, rfl, key_of I2.hok eb, trivial⟩, dd, fun h' tk dd' hs => wpAny_pure ⟨.ref s.heap.objs.size, _, ?_, rfl, q2⟩⟩
  obtain ⟨q', es, ep, hq, h2, h3, h4, _, h5⟩ := dd'
  refine d_write I2 (by rw [e]; exact True.intro) hs ⟨q', hq⟩ ⟨by show 1 ≤ sizeLine; decide, hd, [(ks, b, w2)], .cons ⟨rfl, ?_, ry⟩ .nil, q', es, ep, hq, h2, h3, h4, h5⟩
  rw [upd_ne (ne_of eb e (fun z => nomatch z))]
  exact eb

/-- a name's dict, which is not changed from here on -/
def tLockV (te : TE) : TE := fun σ H Q => te σ H fun v H1 => ∃ d kvs, v = .ref d ∧ H1 d = some (.dT kvs) ∧ ∀ od, Q (.ref d) (upd H1 d (.frz od (.dT kvs)))
theorem pe_lockV {e : Expr} {te : TE} (h : PE X e te) : PE X e (tLockV te) := by
  refine ⟨fun pins s σ H Q I q => thn (h.run pins s σ H _ I q) fun u s1 ⟨v, H1, I1, rv, d, kvs, ev, hd, q1⟩ => ?_⟩
  subst ev
  obtain ⟨od, I2⟩ := I1.lock hd trivial
  exact ⟨.ref d, _, I2, rv, q1 od⟩
end

/-! ### items -/
/-- the pairs of a locked dict with tuple keys, each a new tuple -/
def ItiT (d : Addr) (o : Obj) (kvs : List (List Key × V)) : It :=
  ⟨fun i H => H d = some (.frz o (.dT kvs)) ∧ i < kvs.length, fun i H x H' => ∃ (T : Addr) (k : List Key) (v : V) (q : Addr), kvs[i]? = some (k, v) ∧ x = .ref T ∧ H T = none ∧ H q = some (.tup (k.map kV)) ∧ H' = upd H T (.tup [.ref q, v]), fun i H => H d = some (.frz o (.dT kvs)) ∧ kvs.length ≤ i⟩
section
variable {X : Cx} {pins : List (Addr × Obj)} {σ : L2.St} {H : Hp} {s : Shared} {d : Addr} {o : Obj}
theorem frzTV {kvs : List (List Key × V)} (I : Inv X pins σ H s) (h : H d = some (.frz o (.dT kvs))) :
    (d == sysModules) = false ∧ s.heap.get? d = some o ∧ o.ExactDict ∧ ∃ (es : Array DictEntry) (ep : Nat), o.data = .dict es ep ∧ es.size = kvs.length ∧
      ∀ (i : Nat) (k : List Key) (v : V), kvs[i]? = some (k, v) → ∃ (en : DictEntry) (q : Addr), es[i]? = some en ∧ en.key = .ref q ∧ H q = some (.tup (k.map kV)) ∧ RelV v en.val := by
  obtain ⟨hd, z, hs, xs, pr, o', es, ep, ho, hx, hdt, he, _⟩ := I.hok d _ h
  rw [hd] at ho
  cases ho
  refine ⟨hs, hd, hx, es, ep, hdt, ?_, fun i k v e => ?_⟩
  · have l1 : es.size = xs.length := size_of_entries he
    have l2 : kvs.length = xs.length := Paired.length pr
    omega
  · obtain ⟨b, hb, e1, e2, e3⟩ := paired_get pr e
    have q := entry_at he i
    rw [hb] at q
    exact ⟨_, b.2.1, q, rfl, e2, e3⟩
end
section
variable {P : Program} {w : World} {K : PySem.W.Frag} {d : Addr} {o : Obj} {es : Array DictEntry} {ep : Nat}
theorem turn_itemsT {kvs : List (List Key × V)} {elts : List Expr} {kk : Nat} {tpos : Pos} (it : Addr) (hod : o.data = .dict es ep) (hn : es.size = kvs.length) :
    L2.Turn P w K (.Tuple elts kk tpos) (ItiT d o kvs) [it] it (fun i h => ∃ ok ov, IsItemIter h it d i es.size ep ok ov) where
  mem := by simp
  obj := fun i h st b hb => by
    have e : b = it := by simpa using hb
    subst e
    obtain ⟨ok, ov, e⟩ := st
    exact ⟨_, e, fun v z => nomatch z⟩
  keep := fun i h h' st k => let ⟨ok, ov, e⟩ := st; ⟨ok, ov, k it (by simp) _ e⟩
  item := by
    intro X hP hw hK hc i pins s σ H E I hf st hg
    subst hP hw hK
    obtain ⟨hd, hi⟩ := hg
    obtain ⟨hs, hgd, hx, es', ep', hdt, hsz, ent⟩ := frzTV I hd
    obtain ⟨rfl, rfl⟩ := dict_ep hod hdt
    obtain ⟨⟨k, v⟩, hkv⟩ : ∃ p, kvs[i]? = some p := ⟨kvs[i], List.getElem?_eq_getElem hi⟩
    obtain ⟨en, q, hen, hkey, hq, rv⟩ := ent i k v hkv
    obtain ⟨ok, ov, he⟩ := st
    have hi' : i < es'.size := by omega
    have een : es'[i] = en := by rw [Array.getElem?_eq_getElem hi'] at hen; exact Option.some.inj hen
    have hlt : it < s.heap.objs.size := Heap.lt_size he
    refine wpAny_pyNext_items_item_raw he ⟨o, hgd, hx, hdt⟩ hi' fun h' ho hT hz hk => ?_
    rw [een] at ho hT
    refine ⟨_, rfl, wpAny_letOwnedTupleGo_items (s := { s with heap := h' }) ho fun h'' he' sb => ?_⟩
    have hT2 : h''.get? s.heap.objs.size = some { cls := .type "tuple", data := .seq #[en.key, en.val] } := (sb.2 _ (Nat.ne_of_gt hlt)).trans hT
    have new : ObjOk X.prog X.w (upd H s.heap.objs.size (.tup [.ref q, v])) h'' s.heap.objs.size (.tup [.ref q, v]) :=
      ⟨by show 2 ≤ sizeLine; decide, [en.key, en.val], .cons hkey (.cons rv .nil), ⟨_, hT2, rfl, _, rfl⟩⟩
    have I1 : Inv X pins σ (upd H s.heap.objs.size (.tup [.ref q, v])) { s with heap := h'' } :=
      I.turnedNew (t' := s.toks) (ch := [it]) (fun b ob hb e => (sb.2 b (by simpa using hb)).trans (hk b ob (by simpa using hb) e)) hf (Nat.le_refl _) new
    refine ⟨.ref s.heap.objs.size, _, I1, rfl, ⟨_, k, v, q, hkv, rfl, I.hok.fresh (Nat.le_refl _), hq, rfl⟩, ⟨_, _, he'⟩, fun b hb => ?_⟩
    have e : b = it := by simpa using hb
    rw [e, upd_ne (Nat.ne_of_lt hlt)]
    exact (hf it (by simp)).1
  done := by
    intro X hP hw hK hc i pins s σ H E I hf st hg
    subst hP hw hK
    obtain ⟨hd, hi⟩ := hg
    obtain ⟨f0, f1, f2, f3, f4, f5⟩ := hf it (by simp)
    obtain ⟨hs, hgd, hx, es', ep', hdt, hsz, ent⟩ := frzTV I hd
    obtain ⟨rfl, rfl⟩ := dict_ep hod hdt
    obtain ⟨ok, ov, he⟩ := st
    exact wpAny_pyNext_items_end_raw (I.ok.hd hc) he ⟨o, hgd, hx, hdt⟩ (by omega) fun h' eb => ⟨rfl, I.turned (t' := s.toks) (fun b ob hb e => eb b ob hb e) f0 f1 f3 f4 f5⟩
  self := fun A i s Q E st h => let ⟨_, _, e⟩ := st; PySem.W.kcp_self e h
end
def iItemsT (td : TE) : TI := fun σ H R => td σ H fun x H1 => ∃ d o kvs, x = .ref d ∧ H1 d = some (.frz o (.dT kvs)) ∧ R (ItiT d o kvs) H1
theorem pi_itemsT {X : Cx} {e : Expr} {td : TE} {apos cpos : Pos} {elts : List Expr} {kk : Nat} {tpos : Pos} (he : PE X e td) (hbase : attributeBase e "items" X.env (eval e X.env) = eval e X.env := by rfl) (hline : (apos.endLine == cpos.line) = true := by rfl) :
    PI X (.Tuple elts kk tpos) (.Call (.Attribute e "items" apos) [] [] cpos) (iItemsT td) := by
  refine ⟨fun pins s σ H R I h => ?_⟩
  refine wpAny_Call_method (T := "dict") (id := "dict.items") hbase rfl hline F.plainAttrs_dict F.slot_dict_items F.type_dict_items (thn (he.run pins s σ H _ I h) fun u s1 ⟨x, H1, I1, rx, d, o, kvs, ex, hd, q⟩ => ?_)
  subst ex
  obtain rfl : u = Value.ref d := rx
  obtain ⟨hs, hgd, hx, es, ep, hdt, hsz, ent⟩ := frzTV I1 hd
  have raw : s1.heap.DictRaw d es ep := ⟨o, hgd, hx, hdt⟩
  refine ⟨raw.typeIs, fun b q => by cases q; exact ⟨o, hgd, hx.2.1⟩, ?_⟩
  have I2 : Inv X pins σ H1 { s1 with heap := s1.heap.push { cls := .type "dict_items", data := .fields #[.ref d] } } := I1.kept (t' := s1.toks) fun b ob q => Heap.get?_push_of_some _ q
  have fin : wpAny (model X.prog X.w) X.A (pyIter (.ref s1.heap.objs.size)) (PIE X pins σ (.Tuple elts kk tpos) R) X.xe { s1 with heap := s1.heap.push { cls := .type "dict_items", data := .fields #[.ref d] } } := by
    refine wpAny_pyIter_items_raw (d := d) ⟨_, Heap.get?_push_size _ rfl, rfl, rfl⟩ (raw.at fun o e => Heap.get?_push_of_some _ e) (pi_one (tk := s1.toks) I2 _ (turn_itemsT _ hdt hsz) ⟨.none, .none, ?_⟩ q)
    exact Heap.get?_push_size _ rfl
  show wpAny _ _ (callWith cpos (.builtin "dict.items") [.ref d] [] []) _ X.xe s1
  exact method_meetsIn F.slot_dict_items F.entry_dict_items rfl (PySem.evalArgs_none ⟨rfl, raw.typeIs, F.args_dict_items_1 _, _, meets_dict_items_raw d hs, ⟨es, ep, raw⟩, fin⟩)
end PV

/-! PV42: dicts of a slot whose keys are tuples of ints and strs; the walk over items. -/
namespace PV
open PySem PySem.Spec PyProof.Rows L2
variable [Tbl]
def keyDs : List D → Option (List Key)
  | [] => some []
  | d :: ds => match keyD d, keyDs ds with
    | some k, some ks => some (k :: ks)
    | _, _ => none
def keyT : D → Option (List Key)
  | .tup l => keyDs l
  | _ => none
def Key.dat : Key → D
  | .inl i => .int i
  | .inr s => .str s
abbrev kD (k : Key) : D := Key.dat k
abbrev kTup (k : List Key) : D := .tup (k.map Key.dat)
section
omit [Tbl]
variable {K : PySem.W.Frag} {F : Hp}
theorem keyDs_den : ∀ {ds : List D} {ks : List Key} {xs : List V}, keyDs ds = some ks → Dens K F ds xs → xs = ks.map kV
  | [], ks, xs, h, g => by cases h; exact g
  | d :: ds, ks, xs, h, ⟨v, r, e, h1, h2⟩ => by
    unfold keyDs at h
    split at h
    · rename_i k ks' q1 q2
      cases h
      rw [e, List.map_cons, key_den q1 h1, keyDs_den q2 h2]
    · cases h
theorem keyT_den {d : D} {k : List Key} {v : V} (h : keyT d = some k) (g : Den K F d v) : ∃ b, v = .ref b ∧ F b = some (.tup (k.map kV)) := by
  cases d <;> first | (cases h; done) | skip
  obtain ⟨a, xs, e1, e2, e3⟩ := g
  refine ⟨a, e1, ?_⟩
  rw [e2, keyDs_den h e3]
theorem dens_keys : ∀ (k : List Key), Dens K F (k.map Key.dat) (k.map kV)
  | [] => rfl
  | k :: ks => ⟨kV k, ks.map kV, rfl, by cases k <;> rfl, dens_keys ks⟩
def valT (l : List (List Key × D)) (k : List Key) : Option D := (l.find? fun kv => decide (kv.1 = k)).map (·.2)
def putT (l : List (List Key × D)) (k : List Key) (d : D) : List (List Key × D) := if (l.any fun kv => decide (kv.1 = k)) = true then l.map (fun kv => if kv.1 = k then (kv.1, d) else kv) else l ++ [(k, d)]
theorem DenT.len : ∀ {l : List (List Key × D)} {kvs : List (List Key × V)}, DenT K F l kvs → kvs.length = l.length
  | [], _, h => by rw [show _ = _ from h]; rfl
  | _ :: _, _, ⟨v, r, e, _, h⟩ => by rw [e, List.length_cons, List.length_cons, h.len]
theorem DenT.val {k : List Key} : ∀ {l : List (List Key × D)} {kvs : List (List Key × V)}, DenT K F l kvs → (valT l k = none ∧ valV kvs k = none) ∨ ∃ d v, valT l k = some d ∧ valV kvs k = some v ∧ Den K F d v
  | [], _, h => by rw [show _ = _ from h]; exact .inl ⟨rfl, rfl⟩
  | (k', d) :: l, _, ⟨v, r, e, h1, h2⟩ => by
    subst e
    by_cases q : k' = k
    · exact .inr ⟨d, v, by unfold valT; rw [List.find?_cons_of_pos (by simpa using q)]; rfl, by unfold valV; rw [List.find?_cons_of_pos (by simpa using q)]; rfl, h1⟩
    · have e1 : valT ((k', d) :: l) k = valT l k := by unfold valT; rw [List.find?_cons_of_neg (by simpa using q)]
      have e2 : valV ((k', v) :: r) k = valV r k := by unfold valV; rw [List.find?_cons_of_neg (by simpa using q)]
      rw [e1, e2]
      exact h2.val
theorem DenT.any {k : List Key} : ∀ {l : List (List Key × D)} {kvs : List (List Key × V)}, DenT K F l kvs → (kvs.any fun kv => decide (kv.1 = k)) = (l.any fun kv => decide (kv.1 = k))
  | [], _, h => by rw [show _ = _ from h]; rfl
  | (k', d) :: l, _, ⟨v, r, e, _, h⟩ => by subst e; rw [List.any_cons, List.any_cons, h.any]
theorem DenT.repl {k : List Key} {d : D} {v : V} (hd : Den K F d v) : ∀ {l : List (List Key × D)} {kvs : List (List Key × V)}, DenT K F l kvs → DenT K F (l.map fun kv => if kv.1 = k then (kv.1, d) else kv) (kvs.map fun kv => if kv.1 = k then (kv.1, v) else kv)
  | [], _, h => by rw [show _ = _ from h]; rfl
  | (k', d') :: l, _, ⟨v', r, e, h1, h2⟩ => by
    subst e
    rw [List.map_cons, List.map_cons]
    by_cases q : k' = k
    · simp only [if_pos q]
      exact ⟨v, _, rfl, hd, h2.repl hd⟩
    · simp only [if_neg q]
      exact ⟨v', _, rfl, h1, h2.repl hd⟩
theorem DenT.snoc {k : List Key} {d : D} {v : V} (hd : Den K F d v) : ∀ {l : List (List Key × D)} {kvs : List (List Key × V)}, DenT K F l kvs → DenT K F (l ++ [(k, d)]) (kvs ++ [(k, v)])
  | [], _, h => by rw [show _ = _ from h]; exact ⟨v, [], rfl, hd, rfl⟩
  | (k', d') :: l, _, ⟨v', r, e, h1, h2⟩ => by subst e; exact ⟨v', _, rfl, h1, h2.snoc hd⟩
theorem DenT.put {k : List Key} {d : D} {v : V} (hd : Den K F d v) {l : List (List Key × D)} {kvs : List (List Key × V)} (h : DenT K F l kvs) : DenT K F (putT l k d) (putK kvs k v) := by
  unfold putT putK
  rw [h.any]
  split
  · exact h.repl hd
  · exact h.snoc hd
theorem DenT.get : ∀ {l : List (List Key × D)} {kvs : List (List Key × V)} {i : Nat} {k : List Key} {d : D}, DenT K F l kvs → l[i]? = some (k, d) → ∃ v, kvs[i]? = some (k, v) ∧ Den K F d v
  | [], _, i, _, _, _, h => by simp at h
  | (k', d') :: l, _, 0, k, d, ⟨v, r, e, h1, _⟩, h => by
    have q : (k', d') = (k, d) := by simpa using h
    cases q
    rw [e]
    exact ⟨v, rfl, h1⟩
  | (k', d') :: l, _, i + 1, k, d, ⟨v, r, e, _, h2⟩, h => by
    obtain ⟨w, h3, h4⟩ := DenT.get (i := i) (k := k) (d := d) h2 (by simpa using h)
    rw [e]
    exact ⟨w, by simpa using h3, h4⟩
theorem mden_dcT {l : List (List Key × D)} {o : HO} (h : MDen K F (.dcT l) o) : ∃ kvs, o = .dT kvs ∧ DenT K F l kvs := by
  cases o <;> first | exact False.elim h | exact ⟨_, rfl, h⟩
end

/-! ### Rel -/
section
variable {K : PySem.W.Frag} {c : Cq} {F H : Hp} {σ : L2.St} {δ : DE}
/-- a tuple of the heap is taken among what stays -/
theorem Rel.adopt (r : Rel K c F H σ δ) {q : Addr} {xs : List V} (hq : H q = some (.tup xs)) : ∃ F', Rel K c F' H σ δ ∧ Same F F' ∧ F' q = some (.tup xs) := by
  cases hF : F q with
  | some o =>
    have := r.sub _ _ hF
    rw [hq] at this
    cases this
    exact ⟨F, r, .refl _, hF⟩
  | none =>
    have sF : Same F (upd F q (.tup xs)) := same_new hF
    refine ⟨upd F q (.tup xs), ⟨fun b x e => ?_, r.pres, r.low.trans sF, fun b x e => ?_, fun b x e => ⟨(r.gs b x e).1, ?_⟩, r.bor0, r.borD, r.binj, r.len, fun i s e => ?_, r.apart, r.tab.lay trivial⟩, sF, upd_same⟩
    · by_cases z : b = q
      · subst z; rw [upd_same] at e; cases e; exact hq
      · rw [upd_ne z] at e; exact r.sub _ _ e
    · by_cases z : b = q
      · subst z; rw [upd_same] at e; cases e; exact .inr (.inr ⟨_, rfl⟩)
      · rw [upd_ne z] at e; exact r.new _ _ e
    · rw [upd_ne (fun z => by subst z; have w := (r.gs b x e).1; rw [hq] at w; cases w; exact (r.tab.gnt _ _ e).nt)]; exact (r.gs b x e).2
    · have z := r.sl i s e
      cases s with
      | val d =>
        obtain ⟨v, e1, e2⟩ := z
        exact ⟨v, e1, Den.mono sF _ _ e2⟩
      | own m =>
        obtain ⟨a, o, e1, e2, e3, e4, e5⟩ := z
        refine ⟨a, o, e1, e2, e3.mono sF, ?_, e5⟩
        rw [upd_ne (fun w => by subst w; rw [hq] at e2; cases e2; exact e3.plg.nt)]; exact e4
      | bor m =>
        obtain ⟨hi, o, e1, e2, e3, e4, e5⟩ := z
        refine ⟨hi, o, e1, e2, e3.mono sF, ?_, e5⟩
        rw [upd_ne (fun w => by rw [w, hq] at e2; cases e2; exact e3.plg.nt)]; exact e4
/-- an own dict is locked, for good -/
theorem Rel.lockD (r : Rel K c F H σ δ) {i : Nat} {l : List (List Key × D)} (hi : δ[i]? = some (some (.own (.dcT l)))) :
    ∃ a kvs, σ[i]? = some (some (.ref a)) ∧ H a = some (.dT kvs) ∧ ∀ od, Rel K c (upd F a (.frz od (.dT kvs))) (upd H a (.frz od (.dT kvs))) σ (δ.set i (some (.val (.dcF l)))) ∧ Same F (upd F a (.frz od (.dT kvs))) ∧ Den K (upd F a (.frz od (.dT kvs))) (.dcF l) (.ref a) := by
  obtain ⟨a, o, e1, e2, e3, e4, e5, e6⟩ := r.own hi
  obtain ⟨kvs, rfl, e3⟩ := mden_dcT e3
  refine ⟨a, kvs, e1, e2, fun od => ?_⟩
  have hl : i < δ.length := (List.getElem?_eq_some_iff.mp hi).1
  have sF : Same F (upd F a (.frz od (.dT kvs))) := same_new e4
  have hden : Den K (upd F a (.frz od (.dT kvs))) (.dcF l) (.ref a) := ⟨a, od, kvs, rfl, upd_same, DenT.mono sF _ _ e3⟩
  have nbs : i ∉ c.bs := fun z => by
    obtain ⟨m, e⟩ := r.borD i z
    rw [hi] at e; cases e
  have ne_ : ∀ {j : Nat} {n : MD}, (δ.set i (some (.val (.dcF l))))[j]? = some (some (Sl.own n)) → i ≠ j ∧ δ[j]? = some (some (Sl.own n)) := fun {j n} g => by
    by_cases q : i = j
    · subst q
      rw [List.getElem?_set_self hl] at g; cases g
    · rw [List.getElem?_set_ne q] at g; exact ⟨q, g⟩
  have hne : ∀ {j : Nat} {s : Sl}, i ≠ j → δ[j]? = some (some s) → (∀ d, s ≠ .val d) → σ[j]? ≠ some (some (V.ref a)) := fun {j s} q e z0 z3 => by
    cases s with
    | val d => exact z0 d rfl
    | own n => exact q (r.apart i j a _ _ hi e e1 z3)
    | bor n =>
      obtain ⟨hb, _, w1, _⟩ := r.sl j _ e
      rw [getD_some w1] at z3; cases z3
      exact r.bor0 j hb e6
  refine ⟨⟨fun b x e => ?_, fun b x e q => ?_, r.low.trans sF, fun b x e => ?_, fun b x e => ⟨?_, ?_⟩, r.bor0, fun j hj => ?_, r.binj, by rw [List.length_set, r.len], fun j s e => ?_, fun j k b m1 n1 g1 g2 g3 g4 => ?_, ?_⟩, sF, hden⟩
  · by_cases q : b = a
    · subst q; rw [upd_same] at e ⊢; exact e
    · rw [upd_ne q] at e ⊢; exact r.sub _ _ e
  · rw [upd_ne (fun z => by subst z; rw [e6] at e; cases e)]; exact r.pres b x e q
  · by_cases q : b = a
    · subst q; exact .inr (.inl e6)
    · rw [upd_ne q] at e; exact r.new _ _ e
  · rw [upd_ne (fun z => by subst z; rw [e5] at e; cases e)]; exact (r.gs b x e).1
  · rw [upd_ne (fun z => by subst z; rw [e5] at e; cases e)]; exact (r.gs b x e).2
  · have : i ≠ j := fun q => nbs (q ▸ hj)
    rw [List.getElem?_set_ne this]; exact r.borD j hj
  · by_cases q : i = j
    · subst q
      rw [List.getElem?_set_self hl] at e
      cases e
      exact ⟨.ref a, by rw [e1]; rfl, hden⟩
    · rw [List.getElem?_set_ne q] at e
      refine (r.sl j s e).to sF (fun b x z1 z2 z0 z3 => ?_) fun b x z0 z3 z _ => ?_
      · rw [upd_ne (fun z => by subst z; exact hne q e z0 (getD_some z3))]; exact z2
      · rw [upd_ne (fun w => by subst w; exact hne q e z0 (getD_some z3))]; exact z
  · obtain ⟨_, h1⟩ := ne_ g1
    obtain ⟨_, h2⟩ := ne_ g2
    exact r.apart j k b _ _ h1 h2 g3 g4
  · exact (r.tab.upd (o' := .frz od (.dT kvs)) e2 trivial).lay trivial
end

/-! ### the operations -/
def dInT (neg : Bool) (i : Nat) (fk : DE → R D) : DE → R D := fun δ => (fk δ).bind fun k δ => match mutOf δ i, keyT k with
  | some (_, .dcT l), some kk => .ok (.bl (if neg = true then !(valT l kk).isSome else (valT l kk).isSome)) δ
  | _, _ => .stuck
def dPutT (i : Nat) (fk f : DE → R D) : DE → O := fun δ => bindS (f δ) fun d δ => match mutOf δ i with
  | some _ => bindS (fk δ) fun k δ => match mutOf δ i, keyT k with
    | some (s, .dcT l), some kk => if l.length < LIM then .nx (δ.set i (some (s.wr (.dcT (putT l kk d))))) else .stuck
    | _, _ => .stuck
  | none => .stuck
def dGetT (i : Nat) (fk : DE → R D) : DE → R D := fun δ => match mutOf δ i with
  | some _ => (fk δ).bind fun k δ => match mutOf δ i, keyT k with
    | some (_, .dcT l), some kk => R.of (valT l kk) δ
    | _, _ => .stuck
  | none => .stuck
def dOneT (fk f : DE → R D) : DE → R MD := fun δ => (fk δ).bind fun k δ => (f δ).bind fun d δ => match keyT k with
  | some kk => .ok (.dcT [(kk, d)]) δ
  | none => .stuck
def lockE (i : Nat) : DE → R D := fun δ => match δ[i]? with
  | some (some (.own (.dcT l))) => .ok (.dcF l) (δ.set i (some (.val (.dcF l))))
  | _ => .stuck
def itemsT (f : DE → R D) : DE → R (List D) := fun δ => (f δ).bind fun d δ => match d with
  | .dcF l => .ok (l.map fun kv => .tup [kTup kv.1, kv.2]) δ
  | _ => .stuck
section
variable {X : Cx} {W : WX} {pos : Pos}
theorem dgetT_of {c : Cq} {F H : Hp} {σ : L2.St} {δ : DE} {i : Nat} {s : Sl} {l : List (List Key × D)} {k : List Key} {b : Addr} (r : Rel X.K c F H σ δ) (q : mutOf δ i = some (s, .dcT l)) (hb : F b = some (.tup (k.map kV))) :
    ∃ a kvs, σ[i]? = some (some (.ref a)) ∧ H a = some (.dT kvs) ∧ DenT X.K F l kvs ∧ DGet H a (.ref b) (valV kvs k) := by
  obtain ⟨g1, g2⟩ := mutOf_some q
  obtain ⟨a, o, y1, y2, y3, y4⟩ := r.mutAt g1 g2
  obtain ⟨kvs, rfl, y3⟩ := mden_dcT y3
  exact ⟨a, kvs, y1, y2, y3, .t y2 (r.sub _ _ hb)⟩
theorem dT_some {F : Hp} {l : List (List Key × D)} {kvs : List (List Key × V)} {k : List Key} (y3 : DenT X.K F l kvs) : (valV kvs k).isSome = (valT l k).isSome := by
  rcases y3.val (k := k) with ⟨e1, e2⟩ | ⟨d, v, e1, e2, _⟩ <;> rw [e1, e2] <;> rfl
theorem PC.to {X : Cx} {op : CmpOp} {a b : Expr} {t t' : TE} (h : PC X op a b t) (i : ∀ σ H Q, t' σ H Q → t σ H Q) : PC X op a b t' := ⟨fun pins s σ H Q I z => h.run pins s σ H Q I (i σ H Q z)⟩
theorem ve_pc {op : CmpOp} {a b : Expr} {f : DE → R D} (h : PC X op a b (rdE X.K W f)) (h1 : behindInMarks op b = false := by rfl) : VE X W (.Compare a [op] [b] pos) f := pe_cmp h h1
theorem vt_pc {op : CmpOp} {a b : Expr} {f : DE → R D} (h : PC X op a b (rdE X.K W f)) (h1 : behindInMarks op b = false := by rfl) : VT X W (.Compare a [op] [b] pos) (tst f) := PT.to (pt_cmp h h1) fun _ _ _ z => rd_tst z
theorem vp_dinT (hu : X.A.units + 1 < cLine) (i : Nat) {x : Str} {px : Pos} {a : Expr} {fk : DE → R D} (hk : VE X W a fk) (hN : X.N[i]? = some x := by rfl) (hv : Vis X.env.scope x := by first | exact Or.inl rfl | exact Or.inr (Or.inl rfl) | exact Or.inr (Or.inr rfl)) (hd : (x == ("__debug__" : Str)) = false := by decide)
    (hcd : (x == ("__classdict__" : Str)) = false := by decide) : PC X .In a (.Name x px) (rdE X.K W (dInT false i fk)) := PC.to (pc_din hu hk (pe_var hN hv hd hcd)) fun σ H Q z => by
  refine z.first (DM := dnE X.K) fun c F H1 δ k v r1 d1 z1 => ?_
  split at z1
  · rename_i s l kk q1 q2
    obtain ⟨b, rfl, hb⟩ := keyT_den q2 d1
    obtain ⟨a, kvs, e1, e2, e3, e4⟩ := dgetT_of (k := kk) r1 q1 hb
    refine ⟨.ref a, e1, a, valV kvs kk, rfl, e4, ?_⟩
    rw [dT_some e3]; exact z1 _ F H1 r1 (.refl _) rfl
  · exact False.elim z1
theorem vp_dnotinT (hu : X.A.units + 1 < cLine) (i : Nat) {x : Str} {px : Pos} {a : Expr} {fk : DE → R D} (hk : VE X W a fk) (hN : X.N[i]? = some x := by rfl) (hv : Vis X.env.scope x := by first | exact Or.inl rfl | exact Or.inr (Or.inl rfl) | exact Or.inr (Or.inr rfl)) (hd : (x == ("__debug__" : Str)) = false := by decide)
    (hcd : (x == ("__classdict__" : Str)) = false := by decide) : PC X .NotIn a (.Name x px) (rdE X.K W (dInT true i fk)) := PC.to (pc_dnotin hu hk (pe_var hN hv hd hcd)) fun σ H Q z => by
  refine z.first (DM := dnE X.K) fun c F H1 δ k v r1 d1 z1 => ?_
  split at z1
  · rename_i s l kk q1 q2
    obtain ⟨b, rfl, hb⟩ := keyT_den q2 d1
    obtain ⟨a, kvs, e1, e2, e3, e4⟩ := dgetT_of (k := kk) r1 q1 hb
    refine ⟨.ref a, e1, a, valV kvs kk, rfl, e4, ?_⟩
    rw [dT_some e3]; exact z1 _ F H1 r1 (.refl _) rfl
  · exact False.elim z1
theorem ve_dgetT (hu : X.A.units + 1 < cLine) (i : Nat) {x : Str} {px : Pos} {ik : Expr} {fk : DE → R D} (hk : VE X W ik fk) (hs : NoSl ik) (hN : X.N[i]? = some x := by rfl) (hv : Vis X.env.scope x := by first | exact Or.inl rfl | exact Or.inr (Or.inl rfl) | exact Or.inr (Or.inr rfl)) (hd : (x == ("__debug__" : Str)) = false := by decide)
    (hcd : (x == ("__classdict__" : Str)) = false := by decide) : VE X W (.Subscript (.Name x px) ik pos) (dGetT i fk) := PE.to (pe_dget hu (pe_var hN hv hd hcd) hk hs) fun σ H Q z => by
  obtain ⟨c, F, δ, r, z⟩ := z
  unfold dGetT at z
  split at z
  · rename_i p q0
    obtain ⟨s0, m0⟩ := p
    obtain ⟨q1, q2⟩ := mutOf_some q0
    obtain ⟨a, o, h1, _⟩ := r.mutAt q1 q2
    refine ⟨.ref a, h1, ?_⟩
    refine aft.next (DM := dnE X.K) (f := fk) r z fun F2 H2 δ2 kd kv r2 s2 d2 z2 => ?_
    split at z2
    · rename_i s l kk q q'
      obtain ⟨b, rfl, hb⟩ := keyT_den q' d2
      obtain ⟨a', kvs, e1, e2, e3, e4⟩ := dgetT_of (k := kk) r2 q hb
      rw [h1] at e1; cases e1
      rcases e3.val (k := kk) with ⟨w1, w2⟩ | ⟨d, v, w1, w2, w3⟩
      · rw [w1] at z2; exact False.elim z2
      · rw [w1] at z2
        rw [w2] at e4
        exact ⟨a, v, rfl, e4, z2 _ F2 H2 r2 (.refl _) w3⟩
    · exact False.elim z2
  · exact False.elim z
theorem vs_dputT (hu : X.A.units + 1 < cLine) (i : Nat) {x : Str} {px pos' : Pos} {ik e : Expr} {fk f : DE → R D} (k : VE X W e f) (kk : VE X W ik fk) (hN : X.N[i]? = some x := by rfl) (hv : Vis X.env.scope x := by first | exact Or.inl rfl | exact Or.inr (Or.inl rfl) | exact Or.inr (Or.inr rfl)) (hd : (x == ("__debug__" : Str)) = false := by decide)
    (hcd : (x == ("__classdict__" : Str)) = false := by decide) (hs : swapsWith e (some (.Subscript (.Name x px) ik pos')) pos.line X.env = pure false := by rfl) :
    VS X W (.Assign [.Subscript (.Name x px) ik pos'] e pos) (dPutT i fk f) := PS.to (ps_dput hu (pe_var hN hv hd hcd) kk k hs) fun N σ H z => by
  refine z.first (DM := dnE X.K) fun c F H1 δ d v r1 d1 z1 => ?_
  split at z1
  · rename_i p q0
    obtain ⟨s0, m0⟩ := p
    obtain ⟨q1, q2⟩ := mutOf_some q0
    obtain ⟨a, o, h1, _⟩ := r1.mutAt q1 q2
    refine ⟨.ref a, h1, ?_⟩
    refine aftS.next (DM := dnE X.K) (f := fk) (g := fun k δ => match mutOf δ i, keyT k with
      | some (s, .dcT l), some kk => if l.length < LIM then .nx (δ.set i (some (s.wr (.dcT (putT l kk d))))) else .stuck
      | _, _ => .stuck) r1 z1 fun F2 H2 δ2 kd kv r2 s2 d2 z2 => ?_
    split at z2
    · rename_i s l kk q q'
      obtain ⟨bk, rfl, hbk⟩ := keyT_den q' d2
      obtain ⟨g1, g2⟩ := mutOf_some q
      obtain ⟨b, o, y1, y2, y3, y4⟩ := r2.mutAt g1 g2
      rw [h1] at y1; cases y1
      obtain ⟨kvs, rfl, y3⟩ := mden_dcT y3
      split at z2
      · rename_i hl
        refine ⟨a, _, rfl, ?_, z2 σ F2 _ (r2.write (m' := .dcT (putT l kk d)) (o' := .dT (putK kvs kk v)) g1 g2 h1 (DenT.put (Den.mono s2 _ _ d1) y3)) (.refl _)⟩
        exact .t y2 (r2.sub _ _ hbk) (by rw [y3.len]; exact Nat.lt_of_lt_of_le hl (by decide))
      · exact False.elim z2
    · exact False.elim z2
  · exact False.elim z1
theorem ve_lock (i : Nat) {x : Str} {px : Pos} (hN : X.N[i]? = some x := by rfl) (hv : Vis X.env.scope x := by first | exact Or.inl rfl | exact Or.inr (Or.inl rfl) | exact Or.inr (Or.inr rfl)) (hd : (x == ("__debug__" : Str)) = false := by decide)
    (hcd : (x == ("__classdict__" : Str)) = false := by decide) : VE X W (.Name x px) (lockE i) := PE.to (pe_lockV (pe_var hN hv hd hcd)) fun σ H Q z => by
  obtain ⟨c, F, δ, r, z⟩ := z
  unfold lockE at z
  split at z
  · rename_i l q
    obtain ⟨a, kvs, e1, e2, e3⟩ := r.lockD q
    refine ⟨.ref a, e1, a, kvs, rfl, e2, fun od => ?_⟩
    obtain ⟨g1, g2, g3⟩ := e3 od
    exact z _ _ _ g1 g2 g3
  · exact False.elim z
theorem vn_dOneT {k e : Expr} {fk f : DE → R D} (hu : X.A.units + 1 < cLine) (hk : VE X W k fk) (he : VE X W e f) : VN X W (.Dict [some k] [e] pos) (dOneT fk f) := PE.to (pe_disp1T hu hk he) fun σ H Q z p hp => by
  obtain ⟨c, F, δ, r, z⟩ := z
  have h4 : c.G p = none := r.freeG hp
  have h5 : c.H0 p = none := r.free hp
  have rt := r.tmp (o := .dT []) hp
  have hown : ∀ (j : Nat) (n : MD), δ[j]? = some (some (Sl.own n)) → σ[j]? ≠ some (some (V.ref p)) := fun j n e q => by
    obtain ⟨a, o, e1, e2, _⟩ := r.own e
    rw [q] at e1; cases e1
    rw [hp] at e2; cases e2
  have hb : ∀ i ∈ c.bs, c.adr i ≠ p := fun i hi q => r.bor0 i hi (by rw [q]; exact h5)
  have rh := rt.hold upd_same (r.freeF hp) hown hb
  refine ⟨_, F, δ, rh, ?_⟩
  unfold dOneT at z
  cases q : fk δ with
  | stuck => rw [q] at z; exact z
  | exc x δ2 =>
    rw [q] at z
    intro cls od F' H' r' s' xo
    exact z cls od F' H' (r'.drop h4).1 s' xo
  | ok kd δ2 =>
    rw [q] at z
    replace z : aft X.K W (dnN X.K) c F σ Q ((f δ2).bind fun d δ => match keyT kd with
      | some kk => .ok (.dcT [(kk, d)]) δ
      | none => .stuck) := z
    intro kv F' H' r' s' dk
    refine ⟨_, F', δ2, r', ?_⟩
    cases q2 : f δ2 with
    | stuck => rw [q2] at z; exact z
    | exc x δ3 =>
      rw [q2] at z
      intro cls od F2 H2 r2 s2 xo
      exact z cls od F2 H2 (r2.drop h4).1 (s'.trans s2) xo
    | ok d δ3 =>
      rw [q2] at z
      replace z : aft X.K W (dnN X.K) c F σ Q (match keyT kd with
        | some kk => .ok (.dcT [(kk, d)]) δ3
        | none => .stuck) := z
      intro v F2 H2 r2 s2 dv
      split at z
      · rename_i kk qk
        obtain ⟨b, rfl, hbk⟩ := keyT_den qk (Den.mono s2 _ _ dk)
        obtain ⟨r3, g1, g2, g3, g4⟩ := r2.drop h4
        refine ⟨b, kk, rfl, g1, r3.sub _ _ hbk, ?_⟩
        have rp := (r2.holdPut (o' := .dT [(kk, v)]) h4 h5).drop h4
        obtain ⟨r4, k1, k2, k3, k4⟩ := rp
        exact z _ F2 _ r4 (s'.trans s2) ⟨p, _, rfl, k1, ⟨v, [], rfl, dv, rfl⟩, k2, h4, h5, k3⟩
      · exact False.elim z
theorem it_itemsT {K : PySem.W.Frag} {F0 : Hp} {a : Addr} {od : Obj} {kvs : List (List Key × V)} {l : List (List Key × D)} (h : F0 a = some (.frz od (.dT kvs))) (d : DenT K F0 l kvs) : ItF K F0 (ItiT a od kvs) (l.map fun kv => .tup [kTup kv.1, kv.2]) := by
  intro c F H σ δ i r s
  have h1 : H a = some (.frz od (.dT kvs)) := r.sub _ _ (s _ _ h)
  refine ⟨fun d0 e => ?_, fun e => ⟨h1, by rw [e, List.length_map, d.len]; exact Nat.le_refl _⟩⟩
  rw [List.getElem?_map] at e
  cases q : l[i]? with
  | none => rw [q] at e; cases e
  | some p =>
    rw [q] at e
    cases e
    obtain ⟨k, x⟩ := p
    obtain ⟨v, g1, g2⟩ := d.get q
    refine ⟨⟨h1, (List.getElem?_eq_some_iff.mp g1).1⟩, fun x' H1 y0 => ?_⟩
    obtain ⟨T, k', v', q', w1, rfl, w3, w4, rfl⟩ := y0
    rw [g1] at w1
    cases w1
    obtain ⟨F1, ra, sa, ha⟩ := r.adopt w4
    have sl := same_new (o := HO.tup [V.ref q', v]) (ra.freeF w3)
    refine ⟨_, ra.lay w3, sa.trans sl, T, _, rfl, upd_same, ?_⟩
    exact Dens.cons ⟨q', _, rfl, sl _ _ ha, dens_keys k⟩ (Dens.one (Den.mono (s.trans (sa.trans sl)) _ _ g2))
theorem vi_itemsT {e : Expr} {f : DE → R D} {apos cpos : Pos} {elts : List Expr} {kk : Nat} {tpos : Pos} (he : VE X W e f) (hbase : attributeBase e "items" X.env (eval e X.env) = eval e X.env := by rfl) (hline : (apos.endLine == cpos.line) = true := by rfl) :
    VI X W (.Tuple elts kk tpos) (.Call (.Attribute e "items" apos) [] [] cpos) (itemsT f) := PI.to (pi_itemsT he hbase hline) fun σ H R z => by
  refine z.first (DM := dnE X.K) fun c F H1 δ d v r1 d1 z1 => ?_
  split at z1
  · rename_i l
    obtain ⟨a, od, kvs, rfl, h1, h2⟩ := d1
    exact ⟨a, od, kvs, rfl, r1.sub _ _ h1, z1 _ F H1 r1 (.refl _) (it_itemsT h1 h2)⟩
  · exact False.elim z1
end
end PV

/-! PV43: *e in displays; membership in a constant tuple of the module. -/
namespace PV
open PySem PySem.Spec PyProof.Rows L2
variable [Tbl]
def starA (f : DE → R D) (r : DE → R (List Arg)) : DE → R (List Arg) := fun δ => (f δ).bind fun d δ => match itemsOf d with
  | some l => (r δ).bind fun as δ => .ok (l.map Arg.val ++ as) δ
  | none => .stuck
section
omit [Tbl]
theorem argsD_app {K : PySem.W.Frag} {F : Hp} {σ : L2.St} : ∀ {l : List D} {xs : List V} {as : List Arg} {vs : List V}, Dens K F l xs → ArgsD K F σ as vs → ArgsD K F σ (l.map Arg.val ++ as) (xs ++ vs)
  | [], _, _, _, h, g => by rw [show _ = _ from h]; exact g
  | _ :: _, _, _, _, ⟨v, r, e, h1, h2⟩, g => by rw [e]; exact ⟨v, _, rfl, h1, argsD_app h2 g⟩
end
omit [Tbl] in
theorem inF_strC {k : Str} {l : List Str} : inF false (.str k) (.ctp (l.map D.str)) = some (.bl (decide (k ∈ l))) := (inF_strT (k := k) (l := l))
section
variable {X : Cx} {W : WX} {e : Expr} {es : List Expr} {f : DE → R D} {r : DE → R (List Arg)} {p : Pos}
theorem items_seq {K : PySem.W.Frag} {F H : Hp} {d : D} {l : List D} {v : V} (s : Same F H) (h : itemsOf d = some l) (g : Den K F d v) : ∃ a xs, v = .ref a ∧ (SqT K H a xs ∨ SqL K H a xs) ∧ Dens K F l xs := by
  cases d <;> first | (cases h; done) | skip
  · obtain ⟨a, xs, e, h1, h2⟩ := g; cases h; exact ⟨a, xs, e, .inl (sqt (s _ _ h1)), h2⟩
  · obtain ⟨a, xs, e, h1, h2⟩ := g; cases h; exact ⟨a, xs, e, .inl (PV.Same.tup s h1), h2⟩
  · obtain ⟨a, xs, e, h1, h2⟩ := g; cases h; exact ⟨a, xs, e, .inr (.inl (.inl (s _ _ h1))), h2⟩
theorem va_star (h : VE X W e f) (k : VA X W es r) (hs : starEach (.Starred e p :: es) X.env = (true, eval e X.env) :: starEach es X.env := by rfl) : VA X W (.Starred e p :: es) (starA f r) := PA.to (StX.pa_star h k hs) fun σ H Q z => by
  refine z.first (DM := dnE X.K) fun c F H1 δ d v r1 d1 z1 => ?_
  split at z1
  · rename_i l q
    obtain ⟨a, xs, rfl, h1, h2⟩ := items_seq r1.sub q d1
    refine ⟨a, xs, rfl, h1, ?_⟩
    refine aft.next (DM := dnA X.K) (f := r) r1 z1 fun F2 H2 δ2 as vs r2 s2 d2 z2 => ?_
    exact z2 _ F2 H2 r2 (.refl _) (argsD_app (Dens.mono s2 _ _ h2) d2)
  · exact False.elim z1
/-- a part of a text -/
def slS (fa : DE → R D) (fl fh : DE → R (Option Int)) : DE → R D := fun δ => (fa δ).bind fun x δ => (fl δ).bind fun lo δ => (fh δ).bind fun hi δ => match x with
  | .str z => if z.length ≤ LIM then .ok (.str (cutS z lo hi)) δ else .stuck
  | _ => .stuck
theorem ve_sliceS {a : Expr} {fa : DE → R D} {pos : Pos} {lo hi : Option Expr} {fl fh : DE → R (Option Int)} {p2 : Pos} (ha : VE X W a fa) (hl : VO X W lo fl) (hh : VO X W hi fh) : VE X W (.Subscript a (.Slice lo hi none p2) pos) (slS fa fl fh) := PE.to (pe_slice sl_str ha hl hh) fun σ H Q z => by
  refine z.first (DM := dnE X.K) fun c F H1 δ x v r1 d1 z1 => ?_
  refine z1.next (DM := dnO) r1 fun F2 H2 δ2 lo v2 r2 s2 d2 z2 => ?_
  cases (show v2 = lo from d2)
  refine z2.next (DM := dnO) r2 fun F3 H3 δ3 hi v3 r3 s3 d3 z3 => ?_
  cases (show v3 = hi from d3)
  cases x <;> first | (exact False.elim z3; done) | skip
  rename_i z
  cases (show v = .str z from d1)
  replace z3 : aft X.K W (dnE X.K) c F3 σ Q (if z.length ≤ LIM then .ok (.str (cutS z lo hi)) δ3 else .stuck) := z3
  split at z3
  · rename_i hz
    exact ⟨z, rfl, Nat.le_trans hz (by decide), z3 _ F3 H3 r3 (.refl _) rfl⟩
  · exact False.elim z3
end
end PV

/-! PV44: readings of PV41..PV43 evaluated by simp. -/
namespace PV
open PySem PySem.Spec PyProof.Rows L2
section
variable {δ : DE} {i : Nat} {d e : D} {f g fk : DE → R D} {r : DE → R (List Arg)} {l : List D} {as : List Arg} {kk : List Key} {t : List (List Key × D)} {s : Sl} {neg : Bool}
def k_star1 (l : List D) (as : List Arg) (δ : DE) : R (List Arg) := .ok (l.map Arg.val ++ as) δ
def k_star2 (r : DE → R (List Arg)) (d : D) (δ : DE) : R (List Arg) := match itemsOf d with
  | some l => (r δ).bind (k_star1 l)
  | none => .stuck
@[simp] theorem ev_starA : starA f r δ = (f δ).bind (k_star2 r) := rfl
@[simp] theorem ev_kstarT : k_star2 r (.tup l) δ = (r δ).bind (k_star1 l) := rfl
@[simp] theorem ev_kstarL : k_star2 r (.lst l) δ = (r δ).bind (k_star1 l) := rfl
@[simp] theorem ev_kstar1 : k_star1 l as δ = .ok (l.map Arg.val ++ as) δ := rfl
@[simp] theorem valsOf_app : ∀ {l : List D}, valsOf (l.map Arg.val ++ as) = (valsOf as).map (l ++ ·)
  | [] => by simp
  | d :: l => by rw [List.map_cons, List.cons_append, valsOf_cons, valsOf_app (l := l)]; cases valsOf as <;> rfl
@[simp] theorem valsOf_comp {α : Type} {g : α → D} {l : List α} : valsOf (l.map (Arg.val ∘ g) ++ as) = (valsOf as).map (l.map g ++ ·) := by
  rw [← List.map_map]; exact valsOf_app
theorem keyDs_dat : ∀ (k : List Key), keyDs (k.map Key.dat) = some k
  | [] => rfl
  | k :: ks => by
    rw [List.map_cons]
    unfold keyDs
    rw [keyDs_dat ks]
    cases k <;> rfl
@[simp] theorem keyT_dat : keyT (.tup (kk.map Key.dat)) = some kk := keyDs_dat kk
def dInK (neg : Bool) (o : Option (Sl × MD)) (q : Option (List Key)) (δ : DE) : R D := match o, q with
  | some (_, .dcT l), some kk => .ok (.bl (if neg = true then !(valT l kk).isSome else (valT l kk).isSome)) δ
  | _, _ => .stuck
def k_dInT (neg : Bool) (i : Nat) (k : D) (δ : DE) : R D := dInK neg (mutOf δ i) (keyT k) δ
@[simp] theorem ev_dInT : dInT neg i fk δ = (fk δ).bind (k_dInT neg i) := rfl
@[simp] theorem ev_kdInT : k_dInT neg i d δ = dInK neg (mutOf δ i) (keyT d) δ := rfl
@[simp] theorem dInK_t : dInK true (some (s, .dcT t)) (some kk) δ = .ok (.bl (!(valT t kk).isSome)) δ := rfl
@[simp] theorem dInK_f : dInK false (some (s, .dcT t)) (some kk) δ = .ok (.bl (valT t kk).isSome) δ := rfl
def dPutK (o : Option (Sl × MD)) (q : Option (List Key)) (i : Nat) (d : D) (δ : DE) : O := match o, q with
  | some (s, .dcT l), some kk => if l.length < LIM then .nx (δ.set i (some (s.wr (.dcT (putT l kk d))))) else .stuck
  | _, _ => .stuck
def k_dPut1 (i : Nat) (d k : D) (δ : DE) : O := dPutK (mutOf δ i) (keyT k) i d δ
def dPutO (o : Option (Sl × MD)) (i : Nat) (fk : DE → R D) (d : D) (δ : DE) : O := match o with
  | some _ => bindS (fk δ) (k_dPut1 i d)
  | none => .stuck
def k_dPut (i : Nat) (fk : DE → R D) (d : D) (δ : DE) : O := dPutO (mutOf δ i) i fk d δ
@[simp] theorem ev_dPutT : dPutT i fk f δ = bindS (f δ) (k_dPut i fk) := rfl
@[simp] theorem ev_kdPut : k_dPut i fk d δ = dPutO (mutOf δ i) i fk d δ := rfl
@[simp] theorem dPutO_some {p : Sl × MD} : dPutO (some p) i fk d δ = bindS (fk δ) (k_dPut1 i d) := rfl
@[simp] theorem ev_kdPut1 : k_dPut1 i d e δ = dPutK (mutOf δ i) (keyT e) i d δ := rfl
@[simp] theorem dPutK_some : dPutK (some (s, .dcT t)) (some kk) i d δ = if t.length < LIM then .nx (δ.set i (some (s.wr (.dcT (putT t kk d))))) else .stuck := rfl
def dGetK (o : Option (Sl × MD)) (q : Option (List Key)) (δ : DE) : R D := match o, q with
  | some (_, .dcT l), some kk => R.of (valT l kk) δ
  | _, _ => .stuck
def k_dGet1 (i : Nat) (k : D) (δ : DE) : R D := dGetK (mutOf δ i) (keyT k) δ
def dGetO (o : Option (Sl × MD)) (i : Nat) (fk : DE → R D) (δ : DE) : R D := match o with
  | some _ => (fk δ).bind (k_dGet1 i)
  | none => .stuck
@[simp] theorem ev_dGetT : dGetT i fk δ = dGetO (mutOf δ i) i fk δ := rfl
@[simp] theorem dGetO_some {p : Sl × MD} : dGetO (some p) i fk δ = (fk δ).bind (k_dGet1 i) := rfl
@[simp] theorem ev_kdGet1 : k_dGet1 i d δ = dGetK (mutOf δ i) (keyT d) δ := rfl
@[simp] theorem dGetK_some : dGetK (some (s, .dcT t)) (some kk) δ = R.of (valT t kk) δ := rfl
def dOneK (q : Option (List Key)) (d : D) (δ : DE) : R MD := match q with
  | some kk => .ok (.dcT [(kk, d)]) δ
  | none => .stuck
def k_dOne1 (k d : D) (δ : DE) : R MD := dOneK (keyT k) d δ
def k_dOne (f : DE → R D) (k : D) (δ : DE) : R MD := (f δ).bind (k_dOne1 k)
@[simp] theorem ev_dOneT : dOneT fk f δ = (fk δ).bind (k_dOne f) := rfl
@[simp] theorem ev_kdOne : k_dOne f d δ = (f δ).bind (k_dOne1 d) := rfl
@[simp] theorem ev_kdOne1 : k_dOne1 d e δ = dOneK (keyT d) e δ := rfl
@[simp] theorem dOneK_some : dOneK (some kk) d δ = .ok (.dcT [(kk, d)]) δ := rfl
def lockK (o : Option (Option Sl)) (i : Nat) (δ : DE) : R D := match o with
  | some (some (.own (.dcT l))) => .ok (.dcF l) (δ.set i (some (.val (.dcF l))))
  | _ => .stuck
@[simp] theorem ev_lockE : lockE i δ = lockK δ[i]? i δ := rfl
@[simp] theorem lockK_own : lockK (some (some (.own (.dcT t)))) i δ = .ok (.dcF t) (δ.set i (some (.val (.dcF t)))) := rfl
def k_items (d : D) (δ : DE) : R (List D) := match d with
  | .dcF l => .ok (l.map fun kv => .tup [kTup kv.1, kv.2]) δ
  | _ => .stuck
@[simp] theorem ev_itemsT : itemsT f δ = (f δ).bind k_items := rfl
@[simp] theorem ev_kitems : k_items (.dcF t) δ = .ok (t.map fun kv => .tup [kTup kv.1, kv.2]) δ := rfl
@[simp] theorem ev_whileS {n : Nat} {c : DE → R Bool} {b : DE → O} : whileS n c b δ = whileF c b n δ := rfl
def slSK (lo : Option Int) (x : D) (hi : Option Int) (δ : DE) : R D := match x with
  | .str z => if z.length ≤ LIM then .ok (.str (cutS z lo hi)) δ else .stuck
  | _ => .stuck
def k_slS1 (x : D) (lo : Option Int) (hi : Option Int) (δ : DE) : R D := slSK lo x hi δ
def k_slS2 (fh : DE → R (Option Int)) (x : D) (lo : Option Int) (δ : DE) : R D := (fh δ).bind (k_slS1 x lo)
def k_slS3 (fl fh : DE → R (Option Int)) (x : D) (δ : DE) : R D := (fl δ).bind (k_slS2 fh x)
@[simp] theorem ev_slS {fl fh : DE → R (Option Int)} : slS f fl fh δ = (f δ).bind (k_slS3 fl fh) := rfl
@[simp] theorem ev_kslS3 {fl fh : DE → R (Option Int)} : k_slS3 fl fh d δ = (fl δ).bind (k_slS2 fh d) := rfl
@[simp] theorem ev_kslS2 {fh : DE → R (Option Int)} {lo : Option Int} : k_slS2 fh d lo δ = (fh δ).bind (k_slS1 d lo) := rfl
@[simp] theorem ev_kslS1 {lo hi : Option Int} {z : Str} : k_slS1 (.str z) lo hi δ = if z.length ≤ LIM then .ok (.str (cutS z lo hi)) δ else .stuck := rfl
end

/-! ### items of a slot's list, x += y -/
section
variable {δ : DE} {i : Nat} {d e : D} {f : DE → R D} {s : Sl} {l : List D} {o : D → D → Option D}
def ixSK (p : Option (Sl × MD)) (k : D) (δ : DE) : R D := match p, k with
  | some (_, .lst l), .int k => R.of (atI l k) δ
  | _, _ => .stuck
def k_ixS (i : Nat) (k : D) (δ : DE) : R D := ixSK (mutOf δ i) k δ
def ixSO (p : Option (Sl × MD)) (i : Nat) (f : DE → R D) (δ : DE) : R D := match p with
  | some _ => (f δ).bind (k_ixS i)
  | none => .stuck
@[simp] theorem ev_ixSl : ixSl i f δ = ixSO (mutOf δ i) i f δ := rfl
@[simp] theorem ixSO_some {p : Sl × MD} : ixSO (some p) i f δ = (f δ).bind (k_ixS i) := rfl
@[simp] theorem ev_kixS : k_ixS i d δ = ixSK (mutOf δ i) d δ := rfl
@[simp] theorem ixSK_some {k : Int} : ixSK (some (s, .lst l)) (.int k) δ = R.of (atI l k) δ := rfl
def augO (z : Option D) (i : Nat) (δ : DE) : O := match z with
  | some z => match setSl i (.val z) δ with
    | some δ => .nx δ
    | none => .stuck
  | none => .stuck
def k_aug (i : Nat) (o : D → D → Option D) (x y : D) (δ : DE) : O := augO (o x y) i δ
def augA (p : Option (Option Sl)) (i : Nat) (o : D → D → Option D) (f : DE → R D) (δ : DE) : O := match p with
  | some (some (.val x)) => bindS (f δ) (k_aug i o x)
  | _ => .stuck
@[simp] theorem ev_augS : augS i o f δ = augA δ[i]? i o f δ := rfl
@[simp] theorem augA_val : augA (some (some (.val d))) i o f δ = bindS (f δ) (k_aug i o d) := rfl
@[simp] theorem ev_kaug : k_aug i o d e δ = augO (o d e) i δ := rfl
@[simp] theorem augO_some : augO (some d) i δ = stK (setSl i (.val d) δ) := rfl
@[simp] theorem op_iadd {a b : Int} : iadd (.int a) (.int b) = some (.int (a + b)) := rfl
end
/-! ### tables -/
/-- a table of runs, by states -/
abbrev Tab := List (List Key × List Int)
abbrev runD (l : List Int) : D := .tup (l.map D.int)
def tabD (t : Tab) : List (List Key × D) := t.map fun p => (p.1, runD p.2)
def keysT (t : Tab) : List (List Key) := t.map (·.1)
theorem tabD_len (t : Tab) : (tabD t).length = t.length := List.length_map _
theorem val_tab {k : List Key} : ∀ {t : Tab}, valT (tabD t) k = (t.find? fun p => decide (p.1 = k)).map fun p => runD p.2
  | [] => rfl
  | p :: t => by
    unfold valT tabD
    rw [List.map_cons]
    by_cases q : p.1 = k
    · rw [List.find?_cons_of_pos (by simpa using q), List.find?_cons_of_pos (by simpa using q)]; rfl
    · rw [List.find?_cons_of_neg (by simpa using q), List.find?_cons_of_neg (by simpa using q)]
      exact val_tab (t := t)
theorem val_tab_some {k : List Key} {t : Tab} : (valT (tabD t) k).isSome = true ↔ k ∈ keysT t := by
  rw [val_tab, Option.isSome_map]
  induction t with
  | nil => simp [keysT]
  | cons p t ih =>
    by_cases q : p.1 = k
    · rw [List.find?_cons_of_pos (by simpa using q)]
      simp [keysT, q]
    · rw [List.find?_cons_of_neg (by simpa using q), ih]
      have q' : ¬ k = p.1 := fun z => q z.symm
      simp [keysT, q']
theorem val_tab_no {k : List Key} {t : Tab} (h : k ∉ keysT t) : (valT (tabD t) k).isSome = false := by
  rw [Bool.eq_false_iff]
  exact fun z => h (val_tab_some.mp z)
theorem val_tab_at {k : List Key} {run : List Int} : ∀ {t : Tab} {i : Nat}, (keysT t).Nodup → t[i]? = some (k, run) → valT (tabD t) k = some (runD run)
  | [], i, _, h => by simp at h
  | p :: t, 0, _, h => by
    have e : p = (k, run) := by simpa using h
    rw [val_tab, List.find?_cons_of_pos (by simp [e]), e]; rfl
  | p :: t, i + 1, hn, h => by
    have h : t[i]? = some (k, run) := by simpa using h
    have hm : k ∈ keysT t := List.mem_map.mpr ⟨(k, run), List.mem_of_getElem? h, rfl⟩
    have hn : p.1 ∉ keysT t ∧ (keysT t).Nodup := by simpa [keysT] using hn
    have q : ¬ p.1 = k := fun z => hn.1 (z ▸ hm)
    have ih := val_tab_at hn.2 h
    rw [val_tab] at ih ⊢
    rw [List.find?_cons_of_neg (by simpa using q)]
    exact ih
theorem put_tab {k : List Key} {run : List Int} {t : Tab} (h : k ∉ keysT t) : putT (tabD t) k (runD run) = tabD (t ++ [(k, run)]) := by
  unfold putT
  have e : ((tabD t).any fun kv => decide (kv.1 = k)) = false := by
    rw [Bool.eq_false_iff]
    intro z
    obtain ⟨x, hx, hk⟩ := List.any_eq_true.mp z
    obtain ⟨p, hp, rfl⟩ := List.mem_map.mp hx
    exact h (List.mem_map.mpr ⟨p, hp, by simpa using hk⟩)
  rw [e, if_neg Bool.false_ne_true]
  unfold tabD
  rw [List.map_append]; rfl
/-- one way on from a state that was reached by a run -/
noncomputable def grow (run : List Int) (t : Tab) (p : Int × List Key) : Tab := @ite _ (p.2 ∈ keysT t) (Classical.propDecidable _) t (t ++ [(p.2, run ++ [p.1])])
noncomputable def growAll (run : List Int) (t : Tab) (ms : List (Int × List Key)) : Tab := ms.foldl (grow run) t
noncomputable def bfs (mv : List Key → List (Int × List Key)) : Nat → Nat → Tab → Tab
  | 0, _, t => t
  | n + 1, i, t => match t[i]? with
    | some p => bfs mv n (i + 1) (growAll p.2 t (mv p.1))
    | none => t
theorem grow_pre {run : List Int} {t : Tab} {p : Int × List Key} {i : Nat} {x : List Key × List Int} (h : t[i]? = some x) : (grow run t p)[i]? = some x := by
  unfold grow
  split
  · exact h
  · rw [List.getElem?_append_left (List.getElem?_eq_some_iff.mp h).1]; exact h
theorem growAll_pre {run : List Int} {i : Nat} {x : List Key × List Int} : ∀ {ms : List (Int × List Key)} {t : Tab}, t[i]? = some x → (growAll run t ms)[i]? = some x
  | [], t, h => h
  | m :: ms, t, h => growAll_pre (ms := ms) (t := grow run t m) (grow_pre h)
theorem grow_nodup {run : List Int} {t : Tab} {p : Int × List Key} (h : (keysT t).Nodup) : (keysT (grow run t p)).Nodup := by
  unfold grow
  split
  · exact h
  · rename_i q
    unfold keysT at *
    rw [List.map_append]
    refine List.nodup_append.mpr ⟨h, by simp, fun a ha b hb => ?_⟩
    have : b = p.2 := by simpa using hb
    subst this
    exact fun z => q (z ▸ ha)
theorem growAll_nodup {run : List Int} : ∀ {ms : List (Int × List Key)} {t : Tab}, (keysT t).Nodup → (keysT (growAll run t ms)).Nodup
  | [], t, h => h
  | m :: ms, t, h => growAll_nodup (ms := ms) (t := grow run t m) (grow_nodup h)
theorem grow_all {P : List Key → List Int → Prop} {run : List Int} {t : Tab} {p : Int × List Key} (h : ∀ x ∈ t, P x.1 x.2) (hp : P p.2 (run ++ [p.1])) : ∀ x ∈ grow run t p, P x.1 x.2 := by
  unfold grow
  split
  · exact h
  · intro x hx
    rcases List.mem_append.mp hx with hx | hx
    · exact h x hx
    · have : x = (p.2, run ++ [p.1]) := by simpa using hx
      rw [this]; exact hp
theorem growAll_all {P : List Key → List Int → Prop} {run : List Int} : ∀ {ms : List (Int × List Key)} {t : Tab}, (∀ x ∈ t, P x.1 x.2) → (∀ p ∈ ms, P p.2 (run ++ [p.1])) → ∀ x ∈ growAll run t ms, P x.1 x.2
  | [], t, h, _ => h
  | m :: ms, t, h, hp => growAll_all (ms := ms) (t := grow run t m) (grow_all h (hp m List.mem_cons_self)) fun p hp' => hp p (List.mem_cons_of_mem _ hp')
theorem grow_len {run : List Int} {t : Tab} {p : Int × List Key} : t.length ≤ (grow run t p).length := by
  unfold grow
  split
  · exact Nat.le_refl _
  · rw [List.length_append]; omega
theorem growAll_len {run : List Int} : ∀ {ms : List (Int × List Key)} {t : Tab}, t.length ≤ (growAll run t ms).length
  | [], t => Nat.le_refl _
  | m :: ms, t => Nat.le_trans grow_len (growAll_len (ms := ms))
/-- numbers below a bound, none twice -/
theorem nodup_le : ∀ (n : Nat) (l : List Nat), l.Nodup → (∀ x ∈ l, x < n) → l.length ≤ n
  | 0, l, _, h => by
    cases l with
    | nil => exact Nat.le_refl _
    | cons x l => exact absurd (h x List.mem_cons_self) (Nat.not_lt_zero _)
  | n + 1, l, hn, h => by
    have ih := nodup_le n (l.erase n) (hn.erase n) fun x hx => by
      have h1 := (hn.mem_erase_iff).mp hx
      have h2 := h x h1.2
      have h3 := h1.1
      omega
    by_cases hm : n ∈ l
    · rw [List.length_erase_of_mem hm] at ih
      omega
    · rw [List.erase_of_not_mem hm] at ih
      omega
end PV

/-! PV45: sorted(d), d a dict whose keys are tuples of as many ints, of any number. -/
namespace PV
open PySem PySem.Spec PyProof.Rows L2
section
variable {prog : Program} {w : World} {A : Around} {E : Value → Shared → Prop} {s : Shared}
theorem swo_key {α : Type} (r : α → Int) : SrtO.Swo fun v u => decide (r v < r u) := by
  refine ⟨fun x y h => ?_, fun x y z h1 h2 => ?_⟩
  · have a := of_decide_eq_true h
    exact decide_eq_false (by omega)
  · have a := of_decide_eq_false h1
    have b := of_decide_eq_false h2
    exact decide_eq_false (by omega)
theorem tup_cmp {vs : List Value} {d : Nat} {B : Int} {r : Value → Int} (x : TS.TupsOk s.heap d B vs) (hr : ∀ v, v ∈ vs → ∀ ns, TS.TupInts s.heap v ns → r v = TS.code B ns) :
    SrtO.Cmp prog w A s (tuples' true) (fun p => p.1 ∈ vs) (SrtO.lt2 fun v u => decide (r v < r u)) := by
  intro p q hm hm'
  obtain ⟨ns, t1, l1, b1⟩ := x _ hm
  obtain ⟨ms, t2, l2, b2⟩ := x _ hm'
  have e1 := hr _ hm ns t1
  have e2 := hr _ hm' ms t2
  show wpAny (model prog w) A (keyLt' (tuples' true) p.1 q.1) (fun c s' => s' = s ∧ c = decide (r p.1 < r q.1)) (fun _ _ => False) s
  rw [e1, e2]
  obtain ⟨a, xs, ea, ⟨o, ho, hc, n, hd⟩, i1⟩ := t1
  obtain ⟨a', ys, ea', ⟨o', ho', hc', n', hd'⟩, i2⟩ := t2
  rw [ea, ea']
  refine PySem.W.kat_lt ho hd ho' hd' ?_
  have hsz : decide (xs.size < ys.size) = false := by
    have h1 := i1.length
    have h2 := i2.length
    rw [Array.length_toList] at h1 h2
    exact decide_eq_false (by omega)
  rw [hsz]
  exact TS.lex_ints 0 i1 i2 (by omega) b1 b2 ⟨rfl, rfl⟩
theorem tups_sortableO {a : Addr} {vs : List Value} {d : Nat} {B : Int} {r : Value → Int} (h0 : 0 < vs.length) (hd : 1 ≤ d) (x : TS.TupsOk s.heap d B vs) (hr : ∀ v, v ∈ vs → ∀ ns, TS.TupInts s.heap v ns → r v = TS.code B ns) (ha : ∀ o, s.heap.get? a = some o → o.cls ≠ .type "tuple") :
    SrtO.SortableO prog w A s a vs fun v u => decide (r v < r u) := by
  intro h' keep
  have kp : ∀ b o, s.heap.get? b = some o → o.cls = .type "tuple" → h'.get? b = some o := fun b o e c => keep b o (fun z => by subst z; exact ha o e c) e
  have x' := x.keeps kp
  obtain ⟨fs, h1, h2, h3⟩ := TS.firsts_of hd vs x'
  refine ⟨tuples' true, fun Q E hq => ?_, tup_cmp (s := { s with heap := h' }) x' fun v hv ns t => ?_⟩
  · refine PySem.W.kat_kind (T := .type "int") h1 (by omega) (fun f hm => ?_) (by rfl) ?_
    · obtain ⟨y, t, rfl⟩ := h3 f hm
      exact PySem.W.Looks.now
    · have e : (Value.type "int" != Value.type "tuple") = true := by first | decide +kernel | rfl | decide
      rw [e]
      exact hq
  · obtain ⟨ns0, t0, _⟩ := x v hv
    have e : ns = ns0 := t.ints.symm.trans (t0.keeps kp).ints
    rw [e]
    exact hr v hv ns0 t0
end
theorem perm_map_inv {α β : Type} (f : α → β) {l : List β} : ∀ (m : List α), l.Perm (m.map f) → ∃ m' : List α, m'.Perm m ∧ m'.map f = l := by
  intro m h
  generalize e : m.map f = n at h
  induction h generalizing m with
  | nil =>
    have : m = [] := List.map_eq_nil_iff.mp e
    exact ⟨[], by rw [this], rfl⟩
  | cons x _ ih =>
    cases m with
    | nil => cases e
    | cons a m =>
      rw [List.map_cons] at e
      injection e with e1 e2
      obtain ⟨m', h1, h2⟩ := ih m e2
      exact ⟨a :: m', h1.cons a, by rw [List.map_cons, h2, e1]⟩
  | swap x y l =>
    cases m with
    | nil => cases e
    | cons a m =>
      cases m with
      | nil => simp at e
      | cons b m =>
        rw [List.map_cons, List.map_cons] at e
        injection e with e1 e2
        injection e2 with e2 e3
        exact ⟨b :: a :: m, List.Perm.swap a b m, by rw [List.map_cons, List.map_cons, e1, e2, e3]⟩
  | trans _ _ ih1 ih2 =>
    obtain ⟨m2, h1, h2⟩ := ih2 m e
    obtain ⟨m1, h3, h4⟩ := ih1 m2 h2
    exact ⟨m1, h3.trans h1, h4⟩
/-- keys of as many ints, all below a bound -/
def IntKeys (d : Nat) (B : Int) (kvs : List (List Key × V)) : Prop := ∀ p ∈ kvs, ∃ ns : List Int, p.1 = ns.map Sum.inl ∧ ns.length = d ∧ TS.Bd B ns
def rSortDT (d : Nat) (B : Int) : List V → Hp → VK → Prop := fun xs H Q => ∃ (a : Addr) (kvs : List (List Key × V)), xs = [.ref a] ∧ Rd H a (.dT kvs) ∧ IntKeys d B kvs ∧
  ∀ p (bs : List (Addr × List Int)), H p = none → (bs.map fun b => b.2.map (Sum.inl : Int → Key)).Perm (kvs.map (·.1)) → (∀ b ∈ bs, H b.1 = some (.tup (b.2.map V.int)) ∧ b.2.length = d ∧ TS.Bd B b.2) → bs.Pairwise (fun b c => TS.code B b.2 ≤ TS.code B c.2) →
    Q (.ref p) (upd H p (.lst (bs.map fun b => V.ref b.1)))
section
variable {X : Cx}
theorem kV_ints (ns : List Int) : (ns.map (Sum.inl : Int → Key)).map kV = ns.map V.int := by rw [List.map_map]; rfl
theorem ints_vals : ∀ {ns : List Int} {us : List Value}, Vals (ns.map V.int) us → IntsAre us ns
  | [], _, r => by rw [List.map_nil] at r; cases r; exact .nil
  | n :: ns, _, r => by
    rw [List.map_cons] at r
    cases r with
    | cons h t => obtain ⟨t', rfl⟩ := h; exact .cons n t' (ints_vals t)
theorem cr_sortedDT {d : Nat} {B : Int} (hc : X.calm = true) (hd : 1 ≤ d) : CallR X (.builtin "sorted") (rSortDT d B) := by
  intro pins s σ H xs us Q I r h
  obtain ⟨a, kvs, rfl, hrd, hk, q⟩ := h
  obtain ⟨u, rfl, rx⟩ := Vals.one r
  cases rx
  obtain ⟨z, hs, ks, pr, o, es, ep, ho, hx, hdt, he, hn⟩ := (show ObjOk X.prog X.w H s.heap a (.dT kvs) from hrd.ok I.hok)
  have l1 : es.size = ks.length := size_of_entries he
  have l2 : kvs.length = ks.length := Paired.length pr
  -- the keys' tuples, with their ints
  have hbs : ∃ bs : List (Addr × List Int), (bs.map fun b => b.2.map (Sum.inl : Int → Key)) = kvs.map (·.1) ∧ (bs.map (·.1)) = ks.map (fun x => x.2.1) ∧ ∀ b ∈ bs, H b.1 = some (.tup (b.2.map V.int)) ∧ b.2.length = d ∧ TS.Bd B b.2 := by
    clear q l1 l2 hn he hrd
    induction pr with
    | nil => exact ⟨[], rfl, rfl, fun b hb => (nomatch hb)⟩
    | @cons p x ps xs h t ih =>
      obtain ⟨bs, e1, e2, e3⟩ := ih (fun y hy => hk y (List.mem_cons_of_mem _ hy)) (Nat.le_trans (Nat.le_succ _) z)
      obtain ⟨ns, g1, g2, g3⟩ := hk p List.mem_cons_self
      refine ⟨(x.2.1, ns) :: bs, by rw [List.map_cons, List.map_cons, e1, g1], by rw [List.map_cons, List.map_cons, e2], fun b hb => ?_⟩
      rcases List.mem_cons.mp hb with rfl | hb
      · refine ⟨?_, g2, g3⟩
        have := h.2.1
        rw [g1, kV_ints] at this
        exact this
      · exact e3 b hb
  obtain ⟨bs, e1, e2, e3⟩ := hbs
  refine Calls.call_function_entry PyProof.Rows.kind_sorted PyProof.Rows.plain_sorted PyProof.Rows.entry_sorted (PyProof.Rows.args_sorted1 _) ?_
  unfold Builtin.«sorted»
  refine wpAny_bind (m := checkCount "sorted" 1 1 _) (wpAny_pure ?_)
  refine wpAny_bind (PySem.W.kdu_collect (A := X.A.in1) (L2.kdl_raw hs hx hdt) (I.ok.hd hc) ho (by omega) fun h' tk acc kp it => ?_)
  have ea : acc.toList = bs.map fun b => Value.ref b.1 := by
    have hl : acc.toList.length = ks.length := by rw [Array.length_toList, it.1]; exact l1
    have eb : (bs.map fun b => Value.ref b.1) = (ks.map fun x => x.2.1).map Value.ref := by rw [← e2, List.map_map]; rfl
    rw [eb, List.map_map]
    apply List.ext_getElem?
    intro j
    rw [List.getElem?_map]
    cases hj : acc.toList[j]? with
    | none =>
      have h1 := List.getElem?_eq_none_iff.mp hj
      rw [List.getElem?_eq_none (by omega)]
      all_goals rfl
    | some v =>
      obtain ⟨en, hen, hv⟩ := it.2 j v (by rw [← Array.getElem?_toList]; exact hj)
      have qe := entry_at he j
      rw [hen] at qe
      cases hb : ks[j]? with
      | none =>
        rw [hb] at qe
        exact nomatch (show some en = none from qe)
      | some b =>
        rw [hb] at qe
        have e2 : en = entryOfKey (tupleKind (mixKind X.prog X.w)) b := Option.some.inj qe
        rw [hv, e2]
        all_goals rfl
  have I1 : Inv X pins σ H { s with heap := h', toks := tk } := I.kept kp
  have hzl : acc.toList.length ≤ sizeLine := by rw [Array.length_toList, it.1]; omega
  refine wpAny_bind (wpAny_newList ?_ hzl)
  have hoL : (h'.push (seqObj "list" acc.toList.toArray 0)).get? h'.objs.size = some (seqObj "list" acc.toList.toArray 0) := Heap.get?_push_size _ rfl
  have htup : ∀ b ∈ bs, TS.TupInts (h'.push (seqObj "list" acc.toList.toArray 0)) (.ref b.1) b.2 := fun b hb => by
    obtain ⟨_, its, rv, ot, h1, h2, n, h3⟩ := (show ObjOk X.prog X.w H h' b.1 (.tup (b.2.map V.int)) from I1.hok _ _ (e3 b hb).1)
    exact ⟨b.1, its.toArray, rfl, ⟨ot, Heap.get?_push_of_some _ h1, h2, n, h3⟩, by simpa using ints_vals rv⟩
  have x : TS.TupsOk (h'.push (seqObj "list" acc.toList.toArray 0)) d B acc.toList := fun v hv => by
    rw [ea] at hv
    obtain ⟨b, hb, rfl⟩ := List.mem_map.mp hv
    exact ⟨b.2, htup b hb, (e3 b hb).2⟩
  let rr : Value → Int := fun v => TS.code B (TS.intsOf (h'.push (seqObj "list" acc.toList.toArray 0)) v)
  have hrr : ∀ v, v ∈ acc.toList → ∀ ns, TS.TupInts (h'.push (seqObj "list" acc.toList.toArray 0)) v ns → rr v = TS.code B ns := fun v _ ns t => by
    show TS.code B (TS.intsOf _ v) = _
    rw [t.ints]
  show wpAny _ _ _ _ _ { s with heap := h'.push (seqObj "list" acc.toList.toArray 0), toks := tk }
  refine wpAny_bind (wpAny_holding (wpAny_call_entry PyProof.Rows.slot_list_sort ⟨_, hoL, rfl⟩ PyProof.Rows.entry_list_sort (SrtO.list_sort_ord (swo_key rr) hoL hzl (fun h2 => ?_) fun out hso hst => ⟨_, rfl, wpAny_pure ?_⟩) (PyProof.Rows.args_list_sort _)))
  · refine tups_sortableO (by omega) hd x hrr fun o' e => ?_
    rw [hoL] at e
    cases e
    intro c'
    exact absurd (Value.type.inj c') (by decide)
  · -- the sorted list
    obtain ⟨bs', p1, p2⟩ := perm_map_inv (l := out) (fun b : Addr × List Int => Value.ref b.1) bs (by rw [← ea]; exact hst.perm)
    obtain ⟨e', he'⟩ := PyProof.Rows.sortedHeap_at (vs := acc.toList) (out := out.toArray) hoL
    have hlb : bs'.length = kvs.length := by
      rw [p1.length_eq]
      have := congrArg List.length e1
      rw [List.length_map, List.length_map] at this
      exact this
    have hlen : (bs'.map fun b => V.ref b.1).length ≤ sizeLine := by rw [List.length_map, hlb]; exact z
    have hv : Vals (bs'.map fun b => V.ref b.1) out := by
      rw [← p2]
      have := vals_refs (bs'.map (·.1))
      rw [List.map_map, List.map_map] at this
      exact this
    refine ⟨_, rfl, .ref h'.objs.size, upd H h'.objs.size (.lst (bs'.map fun b => V.ref b.1)), I1.laid (t' := tk) (fun b u e => ?_) (Nat.le_refl _)
      (show ObjOk X.prog X.w _ _ _ (.lst (bs'.map fun b => V.ref b.1)) from ⟨hlen, out, e', hv, he'⟩), rfl, q h'.objs.size bs' (I1.hok.fresh (Nat.le_refl _)) ?_ (fun b hb => e3 b (p1.mem_iff.mp hb)) ?_⟩
    · have hb : b < h'.objs.size := Heap.lt_size e
      show (sortedHeap _ _ _ _).get? b = some u
      rw [PyProof.Rows.sortedHeap_old (Nat.ne_of_lt hb) (by rw [size_push']; exact Nat.lt_succ_of_lt hb)]
      exact Heap.get?_push_of_some _ e
    · rw [← e1]; exact p1.map _
    · rw [← p2] at hso
      have hso := List.pairwise_map.mp hso
      refine List.Pairwise.imp_of_mem (fun {b c} hb hc h => ?_) hso
      have h := of_decide_eq_false h
      have hb := p1.mem_iff.mp hb
      have hc := p1.mem_iff.mp hc
      rw [hrr (.ref b.1) (by rw [ea]; exact List.mem_map.mpr ⟨b, hb, rfl⟩) _ (htup b hb), hrr (.ref c.1) (by rw [ea]; exact List.mem_map.mpr ⟨c, hc, rfl⟩) _ (htup c hc)] at h
      omega
end
end PV

/-! PV46: sorted(d) on data; list.pop(); x in a slot's list, items of any depth. -/
namespace PV
open PySem PySem.Spec PyProof.Rows L2
variable [Tbl]
/-! ### tuples of ints in their order -/
abbrev BB : Int := 18446744073709551616
def intsK : List Key → Option (List Int)
  | [] => some []
  | .inl i :: ks => (intsK ks).map (i :: ·)
  | .inr _ :: _ => none
def okK (d : Nat) (k : List Key) : Bool := match intsK k with
  | some ns => decide (ns.length = d) && ns.all fun i => decide (0 ≤ i) && decide (i < BB)
  | none => false
def numK (k : List Key) : Int := TS.code BB ((intsK k).getD [])
/-- the keys, ascending -/
def sortT (ks : List (List Key)) : List (List Key) := ks.mergeSort fun a b => decide (numK a ≤ numK b)
def sortKs (l : List (List Key × D)) : Option MD := match l.map (·.1) with
  | [] => some (.lst [])
  | k :: ks => if 1 ≤ k.length ∧ (k :: ks).all (okK k.length) = true then some (.lst ((sortT (k :: ks)).map fun k => kTup k)) else none
def sortedT : List D → Option MD
  | [.dcF l] => sortKs l
  | [.dcT l] => sortKs l
  | _ => none
section
omit [Tbl]
theorem intsK_map (ns : List Int) : intsK (ns.map Sum.inl) = some ns := by
  induction ns with
  | nil => rfl
  | cons n ns ih => show (intsK (ns.map Sum.inl)).map (n :: ·) = _; rw [ih]; rfl
theorem intsK_eq : ∀ {k : List Key} {ns : List Int}, intsK k = some ns → k = ns.map Sum.inl
  | [], ns, h => by cases h; rfl
  | .inl i :: ks, ns, h => by
    obtain ⟨ms, h1, rfl⟩ := Option.map_eq_some_iff.mp h
    rw [intsK_eq h1]; rfl
  | .inr _ :: _, _, h => by cases h
theorem okK_is {d : Nat} {k : List Key} (h : okK d k = true) : ∃ ns : List Int, k = ns.map Sum.inl ∧ ns.length = d ∧ TS.Bd BB ns := by
  unfold okK at h
  split at h
  · rename_i ns q
    obtain ⟨h1, h2⟩ := Bool.and_eq_true_iff.mp h
    refine ⟨ns, intsK_eq q, of_decide_eq_true h1, fun m hm => ?_⟩
    have := List.all_eq_true.mp h2 m hm
    obtain ⟨h3, h4⟩ := Bool.and_eq_true_iff.mp this
    exact ⟨of_decide_eq_true h3, of_decide_eq_true h4⟩
  · cases h
theorem code_uniq {B : Int} : ∀ {a b : List Int}, a.length = b.length → TS.Bd B a → TS.Bd B b → TS.code B a = TS.code B b → a = b
  | [], [], _, _, _, _ => rfl
  | [], _ :: _, h, _, _, _ => by simp at h
  | _ :: _, [], h, _, _, _ => by simp at h
  | x :: a, y :: b, h, h1, h2, e => by
    have hl : a.length = b.length := by simpa using h
    rcases Int.lt_trichotomy x y with q | q | q
    · have := TS.code_lt (d := x) (e := y) hl h1.tail h2.tail q
      omega
    · subst q
      have n1 : ¬ TS.code B a < TS.code B b := fun z => by have := (TS.code_same (d := x) hl).mpr z; omega
      have n2 : ¬ TS.code B b < TS.code B a := fun z => by have := (TS.code_same (d := x) hl.symm).mpr z; omega
      rw [code_uniq hl h1.tail h2.tail (by omega)]
    · have := TS.code_lt (d := y) (e := x) hl.symm h2.tail h1.tail q
      omega
/-- two ascending rows of the same things are alike -/
theorem asc_same {α : Type} {f : α → Int} : ∀ {l m : List α}, l.Perm m → l.Pairwise (fun a b => f a ≤ f b) → m.Pairwise (fun a b => f a ≤ f b) → (∀ a ∈ l, ∀ b ∈ l, f a = f b → a = b) → l = m
  | [], m, p, _, _, _ => (List.Perm.nil_eq p).symm ▸ rfl
  | a :: l, [], p, _, _, _ => by have := p.length_eq; simp at this
  | a :: l, b :: m, p, h1, h2, inj => by
    have hb : b ∈ a :: l := p.mem_iff.mpr List.mem_cons_self
    have ha : a ∈ b :: m := p.mem_iff.mp List.mem_cons_self
    have e1 : f a ≤ f b := by
      rcases List.mem_cons.mp hb with e | h
      · rw [e]; exact Int.le_refl _
      · exact (List.pairwise_cons.mp h1).1 b h
    have e2 : f b ≤ f a := by
      rcases List.mem_cons.mp ha with e | h
      · rw [e]; exact Int.le_refl _
      · exact (List.pairwise_cons.mp h2).1 a h
    have e : a = b := inj a List.mem_cons_self b hb (by omega)
    subst e
    rw [asc_same (List.Perm.cons_inv p) (List.pairwise_cons.mp h1).2 (List.pairwise_cons.mp h2).2 fun x hx y hy => inj x (List.mem_cons_of_mem _ hx) y (List.mem_cons_of_mem _ hy)]
theorem sortT_perm (ks : List (List Key)) : (sortT ks).Perm ks := List.mergeSort_perm _ _
theorem sortT_asc (ks : List (List Key)) : (sortT ks).Pairwise fun a b => numK a ≤ numK b := by
  have := List.pairwise_mergeSort (le := fun a b => decide (numK a ≤ numK b)) (fun a b c h1 h2 => by simp only [decide_eq_true_eq] at *; omega) (fun a b => by simp only [Bool.or_eq_true, decide_eq_true_eq]; omega) ks
  exact this.imp fun {a b} h => of_decide_eq_true h
theorem numK_ints (ns : List Int) : numK (ns.map Sum.inl) = TS.code BB ns := by unfold numK; rw [intsK_map]; rfl
theorem num_inj {d : Nat} {a b : List Key} (h : okK d a = true) (h' : okK d b = true) (e : numK a = numK b) : a = b := by
  obtain ⟨ns, rfl, l1, b1⟩ := okK_is h
  obtain ⟨ms, rfl, l2, b2⟩ := okK_is h'
  rw [numK_ints, numK_ints] at e
  rw [code_uniq (by omega) b1 b2 e]
theorem sortT_same {d : Nat} {ks ls : List (List Key)} (h : ks.Perm ls) (ok : ∀ k ∈ ks, okK d k = true) : sortT ks = sortT ls :=
  asc_same (((sortT_perm ks).trans h).trans (sortT_perm ls).symm) (sortT_asc ks) (sortT_asc ls) fun a ha b hb e => num_inj (ok a ((sortT_perm ks).mem_iff.mp ha)) (ok b ((sortT_perm ks).mem_iff.mp hb)) e
end

/-! ### the call -/
section
variable {K : PySem.W.Frag} {c : Cq} {F H : Hp} {σ : L2.St} {δ : DE}
theorem DenH.dT (s : Same F H) {l : List (List Key × D)} {v : V} {d : D} (e : d = .dcF l ∨ d = .dcT l) (h : DenH K F H d v) : ∃ a kvs, v = .ref a ∧ Rd H a (.dT kvs) ∧ DenT K F l kvs := by
  rcases e with rfl | rfl
  · rcases h with ⟨a, od, kvs, e, h1, h2⟩ | ⟨m, a, o, e, _⟩
    · exact ⟨a, kvs, e, .inr ⟨od, s _ _ h1⟩, h2⟩
    · cases m <;> cases e
  · rcases h with ⟨a, kvs, e, h1, h2⟩ | ⟨m, a, o, e, e1, h1, h2⟩
    · exact ⟨a, kvs, e, .inl (s _ _ h1), h2⟩
    · cases m with
      | dcT l' =>
        cases e
        obtain ⟨kvs, rfl, h2⟩ := mden_dcT h2
        exact ⟨a, kvs, e1, .inl h1, h2⟩
      | lst l' => cases e
      | dct l' => cases e
      | ins c l' => cases e
theorem DenT.keys : ∀ {l : List (List Key × D)} {kvs : List (List Key × V)}, DenT K F l kvs → kvs.map (·.1) = l.map (·.1)
  | [], _, h => by rw [show _ = _ from h]; rfl
  | (k, d) :: l, _, ⟨v, r, e, _, h⟩ => by rw [e, List.map_cons, List.map_cons, h.keys]
/-- tuples of the heap are taken among what stays -/
theorem Rel.adoptAll (r : Rel K c F H σ δ) : ∀ (bs : List (Addr × List Int)), (∀ b ∈ bs, H b.1 = some (.tup (b.2.map V.int))) → ∃ F', Rel K c F' H σ δ ∧ Same F F' ∧ Dens K F' (bs.map fun b => kTup (b.2.map Sum.inl)) (bs.map fun b => V.ref b.1)
  | [], _ => ⟨F, r, .refl _, rfl⟩
  | b :: bs, h => by
    obtain ⟨F1, r1, s1, d1⟩ := r.adoptAll bs fun x hx => h x (List.mem_cons_of_mem _ hx)
    obtain ⟨F2, r2, s2, h2⟩ := r1.adopt (h b List.mem_cons_self)
    refine ⟨F2, r2, s1.trans s2, ?_⟩
    rw [List.map_cons, List.map_cons]
    refine Dens.cons ⟨b.1, _, rfl, h2, ?_⟩ (Dens.mono s2 _ _ d1)
    have := dens_keys (K := K) (F := F2) (b.2.map Sum.inl)
    rw [kV_ints] at this
    exact this
end
section
variable {X : Cx} {W : WX} {pos : Pos}
theorem b_sortedT (hc : X.calm = true) : Bn X (.builtin "sorted") sortedT := by
  have hcr : CallR X (.builtin "sorted") (fun xs H Q => ∃ d, 1 ≤ d ∧ rSortDT d BB xs H Q) := fun pins s σ H xs us Q I r h => by
    obtain ⟨d, hd, h⟩ := h
    exact cr_sortedDT hc hd pins s σ H xs us Q I r h
  refine ⟨_, hcr, fun c F H σ δ ds z vs Q r d1 q k => ?_⟩
  have hds : ∃ d l, ds = [d] ∧ (d = .dcF l ∨ d = .dcT l) ∧ sortKs l = some z := by
    unfold sortedT at q
    split at q
    · exact ⟨_, _, rfl, .inl rfl, q⟩
    · exact ⟨_, _, rfl, .inr rfl, q⟩
    · cases q
  obtain ⟨d, l, rfl, hd, q⟩ := hds
  obtain ⟨v, rfl, h⟩ := densH1 d1
  obtain ⟨a, kvs, rfl, h1, h2⟩ := h.dT r.sub hd
  have hkeys := h2.keys
  have hz : ∃ dd, 1 ≤ dd ∧ (∀ k ∈ l.map (·.1), okK dd k = true) ∧ z = .lst ((sortT (l.map (·.1))).map fun k => kTup k) := by
    unfold sortKs at q
    split at q
    · rename_i e
      cases q
      refine ⟨1, Nat.le_refl _, fun k hk => ?_, ?_⟩
      · rw [e] at hk; cases hk
      · rw [e]; simp [sortT]
    · rename_i k0 ks e
      split at q
      · rename_i hc
        cases q
        rw [e]
        exact ⟨k0.length, hc.1, fun x hx => List.all_eq_true.mp hc.2 x hx, rfl⟩
      · cases q
  obtain ⟨dd, hdd, hok, rfl⟩ := hz
  refine ⟨dd, hdd, a, kvs, rfl, h1, fun p hp => ?_, fun p bs hp hperm hbs hasc => ?_⟩
  · exact okK_is (hok p.1 (by rw [← hkeys]; exact List.mem_map.mpr ⟨p, hp, rfl⟩))
  · obtain ⟨F', r', s', dd'⟩ := r.adoptAll bs fun b hb => (hbs b hb).1
    rw [hkeys] at hperm
    have hks : (bs.map fun b => b.2.map (Sum.inl : Int → Key)) = sortT (l.map (·.1)) := by
      refine asc_same (f := numK) (hperm.trans (sortT_perm _).symm) ?_ (sortT_asc _) fun x hx y hy e => num_inj (hok x (hperm.mem_iff.mp hx)) (hok y (hperm.mem_iff.mp hy)) e
      refine List.pairwise_map.mpr (hasc.imp fun {b c} h => ?_)
      rw [numK_ints, numK_ints]; exact h
    have hden : Dens X.K F' ((sortT (l.map (·.1))).map fun k => kTup k) (bs.map fun b => V.ref b.1) := by
      rw [← hks, List.map_map]
      exact dd'
    obtain ⟨g1, g2⟩ := r'.fresh (o := .lst (bs.map fun b : Addr × List Int => V.ref b.1)) (m := .lst ((sortT (l.map fun x : List Key × D => x.1)).map fun k => kTup k)) hp hden
    exact k _ _ _ g1 s' g2

/-! ### list.pop() -/
def popE (i : Nat) : DE → R D := fun δ => match mutOf δ i with
  | some (s, .lst l) => match l.getLast? with
    | some d => .ok d (δ.set i (some (s.wr (.lst l.dropLast))))
    | none => .stuck
  | _ => .stuck
theorem Dens.dropLast {K : PySem.W.Frag} {F : Hp} {ds : List D} {vs : List V} (h : Dens K F ds vs) : Dens K F ds.dropLast vs.dropLast := by
  rw [List.dropLast_eq_take, List.dropLast_eq_take, h.length]
  exact Dens.take _ h
theorem ve_pop (i : Nat) {x : Str} {px apos cpos : Pos} (hN : X.N[i]? = some x := by rfl) (hv : Vis X.env.scope x := by first | exact Or.inl rfl | exact Or.inr (Or.inl rfl) | exact Or.inr (Or.inr rfl)) (hd : (x == ("__debug__" : Str)) = false := by decide) (hcd : (x == ("__classdict__" : Str)) = false := by decide)
    (hbase : attributeBase (.Name x px) "pop" X.env (eval (.Name x px) X.env) = eval (.Name x px) X.env := by rfl) (hline : (apos.endLine == cpos.line) = true := by rfl) :
    VE X W (.Call (.Attribute (.Name x px) "pop" apos) [] [] cpos) (popE i) :=
  PE.to (pe_bm0 PySem.F.plainAttrs_list PySem.F.slot_list_pop PySem.F.type_list_pop mt_pop (pe_var hN hv hd hcd) hbase hline) fun σ H Q z => by
    obtain ⟨c, F, δ, r, z⟩ := z
    unfold popE at z
    split at z
    · rename_i s l q
      obtain ⟨q1, q2⟩ := mutOf_some q
      obtain ⟨a, o, h1, h2, h3, h4⟩ := r.mutAt q1 q2
      obtain ⟨xs, rfl, h3⟩ := mden_lst h3
      split at z
      · rename_i d hl
        rw [List.getLast?_eq_getElem?] at hl
        obtain ⟨v, g1, g2⟩ := h3.get hl
        rw [← h3.length] at g1
        refine ⟨.ref a, h1, .inl ⟨rfl, xs, .inl (.inl h2)⟩, a, xs, v, rfl, rfl, h2, g1, ?_⟩
        exact z _ F _ (r.write (m' := .lst l.dropLast) (o' := .lst xs.dropLast) q1 q2 h1 h3.dropLast) (.refl _) g2
      · exact False.elim z
    · exact False.elim z

/-! ### x in l, l a slot's list -/
def inSl (neg : Bool) (i : Nat) (fk : DE → R D) : DE → R D := fun δ => (fk δ).bind fun x δ => match mutOf δ i with
  | some (_, .lst l) => match x.py, D.pys l with
    | some p, some ps => if SeqAt.shaped p = true ∧ SeqAt.shaped (.list ps) = true ∧ p.depth ≤ 60 then .ok (.bl (if neg = true then !(ps.any fun z => PyData.eqv z p) else ps.any fun z => PyData.eqv z p)) δ else .stuck
    | _, _ => .stuck
  | _ => .stuck
def rInDs (K : PySem.W.Frag) (neg : Bool) : R2 := fun x y H Q => ∃ d ds, Dp K H x d ∧ Dp K H y (.list ds) ∧ SeqAt.shaped d = true ∧ SeqAt.shaped (.list ds) = true ∧ d.depth ≤ 60 ∧ Q (.bl (if neg = true then !(ds.any fun z => PyData.eqv z d) else ds.any fun z => PyData.eqv z d)) H
theorem op_inDs (hu : X.A.units + 64 < cLine) : OpR X (compareOp .In) (rInDs X.K false) := by
  intro pins s σ H x y v u Q I rx ry h
  obtain ⟨d, ds, hd, he, sd, se, h6, q⟩ := h
  obtain ⟨as, r1⟩ := Dp.reads I d x v hd rx
  obtain ⟨bs, r2⟩ := Dp.reads I (.list ds) y u he ry
  exact SeqAt.in_list_reads r2 r1 (SeqAt.canLay_of_shaped se) (SeqAt.canLay_of_shaped sd) (by have := Nat.min_le_right (PyData.depthAll ds) d.depth; omega) ⟨.bl _, H, I, rfl, q⟩
theorem op_notInDs (hu : X.A.units + 64 < cLine) : OpR X (compareOp .NotIn) (rInDs X.K true) := by
  intro pins s σ H x y v u Q I rx ry h
  obtain ⟨d, ds, hd, he, sd, se, h6, q⟩ := h
  obtain ⟨as, r1⟩ := Dp.reads I d x v hd rx
  obtain ⟨bs, r2⟩ := Dp.reads I (.list ds) y u he ry
  exact SeqAt.notIn_list_reads r2 r1 (SeqAt.canLay_of_shaped se) (SeqAt.canLay_of_shaped sd) (by have := Nat.min_le_right (PyData.depthAll ds) d.depth; omega) ⟨.bl _, H, I, rfl, q⟩
theorem rd_inSl {neg : Bool} {i : Nat} {fk : DE → R D} {σ : L2.St} {H : Hp} {Q : VK} (z : rdE X.K W (inSl neg i fk) σ H Q) : tOp (rInDs X.K neg) (rdE X.K W fk) (tVar i) σ H Q := by
  refine z.first (DM := dnE X.K) fun c F H1 δ x v r1 d1 z1 => ?_
  split at z1
  · rename_i s l q
    obtain ⟨q1, q2⟩ := mutOf_some q
    obtain ⟨a, o, h1, h2, h3, h4⟩ := r1.mutAt q1 q2
    obtain ⟨xs, rfl, h3⟩ := mden_lst h3
    split at z1
    · rename_i p ps e1 e2
      split at z1
      · rename_i hc
        refine ⟨.ref a, h1, p, ps, py_dp r1.sub e1 d1, .lst (.inl (.inl h2)) (pys_dp r1.sub e2 h3), hc.1, hc.2.1, hc.2.2, ?_⟩
        exact z1 _ F H1 r1 (.refl _) rfl
      · exact False.elim z1
    · exact False.elim z1
  · exact False.elim z1
theorem ve_inSl (hu : X.A.units + 64 < cLine) (i : Nat) {x : Str} {px : Pos} {a : Expr} {fk : DE → R D} (hk : VE X W a fk) (hm : behindInMarks .In (.Name x px) = false := by rfl) (hN : X.N[i]? = some x := by rfl) (hv : Vis X.env.scope x := by first | exact Or.inl rfl | exact Or.inr (Or.inl rfl) | exact Or.inr (Or.inr rfl)) (hd : (x == ("__debug__" : Str)) = false := by decide)
    (hcd : (x == ("__classdict__" : Str)) = false := by decide) : VE X W (.Compare a [.In] [.Name x px] pos) (inSl false i fk) := PE.to (pe_cmpR (op_inDs hu) hk (pe_var hN hv hd hcd) hm) fun σ H Q z => rd_inSl z
theorem ve_notInSl (hu : X.A.units + 64 < cLine) (i : Nat) {x : Str} {px : Pos} {a : Expr} {fk : DE → R D} (hk : VE X W a fk) (hm : behindInMarks .NotIn (.Name x px) = false := by rfl) (hN : X.N[i]? = some x := by rfl) (hv : Vis X.env.scope x := by first | exact Or.inl rfl | exact Or.inr (Or.inl rfl) | exact Or.inr (Or.inr rfl)) (hd : (x == ("__debug__" : Str)) = false := by decide)
    (hcd : (x == ("__classdict__" : Str)) = false := by decide) : VE X W (.Compare a [.NotIn] [.Name x px] pos) (inSl true i fk) := PE.to (pe_cmpR (op_notInDs hu) hk (pe_var hN hv hd hcd) hm) fun σ H Q z => rd_inSl z
theorem vt_inSl (hu : X.A.units + 64 < cLine) (i : Nat) {x : Str} {px : Pos} {a : Expr} {fk : DE → R D} (hk : VE X W a fk) (hm : behindInMarks .In (.Name x px) = false := by rfl) (hN : X.N[i]? = some x := by rfl) (hv : Vis X.env.scope x := by first | exact Or.inl rfl | exact Or.inr (Or.inl rfl) | exact Or.inr (Or.inr rfl)) (hd : (x == ("__debug__" : Str)) = false := by decide)
    (hcd : (x == ("__classdict__" : Str)) = false := by decide) : VT X W (.Compare a [.In] [.Name x px] pos) (tst (inSl false i fk)) := PT.to (pt_cmpR (op_inDs hu) hk (pe_var hN hv hd hcd) hm) fun σ H Q z => rd_inSl (rd_tst z)
theorem vt_notInSl (hu : X.A.units + 64 < cLine) (i : Nat) {x : Str} {px : Pos} {a : Expr} {fk : DE → R D} (hk : VE X W a fk) (hm : behindInMarks .NotIn (.Name x px) = false := by rfl) (hN : X.N[i]? = some x := by rfl) (hv : Vis X.env.scope x := by first | exact Or.inl rfl | exact Or.inr (Or.inl rfl) | exact Or.inr (Or.inr rfl)) (hd : (x == ("__debug__" : Str)) = false := by decide)
    (hcd : (x == ("__classdict__" : Str)) = false := by decide) : VT X W (.Compare a [.NotIn] [.Name x px] pos) (tst (inSl true i fk)) := PT.to (pt_cmpR (op_notInDs hu) hk (pe_var hN hv hd hcd) hm) fun σ H Q z => rd_inSl (rd_tst z)
end
end PV

/-! PV47: l != [] of a slot's list; the readings of PV46 by simp. -/
namespace PV
open PySem PySem.Spec PyProof.Rows L2
section
variable [Tbl]
def neSl (i : Nat) : DE → R D := fun δ => match mutOf δ i with
  | some (_, .lst l) => .ok (.bl (!l.isEmpty)) δ
  | _ => .stuck
theorem vt_neSl {X : Cx} {W : WX} (hu : X.A.units + 64 < cLine) (i : Nat) {x : Str} {px p2 pos : Pos} (hm : behindInMarks .NotEq (.List [] p2) = false := by exact nomark _) (hN : X.N[i]? = some x := by rfl) (hv : Vis X.env.scope x := by first | exact Or.inl rfl | exact Or.inr (Or.inl rfl) | exact Or.inr (Or.inr rfl)) (hd : (x == ("__debug__" : Str)) = false := by decide)
    (hcd : (x == ("__classdict__" : Str)) = false := by decide) : VT X W (.Compare (.Name x px) [.NotEq] [.List [] p2] pos) (tst (neSl i)) := PT.to (pt_cmpR (op_ne0 hu) (pe_var hN hv hd hcd) (pe_lst pa_nil) hm) fun σ H Q z => by
  have z := rd_tst z
  obtain ⟨c, F, δ, r, z⟩ := z
  unfold neSl at z
  split at z
  · rename_i s l q
    obtain ⟨q1, q2⟩ := mutOf_some q
    obtain ⟨a, o, h1, h2, h3, h4⟩ := r.mutAt q1 q2
    obtain ⟨xs, rfl, h3⟩ := mden_lst h3
    refine ⟨.ref a, h1, by show 0 ≤ sizeLine; decide, fun p hp => ⟨a, p, xs, rfl, rfl, .inl (.inl ?_), .inl (.inl upd_same), ?_⟩⟩
    · rw [upd_ne (ne_of_none h2 hp)]; exact h2
    · exact z _ F _ (r.tmp hp) (.refl _) (by rw [dens_empty h3]; rfl)
  · exact False.elim z
end
section
variable {δ : DE} {i : Nat} {d e : D} {f fk : DE → R D} {l : List D} {s : Sl} {neg : Bool}
def neK (o : Option (Sl × MD)) (δ : DE) : R D := match o with
  | some (_, .lst l) => .ok (.bl (!l.isEmpty)) δ
  | _ => .stuck
@[simp] theorem ev_neSl : neSl i δ = neK (mutOf δ i) δ := rfl
@[simp] theorem neK_some : neK (some (s, .lst l)) δ = .ok (.bl (!l.isEmpty)) δ := rfl
def popK (o : Option (Sl × MD)) (i : Nat) (δ : DE) : R D := match o with
  | some (s, .lst l) => match l.getLast? with
    | some d => .ok d (δ.set i (some (s.wr (.lst l.dropLast))))
    | none => .stuck
  | _ => .stuck
@[simp] theorem ev_popE : popE i δ = popK (mutOf δ i) i δ := rfl
@[simp] theorem popK_snoc : popK (some (s, .lst (l ++ [d]))) i δ = .ok d (δ.set i (some (s.wr (.lst l)))) := by
  unfold popK
  simp
def inSK (neg : Bool) (o : Option (Sl × MD)) (x : D) (δ : DE) : R D := match o with
  | some (_, .lst l) => match x.py, D.pys l with
    | some p, some ps => if SeqAt.shaped p = true ∧ SeqAt.shaped (.list ps) = true ∧ p.depth ≤ 60 then .ok (.bl (if neg = true then !(ps.any fun z => PyData.eqv z p) else ps.any fun z => PyData.eqv z p)) δ else .stuck
    | _, _ => .stuck
  | _ => .stuck
def k_inS (neg : Bool) (i : Nat) (x : D) (δ : DE) : R D := inSK neg (mutOf δ i) x δ
@[simp] theorem ev_inSl : inSl neg i fk δ = (fk δ).bind (k_inS neg i) := rfl
@[simp] theorem ev_kinS : k_inS neg i d δ = inSK neg (mutOf δ i) d δ := rfl
end
end PV

/-! PV48: x < y of tuples of ints. -/
namespace PV
open PySem PySem.Spec PyProof.Rows L2
/-- the order of tuples -/
def lexI : List Int → List Int → Bool
  | [], [] => false
  | [], _ :: _ => true
  | _ :: _, [] => false
  | x :: a, y :: b => if x = y then lexI a b else decide (x < y)
theorem lexAt_shift {e r : Nat → Bool} {z : Bool} : ∀ (k i : Nat), Ob.lexAt e r z (i + 1) k = Ob.lexAt (fun j => e (j + 1)) (fun j => r (j + 1)) z i k
  | 0, _ => rfl
  | k + 1, i => by rw [Ob.lexAt_succ, Ob.lexAt_succ, lexAt_shift k (i + 1)]
theorem lexAt_lexI : ∀ (a b : List Int), Ob.lexAt (fun j => decide (a[j]? = b[j]?)) (fun j => decide (a.getD j 0 < b.getD j 0)) (decide (a.length < b.length)) 0 (min a.length b.length) = lexI a b
  | [], [] => rfl
  | [], _ :: _ => by simp [Ob.lexAt_zero, lexI]
  | _ :: _, [] => by simp [Ob.lexAt_zero, lexI]
  | x :: a, y :: b => by
    have ih := lexAt_lexI a b
    rw [List.length_cons, List.length_cons, Nat.succ_min_succ, Ob.lexAt_succ]
    unfold lexI
    by_cases h : x = y
    · subst h
      simp only [List.getElem?_cons_zero, decide_true, if_true]
      rw [lexAt_shift]
      simp only [List.getElem?_cons_succ, List.getD_cons_succ, Nat.add_lt_add_iff_right]
      exact ih
    · have h' : ¬ (some x = some y) := fun z => h (Option.some.inj z)
      simp only [List.getElem?_cons_zero, h', decide_false, Bool.false_eq_true, if_false, if_neg h, List.getD_cons_zero]
def rTupLt : R2 := fun x y H Q => ∃ a b ns ms, x = .ref a ∧ y = .ref b ∧ H a = some (.tup (ns.map V.int)) ∧ H b = some (.tup (ms.map V.int)) ∧ Q (.bl (lexI ns ms)) H
theorem ints_at {us : List Value} {ns : List Int} (h : IntsAre us ns) : us.length = ns.length ∧ ∀ (j : Nat) (hj : j < us.length), ∃ t, us[j] = Value.int (ns.getD j 0) t ∧ ns[j]? = some (ns.getD j 0) := by
  induction h with
  | nil => exact ⟨rfl, fun j hj => absurd hj (Nat.not_lt_zero _)⟩
  | @cons n t vs ns h ih =>
    refine ⟨by simp [ih.1], fun j hj => ?_⟩
    cases j with
    | zero => exact ⟨t, rfl, rfl⟩
    | succ j =>
      obtain ⟨t', e1, e2⟩ := ih.2 j (by simpa using hj)
      exact ⟨t', by simpa using e1, by simpa using e2⟩
theorem op_tupLt {X : Cx} (hu : X.A.units + 64 < cLine) : OpR X (compareOp .Lt) rTupLt := by
  intro pins s σ H x y v u Q I rx ry h
  obtain ⟨a, b, ns, ms, rfl, rfl, ha, hb, q⟩ := h
  cases rx
  cases ry
  obtain ⟨_, its, rv, o, h1, h2, n, h3⟩ := (show ObjOk X.prog X.w H s.heap a (.tup (ns.map V.int)) from I.hok _ _ ha)
  obtain ⟨_, its2, rv2, o2, g1, g2, n2, g3⟩ := (show ObjOk X.prog X.w H s.heap b (.tup (ms.map V.int)) from I.hok _ _ hb)
  have i1 := ints_at (ints_vals rv)
  have i2 := ints_at (ints_vals rv2)
  have key : Ob.RcOp .Lt X.A s (.ref a) (.ref b) (lexI ns ms) := by
    have hh := Ob.RcOp.tuples_lt (A := X.A) (s := s) (l := a) (b := b) (items := its.toArray) (items2 := its2.toArray) (e := fun j => decide (ns[j]? = ms[j]?)) (r := fun j => decide (ns.getD j 0 < ms.getD j 0)) ⟨o, h1, h2, n, h3⟩ ⟨o2, g1, g2, n2, g3⟩ (by omega) (fun j k1 k2 => ?_) (fun j k1 k2 _ => ?_)
    · rw [List.size_toArray, List.size_toArray, i1.1, i2.1, lexAt_lexI] at hh
      exact hh
    · obtain ⟨t, e1, e2⟩ := i1.2 j (by simpa using k1)
      obtain ⟨t', e3, e4⟩ := i2.2 j (by simpa using k2)
      simp only [List.getElem_toArray, e1, e3, e2, e4, Option.some.injEq]
      exact SeqAt.EqAt.int_int _ _ _ _
    · obtain ⟨t, e1, e2⟩ := i1.2 j (by simpa using k1)
      obtain ⟨t', e3, e4⟩ := i2.2 j (by simpa using k2)
      simp only [List.getElem_toArray, e1, e3]
      exact Ob.RcOp.lt_int _ _ _ _
  exact key X.prog X.w _ _ ⟨.bl _, H, I, rfl, q⟩
def intDs : List D → Option (List Int)
  | [] => some []
  | .int i :: l => (intDs l).map (i :: ·)
  | _ :: _ => none
theorem intDs_den {K : PySem.W.Frag} {F : Hp} : ∀ {l : List D} {ns : List Int} {xs : List V}, intDs l = some ns → Dens K F l xs → xs = ns.map V.int
  | [], _, _, h, g => by cases h; exact g
  | .int i :: l, ns, xs, h, ⟨v, r, e, h1, h2⟩ => by
    obtain ⟨ms, q, rfl⟩ := Option.map_eq_some_iff.mp h
    rw [e, intDs_den q h2, show v = V.int i from h1]; rfl
  | .non :: _, _, _, h, _ => by cases h
  | .bl _ :: _, _, _, h, _ => by cases h
  | .str _ :: _, _, _, h, _ => by cases h
  | .byt _ :: _, _, _, h, _ => by cases h
  | .ty _ :: _, _, _, h, _ => by cases h
  | .fn _ :: _, _, _, h, _ => by cases h
  | .adr _ :: _, _, _, h, _ => by cases h
  | .scr _ :: _, _, _, h, _ => by cases h
  | .tup _ :: _, _, _, h, _ => by cases h
  | .ctp _ :: _, _, _, h, _ => by cases h
  | .lst _ :: _, _, _, h, _ => by cases h
  | .dct _ :: _, _, _, h, _ => by cases h
  | .dcT _ :: _, _, _, h, _ => by cases h
  | .dcF _ :: _, _, _, h, _ => by cases h
  | .ins _ _ :: _, _, _, h, _ => by cases h
def tltD (x y : D) : Option D := match x, y with
  | .tup l, .tup m => match intDs l, intDs m with
    | some ns, some ms => some (.bl (lexI ns ms))
    | _, _ => none
  | _, _ => none
theorem o_tlt [Tbl] {X : Cx} (hu : X.A.units + 64 < cLine) : Op2 X (compareOp .Lt) tltD := by
  refine ⟨_, op_tupLt hu, fun c F H σ δ d e z v w Q r d1 d2 q k => ?_⟩
  unfold tltD at q
  split at q
  · split at q
    · rename_i ns ms q1 q2
      cases q
      obtain ⟨a, xs, rfl, g1, g2⟩ := d1
      obtain ⟨b, ys, rfl, g3, g4⟩ := d2
      rw [intDs_den q1 g2] at g1
      rw [intDs_den q2 g4] at g3
      exact ⟨a, b, ns, ms, rfl, rfl, r.sub _ _ g1, r.sub _ _ g3, k _ F H r (.refl _) rfl⟩
    · cases q
  · cases q
theorem intDs_map (ns : List Int) : intDs (ns.map D.int) = some ns := by
  induction ns with
  | nil => rfl
  | cons n ns ih => show (intDs (ns.map D.int)).map (n :: ·) = _; rw [ih]; rfl
/-- in the order of numbers -/
theorem lexI_code {B : Int} : ∀ {a b : List Int}, a.length = b.length → TS.Bd B a → TS.Bd B b → lexI a b = decide (TS.code B a < TS.code B b)
  | [], [], _, _, _ => by simp [lexI]
  | [], _ :: _, h, _, _ => by simp at h
  | _ :: _, [], h, _, _ => by simp at h
  | x :: a, y :: b, h, h1, h2 => by
    have hl : a.length = b.length := by simpa using h
    unfold lexI
    by_cases e : x = y
    · subst e
      rw [if_pos rfl, lexI_code hl h1.tail h2.tail]
      exact decide_eq_decide.mpr (TS.code_same (d := x) hl).symm
    · rw [if_neg e]
      refine decide_eq_decide.mpr ⟨fun z => TS.code_lt hl h1.tail h2.tail z, fun z => ?_⟩
      rcases Int.lt_trichotomy x y with q | q | q
      · exact q
      · exact absurd q e
      · have := TS.code_lt (d := y) (e := x) hl.symm h2.tail h1.tail q
        omega
end PV

/-! PV49: <<, >>, &, | of ints. -/
namespace PV
open PySem PySem.Spec PyProof.Rows L2
abbrev ishl := iopC (fun i j => decide (0 ≤ j) && decide (j ≤ 1000) && decide (i.natAbs < 18446744073709551616)) fun i j => .int (i * 2 ^ j.toNat)
abbrev ishr := iopC (fun _ j => decide (0 ≤ j)) fun i j => .int (i / 2 ^ j.toNat)
abbrev iand := iop fun i j => .int (Builtin.bitAnd i j)
abbrev ior := iop fun i j => .int (Builtin.bitOr i j)
section
variable [Tbl] {X : Cx}
theorem o_ishl : Op2 X (binaryOp .LShift) ishl := o2_I op_shl (fun i j h => by
  rw [Bool.and_eq_true, Bool.and_eq_true, decide_eq_true_iff, decide_eq_true_iff, decide_eq_true_iff] at h
  exact ⟨h.1.1, by omega, h.2⟩) fun _ _ _ => rfl
theorem o_ishr : Op2 X (binaryOp .RShift) ishr := o2_I op_shr (fun i j h => of_decide_eq_true h) fun _ _ _ => rfl
theorem o_iand : Op2 X (binaryOp .BitAnd) iand := o2_I0 op_and fun _ _ _ => rfl
theorem o_ior : Op2 X (binaryOp .BitOr) ior := o2_I0 op_or fun _ _ _ => rfl
end
end PV

namespace PV
open PySem PySem.Spec PyProof.Rows L2
noncomputable def F_p_is_between : DE → O := (killS true [] (retS (andE (callB isiD (valA (var 0) (valA (cst (.ty "int")) noA))) (andE (notE (callB isiD (valA (var 0) (valA (cst (.ty "bool")) noA)))) (chn ile ile (var 1) (var 0) (var 2))))))
noncomputable def ph_p_is_between : List Sl → FR := fnF 3 3 F_p_is_between
noncomputable def F_p_Graph_init : DE → O := (killS true [] (thenS (fldS ["Relay"] 0 "nodes" (var 1)) (fldS ["Relay"] 0 "finals" (var 2))))
noncomputable def ph_p_Graph_init : List Sl → FR := fnF 3 3 F_p_Graph_init
noncomputable def F_p_is_relay_step : DE → O := (killS true [] (retS (andE (callB isiD (valA (var 0) (valA (cst (.ty "str")) noA))) (op2 (inF false) (var 0) (cst (.ctp [(.str "next"), (.str "pass"), (.str "mark"), (.str "both"), (.str "back")]))))))
noncomputable def ph_p_is_relay_step : List Sl → FR := fnF 1 1 F_p_is_relay_step
noncomputable def L_p_are_nodes_1 : DE → O := (killS true [false, false, false, true] (thenS (ifS (orT (notT (tst (callB isiD (valA (var 3) (valA (cst (.ty "tuple")) noA))))) (orT (tst (op2 neD (callB lenD (valA (var 3) noA)) (cst (.int 2)))) (notT (tst (callL 1 [("is_relay_step", ph_p_is_relay_step)] (valA (op2 ixD (var 3) (cst (.int 0))) noA)))))) (retS (cst (.bl false))) skipS) (ifS (notT (tst (callF ph_p_is_between (valA (op2 ixD (var 3) (cst (.int 1))) (valA (cst (.int 0)) (valA (op2 isub (callB lenD (valA (var 0) noA)) (cst (.int 1))) noA)))))) (retS (cst (.bl false))) skipS)))
noncomputable def L_p_are_nodes_2 : DE → O := (killS true [false, false, true, true] (thenS (ifS (orT (notT (tst (callB isiD (valA (var 2) (valA (cst (.ty "tuple")) noA))))) (tst (op2 igt (callB lenD (valA (var 2) noA)) (cst (.int 3))))) (retS (cst (.bl false))) skipS) (forS (seqE (var 2)) (nmG 3) L_p_are_nodes_1)))
noncomputable def F_p_are_nodes : DE → O := (killS true [] (thenS (ifS (orT (notT (tst (callB isiD (valA (var 0) (valA (cst (.ty "tuple")) noA))))) (notT (tst (chn ile ile (cst (.int 1)) (callB lenD (valA (var 0) noA)) (cst (.int 6)))))) (retS (cst (.bl false))) skipS) (thenS (forS (seqE (var 0)) (nmG 2) L_p_are_nodes_2) (retS (cst (.bl true))))))
noncomputable def ph_p_are_nodes : List Sl → FR := fnF 2 4 F_p_are_nodes
noncomputable def F_p_are_finals : DE → O := (killS true [] (thenS (ifS (orT (notT (tst (callB isiD (valA (var 0) (valA (cst (.ty "tuple")) noA))))) (notT (tst (callB allD (valA (ofN (lcN (seqE (var 0)) (nmG 2) noCond (callF ph_p_is_between (valA (var 2) (valA (cst (.int 0)) (valA (op2 isub (var 1) (cst (.int 1))) noA)))) [2])) noA))))) (retS (cst (.bl false))) skipS) (retS (callB allD (valA (ofN (lcN (zipE (valA (var 0) (valA (slE (var 0) (oSome (cst (.int 1))) oNo) noA))) (tupG 2 (consG (nmG 2) (consG (nmG 3) nilG))) noCond (op2 ilt (var 2) (var 3)) [2, 3])) noA)))))
noncomputable def ph_p_are_finals : List Sl → FR := fnF 2 4 F_p_are_finals
noncomputable def F_p_Relay_init : DE → O := (thenS (ifS (orT (notT (tst (callF ph_p_are_nodes (valA (var 1) (valA (cst (.fn "is_relay_step")) noA))))) (notT (tst (callF ph_p_are_finals (valA (var 2) (valA (callB lenD (valA (var 1) noA)) noA)))))) (raiseS "InvalidGraph") skipS) (dropS (supE ["Relay"] ph_p_Graph_init (valA (var 1) (valA (var 2) noA)))))
noncomputable def ph_p_Relay_init : List Sl → FR := fnF 3 3 F_p_Relay_init
noncomputable def F_finals : DE → O := (killS true [] (retS (callB tupleD (valA (ofN (lcN (rng1 (valA (var 1) noA)) (nmG 2) (tst (op2 igt (callF ph_draw (slotA 0 (valA (cst (.int 3)) noA))) (cst (.int 0)))) (var 2) [2])) noA))))
noncomputable def ph_finals : List Sl → FR := fnF 2 3 F_finals
noncomputable def F_relay_step : DE → O := (killS true [] (retS (callF ph_pick (slotA 0 (valA (ofN (lstN (valA (cst (.str "next")) (valA (cst (.str "pass")) (valA (cst (.str "mark")) (valA (cst (.str "both")) (valA (cst (.str "back")) (valA (cst (.str "next")) (valA (cst (.str "pass")) (valA (cst (.str "mark")) (valA (cst (.str "next")) (valA (cst (.str "both")) noA)))))))))))) noA)))))
noncomputable def ph_relay_step : List Sl → FR := fnF 1 1 F_relay_step
noncomputable def F_known : DE → O := (killS true [] (thenS (setS 1 (ofN (lstN (valA (ofN (lstN (valA (cst (.str "next")) (valA (cst (.str "both")) noA)))) (valA (ofN (lstN (valA (cst (.str "next")) (valA (cst (.str "pass")) (valA (cst (.str "mark")) noA))))) (valA (ofN (lstN (valA (cst (.str "next")) (valA (cst (.str "mark")) (valA (cst (.str "pass")) noA))))) (valA (ofN (lstN (valA (cst (.str "next")) (valA (cst (.str "next")) (valA (cst (.str "both")) noA))))) noA))))))) (thenS (setS 1 (op2 addA (var 1) (ofN (lstN (valA (ofN (lstN (valA (cst (.str "next")) (valA (cst (.str "pass")) (valA (cst (.str "back")) noA))))) (valA (ofN (lstN (valA (cst (.str "back")) (valA (cst (.str "next")) (valA (cst (.str "both")) noA))))) (valA (ofN (lstN (valA (cst (.str "next")) (valA (cst (.str "pass")) (valA (cst (.str "next")) (valA (cst (.str "pass")) (valA (cst (.str "mark")) noA))))))) noA))))))) (thenS (setS 1 (op2 addA (var 1) (ofN (lstN (valA (ofN (lstN (valA (cst (.str "next")) (valA (cst (.str "both")) (valA (cst (.str "both")) noA))))) (valA (ofN (lstN (valA (cst (.str "next")) (valA (cst (.str "next")) (valA (cst (.str "pass")) (valA (cst (.str "back")) (valA (cst (.str "next")) (valA (cst (.str "both")) noA)))))))) noA)))))) (thenS (setS 1 (op2 addA (var 1) (ofN (lstN (valA (ofN (lstN (valA (cst (.str "next")) (valA (cst (.str "both")) (valA (cst (.str "back")) (valA (cst (.str "pass")) noA)))))) (valA (ofN (lstN (valA (cst (.str "mark")) (valA (cst (.str "next")) (valA (cst (.str "pass")) noA))))) noA)))))) (thenS (setS 2 (callF ph_pick (slotA 0 (valA (var 1) noA)))) (thenS (setS 3 (callF ph_pick (slotA 0 (valA (ofN (lstN (valA (tupE (valA (cst (.int 0)) noA)) (valA (tupE (valA (cst (.int 0)) noA)) (valA (tupE (valA (op2 isub (callB lenD (valA (var 2) noA)) (cst (.int 1))) noA)) noA))))) noA)))) (retS (tupE (valA (callB tupleD (valA (ofN (lcN (enumE (valA (var 2) noA)) (tupG 2 (consG (nmG 4) (consG (nmG 5) nilG))) noCond (tupE (valA (tupE (valA (var 5) (valA (callF ph_rest (valA (op2 addA (var 4) (cst (.int 1))) (valA (callB lenD (valA (var 2) noA)) noA))) noA))) noA)) [4, 5])) noA)) (valA (var 3) noA)))))))))))
noncomputable def ph_known : List Sl → FR := fnF 1 6 F_known
noncomputable def L_relay_nodes_1 : DE → O := (killS true [false, false, true, false, false, false, true, true, false] (thenS (setS 6 (callF ph_pick (slotA 0 (valA (ofN (lstN (valA (cst (.int 1)) (valA (cst (.int 1)) (valA (cst (.int 2)) (valA (cst (.int 1)) (valA (cst (.int 2)) (valA (cst (.int 0)) noA)))))))) noA)))) (thenS (setS 7 (ofN (lcN (rng1 (valA (var 6) noA)) (nmG 8) noCond (tupE (valA (callF ph_relay_step (slotA 0 noA)) (valA (callF ph_draw (slotA 0 (valA (var 3) noA))) noA))) [8]))) (thenS (ifS (andT (tst (op2 igt (var 5) (cst (.int 0)))) (orT (tst (op2 ilt (op2 addA (var 2) (cst (.int 1))) (var 3))) (tst (op2 eqD (var 5) (cst (.int 2)))))) (setS 7 (op2 addA (ofN (lstN (valA (tupE (valA (callF ph_relay_step (slotA 0 noA)) (valA (callF ph_rest (valA (op2 addA (var 2) (cst (.int 1))) (valA (var 3) noA))) noA))) noA))) (slE (var 7) (oSome (cst (.int 1))) oNo))) skipS) (appS 4 (callB tupleD (valA (var 7) noA)))))))
noncomputable def F_relay_nodes : DE → O := (killS true [] (thenS (parS [3, 4, 5] (valI (op2 addA (cst (.int 1)) (callF ph_draw (slotA 0 (valA (var 1) noA)))) (ownI (lstN noA) (valI (callF ph_draw (slotA 0 (valA (cst (.int 3)) noA))) noI)))) (thenS (forS (rng1 (valA (var 3) noA)) (nmG 2) L_relay_nodes_1) (retS (callB tupleD (slotA 4 noA))))))
noncomputable def ph_relay_nodes : List Sl → FR := fnF 2 9 F_relay_nodes
noncomputable def F_relay : DE → O := (killS true [] (thenS (ifS (tst (op2 eqD (callF ph_draw (slotA 0 (valA (cst (.int 3)) noA))) (cst (.int 0)))) (retS (callF ph_known (slotA 0 noA))) skipS) (thenS (setS 2 (callF ph_relay_nodes (slotA 0 (valA (var 1) noA)))) (retS (tupE (valA (var 2) (valA (callF ph_pick (slotA 0 (valA (ofN (lstN (valA (callF ph_finals (slotA 0 (valA (callB lenD (valA (var 2) noA)) noA))) (valA (tupE (valA (cst (.int 0)) noA)) (valA (tupE (valA (op2 isub (callB lenD (valA (var 2) noA)) (cst (.int 1))) noA)) noA))))) noA))) noA)))))))
noncomputable def ph_relay : List Sl → FR := fnF 2 3 F_relay
/-! ### checks of any data -/
def isBtw (d : D) (lo hi : Int) : Bool := match d with
  | .int i => decide (lo ≤ i) && decide (i ≤ hi)
  | _ => false
theorem is_between_ok {d : D} {lo hi : Int} (h : d.kn = true) : ph_p_is_between [.val d, .val (.int lo), .val (.int hi)] = .ret (.bl (isBtw d lo hi)) [.val d, .val (.int lo), .val (.int hi)] := by
  unfold ph_p_is_between F_p_is_between
  cases d <;> first | (cases h; done) | (simp [ev_fn, isi_int, isi_bl, D.bInt, D.bBl, isBtw]; done) | skip
  rename_i i
  by_cases h1 : lo ≤ i <;> by_cases h2 : i ≤ hi <;> simp [ev_fn, isi_int, isi_bl, D.bInt, D.bBl, isBtw, h1, h2]
abbrev rSteps : List Str := ["next", "pass", "mark", "both", "back"]
def stepB (d : D) : Bool := match d with
  | .str s => decide (s ∈ rSteps)
  | _ => false
theorem is_step_ok {d : D} (h : d.kn = true) : ph_p_is_relay_step [.val d] = .ret (.bl (stepB d)) [.val d] := by
  unfold ph_p_is_relay_step F_p_is_relay_step
  cases d <;> first | (cases h; done) | (simp [ev_fn, isi_str, D.bStr, stepB]; done) | skip
  rename_i s
  have e := inF_strC (k := s) (l := rSteps)
  simp only [List.map_cons, List.map_nil] at e
  simp [ev_fn, isi_str, D.bStr, stepB, e]
/-- all parts are data that isinstance can tell of -/
def edgeB (many : Nat) (d : D) : Bool := match d with
  | .tup [a, b] => stepB a && isBtw b 0 ((many : Int) - 1)
  | _ => false
def nodeB (many : Nat) (d : D) : Bool := match d with
  | .tup es => decide (es.length ≤ 3) && es.all (edgeB many)
  | _ => false
def nodesB (d : D) : Bool := match d with
  | .tup ns => decide (1 ≤ ns.length) && decide (ns.length ≤ 6) && ns.all (nodeB ns.length)
  | _ => false
def kn1 (d : D) : Prop := d.kn = true ∧ ∀ l, d = .tup l → ∀ x ∈ l, x.kn = true
def kn2 (d : D) : Prop := d.kn = true ∧ ∀ l, d = .tup l → ∀ x ∈ l, kn1 x
def kn3 (d : D) : Prop := d.kn = true ∧ ∀ l, d = .tup l → ∀ x ∈ l, kn2 x

abbrev AN (ns : List D) (x y : Option Sl) : DE := [some (.val (.tup ns)), some (.val (.fn "is_relay_step")), x, y]
theorem edge_turn {ns es : List D} {e : D} (h : kn1 e) : Turn (α := D) (fun _ : Unit => AN ns (some (.val (.tup es))) none) (fun _ => [none, none, none, none]) (nmG 3) L_p_are_nodes_1 (fun _ => True) () e (if edgeB ns.length e = true then .go () else .ret (.bl false) ()) := by
  refine ⟨AN ns (some (.val (.tup es))) (some (.val e)), rfl, ?_⟩
  unfold L_p_are_nodes_1
  obtain ⟨h0, h1⟩ := h
  cases e <;> first | (cases h0; done) | (simp [isi_tup, D.bTup, edgeB]; done) | skip
  rename_i l
  match l, h1 l rfl with
  | [], _ => simp [isi_tup, D.bTup, edgeB]
  | [a], _ => simp [isi_tup, D.bTup, edgeB]
  | [a, b], h2 =>
    have ha : a.kn = true := h2 a (by simp)
    have hb : b.kn = true := h2 b (by simp)
    have e0 : L2.atI [a, b] 0 = some a := rfl
    have e1 : L2.atI [a, b] 1 = some b := rfl
    simp [isi_tup, D.bTup, edgeB, e0, e1, callL, lkT, is_step_ok ha, is_between_ok hb]
    cases stepB a <;> cases isBtw b 0 ((ns.length : Int) - 1) <;> simp
  | a :: b :: c :: l, _ =>
    have : ¬ ((l.length : Int) + 1 + 1 + 1 = 2) := by omega
    simp [isi_tup, D.bTup, edgeB, this]
theorem node_turn {ns : List D} {nd : D} (h : kn2 nd) : Turn (α := D) (fun _ : Unit => AN ns none none) (fun _ => [none, none, none, none]) (nmG 2) L_p_are_nodes_2 (fun _ => True) () nd (if nodeB ns.length nd = true then .go () else .ret (.bl false) ()) := by
  refine ⟨AN ns (some (.val nd)) none, rfl, ?_⟩
  unfold L_p_are_nodes_2
  obtain ⟨h0, h1⟩ := h
  cases nd <;> first | (cases h0; done) | (simp [isi_tup, D.bTup, nodeB]; done) | skip
  rename_i es
  have hl := loop_run (t := nmG 3) (g := L_p_are_nodes_1) id (fun _ : Unit => AN ns (some (.val (.tup es))) none) (fun _ => [none, none, none, none]) (fun _ e => if edgeB ns.length e = true then .go () else .ret (.bl false) ()) (fun _ => True) es (fun _ e he _ => edge_turn (h1 es rfl e he)) () trivial
  rw [List.map_id, runL_all] at hl
  by_cases hc : es.length ≤ 3
  · have hc' : ¬ (3 : Int) < (es.length : Int) := by omega
    by_cases ha : es.all (edgeB ns.length) = true
    · rw [if_pos ha] at hl
      have : nodeB ns.length (.tup es) = true := by unfold nodeB; simp only [ha, hc, decide_true, Bool.and_self]
      simp only [this]
      simp [isi_tup, D.bTup, hc', hl, LR.o]
    · rw [if_neg ha] at hl
      have : nodeB ns.length (.tup es) = false := by unfold nodeB; simp [ha, hc]
      simp only [this]
      simp [isi_tup, D.bTup, hc', hl, LR.o]
  · have hc' : (3 : Int) < (es.length : Int) := by omega
    have : nodeB ns.length (.tup es) = false := by unfold nodeB; simp [hc]
    simp only [this]
    simp [isi_tup, D.bTup, hc']
theorem are_nodes_ok {d : D} (h : kn3 d) : ph_p_are_nodes [.val d, .val (.fn "is_relay_step")] = .ret (.bl (nodesB d)) [.val d, .val (.fn "is_relay_step")] := by
  unfold ph_p_are_nodes F_p_are_nodes
  obtain ⟨h0, h1⟩ := h
  cases d <;> first | (cases h0; done) | (simp [ev_fn, isi_tup, D.bTup, nodesB]; done) | skip
  rename_i ns
  have hl := loop_run (t := nmG 2) (g := L_p_are_nodes_2) id (fun _ : Unit => AN ns none none) (fun _ => [none, none, none, none]) (fun _ e => if nodeB ns.length e = true then .go () else .ret (.bl false) ()) (fun _ => True) ns (fun _ e he _ => node_turn (h1 ns rfl e he)) () trivial
  rw [List.map_id, runL_all] at hl
  by_cases hc : 1 ≤ ns.length
  · have hc' : (1 : Int) ≤ (ns.length : Int) := by omega
    by_cases hd : ns.length ≤ 6
    · have hd' : (ns.length : Int) ≤ 6 := by omega
      by_cases ha : ns.all (nodeB ns.length) = true
      · rw [if_pos ha] at hl
        have : nodesB (.tup ns) = true := by unfold nodesB; simp only [ha, hc, hd, decide_true, Bool.and_self]
        simp [ev_fn, isi_tup, D.bTup, hc', hd', hl, LR.o, this]
      · rw [if_neg ha] at hl
        have : nodesB (.tup ns) = false := by unfold nodesB; simp [ha, hc, hd]
        simp [ev_fn, isi_tup, D.bTup, hc', hd', hl, LR.o, this]
    · have hd' : ¬ (ns.length : Int) ≤ 6 := by omega
      have : nodesB (.tup ns) = false := by unfold nodesB; simp [hd]
      simp [ev_fn, isi_tup, D.bTup, hc', hd', this]
  · have hc' : ¬ (1 : Int) ≤ (ns.length : Int) := by omega
    have : nodesB (.tup ns) = false := by unfold nodesB; simp [hc]
    simp [ev_fn, isi_tup, D.bTup, hc', this]
/-! ### finals -/
def intOf : D → Int
  | .int i => i
  | _ => 0
def ascI (l : List Int) : Bool := (l.zipWith (fun a b => decide (a < b)) (l.drop 1)).all id
def finalsB (many : Nat) (d : D) : Bool := match d with
  | .tup l => l.all (fun x => isBtw x 0 ((many : Int) - 1)) && ascI (l.map intOf)
  | _ => false
theorem ints_btw {l : List D} {lo hi : Int} (h : l.all (fun x => isBtw x lo hi) = true) : l = (l.map intOf).map D.int := by
  induction l with
  | nil => rfl
  | cons x l ih =>
    rw [List.all_cons, Bool.and_eq_true] at h
    rw [List.map_cons, List.map_cons, ← ih h.2]
    cases x <;> first | (cases h.1; done) | rfl
theorem zip_ints (l m : List Int) : zipD (l.map D.int) (m.map D.int) = (l.zip m).map fun p => .tup [.int p.1, .int p.2] := by
  unfold zipD
  rw [List.zipWith_map]
  induction l generalizing m with
  | nil => rfl
  | cons a l ih => cases m with
    | nil => rfl
    | cons b m => simp [ih]
theorem are_finals_ok {d : D} {many : Nat} (h : kn1 d) (hs : ∀ l, d = .tup l → l.length ≤ 1000) : ph_p_are_finals [.val d, .val (.int many)] = .ret (.bl (finalsB many d)) [.val d, .val (.int many)] := by
  unfold ph_p_are_finals F_p_are_finals
  obtain ⟨h0, h1⟩ := h
  cases d <;> first | (cases h0; done) | (simp [ev_fn, isi_tup, D.bTup, finalsB]; done) | skip
  rename_i l
  have hl := hs l rfl
  have e1 := lcE_map (f := seqE (var 0)) (t := nmG 2) (elt := callF ph_p_is_between (valA (var 2) (valA (cst (.int 0)) (valA (op2 isub (var 1) (cst (.int 1))) noA)))) (vs := [2]) (δ := [some (.val (.tup l)), some (.val (.int many)), none, none]) (δ0 := [some (.val (.tup l)), some (.val (.int many)), none, none]) (δw := [some (.val (.tup l)), some (.val (.int many)), none, none]) (as := l) id (fun x => .bl (isBtw x 0 ((many : Int) - 1)))
    (by simp) rfl (by rw [lim_eq]; omega) (fun a ha => ⟨[some (.val (.tup l)), some (.val (.int many)), some (.val a), none], _, rfl, by simp [is_between_ok (h1 l rfl a ha)]; rfl, rfl⟩)
  have eb : l.map (fun x => D.bl (isBtw x 0 ((many : Int) - 1))) = (l.map fun x => isBtw x 0 ((many : Int) - 1)).map D.bl := by rw [List.map_map]; rfl
  have ec : (l.map fun x => isBtw x 0 ((many : Int) - 1)).all id = l.all fun x => isBtw x 0 ((many : Int) - 1) := by rw [List.all_map]; rfl
  have e2 : allD [.lst (l.map fun x => D.bl (isBtw x 0 ((many : Int) - 1)))] = some (.bl (l.all fun x => isBtw x 0 ((many : Int) - 1))) := by rw [eb, allD_b, ec]
  by_cases ha : (l.all fun x => isBtw x 0 ((many : Int) - 1)) = true
  · have hi := ints_btw ha
    have ez : zipD l (cutD l (some 1) none) = (((l.map intOf).zip ((l.map intOf).drop 1)).map fun p => D.tup [.int p.1, .int p.2]) := by
      rw [show ((1 : Int)) = ((1 : Nat) : Int) from rfl, cut_from]
      conv => lhs; rw [hi]
      rw [← List.map_drop, zip_ints]
    have e3 := lcE_map (f := zipE (valA (var 0) (valA (slE (var 0) (oSome (cst (.int 1))) oNo) noA))) (t := tupG 2 (consG (nmG 2) (consG (nmG 3) nilG))) (elt := op2 ilt (var 2) (var 3)) (vs := [2, 3]) (δ := [some (.val (.tup l)), some (.val (.int many)), none, none]) (δ0 := [some (.val (.tup l)), some (.val (.int many)), none, none]) (δw := [some (.val (.tup l)), some (.val (.int many)), none, none]) (as := (l.map intOf).zip ((l.map intOf).drop 1)) (fun p => .tup [.int p.1, .int p.2]) (fun p => .bl (decide (p.1 < p.2)))
      (by simp [ez]) rfl (by rw [lim_eq, List.length_zip, List.length_map]; omega) (fun a ha => ⟨[some (.val (.tup l)), some (.val (.int many)), some (.val (.int a.1)), some (.val (.int a.2))], _, rfl, by simp; rfl, rfl⟩)
    have ef : ((l.map intOf).zip ((l.map intOf).drop 1)).map (fun p => D.bl (decide (p.1 < p.2))) = (((l.map intOf).zipWith (fun a b => decide (a < b)) ((l.map intOf).drop 1))).map D.bl := by
      rw [List.map_zipWith, List.zip, List.map_zipWith]
    have e4 : allD [.lst (((l.map intOf).zip ((l.map intOf).drop 1)).map (fun p => D.bl (decide (p.1 < p.2))))] = some (.bl (ascI (l.map intOf))) := by rw [ef, allD_b]; rfl
    have : finalsB many (.tup l) = ascI (l.map intOf) := by
      show ((l.all fun x => isBtw x 0 ((many : Int) - 1)) && ascI (l.map intOf)) = _
      rw [ha]; rfl
    rw [ha] at e2
    generalize ((l.map intOf).zip ((l.map intOf).drop 1)).map (fun p => D.bl (decide (p.1 < p.2))) = zs at e3 e4
    simp [ev_fn, isi_tup, D.bTup, e1, e2, e3, e4, this]
  · have ha := Bool.eq_false_iff.mpr ha
    have : finalsB many (.tup l) = false := by
      show ((l.all fun x => isBtw x 0 ((many : Int) - 1)) && ascI (l.map intOf)) = _
      rw [ha]; rfl
    rw [ha] at e2
    simp [ev_fn, isi_tup, D.bTup, e1, e2, this]
/-! ### relays -/
abbrev Nd := List (List (Str × Nat))
def edgeD (e : Str × Nat) : D := .tup [.str e.1, .int (e.2 : Nat)]
def nodeD (n : List (Str × Nat)) : D := .tup (n.map edgeD)
def nodesD (n : Nd) : D := .tup (n.map nodeD)
def finD (f : List Nat) : D := .tup (f.map fun i => .int (i : Nat))
structure RelOk (n : Nd) (f : List Nat) : Prop where
  pos : 1 ≤ n.length
  few : n.length ≤ 6
  wid : ∀ nd ∈ n, nd.length ≤ 3
  stp : ∀ nd ∈ n, ∀ e ∈ nd, e.1 ∈ rSteps
  thr : ∀ nd ∈ n, ∀ e ∈ nd, e.2 < n.length
  fin : ∀ i ∈ f, i < n.length
  asc : f.Pairwise (· < ·)
theorem kn3_nodes (n : Nd) : kn3 (nodesD n) := by
  refine ⟨by simp [nodesD], fun l e x hx => ?_⟩
  cases e
  obtain ⟨nd, _, rfl⟩ := List.mem_map.mp hx
  refine ⟨by simp [nodeD], fun l e x hx => ?_⟩
  cases e
  obtain ⟨ed, _, rfl⟩ := List.mem_map.mp hx
  refine ⟨by simp [edgeD], fun l e x hx => ?_⟩
  cases e
  simp at hx
  rcases hx with rfl | rfl <;> simp
theorem kn1_fin (f : List Nat) : kn1 (finD f) := by
  refine ⟨by simp [finD], fun l e x hx => ?_⟩
  cases e
  obtain ⟨nd, _, rfl⟩ := List.mem_map.mp hx
  simp
theorem nodesB_ok {n : Nd} {f : List Nat} (h : RelOk n f) : nodesB (nodesD n) = true := by
  have h1 := h.pos
  have h2 := h.few
  unfold nodesB nodesD
  simp only [List.length_map, Bool.and_eq_true, decide_eq_true_eq]
  refine ⟨⟨h1, h2⟩, ?_⟩
  rw [List.all_eq_true]
  intro x hx
  obtain ⟨nd, hnd, rfl⟩ := List.mem_map.mp hx
  unfold nodeB nodeD
  simp only [List.length_map, Bool.and_eq_true, decide_eq_true_eq]
  refine ⟨h.wid nd hnd, ?_⟩
  rw [List.all_eq_true]
  intro y hy
  obtain ⟨e, he, rfl⟩ := List.mem_map.mp hy
  have g1 := h.stp nd hnd e he
  have g2 := h.thr nd hnd e he
  unfold edgeB edgeD stepB isBtw
  simp only [Bool.and_eq_true, decide_eq_true_eq]
  exact ⟨g1, by omega, by omega⟩
theorem ascI_ok : ∀ {f : List Nat}, f.Pairwise (· < ·) → ascI (f.map fun i => ((i : Nat) : Int)) = true
  | [], _ => rfl
  | [a], _ => rfl
  | a :: b :: r, h => by
    have ih := ascI_ok (f := b :: r) (List.pairwise_cons.mp h).2
    unfold ascI at ih ⊢
    have hab : a < b := (List.pairwise_cons.mp h).1 b (by simp)
    have : (a : Int) < (b : Int) := by omega
    simp only [List.map_cons, List.drop_succ_cons, List.drop_zero, List.zipWith_cons_cons, List.all_cons, id, Bool.and_eq_true, decide_eq_true_eq]
    refine ⟨this, ?_⟩
    simpa using ih
theorem finalsB_ok {n : Nd} {f : List Nat} (h : RelOk n f) : finalsB n.length (finD f) = true := by
  unfold finalsB finD
  simp only [Bool.and_eq_true]
  refine ⟨?_, ?_⟩
  · rw [List.all_eq_true]
    intro x hx
    obtain ⟨i, hi, rfl⟩ := List.mem_map.mp hx
    have := h.fin i hi
    unfold isBtw
    simp only [Bool.and_eq_true, decide_eq_true_eq]
    omega
  · rw [List.map_map]
    exact ascI_ok h.asc
theorem asc_len : ∀ {f : List Nat} {m : Nat}, f.Pairwise (· < ·) → (∀ i ∈ f, i < m) → f.length ≤ m := by
  intro f m h1 h2
  have nd : f.Nodup := h1.imp fun h => Nat.ne_of_lt h
  have := List.Nodup.length_le_of_subset nd (l₂ := List.range m) fun x hx => List.mem_range.mpr (h2 x hx)
  simpa using this
abbrev relayO (n : Nd) (f : List Nat) : D := .ins "Relay" [("nodes", nodesD n), ("finals", finD f)]
theorem graph_init_ok {d e : D} : ph_p_Graph_init [.bor (.ins "Relay" []), .val d, .val e] = .ret .non [.bor (.ins "Relay" [("nodes", d), ("finals", e)]), .val d, .val e] := by
  unfold ph_p_Graph_init F_p_Graph_init
  have hk : ¬ (("nodes" : Str) = "finals") := by decide +kernel
  simp [ev_fn, fldS, ptF, hk]
theorem relay_init_ok {n : Nd} {f : List Nat} (h : RelOk n f) : ph_p_Relay_init [.bor (.ins "Relay" []), .val (nodesD n), .val (finD f)] = .ret .non [.bor (.ins "Relay" [("nodes", nodesD n), ("finals", finD f)]), .val (nodesD n), .val (finD f)] := by
  unfold ph_p_Relay_init F_p_Relay_init
  have e1 := are_nodes_ok (kn3_nodes n)
  rw [nodesB_ok h] at e1
  have e2 := are_finals_ok (many := n.length) (kn1_fin f) (fun l e => by cases e; have := asc_len h.asc h.fin; have := h.few; simp; omega)
  rw [finalsB_ok h] at e2
  have e3 : lenD [nodesD n] = some (.int n.length) := by simp [nodesD]
  simp [ev_fn, e1, e2, e3, supE, graph_init_ok]
end PV

/-! Rl2: relays drawn. -/
namespace PV
open PySem PySem.Spec PyProof.Rows L2
theorem pick_in {m : MD} {l : List D} (hp : IsPen m) (h0 : l ≠ []) (h1 : l.length ≤ 1000) : ∃ d m', IsPen m' ∧ d ∈ l ∧ ph_pick [.bor m, .val (.lst l)] = .ret d [.bor m', .val (.lst l)] := pick_ok hp (List.length_pos_iff.mpr h0) (by rw [lim_eq]; omega)
theorem draw_in {m : MD} {k : Nat} (hp : IsPen m) (h0 : 0 < k) (h1 : k ≤ 1000000) : ∃ (r : Nat) (m' : MD), IsPen m' ∧ r < k ∧ ph_draw [.bor m, .val (.int k)] = .ret (.int r) [.bor m', .val (.int k)] := by
  obtain ⟨r, m', h2, h3, h4, h5⟩ := draw_ok (k := k) hp (by omega) (by omega)
  exact ⟨r.toNat, m', h2, by omega, by rw [h5]; congr 2; omega⟩
theorem relay_step_ok {m : MD} (hp : IsPen m) : ∃ s m', IsPen m' ∧ s ∈ rSteps ∧ ph_relay_step [.bor m] = .ret (.str s) [.bor m'] := by
  obtain ⟨d, m', h1, h2, h3⟩ := pick_in (l := [.str "next", .str "pass", .str "mark", .str "both", .str "back", .str "next", .str "pass", .str "mark", .str "next", .str "both"]) hp (by simp) (by simp)
  have hs : ∃ s, d = .str s ∧ s ∈ rSteps := by
    simp only [List.mem_cons, List.not_mem_nil, or_false] at h2
    rcases h2 with h | h | h | h | h | h | h | h | h | h <;> exact ⟨_, h, by simp⟩
  obtain ⟨s, rfl, hs⟩ := hs
  refine ⟨s, m', h1, hs, ?_⟩
  unfold ph_relay_step F_relay_step
  simp [ev_fn, h3]
theorem finals_ok {m : MD} {n : Nat} (hp : IsPen m) (hn : n ≤ 1000) : ∃ (f : List Nat) (m' : MD), IsPen m' ∧ f.Pairwise (· < ·) ∧ (∀ i ∈ f, i < n) ∧ ph_finals [.bor m, .val (.int n)] = .ret (finD f) [.bor m', .val (.int n)] := by
  obtain ⟨ps, m', h1, h2, h3, h4⟩ := lcN_st (f := rng1 (valA (var 1) noA)) (t := nmG 2) (cond := tst (op2 igt (callF ph_draw (slotA 0 (valA (cst (.int 3)) noA))) (cst (.int 0)))) (elt := var 2) (vs := [2]) (δ := [some (.bor m), some (.val (.int n)), none]) (δ0 := [some (.bor m), some (.val (.int n)), none]) (as := List.range n)
    (fun i => .int (i : Nat)) (fun m : MD => [some (.bor m), some (.val (.int n)), none]) IsPen (fun i d => d = .int (i : Nat)) (s := m) (by simp [rgK_nat (n := n) (by omega)]) rfl hp (by rw [lim_eq, List.length_range]; omega)
    (fun m i hi hm => by
      obtain ⟨r, m1, g1, g2, g3⟩ := draw_in (k := 3) hm (by omega) (by omega)
      have g3 : ph_draw [.bor m, .val (.int 3)] = .ret (.int r) [.bor m1, .val (.int 3)] := g3
      refine ⟨[some (.bor m), some (.val (.int n)), some (.val (.int i))], decide ((0 : Int) < r), [some (.bor m1), some (.val (.int n)), some (.val (.int i))], rfl, by simp [g3], fun _ => ⟨m1, g1, rfl⟩, fun _ => ⟨.int i, _, m1, by simp; rfl, g1, rfl, rfl⟩⟩)
  have e : ps.map (·.2) = (ps.map (·.1)).map fun i => D.int ((i : Nat) : Int) := by
    rw [List.map_map]
    exact List.map_congr_left fun p hp => h4 p hp
  refine ⟨ps.map (·.1), m', h2, ?_, fun i hi => List.mem_range.mp (h3.subset hi), ?_⟩
  · exact List.Pairwise.sublist h3 List.pairwise_lt_range
  · unfold ph_finals F_finals finD
    rw [e] at h1
    simp [ev_fn, h1]
theorem pairs_map {α : Type} (enc : α → D) (l : List α) : pairsD (l.map enc) = l.zipIdx.map fun p => .tup [.int (p.2 : Nat), enc p.1] := by
  apply List.ext_getElem?
  intro i
  unfold pairsD
  rw [List.getElem?_zipWith, List.getElem?_map, List.getElem?_map, List.getElem?_zipIdx, List.length_map]
  cases h : l[i]? with
  | none =>
    simp
  | some x =>
    have hl := (List.getElem?_eq_some_iff.mp h).1
    rw [List.getElem?_range hl]
    simp
abbrev krows : List (List Str) := [["next", "both"], ["next", "pass", "mark"], ["next", "mark", "pass"], ["next", "next", "both"], ["next", "pass", "back"], ["back", "next", "both"], ["next", "pass", "next", "pass", "mark"], ["next", "both", "both"], ["next", "next", "pass", "back", "next", "both"], ["next", "both", "back", "pass"], ["mark", "next", "pass"]]
def ring (r : List Str) : Nd := r.zipIdx.map fun p => [(p.1, (p.2 + 1) % r.length)]
theorem krows_ok {r : List Str} (hr : r ∈ krows) : 2 ≤ r.length ∧ r.length ≤ 6 ∧ ∀ s ∈ r, s ∈ rSteps := by
  have h : krows.all (fun r => decide (2 ≤ r.length) && decide (r.length ≤ 6) && r.all fun s => decide (s ∈ rSteps)) = true := by decide +kernel
  have := List.all_eq_true.mp h r hr
  simp only [Bool.and_eq_true, decide_eq_true_eq, List.all_eq_true] at this
  exact ⟨this.1.1, this.1.2, this.2⟩
theorem ring_ok {r : List Str} {f : List Nat} (hr : r ∈ krows) (hf : f = [0] ∨ f = [r.length - 1]) : RelOk (ring r) f := by
  have h1 := krows_ok hr
  obtain ⟨h2, h3, h4⟩ := h1
  have hl : (ring r).length = r.length := by unfold ring; rw [List.length_map, List.length_zipIdx]
  have ed : ∀ nd ∈ ring r, ∃ s j, s ∈ r ∧ nd = [(s, j % r.length)] := fun nd h => by
    obtain ⟨p, hp, rfl⟩ := List.mem_map.mp h
    exact ⟨p.1, p.2 + 1, List.fst_mem_of_mem_zipIdx (x := p) hp, rfl⟩
  refine ⟨by omega, by omega, fun nd h => ?_, fun nd h e he => ?_, fun nd h e he => ?_, fun i hi => ?_, ?_⟩
  · obtain ⟨s, j, _, rfl⟩ := ed nd h; simp
  · obtain ⟨s, j, hs, rfl⟩ := ed nd h
    rw [List.mem_singleton.mp he]
    exact h4 s hs
  · obtain ⟨s, j, hs, rfl⟩ := ed nd h
    rw [List.mem_singleton.mp he, hl]
    exact Nat.mod_lt _ (by omega)
  · rcases hf with rfl | rfl <;> rw [List.mem_singleton.mp hi, hl] <;> omega
  · rcases hf with rfl | rfl <;> simp
theorem known_ok {m : MD} (hp : IsPen m) : ∃ n f m', IsPen m' ∧ RelOk n f ∧ ph_known [.bor m] = .ret (.tup [nodesD n, finD f]) [.bor m'] := by
  obtain ⟨d, m1, p1, hd, e1⟩ := pick_in (l := krows.map fun r => .lst (r.map .str)) hp (by simp) (by simp)
  obtain ⟨r, hr, rfl⟩ := List.mem_map.mp hd
  obtain ⟨hl1, hl2, _⟩ := krows_ok hr
  obtain ⟨d2, m2, p2, hd2, e2⟩ := pick_in (l := [.tup [.int 0], .tup [.int 0], .tup [.int ((r.length : Int) - 1)]]) p1 (by simp) (by simp)
  have hf : ∃ f, d2 = finD f ∧ (f = [0] ∨ f = [r.length - 1]) := by
    simp only [List.mem_cons, List.not_mem_nil, or_false] at hd2
    rcases hd2 with rfl | rfl | rfl
    · exact ⟨[0], rfl, .inl rfl⟩
    · exact ⟨[0], rfl, .inl rfl⟩
    · refine ⟨[r.length - 1], ?_, .inr rfl⟩
      unfold finD
      simp only [List.map_cons, List.map_nil]
      congr 3; omega
  obtain ⟨f, rfl, hf⟩ := hf
  refine ⟨ring r, f, m2, p2, ring_ok hr hf, ?_⟩
  simp only [List.map_cons, List.map_nil] at e1
  generalize eR : D.lst (r.map .str) = R at e1
  generalize hS : finD f = fd at e2
  have lR : lenD [R] = some (.int r.length) := by rw [← eR]; simp
  generalize hEnv : ([some (.bor m2), some (.val (.lst (krows.map fun r => .lst (r.map .str)))), some (.val R), some (.val fd), none, none] : DE) = env
  have e3 := lcE_map (f := enumE (valA (var 2) noA)) (t := tupG 2 (consG (nmG 4) (consG (nmG 5) nilG))) (elt := tupE (valA (tupE (valA (var 5) (valA (callF ph_rest (valA (op2 addA (var 4) (cst (.int 1))) (valA (callB lenD (valA (var 2) noA)) noA))) noA))) noA)) (vs := [4, 5]) (δ := env) (δ0 := env) (δw := env) (as := r.zipIdx) (fun p => .tup [.int (p.2 : Nat), .str p.1]) (fun p => nodeD [(p.1, (p.2 + 1) % r.length)])
    (by rw [← hEnv, ← eR]; simp [pairs_map]) (by rw [← hEnv]; rfl) (by rw [lim_eq, List.length_zipIdx]; omega) (fun p hp => by
      have e5 := rest_ok (n := (p.2 : Int) + 1) (b := r.length) (by omega) (by omega)
      refine ⟨[some (.bor m2), some (.val (.lst (krows.map fun r => .lst (r.map .str)))), some (.val R), some (.val fd), some (.val (.int p.2)), some (.val (.str p.1))], [some (.bor m2), some (.val (.lst (krows.map fun r => .lst (r.map .str)))), some (.val R), some (.val fd), some (.val (.int p.2)), some (.val (.str p.1))], by rw [← hEnv]; rfl, ?_, by rw [← hEnv]; rfl⟩
      simp [lR, e5, nodeD, edgeD])
  have e4 : r.zipIdx.map (fun p => nodeD [(p.1, (p.2 + 1) % r.length)]) = (ring r).map nodeD := by unfold ring; rw [List.map_map]; rfl
  rw [e4, ← hEnv] at e3
  simp only [List.map_cons, List.map_nil] at e3
  generalize hNN : (ring r).map nodeD = NN at e3
  unfold ph_known F_known
  simp [ev_fn, e1, lR, e2, e3]
  rw [← hNN]; rfl
/-- the nodes drawn so far -/
structure NdOk (many : Nat) (n : Nd) : Prop where
  wid : ∀ nd ∈ n, nd.length ≤ 3
  stp : ∀ nd ∈ n, ∀ e ∈ nd, e.1 ∈ rSteps
  thr : ∀ nd ∈ n, ∀ e ∈ nd, e.2 < many
def edgeOf : D → Str × Nat
  | .tup [.str s, .int i] => (s, i.toNat)
  | _ => ("", 0)
abbrev RN (m : MD) (most many way : Nat) (n : Nd) (x2 x6 x7 : Option Sl) : DE := [some (.bor m), some (.val (.int most)), x2, some (.val (.int many)), some (.own (.lst (n.map nodeD))), some (.val (.int way)), x6, x7, none]
theorem rnode_turn {m : MD} {most many way k : Nat} {n : Nd} (hp : IsPen m) (h1 : 1 ≤ many) (h6 : many ≤ 6) (hn : NdOk many n) (hl : n.length ≤ 6) (hk : k < many) :
    ∃ m' nd, IsPen m' ∧ NdOk many (n ++ [nd]) ∧ L_relay_nodes_1 (RN m most many way n (some (.val (.int k))) none none) = .nx (RN m' most many way (n ++ [nd]) none none none) := by
  obtain ⟨d, m1, p1, hd, e1⟩ := pick_in (l := [.int 1, .int 1, .int 2, .int 1, .int 2, .int 0]) hp (by simp) (by simp)
  have hw : ∃ w : Nat, w ≤ 2 ∧ d = .int w := by
    simp only [List.mem_cons, List.not_mem_nil, or_false] at hd
    rcases hd with rfl | rfl | rfl | rfl | rfl | rfl
    · exact ⟨1, by omega, rfl⟩
    · exact ⟨1, by omega, rfl⟩
    · exact ⟨2, by omega, rfl⟩
    · exact ⟨1, by omega, rfl⟩
    · exact ⟨2, by omega, rfl⟩
    · exact ⟨0, by omega, rfl⟩
  obtain ⟨w, hw, rfl⟩ := hw
  obtain ⟨ps, m2, e2, p2, s2, q2⟩ := lcN_st (f := rng1 (valA (var 6) noA)) (t := nmG 8) (cond := noCond) (elt := tupE (valA (callF ph_relay_step (slotA 0 noA)) (valA (callF ph_draw (slotA 0 (valA (var 3) noA))) noA))) (vs := [8]) (δ := RN m1 most many way n (some (.val (.int k))) (some (.val (.int w))) none) (δ0 := RN m1 most many way n (some (.val (.int k))) (some (.val (.int w))) none) (as := List.range w)
    (fun i => .int (i : Nat)) (fun m : MD => RN m most many way n (some (.val (.int k))) (some (.val (.int w))) none) IsPen (fun i d => ∃ s j, s ∈ rSteps ∧ j < many ∧ d = edgeD (s, j)) (s := m1) (by simp [rgK_nat (n := w) (by omega)]) rfl p1 (by rw [lim_eq, List.length_range]; omega)
    (fun m i hi hm => by
      obtain ⟨s, m3, g1, g2, g3⟩ := relay_step_ok hm
      obtain ⟨r, m4, g4, g5, g6⟩ := draw_in (k := many) g1 (by omega) (by omega)
      refine ⟨[some (.bor m), some (.val (.int most)), some (.val (.int k)), some (.val (.int many)), some (.own (.lst (n.map nodeD))), some (.val (.int way)), some (.val (.int w)), none, some (.val (.int i))], true, _, rfl, rfl, fun h => (nomatch h), fun _ => ⟨edgeD (s, r), [some (.bor m4), some (.val (.int most)), some (.val (.int k)), some (.val (.int many)), some (.own (.lst (n.map nodeD))), some (.val (.int way)), some (.val (.int w)), none, some (.val (.int i))], m4, ?_, g4, rfl, ⟨s, r, g2, g5, rfl⟩⟩⟩
      simp [g3, g6, edgeD])
  have hes : ∃ nd : List (Str × Nat), ps.map (·.2) = nd.map edgeD ∧ nd.length ≤ 2 ∧ ∀ e ∈ nd, e.1 ∈ rSteps ∧ e.2 < many := by
    refine ⟨ps.map fun p => edgeOf p.2, ?_, ?_, fun e he => ?_⟩
    · rw [List.map_map]
      refine List.map_congr_left fun p hp => ?_
      obtain ⟨s, j, _, _, e⟩ := q2 p hp
      show p.2 = edgeD (edgeOf p.2)
      rw [e]
      simp [edgeD, edgeOf]
    · have := s2.length_le
      rw [List.length_map, List.length_range] at this
      rw [List.length_map]; omega
    · obtain ⟨p, hp, rfl⟩ := List.mem_map.mp he
      obtain ⟨s, j, h1, h2, e⟩ := q2 p hp
      rw [e]
      simp [edgeD, edgeOf]
      exact ⟨by simpa using h1, h2⟩
  obtain ⟨nd, ee, hnd, hee⟩ := hes
  rw [ee] at e2
  have done : ∀ (m' : MD) (nd' : List (Str × Nat)), nd'.length ≤ 3 → (∀ e ∈ nd', e.1 ∈ rSteps ∧ e.2 < many) → NdOk many (n ++ [nd']) := fun m' nd' h1 h2 => by
    refine ⟨fun x hx => ?_, fun x hx e he => ?_, fun x hx e he => ?_⟩ <;> rcases List.mem_append.mp hx with hx | hx
    · exact hn.wid x hx
    · rw [List.mem_singleton.mp hx]; exact h1
    · exact hn.stp x hx e he
    · rw [List.mem_singleton.mp hx] at he; exact (h2 e he).1
    · exact hn.thr x hx e he
    · rw [List.mem_singleton.mp hx] at he; exact (h2 e he).2
  obtain ⟨s, m3, g1, g2, g3⟩ := relay_step_ok p2
  have e5 := rest_ok (n := (k : Int) + 1) (b := many) (by omega) (by omega)
  have hc : cutD (nd.map edgeD) (some 1) none = (nd.drop 1).map edgeD := by rw [show (1 : Int) = ((1 : Nat) : Int) from rfl, cut_from, List.map_drop]
  have hlen : List.length n < 1000000 := by omega
  have hlen2 : 1 + (nd.length - 1) ≤ 1000000 := by omega
  by_cases hcnd : (0 : Int) < way ∧ ((k : Int) + 1 < many ∨ (way : Int) = 2)
  · refine ⟨m3, (s, (k + 1) % many) :: nd.drop 1, g1, done m3 _ (by rw [List.length_cons, List.length_drop]; omega) (fun e he => ?_), ?_⟩
    · rcases List.mem_cons.mp he with rfl | he
      · exact ⟨g2, Nat.mod_lt _ (by omega)⟩
      · exact hee e (List.mem_of_mem_drop he)
    · have hd : D.tup (edgeD (s, (k + 1) % many) :: (nd.drop 1).map edgeD) = nodeD ((s, (k + 1) % many) :: nd.drop 1) := rfl
      unfold L_relay_nodes_1
      obtain ⟨c1, c2⟩ := hcnd
      have c1' : 0 < way := by omega
      by_cases c3 : (k : Int) + 1 < many
      · simp [e1, e2, c1', c3, g3, e5, hc, hlen, hlen2, nodeD, edgeD]
      · have c4 : (way : Int) = 2 := by rcases c2 with c2 | c2; exact absurd c2 c3; exact c2
        simp [e1, e2, c1', c3, g3, e5, hc, hlen, hlen2]
        rw [if_pos c4]
        simp [nodeD, edgeD]
  · refine ⟨m2, nd, p2, done m2 _ (by omega) hee, ?_⟩
    unfold L_relay_nodes_1
    by_cases c1 : (0 : Int) < way
    · have c1' : 0 < way := by omega
      have c2 : ¬ (k : Int) + 1 < many := fun z => hcnd ⟨c1, .inl z⟩
      have c3 : ¬ (way : Int) = 2 := fun z => hcnd ⟨c1, .inr z⟩
      simp [e1, e2, c1', c2, c3, hlen, nodeD]
    · have c1' : ¬ 0 < way := by omega
      simp [e1, e2, c1', hlen, nodeD]
theorem relay_nodes_ok {m : MD} {most : Nat} (hp : IsPen m) (h1 : 1 ≤ most) (h6 : most ≤ 6) : ∃ n m', IsPen m' ∧ 1 ≤ List.length n ∧ List.length n ≤ most ∧ NdOk (List.length n) n ∧ ph_relay_nodes [.bor m, .val (.int most)] = .ret (nodesD n) [.bor m', .val (.int most)] := by
  obtain ⟨r, m1, p1, h2, e1⟩ := draw_in (k := most) hp (by omega) (by omega)
  obtain ⟨way, m2, p2, h3, e2⟩ := draw_in (k := 3) p1 (by omega) (by omega)
  have e2 : ph_draw [.bor m1, .val (.int 3)] = .ret (.int way) [.bor m2, .val (.int 3)] := e2
  obtain ⟨many, hmany⟩ : ∃ many, many = r + 1 := ⟨_, rfl⟩
  have ei : (1 : Int) + (r : Int) = (many : Int) := by omega
  obtain ⟨δ', e3, m3, n, p3, hl, hn, rfl⟩ := loop_ok (t := nmG 2) (g := L_relay_nodes_1) (ds := (List.range many).map fun i => .int (i : Nat)) (fun k δ => ∃ m n, IsPen m ∧ List.length n = k ∧ NdOk many n ∧ δ = RN m most many way n none none none)
    (fun k d δ hk hI => by
      obtain ⟨m, n, p, hl, hn, rfl⟩ := hI
      rw [List.getElem?_map] at hk
      obtain ⟨j, hj, rfl⟩ := Option.map_eq_some_iff.mp hk
      have hj' := List.getElem?_eq_some_iff.mp hj
      obtain ⟨hk1, hk2⟩ := hj'
      rw [List.length_range] at hk1
      rw [List.getElem_range] at hk2
      subst hk2
      obtain ⟨m', nd, q1, q2, q3⟩ := rnode_turn (m := m) (most := most) (many := many) (way := way) (k := k) p (by omega) (by omega) hn (by omega) hk1
      exact ⟨RN m most many way n (some (.val (.int k))) none none, _, rfl, q3, m', n ++ [nd], q1, by rw [List.length_append, hl]; rfl, q2, rfl⟩)
    (RN m2 most many way [] none none none) ⟨m2, [], p2, rfl, ⟨fun _ h => (nomatch h), fun _ h => (nomatch h), fun _ h => (nomatch h)⟩, rfl⟩
  rw [List.length_map, List.length_range] at hl
  refine ⟨n, m3, p3, by omega, by omega, by rw [hl]; exact hn, ?_⟩
  unfold ph_relay_nodes F_relay_nodes
  have eg := rgK_nat (n := many) (δ := [some (.bor m2), some (.val (.int most)), none, some (.val (.int many)), some (.own (.lst [])), some (.val (.int way)), none, none, none]) (by omega)
  have e3 : loopF (nmG 2) L_relay_nodes_1 ((List.range many).map fun i => .int (i : Nat)) [some (.bor m2), some (.val (.int most)), none, some (.val (.int many)), some (.own (.lst [])), some (.val (.int way)), none, none, none] = .nx (RN m3 most many way n none none none) := e3
  simp [ev_fn, e1, e2, ei, eg, e3, nodesD]
theorem relay_ok {m : MD} {most : Nat} (hp : IsPen m) (h1 : 1 ≤ most) (h6 : most ≤ 6) : ∃ n f m', IsPen m' ∧ RelOk n f ∧ ph_relay [.bor m, .val (.int most)] = .ret (.tup [nodesD n, finD f]) [.bor m', .val (.int most)] := by
  obtain ⟨r, m1, p1, h2, e1⟩ := draw_in (k := 3) hp (by omega) (by omega)
  have e1 : ph_draw [.bor m, .val (.int 3)] = .ret (.int r) [.bor m1, .val (.int 3)] := e1
  by_cases hr : (r : Int) = 0
  · obtain ⟨n, f, m', q1, q2, q3⟩ := known_ok p1
    refine ⟨n, f, m', q1, q2, ?_⟩
    unfold ph_relay F_relay
    rw [hr] at e1
    simp [ev_fn, e1, q3]
  · obtain ⟨n, m2, p2, g1, g2, g3, g4⟩ := relay_nodes_ok p1 h1 h6
    obtain ⟨fs, m3, p3, k1, k2, k3⟩ := finals_ok (n := List.length n) p2 (by omega)
    obtain ⟨d, m4, p4, hd, e4⟩ := pick_in (l := [finD fs, .tup [.int 0], .tup [.int ((List.length n : Int) - 1)]]) p3 (by simp) (by simp)
    have hf : ∃ f, d = finD f ∧ RelOk n f := by
      simp only [List.mem_cons, List.not_mem_nil, or_false] at hd
      rcases hd with rfl | rfl | rfl
      · exact ⟨fs, rfl, g1, by omega, g3.wid, g3.stp, g3.thr, k2, k1⟩
      · exact ⟨[0], rfl, g1, by omega, g3.wid, g3.stp, g3.thr, by simp; omega, by simp⟩
      · refine ⟨[List.length n - 1], ?_, g1, by omega, g3.wid, g3.stp, g3.thr, by simp; omega, by simp⟩
        unfold finD
        simp only [List.map_cons, List.map_nil]
        congr 3; omega
    obtain ⟨f, rfl, hf⟩ := hf
    refine ⟨n, f, m4, p4, hf, ?_⟩
    unfold ph_relay F_relay
    have e5 : lenD [nodesD n] = some (.int (List.length n)) := by simp [nodesD]
    have hr' : ¬ r = 0 := by omega
    simp [ev_fn, e1, hr', g4, e5, k3, e4]
end PV

/-! Qh: questions of relays. -/
namespace PV
open PySem PySem.Spec PyProof.Rows L2
noncomputable def F_p_Question_init : DE → O := (killS true [] (fldS ["Handing"] 0 "graph" (var 1)))
noncomputable def ph_p_Question_init : List Sl → FR := fnF 2 2 F_p_Question_init
noncomputable def F_p_Handing_first : DE → O := (killS true [] (retS (tupE (valA (cst (.int 0)) (valA (cst (.int 0)) (valA (cst (.int 0)) (valA (cst (.int 0)) (valA (cst (.int 1)) (valA (cst (.int 0)) noA)))))))))
noncomputable def ph_p_Handing_first : List Sl → FR := fnF 1 1 F_p_Handing_first
noncomputable def F_p_Handing_amiss : DE → O := (killS true [] (thenS (setS 3 (op2 eqD (op2 iand (op2 ishr (var 1) (var 2)) (cst (.int 1))) (cst (.int 1)))) (thenS (ifS (tst (op2 eqD (fldE ["Handing"] "way" (var 0)) (cst (.str "twice")))) (retS (ifE (tst (var 3)) (cst (.int 1)) (cst (.int 0)))) skipS) (thenS (ifS (tst (op2 eqD (fldE ["Handing"] "way" (var 0)) (cst (.str "order")))) (retS (ifE (andT (notT (tst (var 3))) (tst (op2 igt (op2 ishr (var 1) (var 2)) (cst (.int 0))))) (cst (.int 1)) (cst (.int 0)))) skipS) (retS (cst (.int 0)))))))
noncomputable def ph_p_Handing_amiss : List Sl → FR := fnF 3 4 F_p_Handing_amiss
noncomputable def F_p_Handing_missing : DE → O := (killS true [] (thenS (setS 3 (op2 isub (op2 ishl (cst (.int 1)) (var 2)) (cst (.int 1)))) (thenS (ifS (andT (tst (op2 (inF false) (fldE ["Handing"] "way" (var 0)) (tupE (valA (cst (.str "lost")) (valA (cst (.str "left")) noA))))) (tst (op2 neD (op2 iand (var 1) (var 3)) (var 3)))) (retS (cst (.int 1))) skipS) (retS (cst (.int 0))))))
noncomputable def ph_p_Handing_missing : List Sl → FR := fnF 3 4 F_p_Handing_missing
noncomputable def F_p_Handing_is_bad : DE → O := (killS true [] (thenS (asgS (tupG 6 (consG (nmG 2) (consG (nmG 3) (consG (nmG 4) (consG (nmG 5) (consG (nmG 6) (consG (nmG 7) nilG))))))) (var 1)) (thenS (ifS (tst (op2 eqD (fldE ["Handing"] "way" (var 0)) (cst (.str "lost")))) (retS (orE (op2 eqD (var 7) (cst (.int 1))) (op2 eqD (op2 iand (var 6) (cst (.int 1))) (cst (.int 0))))) skipS) (thenS (ifS (tst (op2 eqD (fldE ["Handing"] "way" (var 0)) (cst (.str "left")))) (thenS (setS 8 (andE (op2 eqD (var 7) (cst (.int 0))) (op2 eqD (var 6) (op2 isub (op2 ishl (cst (.int 1)) (op2 addA (var 3) (cst (.int 1)))) (cst (.int 1)))))) (retS (andE (op2 (inF false) (var 2) (fldE ["Relay"] "finals" (fldE ["Handing"] "graph" (var 0)))) (andE (op2 eqD (var 4) (var 3)) (notE (var 8)))))) skipS) (retS (op2 eqD (var 7) (cst (.int 1))))))))
noncomputable def ph_p_Handing_is_bad : List Sl → FR := fnF 2 9 F_p_Handing_is_bad
noncomputable def F_p_need_way_and_room : DE → O := (killS true [] (thenS (ifS (orT (notT (tst (callB isiD (valA (var 0) (valA (cst (.ty "str")) noA))))) (tst (op2 (inF true) (var 0) (cst (.ctp [(.str "lost"), (.str "twice"), (.str "order"), (.str "left")]))))) (raiseS "InvalidWay") skipS) (ifS (notT (tst (callF ph_p_is_between (valA (var 1) (valA (cst (.int 1)) (valA (cst (.int 3)) noA)))))) (raiseS "InvalidRoom") skipS)))
noncomputable def ph_p_need_way_and_room : List Sl → FR := fnF 2 2 F_p_need_way_and_room
noncomputable def F_p_Handing_init : DE → O := (thenS (dropS (supE ["Handing"] ph_p_Question_init (valA (var 1) noA))) (thenS (fldS ["Handing"] 0 "way" (var 2)) (fldS ["Handing"] 0 "limit" (var 3))))
noncomputable def ph_p_Handing_init : List Sl → FR := fnF 4 4 F_p_Handing_init
noncomputable def F_p_Handing_behind : DE → O := (killS true [] (thenS (asgS (tupG 5 (consG (nmG 3) (consG (nmG 4) (consG (nmG 5) (consG (nmG 6) (consG (nmG 7) nilG)))))) (var 2)) (thenS (ifS (tst (op2 eqD (var 1) (cst (.str "next")))) (retS (ifE (tst (op2 ilt (var 4) (var 3))) (tupE (valA (var 3) (valA (op2 addA (var 4) (cst (.int 1))) (valA (cst (.int 1)) (valA (var 6) (valA (var 7) noA)))))) (tupE (valA (var 3) (valA (var 4) (valA (cst (.int 0)) (valA (var 6) (valA (var 7) noA)))))))) skipS) (thenS (ifS (tst (op2 eqD (var 1) (cst (.str "back")))) (retS (tupE (valA (var 3) (valA (cst (.int 0)) (valA (cst (.int 0)) (valA (var 6) (valA (var 7) noA))))))) skipS) (thenS (ifS (andT (tst (op2 (inF false) (var 1) (cst (.ctp [(.str "pass"), (.str "both")])))) (tst (op2 eqD (var 5) (cst (.int 1))))) (thenS (setS 7 (callB max2D (valA (var 7) (valA (callM "amiss" [("Handing", ph_p_Handing_amiss)] (var 0) (valA (var 6) (valA (var 4) noA))) noA)))) (setS 6 (op2 ior (var 6) (op2 ishl (cst (.int 1)) (var 4))))) skipS) (thenS (ifS (tst (op2 (inF false) (var 1) (cst (.ctp [(.str "mark"), (.str "both")])))) (thenS (setS 7 (callB max2D (valA (var 7) (valA (callM "missing" [("Handing", ph_p_Handing_missing)] (var 0) (valA (var 6) (valA (var 4) noA))) noA)))) (retS (tupE (valA (op2 isub (var 3) (var 4)) (valA (cst (.int 0)) (valA (var 5) (valA (op2 ishr (var 6) (var 4)) (valA (var 7) noA)))))))) skipS) (retS (tupE (valA (var 3) (valA (var 4) (valA (var 5) (valA (var 6) (valA (var 7) noA)))))))))))))
noncomputable def ph_p_Handing_behind : List Sl → FR := fnF 3 8 F_p_Handing_behind
noncomputable def L_p_Handing_moves_1 : DE → O := (killS true [false, false, false, false, false, false, false, false, false, true, true, true, true] (thenS (setS 10 (callM "behind" [("Handing", ph_p_Handing_behind)] (var 0) (valA (var 11) (valA (slE (var 1) (oSome (cst (.int 1))) oNo) noA)))) (appS 2 (tupE (valA (var 9) (valA (tupE (valA (var 12) (starA (var 10) noA))) noA))))))
noncomputable def F_p_Handing_moves : DE → O := (killS true [] (thenS (asgS (tupG 6 (consG (nmG 3) (consG (nmG 4) (consG (nmG 5) (consG (nmG 6) (consG (nmG 7) (consG (nmG 8) nilG))))))) (var 1)) (thenS (ownS 2 (lstN (valA (tupE (valA (cst (.int (-2))) (valA (tupE (valA (cst (.int 0)) (valA (var 4) (valA (cst (.int 0)) (valA (cst (.int 0)) (valA (var 7) (valA (var 8) noA))))))) noA))) noA))) (thenS (ifS (tst (op2 ilt (var 4) (fldE ["Handing"] "limit" (var 0)))) (appS 2 (tupE (valA (cst (.int (-1))) (valA (tupE (valA (var 3) (valA (op2 addA (var 4) (cst (.int 1))) (valA (var 5) (valA (var 6) (valA (var 7) (valA (var 8) noA))))))) noA)))) skipS) (thenS (forS (enumE (valA (op2 ixD (fldE ["Relay"] "nodes" (fldE ["Handing"] "graph" (var 0))) (var 3)) noA)) (tupG 2 (consG (nmG 9) (consG (tupG 2 (consG (nmG 11) (consG (nmG 12) nilG))) nilG))) L_p_Handing_moves_1) (retS (var 2)))))))
noncomputable def ph_p_Handing_moves : List Sl → FR := fnF 2 13 F_p_Handing_moves
noncomputable def L_p_Question_reached_1 : DE → O := (killS true [false, false, false, false, true, true] (ifS (tst (dInT true 1 (var 5))) (thenS (dPutT 1 (var 5) (tupE (starA (dGetT 1 (ixSl 2 (var 3))) (valA (var 4) noA)))) (appS 2 (var 5))) skipS))
noncomputable def L_p_Question_reached_2 : DE → O := (killS true [false, false, false, false, true, true] (thenS (forS (seqE (callM "moves" [("Handing", ph_p_Handing_moves)] (var 0) (valA (ixSl 2 (var 3)) noA))) (tupG 2 (consG (nmG 4) (consG (nmG 5) nilG))) L_p_Question_reached_1) (augS 3 iadd (cst (.int 1)))))
noncomputable def F_p_Question_reached : DE → O := (killS true [] (thenS (ownS 1 (dOneT (callM "first" [("Handing", ph_p_Handing_first)] (var 0) noA) (tupE noA))) (thenS (ownS 2 (lstN (valA (callM "first" [("Handing", ph_p_Handing_first)] (var 0) noA) noA))) (thenS (setS 3 (cst (.int 0))) (thenS (whileS 8192 (tst (op2 ilt (var 3) (callB lenD (slotA 2 noA)))) L_p_Question_reached_2) (retS (lockE 1)))))))
noncomputable def ph_p_Question_reached : List Sl → FR := fnF 1 6 F_p_Question_reached
noncomputable def F_p_Relay_question : DE → O := (killS true [] (thenS (dropS (callF ph_p_need_way_and_room (valA (var 1) (valA (var 2) noA)))) (retS (ofN (makeN "Handing" ph_p_Handing_init (valA (var 0) (valA (var 1) (valA (var 2) noA))))))))
noncomputable def ph_p_Relay_question : List Sl → FR := fnF 3 3 F_p_Relay_question
noncomputable def L_p_Question_run_1 : DE → O := (killS true [false, true, true] (ifS (tst (callM "is_bad" [("Handing", ph_p_Handing_is_bad)] (var 0) (valA (var 1) noA))) (retS (var 2)) skipS))
noncomputable def F_p_Question_run : DE → O := (killS true [] (thenS (forS (itemsT (callM "reached" [("Handing", ph_p_Question_reached)] (var 0) noA)) (tupG 2 (consG (nmG 1) (consG (nmG 2) nilG))) L_p_Question_run_1) (retS (cst .non))))
noncomputable def ph_p_Question_run : List Sl → FR := fnF 1 3 F_p_Question_run
/-! ### words that differ -/
@[simp] theorem nh_next_pass : (("next" : Str) = "pass") = False := eq_false (by decide +kernel)
@[simp] theorem nh_next_mark : (("next" : Str) = "mark") = False := eq_false (by decide +kernel)
@[simp] theorem nh_next_both : (("next" : Str) = "both") = False := eq_false (by decide +kernel)
@[simp] theorem nh_next_back : (("next" : Str) = "back") = False := eq_false (by decide +kernel)
@[simp] theorem nh_pass_next : (("pass" : Str) = "next") = False := eq_false (by decide +kernel)
@[simp] theorem nh_pass_mark : (("pass" : Str) = "mark") = False := eq_false (by decide +kernel)
@[simp] theorem nh_pass_both : (("pass" : Str) = "both") = False := eq_false (by decide +kernel)
@[simp] theorem nh_pass_back : (("pass" : Str) = "back") = False := eq_false (by decide +kernel)
@[simp] theorem nh_mark_next : (("mark" : Str) = "next") = False := eq_false (by decide +kernel)
@[simp] theorem nh_mark_pass : (("mark" : Str) = "pass") = False := eq_false (by decide +kernel)
@[simp] theorem nh_mark_both : (("mark" : Str) = "both") = False := eq_false (by decide +kernel)
@[simp] theorem nh_mark_back : (("mark" : Str) = "back") = False := eq_false (by decide +kernel)
@[simp] theorem nh_both_next : (("both" : Str) = "next") = False := eq_false (by decide +kernel)
@[simp] theorem nh_both_pass : (("both" : Str) = "pass") = False := eq_false (by decide +kernel)
@[simp] theorem nh_both_mark : (("both" : Str) = "mark") = False := eq_false (by decide +kernel)
@[simp] theorem nh_both_back : (("both" : Str) = "back") = False := eq_false (by decide +kernel)
@[simp] theorem nh_back_next : (("back" : Str) = "next") = False := eq_false (by decide +kernel)
@[simp] theorem nh_back_pass : (("back" : Str) = "pass") = False := eq_false (by decide +kernel)
@[simp] theorem nh_back_mark : (("back" : Str) = "mark") = False := eq_false (by decide +kernel)
@[simp] theorem nh_back_both : (("back" : Str) = "both") = False := eq_false (by decide +kernel)
@[simp] theorem nh_lost_twice : (("lost" : Str) = "twice") = False := eq_false (by decide +kernel)
@[simp] theorem nh_lost_order : (("lost" : Str) = "order") = False := eq_false (by decide +kernel)
@[simp] theorem nh_lost_left : (("lost" : Str) = "left") = False := eq_false (by decide +kernel)
@[simp] theorem nh_twice_lost : (("twice" : Str) = "lost") = False := eq_false (by decide +kernel)
@[simp] theorem nh_twice_order : (("twice" : Str) = "order") = False := eq_false (by decide +kernel)
@[simp] theorem nh_twice_left : (("twice" : Str) = "left") = False := eq_false (by decide +kernel)
@[simp] theorem nh_order_lost : (("order" : Str) = "lost") = False := eq_false (by decide +kernel)
@[simp] theorem nh_order_twice : (("order" : Str) = "twice") = False := eq_false (by decide +kernel)
@[simp] theorem nh_order_left : (("order" : Str) = "left") = False := eq_false (by decide +kernel)
@[simp] theorem nh_left_lost : (("left" : Str) = "lost") = False := eq_false (by decide +kernel)
@[simp] theorem nh_left_twice : (("left" : Str) = "twice") = False := eq_false (by decide +kernel)
@[simp] theorem nh_left_order : (("left" : Str) = "order") = False := eq_false (by decide +kernel)
@[simp] theorem nh_graph_way : (("graph" : Str) = "way") = False := eq_false (by decide +kernel)
@[simp] theorem nh_graph_limit : (("graph" : Str) = "limit") = False := eq_false (by decide +kernel)
@[simp] theorem nh_way_graph : (("way" : Str) = "graph") = False := eq_false (by decide +kernel)
@[simp] theorem nh_way_limit : (("way" : Str) = "limit") = False := eq_false (by decide +kernel)
@[simp] theorem nh_limit_graph : (("limit" : Str) = "graph") = False := eq_false (by decide +kernel)
@[simp] theorem nh_limit_way : (("limit" : Str) = "way") = False := eq_false (by decide +kernel)
@[simp] theorem nh_nodes_finals : (("nodes" : Str) = "finals") = False := eq_false (by decide +kernel)
@[simp] theorem nh_finals_nodes : (("finals" : Str) = "nodes") = False := eq_false (by decide +kernel)
@[simp] theorem nh_graph_first : (("graph" : Str) = "first") = False := eq_false (by decide +kernel)
@[simp] theorem nh_way_first : (("way" : Str) = "first") = False := eq_false (by decide +kernel)
@[simp] theorem nh_limit_first : (("limit" : Str) = "first") = False := eq_false (by decide +kernel)
@[simp] theorem nh_graph_moves : (("graph" : Str) = "moves") = False := eq_false (by decide +kernel)
@[simp] theorem nh_way_moves : (("way" : Str) = "moves") = False := eq_false (by decide +kernel)
@[simp] theorem nh_limit_moves : (("limit" : Str) = "moves") = False := eq_false (by decide +kernel)
@[simp] theorem nh_graph_behind : (("graph" : Str) = "behind") = False := eq_false (by decide +kernel)
@[simp] theorem nh_way_behind : (("way" : Str) = "behind") = False := eq_false (by decide +kernel)
@[simp] theorem nh_limit_behind : (("limit" : Str) = "behind") = False := eq_false (by decide +kernel)
@[simp] theorem nh_graph_amiss : (("graph" : Str) = "amiss") = False := eq_false (by decide +kernel)
@[simp] theorem nh_way_amiss : (("way" : Str) = "amiss") = False := eq_false (by decide +kernel)
@[simp] theorem nh_limit_amiss : (("limit" : Str) = "amiss") = False := eq_false (by decide +kernel)
@[simp] theorem nh_graph_missing : (("graph" : Str) = "missing") = False := eq_false (by decide +kernel)
@[simp] theorem nh_way_missing : (("way" : Str) = "missing") = False := eq_false (by decide +kernel)
@[simp] theorem nh_limit_missing : (("limit" : Str) = "missing") = False := eq_false (by decide +kernel)
@[simp] theorem nh_graph_is_bad : (("graph" : Str) = "is_bad") = False := eq_false (by decide +kernel)
@[simp] theorem nh_way_is_bad : (("way" : Str) = "is_bad") = False := eq_false (by decide +kernel)
@[simp] theorem nh_limit_is_bad : (("limit" : Str) = "is_bad") = False := eq_false (by decide +kernel)
@[simp] theorem nh_graph_reached : (("graph" : Str) = "reached") = False := eq_false (by decide +kernel)
@[simp] theorem nh_way_reached : (("way" : Str) = "reached") = False := eq_false (by decide +kernel)
@[simp] theorem nh_limit_reached : (("limit" : Str) = "reached") = False := eq_false (by decide +kernel)
@[simp] theorem nh_graph_run : (("graph" : Str) = "run") = False := eq_false (by decide +kernel)
@[simp] theorem nh_way_run : (("way" : Str) = "run") = False := eq_false (by decide +kernel)
@[simp] theorem nh_limit_run : (("limit" : Str) = "run") = False := eq_false (by decide +kernel)
@[simp] theorem nh_graph_question : (("graph" : Str) = "question") = False := eq_false (by decide +kernel)
@[simp] theorem nh_way_question : (("way" : Str) = "question") = False := eq_false (by decide +kernel)
@[simp] theorem nh_limit_question : (("limit" : Str) = "question") = False := eq_false (by decide +kernel)
@[simp] theorem nh_nodes_question : (("nodes" : Str) = "question") = False := eq_false (by decide +kernel)
@[simp] theorem nh_finals_question : (("finals" : Str) = "question") = False := eq_false (by decide +kernel)
/-! ### small numbers -/
theorem had_fact : ∀ b, b < 16 → ∀ p, p < 4 → Builtin.bitAnd (((b : Nat) : Int) / 2 ^ p) 1 = ((b / 2 ^ p % 2 : Nat) : Int) := by decide
theorem or_fact : ∀ b, b < 16 → ∀ p, p < 4 → Builtin.bitOr ((b : Nat) : Int) (2 ^ p) = ((if b / 2 ^ p % 2 = 1 then b else b + 2 ^ p : Nat) : Int) := by decide
theorem and_fact : ∀ b, b < 16 → ∀ p, p < 4 → Builtin.bitAnd ((b : Nat) : Int) (2 ^ p - 1) = ((b % 2 ^ p : Nat) : Int) := by decide
theorem bit_fact : ∀ b, b < 16 → Builtin.bitAnd ((b : Nat) : Int) 1 = ((b % 2 : Nat) : Int) := by decide
/-! ### what the methods compute -/
theorem op_ishr {i : Int} {p : Nat} : ishr (.int i) (.int (p : Nat)) = some (.int (i / 2 ^ p)) := by simp [iopC]
theorem op_ishl1 {p : Nat} (h : p ≤ 1000) : ishl (.int 1) (.int (p : Nat)) = some (.int (2 ^ p)) := by
  have : (p : Int) ≤ 1000 := by omega
  simp [iopC, this]
theorem op_iand {i j : Int} : iand (.int i) (.int j) = some (.int (Builtin.bitAnd i j)) := rfl
theorem op_ior {i j : Int} : ior (.int i) (.int j) = some (.int (Builtin.bitOr i j)) := rfl
section
variable {a b c d e g : D} {l : List D}
theorem hat0 : atI (a :: l) 0 = some a := PV.atI_nat (k := 0) rfl
end
/-- a state without its node: kept, place, held, passed, fault -/
structure Hk where
  k : Nat
  p : Nat
  h : Nat
  b : Nat
  f : Nat
abbrev hO (way : Str) (R : Nat) (n : Nd) (f : List Nat) : D := .ins "Handing" [("graph", relayO n f), ("way", .str way), ("limit", .int (R : Nat))]
def amN (way : Str) (b p : Nat) : Nat := if way = "twice" then (if b / 2 ^ p % 2 = 1 then 1 else 0) else if way = "order" then (if ¬ b / 2 ^ p % 2 = 1 ∧ 0 < b / 2 ^ p then 1 else 0) else 0
def miN (way : Str) (b p : Nat) : Nat := if (way = "lost" ∨ way = "left") ∧ ¬ b % 2 ^ p = 2 ^ p - 1 then 1 else 0
def orN (b p : Nat) : Nat := if b / 2 ^ p % 2 = 1 then b else b + 2 ^ p
/-- behind passing on, if that is done -/
def passN (way : Str) (st : Str) (s : Hk) : Hk := if (st = "pass" ∨ st = "both") ∧ s.h = 1 then ⟨s.k, s.p, s.h, orN s.b s.p, max s.f (amN way s.b s.p)⟩ else s
def behN (way : Str) (st : Str) (s : Hk) : Hk :=
  if st = "next" then (if s.p < s.k then ⟨s.k, s.p + 1, 1, s.b, s.f⟩ else ⟨s.k, s.p, 0, s.b, s.f⟩) else if st = "back" then ⟨s.k, 0, 0, s.b, s.f⟩
  else if st = "mark" ∨ st = "both" then ⟨(passN way st s).k - (passN way st s).p, 0, (passN way st s).h, (passN way st s).b / 2 ^ (passN way st s).p, max (passN way st s).f (miN way (passN way st s).b (passN way st s).p)⟩ else passN way st s
def HkOk (R : Nat) (s : Hk) : Prop := s.p ≤ s.k ∧ s.k ≤ R ∧ R ≤ 3 ∧ s.h ≤ 1 ∧ s.b < 2 ^ (s.k + 1) ∧ s.f ≤ 1
abbrev restD (s : Hk) : D := .tup [.int (s.k : Nat), .int (s.p : Nat), .int (s.h : Nat), .int (s.b : Nat), .int (s.f : Nat)]
section
variable {way st : Str} {R : Nat} {n : Nd} {f : List Nat} {s : Hk}
theorem amiss_ok {b p : Nat} (hb : b < 16) (hp : p < 4) : ph_p_Handing_amiss [.val (hO way R n f), .val (.int (b : Nat)), .val (.int (p : Nat))] = .ret (.int (amN way b p : Nat)) [.val (hO way R n f), .val (.int (b : Nat)), .val (.int (p : Nat))] := by
  have e1 := had_fact b hb p hp
  have e2 : ((b : Nat) : Int) / 2 ^ p = ((b / 2 ^ p : Nat) : Int) := by rw [Int.natCast_ediv]; simp
  unfold ph_p_Handing_amiss F_p_Handing_amiss amN
  by_cases h1 : b / 2 ^ p % 2 = 1
  · have e3 : Builtin.bitAnd (((b : Nat) : Int) / 2 ^ p) 1 = 1 := by rw [e1, h1]; rfl
    by_cases w1 : way = "twice"
    · subst w1; simp [ev_fn, lkF, op_ishr, op_iand, e3, h1]
    · by_cases w2 : way = "order"
      · subst w2; simp [ev_fn, lkF, op_ishr, op_iand, e3, h1]
      · simp [ev_fn, lkF, op_ishr, op_iand, e3, w1, w2]
  · have e3 : Builtin.bitAnd (((b : Nat) : Int) / 2 ^ p) 1 = 0 := by rw [e1]; omega
    by_cases w1 : way = "twice"
    · subst w1; simp [ev_fn, lkF, op_ishr, op_iand, e3, h1]
    · by_cases w2 : way = "order"
      · subst w2
        by_cases h3 : 0 < b / 2 ^ p
        · have h3' : (0 : Int) < ((b / 2 ^ p : Nat) : Int) := by omega
          rw [← e2] at h3'
          simp [ev_fn, lkF, op_ishr, op_iand, e3, h1, h3, h3']
        · have h3' : ¬ (0 : Int) < ((b / 2 ^ p : Nat) : Int) := by omega
          rw [← e2] at h3'
          simp [ev_fn, lkF, op_ishr, op_iand, e3, h1, h3, h3']
      · simp [ev_fn, lkF, op_ishr, op_iand, e3, w1, w2]
theorem missing_ok {b p : Nat} (hb : b < 16) (hp : p < 4) : ph_p_Handing_missing [.val (hO way R n f), .val (.int (b : Nat)), .val (.int (p : Nat))] = .ret (.int (miN way b p : Nat)) [.val (hO way R n f), .val (.int (b : Nat)), .val (.int (p : Nat))] := by
  have e1 := and_fact b hb p hp
  have ep : ((2 : Int) ^ p - 1) = ((2 ^ p - 1 : Nat) : Int) := by
    have : 1 ≤ 2 ^ p := Nat.one_le_two_pow
    rw [Int.ofNat_sub this]; simp
  have hs := op_ishl1 (p := p) (by omega)
  have ht : inF false (.str way) (.tup [.str "lost", .str "left"]) = some (.bl (decide (way = "lost" ∨ way = "left"))) := by
    have := inF_strT (k := way) (l := ["lost", "left"])
    simp only [List.map_cons, List.map_nil] at this
    rw [this]
    congr 3
    simp
  unfold ph_p_Handing_missing F_p_Handing_missing miN
  by_cases w : way = "lost" ∨ way = "left"
  · rw [decide_eq_true w] at ht
    by_cases h1 : b % 2 ^ p = 2 ^ p - 1
    · have e3 : Builtin.bitAnd ((b : Nat) : Int) (2 ^ p - 1) = 2 ^ p - 1 := by rw [e1, h1, ep]
      simp [ev_fn, lkF, hs, ht, op_iand, e3, h1]
    · have e3 : ¬ Builtin.bitAnd ((b : Nat) : Int) (2 ^ p - 1) = 2 ^ p - 1 := by rw [e1, ep]; omega
      simp [ev_fn, lkF, hs, ht, op_iand, e3, h1, w]
  · rw [decide_eq_false w] at ht
    simp [ev_fn, lkF, hs, ht, w]
theorem max_nat {a b : Nat} : max2D [.int (a : Nat), .int (b : Nat)] = some (.int ((max a b : Nat) : Int)) := by
  unfold max2D
  by_cases h : (b : Int) > a
  · simp; split <;> omega
  · simp; split <;> omega
theorem pow_le {k : Nat} (h : k ≤ 3) : 2 ^ (k + 1) ≤ 16 := by
  have : k = 0 ∨ k = 1 ∨ k = 2 ∨ k = 3 := by omega
  rcases this with rfl | rfl | rfl | rfl <;> decide
theorem or_lt : ∀ k, k < 4 → ∀ p, p ≤ k → ∀ b, b < 2 ^ (k + 1) → orN b p < 2 ^ (k + 1) := by decide
theorem shr_lt : ∀ k, k < 4 → ∀ p, p ≤ k → ∀ b, b < 2 ^ (k + 1) → b / 2 ^ p < 2 ^ (k - p + 1) := by decide
theorem behind_ok (hk : HkOk R s) (hs : st ∈ rSteps) : ph_p_Handing_behind [.val (hO way R n f), .val (.str st), .val (restD s)] = .ret (restD (behN way st s)) [.val (hO way R n f), .val (.str st), .val (restD s)] := by
  obtain ⟨k1, k2, k3, k4, k5, k6⟩ := hk
  obtain ⟨k, p, h, b, fa⟩ := s
  simp only at k1 k2 k3 k4 k5 k6
  have hb : b < 16 := Nat.lt_of_lt_of_le k5 (pow_le (by omega))
  have hp : p < 4 := by omega
  have hb2 : orN b p < 16 := Nat.lt_of_lt_of_le (or_lt k (by omega) p k1 b k5) (pow_le (by omega))
  have ea := amiss_ok (way := way) (R := R) (n := n) (f := f) hb hp
  have em1 := missing_ok (way := way) (R := R) (n := n) (f := f) hb hp
  have em2 := missing_ok (way := way) (R := R) (n := n) (f := f) hb2 hp
  have eo : Builtin.bitOr ((b : Nat) : Int) (2 ^ p) = ((orN b p : Nat) : Int) := or_fact b hb p hp
  have hsh := op_ishl1 (p := p) (by omega)
  have d1 : ((b : Nat) : Int) / 2 ^ p = ((b / 2 ^ p : Nat) : Int) := by rw [Int.natCast_ediv]; simp
  have d2 : ((orN b p : Nat) : Int) / 2 ^ p = ((orN b p / 2 ^ p : Nat) : Int) := by rw [Int.natCast_ediv]; simp
  have hkp : ((k - p : Nat) : Int) = ((k : Nat) : Int) - ((p : Nat) : Int) := by omega
  have t1 := fun x : Str => inF_strC (k := x) (l := ["pass", "both"])
  have t2 := fun x : Str => inF_strC (k := x) (l := ["mark", "both"])
  simp only [List.map_cons, List.map_nil] at t1 t2
  unfold ph_p_Handing_behind F_p_Handing_behind
  simp only [rSteps, List.mem_cons, List.not_mem_nil, or_false] at hs
  have h01 : h = 0 ∨ h = 1 := by omega
  rcases hs with rfl | rfl | rfl | rfl | rfl
  · by_cases q : p < k
    · have q' : (p : Int) < k := by omega
      simp [ev_fn, behN, q, q']
    · have q' : ¬ (p : Int) < k := by omega
      simp [ev_fn, behN, q, q']
  · rcases h01 with rfl | rfl
    · simp [ev_fn, behN, passN, t1, t2]
    · simp [ev_fn, behN, passN, t1, t2, meK, lkT, lkF, ea, max_nat, hsh, op_ior, eo]
  · simp [ev_fn, behN, passN, t1, t2, meK, lkT, lkF, em1, max_nat, op_ishr, hkp]
  · rcases h01 with rfl | rfl
    · simp [ev_fn, behN, passN, t1, t2, meK, lkT, lkF, em1, max_nat, op_ishr, hkp]
    · simp [ev_fn, behN, passN, t1, t2, meK, lkT, lkF, ea, em2, max_nat, hsh, op_ior, eo, op_ishr, hkp]
  · simp [ev_fn, behN]
end
end PV

/-! Qi: questions of relays: moves, all that is reached, the least run. -/
namespace PV
open PySem PySem.Spec PyProof.Rows L2
abbrev stH (m : Nat) (s : Hk) : D := .tup [.int (m : Nat), .int (s.k : Nat), .int (s.p : Nat), .int (s.h : Nat), .int (s.b : Nat), .int (s.f : Nat)]
abbrev keyH (m : Nat) (s : Hk) : List Key := [.inl (m : Nat), .inl (s.k : Nat), .inl (s.p : Nat), .inl (s.h : Nat), .inl (s.b : Nat), .inl (s.f : Nat)]
theorem kTup_H {m : Nat} {s : Hk} : kTup (keyH m s) = stH m s := rfl
def crashN (s : Hk) : Hk := ⟨s.k, 0, 0, s.b, s.f⟩
def otherN (s : Hk) : Hk := ⟨s.k + 1, s.p, s.h, s.b, s.f⟩
def mvH (way : Str) (R : Nat) (n : Nd) (m : Nat) (s : Hk) : List (Int × (Nat × Hk)) :=
  (-2, (0, crashN s)) :: ((if s.k < R then [(-1, (m, otherN s))] else []) ++ (n.getD m []).zipIdx.map fun p => ((p.2 : Int), (p.1.2, behN way p.1.1 s)))
abbrev mvDH (q : Int × (Nat × Hk)) : D := .tup [.int q.1, stH q.2.1 q.2.2]
abbrev MVH (q : D) (m : Nat) (s : Hk) (acc : List D) : DE := [some (.val q), some (.val (stH m s)), some (.own (.lst acc)), some (.val (.int (m : Nat))), some (.val (.int (s.k : Nat))), some (.val (.int (s.p : Nat))), some (.val (.int (s.h : Nat))), some (.val (.int (s.b : Nat))), some (.val (.int (s.f : Nat))), none, none, none, none]
theorem hrunL_app {α β : Type} (h : α → β) : ∀ (as : List α) (s : List β), runL (fun s a => .go (s ++ [h a])) as s = .go (s ++ as.map h)
  | [], s => by unfold runL; simp
  | a :: as, s => by unfold runL; simp only; rw [hrunL_app h as]; simp
theorem hnode_mem {n : Nd} {k : Nat} (h : k < List.length n) : n.getD k [] ∈ n := by
  rw [List.getD_eq_getElem?_getD, List.getElem?_eq_getElem h]; exact List.getElem_mem h
theorem hix_node {n : Nd} {k : Nat} (h : k < List.length n) : ixD (nodesD n) (.int k) = some (nodeD (n.getD k [])) := by
  unfold nodesD
  rw [op_ixT]
  exact PV.atI_nat (by rw [List.getElem?_map, List.getElem?_eq_getElem h, List.getD_eq_getElem?_getD, List.getElem?_eq_getElem h]; rfl)
theorem hcut1 {a b c d e g : D} : cutD [a, b, c, d, e, g] (some 1) none = [b, c, d, e, g] := rfl
section
variable {way : Str} {R : Nat} {n : Nd} {f : List Nat} {s : Hk} {m : Nat}
theorem hmoves_turn {acc : List D} {p : (Str × Nat) × Nat} (hk : HkOk R s) (hst : p.1.1 ∈ rSteps) (hl : acc.length < 1000) : ∃ δ1, (tupG 2 (consG (nmG 9) (consG (tupG 2 (consG (nmG 11) (consG (nmG 12) nilG))) nilG))) (.tup [.int (p.2 : Nat), edgeD p.1]) (MVH (hO way R n f) m s acc) = some δ1 ∧
    L_p_Handing_moves_1 δ1 = .nx (MVH (hO way R n f) m s (acc ++ [mvDH ((p.2 : Int), (p.1.2, behN way p.1.1 s))])) := by
  have hl' : acc.length < 1000000 := by omega
  refine ⟨_, rfl, ?_⟩
  unfold L_p_Handing_moves_1
  have e := behind_ok (way := way) (n := n) (f := f) hk hst
  generalize behN way p.1.1 s = s' at *
  simp [meK, lkT, lkF, hcut1, e, hl']
theorem hmoves_ok (hn : RelOk n f) (hk : HkOk R s) (hm : m < List.length n) : ph_p_Handing_moves [.val (hO way R n f), .val (stH m s)] = .ret (.lst ((mvH way R n m s).map mvDH)) [.val (hO way R n f), .val (stH m s)] := by
  have hx := hix_node hm
  have hw := hn.wid _ (hnode_mem hm)
  have hs := hn.stp _ (hnode_mem hm)
  unfold mvH
  generalize n.getD m [] = nd at hx hw hs
  have ei : enumItems [.val (nodeD nd)] = fun δ => .ok ((nd.zipIdx).map fun p => D.tup [.int (p.2 : Nat), edgeD p.1]) δ := by
    funext δ
    unfold nodeD
    rw [enumI_tup, pairs_map]
  have hl := fun (acc0 : List D) (h0 : acc0.length ≤ 2) => loop_runI (t := tupG 2 (consG (nmG 9) (consG (tupG 2 (consG (nmG 11) (consG (nmG 12) nilG))) nilG))) (g := L_p_Handing_moves_1) (fun p : (Str × Nat) × Nat => D.tup [.int (p.2 : Nat), edgeD p.1]) (fun acc => MVH (hO way R n f) m s acc) (fun _ => [])
    (fun acc p => .go (acc ++ [mvDH ((p.2 : Int), (p.1.2, behN way p.1.1 s))])) (fun as acc => acc.length + as.length < 1000 ∧ ∀ p ∈ as, p.1.1 ∈ rSteps)
    (fun acc p as h => by
      obtain ⟨h, h2⟩ := h
      rw [List.length_cons] at h
      obtain ⟨δ1, g1, g2⟩ := hmoves_turn (way := way) (n := n) (f := f) (m := m) (acc := acc) (p := p) hk (h2 p List.mem_cons_self) (by omega)
      exact ⟨δ1, g1, ⟨by simp; omega, fun q hq => h2 q (List.mem_cons_of_mem _ hq)⟩, .inl g2⟩) nd.zipIdx acc0 ⟨by rw [List.length_zipIdx]; omega, fun p hp => hs p.1 (List.fst_mem_of_mem_zipIdx hp)⟩
  simp only [hrunL_app] at hl
  have hl : ∀ acc0 : List D, acc0.length ≤ 2 → loopF (tupG 2 (consG (nmG 9) (consG (tupG 2 (consG (nmG 11) (consG (nmG 12) nilG))) nilG))) L_p_Handing_moves_1 ((nd.zipIdx).map fun p => D.tup [.int (p.2 : Nat), edgeD p.1]) (MVH (hO way R n f) m s acc0) = .nx (MVH (hO way R n f) m s (acc0 ++ nd.zipIdx.map fun p => mvDH ((p.2 : Int), (p.1.2, behN way p.1.1 s)))) := fun acc0 h0 => hl acc0 h0
  have em : ∀ (l : List (Int × (Nat × Hk))), (l ++ nd.zipIdx.map fun p => ((p.2 : Int), (p.1.2, behN way p.1.1 s))).map mvDH = l.map mvDH ++ nd.zipIdx.map fun p => mvDH ((p.2 : Int), (p.1.2, behN way p.1.1 s)) := fun l => by
    rw [List.map_append, List.map_map]; rfl
  rw [← List.cons_append, em]
  generalize (nd.zipIdx.map fun p => mvDH ((p.2 : Int), (p.1.2, behN way p.1.1 s))) = tl at hl
  generalize (nd.zipIdx).map (fun p : (Str × Nat) × Nat => D.tup [.int (p.2 : Nat), edgeD p.1]) = ls at hl ei
  unfold ph_p_Handing_moves F_p_Handing_moves
  by_cases q : s.k < R
  · have q' : (s.k : Int) < R := by omega
    have hl := hl [mvDH (-2, (0, crashN s)), mvDH (-1, (m, otherN s))] (by simp)
    have hl : loopF (tupG 2 (consG (nmG 9) (consG (tupG 2 (consG (nmG 11) (consG (nmG 12) nilG))) nilG))) L_p_Handing_moves_1 ls [some (.val (hO way R n f)), some (.val (stH m s)), some (.own (.lst [D.tup [.int (-2), .tup [.int 0, .int (s.k : Nat), .int 0, .int 0, .int (s.b : Nat), .int (s.f : Nat)]], D.tup [.int (-1), .tup [.int (m : Nat), .int ((s.k : Nat) + 1), .int (s.p : Nat), .int (s.h : Nat), .int (s.b : Nat), .int (s.f : Nat)]]])), some (.val (.int (m : Nat))), some (.val (.int (s.k : Nat))), some (.val (.int (s.p : Nat))), some (.val (.int (s.h : Nat))), some (.val (.int (s.b : Nat))), some (.val (.int (s.f : Nat))), none, none, none, none] = .nx (MVH (hO way R n f) m s ([mvDH (-2, (0, crashN s)), mvDH (-1, (m, otherN s))] ++ tl)) := hl
    simp [ev_fn, lkF, q, q', hx, ei, hl]
  · have q' : ¬ (s.k : Int) < R := by omega
    have hl := hl [mvDH (-2, (0, crashN s))] (by simp)
    have hl : loopF (tupG 2 (consG (nmG 9) (consG (tupG 2 (consG (nmG 11) (consG (nmG 12) nilG))) nilG))) L_p_Handing_moves_1 ls [some (.val (hO way R n f)), some (.val (stH m s)), some (.own (.lst [D.tup [.int (-2), .tup [.int 0, .int (s.k : Nat), .int 0, .int 0, .int (s.b : Nat), .int (s.f : Nat)]]])), some (.val (.int (m : Nat))), some (.val (.int (s.k : Nat))), some (.val (.int (s.p : Nat))), some (.val (.int (s.h : Nat))), some (.val (.int (s.b : Nat))), some (.val (.int (s.f : Nat))), none, none, none, none] = .nx (MVH (hO way R n f) m s ([mvDH (-2, (0, crashN s))] ++ tl)) := hl
    simp [ev_fn, lkF, q, q', hx, ei, hl]
/-! ### ranges -/
theorem am_le {b p : Nat} : amN way b p ≤ 1 := by unfold amN; split <;> (try split) <;> (try split) <;> omega
theorem mi_le {b p : Nat} : miN way b p ≤ 1 := by unfold miN; split <;> omega
theorem pass_in {st : Str} (h : HkOk R s) : HkOk R (passN way st s) := by
  obtain ⟨k1, k2, k3, k4, k5, k6⟩ := h
  unfold passN
  split
  · have := am_le (way := way) (b := s.b) (p := s.p)
    exact ⟨k1, k2, k3, k4, or_lt s.k (by omega) s.p k1 s.b k5, by show max s.f _ ≤ 1; omega⟩
  · exact ⟨k1, k2, k3, k4, k5, k6⟩
theorem beh_in {st : Str} (h : HkOk R s) : HkOk R (behN way st s) := by
  have h0 := h
  obtain ⟨k1, k2, k3, k4, k5, k6⟩ := h
  unfold behN
  split
  · split
    · exact ⟨by simp; omega, k2, k3, by simp, k5, k6⟩
    · exact ⟨k1, k2, k3, by simp, k5, k6⟩
  split
  · exact ⟨by simp, k2, k3, by simp, k5, k6⟩
  split
  · have hp := pass_in (way := way) (st := st) h0
    generalize passN way st s = z at hp
    obtain ⟨j1, j2, j3, j4, j5, j6⟩ := hp
    have := mi_le (way := way) (b := z.b) (p := z.p)
    refine ⟨by simp, by show z.k - z.p ≤ R; omega, j3, j4, shr_lt z.k (by omega) z.p j1 z.b j5, by show max z.f _ ≤ 1; omega⟩
  · exact pass_in h0
theorem crash_in (h : HkOk R s) : HkOk R (crashN s) := by
  obtain ⟨k1, k2, k3, k4, k5, k6⟩ := h
  exact ⟨by simp [crashN], k2, k3, by simp [crashN], k5, k6⟩
theorem other_in (h : HkOk R s) (hk : s.k < R) : HkOk R (otherN s) := by
  obtain ⟨k1, k2, k3, k4, k5, k6⟩ := h
  refine ⟨by show s.p ≤ s.k + 1; omega, by show s.k + 1 ≤ R; omega, k3, k4, ?_, k6⟩
  show s.b < 2 ^ (s.k + 1 + 1)
  rw [Nat.pow_succ]; omega
end
/-- keys of states in range -/
def InH (n R : Nat) (k : List Key) : Prop := ∃ m s, k = keyH m s ∧ m < n ∧ HkOk R s
def mvKH (way : Str) (R : Nat) (n : Nd) : List Key → List (Int × List Key)
  | [.inl m, .inl k, .inl p, .inl h, .inl b, .inl f] => (mvH way R n m.toNat ⟨k.toNat, p.toNat, h.toNat, b.toNat, f.toNat⟩).map fun q => (q.1, keyH q.2.1 q.2.2)
  | _ => []
theorem mvKH_st {way : Str} {R : Nat} {n : Nd} {m : Nat} {s : Hk} : mvKH way R n (keyH m s) = (mvH way R n m s).map fun q => (q.1, keyH q.2.1 q.2.2) := by
  unfold mvKH
  simp only [Int.toNat_natCast]
def codeH : List Key → Nat
  | [.inl m, .inl k, .inl p, .inl h, .inl b, .inl f] => ((((m.toNat * 4 + k.toNat) * 4 + p.toNat) * 2 + h.toNat) * 16 + b.toNat) * 2 + f.toNat
  | _ => 0
theorem hk_small {R : Nat} {s : Hk} (h : HkOk R s) : s.k < 4 ∧ s.p < 4 ∧ s.h < 2 ∧ s.b < 16 ∧ s.f < 2 := by
  obtain ⟨k1, k2, k3, k4, k5, k6⟩ := h
  have := Nat.lt_of_lt_of_le k5 (pow_le (k := s.k) (by omega))
  omega
theorem hcode_lt {n R : Nat} {k : List Key} (h : InH n R k) : codeH k < n * 1024 := by
  obtain ⟨m, s, rfl, hm, hs⟩ := h
  have := hk_small hs
  show ((((((m : Nat) : Int).toNat * 4 + ((s.k : Nat) : Int).toNat) * 4 + ((s.p : Nat) : Int).toNat) * 2 + ((s.h : Nat) : Int).toNat) * 16 + ((s.b : Nat) : Int).toNat) * 2 + ((s.f : Nat) : Int).toNat < n * 1024
  omega
theorem hcode_inj {n R : Nat} {k k' : List Key} (h : InH n R k) (h' : InH n R k') (e : codeH k = codeH k') : k = k' := by
  obtain ⟨m, s, rfl, hm, hs⟩ := h
  obtain ⟨m', s', rfl, hm', hs'⟩ := h'
  have := hk_small hs
  have := hk_small hs'
  have e : ((((((m : Nat) : Int).toNat * 4 + ((s.k : Nat) : Int).toNat) * 4 + ((s.p : Nat) : Int).toNat) * 2 + ((s.h : Nat) : Int).toNat) * 16 + ((s.b : Nat) : Int).toNat) * 2 + ((s.f : Nat) : Int).toNat = ((((((m' : Nat) : Int).toNat * 4 + ((s'.k : Nat) : Int).toNat) * 4 + ((s'.p : Nat) : Int).toNat) * 2 + ((s'.h : Nat) : Int).toNat) * 16 + ((s'.b : Nat) : Int).toNat) * 2 + ((s'.f : Nat) : Int).toNat := e
  have a1 : m = m' := by omega
  have a2 : s.k = s'.k := by omega
  have a3 : s.p = s'.p := by omega
  have a4 : s.h = s'.h := by omega
  have a5 : s.b = s'.b := by omega
  have a6 : s.f = s'.f := by omega
  simp only [keyH, a1, a2, a3, a4, a5, a6]
theorem hfew_keys {n R : Nat} {t : Tab} (hn : (keysT t).Nodup) (h : ∀ k ∈ keysT t, InH n R k) : t.length ≤ n * 1024 := by
  have := nodup_le (n * 1024) ((keysT t).map codeH) (List.pairwise_map.mpr (List.Pairwise.imp_of_mem (fun {a b} ha hb hne e => hne (hcode_inj (h a ha) (h b hb) e)) hn)) fun x hx => by
    obtain ⟨k, hk, rfl⟩ := List.mem_map.mp hx
    exact hcode_lt (h k hk)
  rw [List.length_map] at this
  unfold keysT at this
  rw [List.length_map] at this
  exact this
theorem hmv_in {way : Str} {R : Nat} {n : Nd} {f : List Nat} {k : List Key} (hn : RelOk n f) (h : InH n.length R k) : ∀ p ∈ mvKH way R n k, InH n.length R p.2 ∧ -2 ≤ p.1 ∧ p.1 ≤ 2 := by
  obtain ⟨m, s, rfl, hm, hs⟩ := h
  rw [mvKH_st]
  intro p hp
  obtain ⟨q, hq, rfl⟩ := List.mem_map.mp hp
  unfold mvH at hq
  rcases List.mem_cons.mp hq with rfl | hq
  · exact ⟨⟨0, _, rfl, hn.pos, crash_in hs⟩, by simp, by simp⟩
  rcases List.mem_append.mp hq with hq | hq
  · by_cases hk : s.k < R
    · rw [if_pos hk] at hq
      have : q = (-1, (m, otherN s)) := by simpa using hq
      subst this
      exact ⟨⟨m, _, rfl, hm, other_in hs hk⟩, by simp, by simp⟩
    · rw [if_neg hk] at hq; cases hq
  · obtain ⟨r, hr, rfl⟩ := List.mem_map.mp hq
    have h1 := List.mem_zipIdx hr
    have h2 : r.1 ∈ n.getD m [] := by rw [h1.2.2]; exact List.getElem_mem _
    have h3 := hn.wid _ (hnode_mem hm)
    refine ⟨⟨r.1.2, _, rfl, hn.thr _ (hnode_mem hm) _ h2, beh_in hs⟩, by show -2 ≤ (r.2 : Int); omega, ?_⟩
    have := h1.2.1
    show (r.2 : Int) ≤ 2
    omega
/-! ### reached -/
abbrev hlineD (t : Tab) : List D := t.map fun p => kTup p.1
abbrev REH (q : D) (t : Tab) (i : Nat) (x y : Option Sl) : DE := [some (.val q), some (.own (.dcT (tabD t))), some (.own (.lst (hlineD t))), some (.val (.int (i : Nat))), x, y]
theorem hline_at {t : Tab} {i : Nat} {k : List Key} {run : List Int} (h : t[i]? = some (k, run)) : atI (hlineD t) (i : Int) = some (kTup k) := PV.atI_nat (by rw [List.getElem?_map, h]; rfl)
theorem hreached_in {q : D} {t : Tab} {i : Nat} {k k' : List Key} {run : List Int} {lab : Int} (hi : t[i]? = some (k, run)) (hn : (keysT t).Nodup) (hl : t.length ≤ 9000) (hr : run.length ≤ 9000) :
    L_p_Question_reached_1 (REH q t i (some (.val (.int lab))) (some (.val (kTup k')))) = .nx (REH q (grow run t (lab, k')) i none none) := by
  have ha := hline_at hi
  have hv := val_tab_at hn hi
  unfold L_p_Question_reached_1
  by_cases hk : k' ∈ keysT t
  · have e := val_tab_some.mpr hk
    have eg : grow run t (lab, k') = t := by unfold grow; rw [if_pos hk]
    rw [eg]
    simp [e]
  · have e := val_tab_no hk
    have eg : grow run t (lab, k') = t ++ [(k', run ++ [lab])] := by unfold grow; rw [if_neg hk]
    rw [eg]
    have er : (D.tup (run.map D.int ++ [.int lab])) = runD (run ++ [lab]) := by simp
    have ep : putT (tabD t) k' (.tup (run.map D.int ++ [.int lab])) = tabD (t ++ [(k', run ++ [lab])]) := by rw [er]; exact put_tab hk
    have h1 : run.length + 1 ≤ 1000000 := by omega
    have h2 : (tabD t).length < 1000000 := by rw [tabD_len]; omega
    have h3 : t.length < 1000000 := by omega
    simp [e, ha, hv, h1, h2, h3, ep]
/-- what holds behind i turns -/
structure HI (n : Nd) (R : Nat) (t : Tab) (i : Nat) : Prop where
  nd : (keysT t).Nodup
  inn : ∀ x ∈ t, InH n.length R x.1
  run : ∀ x ∈ t, x.2.length ≤ i ∧ ∀ a ∈ x.2, -2 ≤ a ∧ a ≤ 2
theorem HI.len {n : Nd} {R : Nat} {t : Tab} {i : Nat} (h : HI n R t i) (h6 : n.length ≤ 6) : t.length ≤ 6144 := by
  have := hfew_keys h.nd fun k hk => by
    obtain ⟨p, hp, rfl⟩ := List.mem_map.mp hk
    exact h.inn p hp
  omega
theorem HI.up {n : Nd} {R : Nat} {t : Tab} {i : Nat} (h : HI n R t i) : HI n R t (i + 1) := ⟨h.nd, h.inn, fun x hx => ⟨Nat.le_succ_of_le (h.run x hx).1, (h.run x hx).2⟩⟩
theorem HI.grow1 {n : Nd} {R : Nat} {t : Tab} {i : Nat} {run : List Int} {p : Int × List Key} (h : HI n R t (i + 1)) (hr : run.length ≤ i ∧ ∀ a ∈ run, -2 ≤ a ∧ a ≤ 2) (hp : InH n.length R p.2 ∧ -2 ≤ p.1 ∧ p.1 ≤ 2) : HI n R (grow run t p) (i + 1) := by
  refine ⟨grow_nodup h.nd, grow_all (P := fun k _ => InH n.length R k) h.inn hp.1, grow_all (P := fun _ r => r.length ≤ i + 1 ∧ ∀ a ∈ r, -2 ≤ a ∧ a ≤ 2) h.run ⟨?_, fun a ha => ?_⟩⟩
  · rw [List.length_append]; simp; exact hr.1
  · rcases List.mem_append.mp ha with ha | ha
    · exact hr.2 a ha
    · have : a = p.1 := by simpa using ha
      rw [this]
      exact hp.2
theorem HI.all {n : Nd} {R : Nat} {i : Nat} {run : List Int} (hr : run.length ≤ i ∧ ∀ a ∈ run, -2 ≤ a ∧ a ≤ 2) : ∀ (ms : List (Int × List Key)) (t : Tab), HI n R t (i + 1) → (∀ p ∈ ms, InH n.length R p.2 ∧ -2 ≤ p.1 ∧ p.1 ≤ 2) → HI n R (growAll run t ms) (i + 1)
  | [], t, h, _ => h
  | p :: ms, t, h, hp => HI.all hr ms (grow run t p) (h.grow1 hr (hp p List.mem_cons_self)) fun x hx => hp x (List.mem_cons_of_mem _ hx)
theorem hreached_moves {n : Nd} {R : Nat} {q : D} {i : Nat} {k : List Key} {run : List Int} (h6 : n.length ≤ 6) (hr : run.length ≤ i ∧ ∀ a ∈ run, -2 ≤ a ∧ a ≤ 2) :
    ∀ (ms : List (Int × List Key)) (t : Tab), (∀ p ∈ ms, InH n.length R p.2 ∧ -2 ≤ p.1 ∧ p.1 ≤ 2) → HI n R t (i + 1) → t[i]? = some (k, run) →
      loopF (tupG 2 (consG (nmG 4) (consG (nmG 5) nilG))) L_p_Question_reached_1 (ms.map fun p => D.tup [.int p.1, kTup p.2]) (REH q t i none none) = .nx (REH q (growAll run t ms) i none none)
  | [], t, _, _, _ => rfl
  | p :: ms, t, hms, hb, hi => by
    have h1 := hb.len h6
    have hi1 : i < t.length := (List.getElem?_eq_some_iff.mp hi).1
    have e1 := hreached_in (q := q) (lab := p.1) (k' := p.2) hi hb.nd (by omega) (by have := hr.1; omega)
    have ih := hreached_moves (q := q) h6 hr ms (grow run t p) (fun x hx => hms x (List.mem_cons_of_mem _ hx)) (hb.grow1 hr (hms p List.mem_cons_self)) (grow_pre hi)
    rw [List.map_cons]
    unfold loopF
    show (match L_p_Question_reached_1 (REH q t i (some (.val (.int p.1))) (some (.val (kTup p.2)))) with
      | .nx δ => loopF _ _ _ δ
      | .cnt δ => loopF _ _ _ δ
      | .brk δ => .nx δ
      | o => o) = _
    rw [e1]
    exact ih
theorem hmoves_map {way : Str} {R : Nat} {n : Nd} {m : Nat} {s : Hk} : (mvH way R n m s).map mvDH = (mvKH way R n (keyH m s)).map fun p => D.tup [.int p.1, kTup p.2] := by
  rw [mvKH_st, List.map_map]; rfl
theorem hreached_turn {way : Str} {R : Nat} {n : Nd} {f : List Nat} {t : Tab} {i : Nat} {k : List Key} {run : List Int} (hn : RelOk n f) (h : HI n R t i) (hi : t[i]? = some (k, run)) :
    L_p_Question_reached_2 (REH (hO way R n f) t i none none) = .nx (REH (hO way R n f) (growAll run t (mvKH way R n k)) (i + 1) none none) := by
  have hm := List.mem_of_getElem? hi
  have hp := hmv_in (way := way) hn (h.inn _ hm)
  have hl := hreached_moves (q := hO way R n f) hn.few (h.run _ hm) (mvKH way R n k) t hp h.up hi
  have ha := hline_at hi
  obtain ⟨m, s, rfl, hm1, hs⟩ := h.inn _ hm
  rw [kTup_H] at ha
  have e := hmoves_ok (way := way) hn hs hm1
  rw [hmoves_map] at e
  generalize mvKH way R n (keyH m s) = ms at *
  unfold L_p_Question_reached_2
  simp [meK, lkT, lkF, ha, e, hl]
theorem hreached_while {way : Str} {R : Nat} {n : Nd} {f : List Nat} (hn : RelOk n f) : ∀ (fu i : Nat) (t : Tab), HI n R t i → i ≤ t.length → 6144 < fu + i →
    HI n R (bfs (mvKH way R n) fu i t) (bfs (mvKH way R n) fu i t).length ∧ whileF (tst (op2 ilt (var 3) (callB lenD (slotA 2 noA)))) L_p_Question_reached_2 fu (REH (hO way R n f) t i none none) = .nx (REH (hO way R n f) (bfs (mvKH way R n) fu i t) (bfs (mvKH way R n) fu i t).length none none)
  | 0, i, t, h, hi, hf => by
    have := h.len hn.few
    omega
  | fu + 1, i, t, h, hi, hf => by
    have hc : tst (op2 ilt (var 3) (callB lenD (slotA 2 noA))) (REH (hO way R n f) t i none none) = .ok (decide (i < t.length)) (REH (hO way R n f) t i none none) := by
      simp
    unfold bfs
    cases q : t[i]? with
    | none =>
      have hl : t.length ≤ i := List.getElem?_eq_none_iff.mp q
      have e : i = t.length := by omega
      rw [decide_eq_false (by omega)] at hc
      subst e
      exact ⟨h, while_end hc⟩
    | some p =>
      obtain ⟨k, run⟩ := p
      have hl : i < t.length := (List.getElem?_eq_some_iff.mp q).1
      rw [decide_eq_true hl] at hc
      have e2 := hreached_turn (way := way) hn h q
      have hm := List.mem_of_getElem? q
      have hb := HI.all (h.run _ hm) (mvKH way R n k) t h.up (hmv_in (way := way) hn (h.inn _ hm))
      have ih := hreached_while (way := way) hn fu (i + 1) (growAll run t (mvKH way R n k)) hb (by have := growAll_len (run := run) (ms := mvKH way R n k) (t := t); omega) (by omega)
      rw [while_go hc e2]
      exact ih
abbrev s0 : Hk := ⟨0, 0, 0, 1, 0⟩
/-- all states that runs reach, with their least shortest runs -/
noncomputable def allH (way : Str) (R : Nat) (n : Nd) : Tab := bfs (mvKH way R n) 8192 0 [(keyH 0 s0, [])]
theorem hfirst_ok {q : D} : ph_p_Handing_first [.val q] = .ret (stH 0 s0) [.val q] := by
  unfold ph_p_Handing_first F_p_Handing_first
  simp [ev_fn]
theorem hstart_in {n : Nd} {R : Nat} (h : 1 ≤ n.length) (hR : R ≤ 3) : HI n R [(keyH 0 s0, [])] 0 := by
  refine ⟨by simp [keysT], fun x hx => ?_, fun x hx => ?_⟩
  · have : x = (keyH 0 s0, []) := by simpa using hx
    subst this
    exact ⟨0, _, rfl, h, by unfold HkOk; simp; exact hR⟩
  · have : x = (keyH 0 s0, []) := by simpa using hx
    subst this
    exact ⟨Nat.le_refl _, fun a ha => by cases ha⟩
theorem allH_in {way : Str} {R : Nat} {n : Nd} {f : List Nat} (hn : RelOk n f) (hR : R ≤ 3) : HI n R (allH way R n) (allH way R n).length := (hreached_while (way := way) hn 8192 0 _ (hstart_in hn.pos hR) (by simp) (by omega)).1
theorem hreached_ok {way : Str} {R : Nat} {n : Nd} {f : List Nat} (hn : RelOk n f) (hR : R ≤ 3) : ph_p_Question_reached [.val (hO way R n f)] = .ret (.dcF (tabD (allH way R n))) [.val (hO way R n f)] := by
  have hw := (hreached_while (way := way) hn 8192 0 _ (hstart_in hn.pos hR) (by simp) (by omega)).2
  have ek : keyT (stH 0 s0) = some (keyH 0 s0) := rfl
  unfold ph_p_Question_reached F_p_Question_reached
  have hw : whileF (tst (op2 ilt (var 3) (callB lenD (slotA 2 noA)))) L_p_Question_reached_2 8192 [some (.val (hO way R n f)), some (.own (.dcT [(keyH 0 s0, .tup [])])), some (.own (.lst [stH 0 s0])), some (.val (.int 0)), none, none] = .nx (REH (hO way R n f) (allH way R n) (allH way R n).length none none) := hw
  generalize allH way R n = T at hw
  simp [ev_fn, meK, lkT, lkF, hfirst_ok, ek, hw]
/-! ### the least run -/
def badH (way : Str) (f : List Nat) (m : Nat) (s : Hk) : Bool :=
  if way = "lost" then decide (s.f = 1) || decide (s.b % 2 = 0)
  else if way = "left" then decide (m ∈ f) && decide (s.p = s.k) && !(decide (s.f = 0) && decide (s.b = 2 ^ (s.k + 1) - 1))
  else decide (s.f = 1)
theorem hinF_fin {m : Nat} {l : List Nat} : inF false (.int (m : Nat)) (finD l) = some (.bl (decide (m ∈ l))) := by
  unfold finD
  have e : (l.map fun i => D.int (i : Nat)) = (l.map fun i : Nat => (i : Int)).map D.int := by rw [List.map_map]; rfl
  have h : inF false (.int (m : Nat)) (.tup ((l.map fun i : Nat => (i : Int)).map D.int)) = _ := inF_int (k := (m : Nat)) (l := l.map fun i : Nat => (i : Int))
  rw [e, h]
  congr 2
  refine decide_eq_decide.mpr ⟨fun h => ?_, fun h => List.mem_map.mpr ⟨m, h, rfl⟩⟩
  obtain ⟨a, h1, h2⟩ := List.mem_map.mp h
  have : a = m := by omega
  rw [← this]; exact h1
theorem hbad_ok {way : Str} {R : Nat} {n : Nd} {f : List Nat} {m : Nat} {s : Hk} (hs : HkOk R s) : ph_p_Handing_is_bad [.val (hO way R n f), .val (stH m s)] = .ret (.bl (badH way f m s)) [.val (hO way R n f), .val (stH m s)] := by
  have h1 := hk_small hs
  have e1 := bit_fact s.b h1.2.2.2.1
  obtain ⟨k1, k2, k3, k4, k5, k6⟩ := hs
  unfold ph_p_Handing_is_bad F_p_Handing_is_bad badH
  by_cases w1 : way = "lost"
  · subst w1
    by_cases c1 : s.f = 1
    · simp [ev_fn, lkF, c1]
    · have c1' : ¬ ((s.f : Nat) : Int) = 1 := by omega
      have c0 : s.f = 0 := by omega
      by_cases c2 : s.b % 2 = 0
      · rw [c2] at e1
        simp [ev_fn, lkF, c0, op_iand, e1, c2]
      · have c2' : s.b % 2 = 1 := by omega
        rw [c2'] at e1
        simp [ev_fn, lkF, c0, op_iand, e1, c2']
  · by_cases w2 : way = "left"
    · subst w2
      have hsh : ishl (.int 1) (.int ((s.k : Int) + 1)) = some (.int (2 ^ (s.k + 1))) := by
        have := op_ishl1 (p := s.k + 1) (by omega)
        rw [← this]; rfl
      have ep : ((2 : Int) ^ (s.k + 1) - 1) = ((2 ^ (s.k + 1) - 1 : Nat) : Int) := by
        have : 1 ≤ 2 ^ (s.k + 1) := Nat.one_le_two_pow
        rw [Int.ofNat_sub this]; simp
      by_cases c1 : m ∈ f <;> by_cases c2 : s.p = s.k <;> by_cases c3 : s.f = 0 <;> by_cases c4 : s.b = 2 ^ (s.k + 1) - 1
      all_goals
        first
        | have c4' : ((s.b : Nat) : Int) = 2 ^ (s.k + 1) - 1 := by rw [ep]; omega
        | have c4' : ¬ ((s.b : Nat) : Int) = 2 ^ (s.k + 1) - 1 := by rw [ep]; omega
        first
        | have c2' : ((s.p : Nat) : Int) = ((s.k : Nat) : Int) := by omega
        | have c2' : ¬ ((s.p : Nat) : Int) = ((s.k : Nat) : Int) := by omega
        simp [ev_fn, lkF, hinF_fin, hsh, c1, c2, c2', c3, c4, c4', ep.symm]
    · by_cases c1 : s.f = 1
      · simp [ev_fn, lkF, w1, w2, c1]
      · have c0 : s.f = 0 := by omega
        simp [ev_fn, lkF, w1, w2, c0]
def badKH (way : Str) (f : List Nat) : List Key → Bool
  | [.inl m, .inl k, .inl p, .inl h, .inl b, .inl g] => badH way f m.toNat ⟨k.toNat, p.toNat, h.toNat, b.toNat, g.toNat⟩
  | _ => false
theorem badKH_st {way : Str} {f : List Nat} {m : Nat} {s : Hk} : badKH way f (keyH m s) = badH way f m s := by
  unfold badKH
  simp only [Int.toNat_natCast]
abbrev RUH (q : D) (x y : Option Sl) : DE := [some (.val q), x, y]
theorem hrun_turn {way : Str} {R : Nat} {n : Nd} {f : List Nat} {k : List Key} {run : List Int} (hk : InH n.length R k) :
    L_p_Question_run_1 (RUH (hO way R n f) (some (.val (kTup k))) (some (.val (runD run)))) = if badKH way f k = true then .ret (runD run) [none, none, none] else .nx (RUH (hO way R n f) none none) := by
  obtain ⟨m, s, rfl, hm, hs⟩ := hk
  rw [badKH_st, kTup_H]
  unfold L_p_Question_run_1
  have e := hbad_ok (way := way) (n := n) (f := f) (m := m) hs
  cases q : badH way f m s <;> rw [q] at e <;> simp [meK, lkT, lkF, e]
def endH (q : D) : Option (List Key × List Int) → O
  | some p => .ret (runD p.2) [none, none, none]
  | none => .nx (RUH q none none)
theorem hrun_loop {way : Str} {R : Nat} {n : Nd} {f : List Nat} : ∀ (t : Tab), (∀ p ∈ t, InH n.length R p.1) →
    loopF (tupG 2 (consG (nmG 1) (consG (nmG 2) nilG))) L_p_Question_run_1 ((tabD t).map fun kv => D.tup [kTup kv.1, kv.2]) (RUH (hO way R n f) none none) = endH (hO way R n f) (t.find? fun p => badKH way f p.1)
  | [], _ => rfl
  | p :: t, h => by
    have e1 := hrun_turn (way := way) (f := f) (run := p.2) (h p List.mem_cons_self)
    have ih := hrun_loop (way := way) (f := f) t fun x hx => h x (List.mem_cons_of_mem _ hx)
    unfold tabD at ih ⊢
    rw [List.map_cons, List.map_cons]
    unfold loopF
    show (match L_p_Question_run_1 (RUH (hO way R n f) (some (.val (kTup p.1))) (some (.val (runD p.2)))) with
      | .nx δ => loopF _ _ _ δ
      | .cnt δ => loopF _ _ _ δ
      | .brk δ => .nx δ
      | o => o) = _
    rw [e1]
    by_cases q : badKH way f p.1 = true
    · rw [if_pos q, List.find?_cons_of_pos (p := fun p : List Key × List Int => badKH way f p.1) q]; rfl
    · rw [if_neg q, List.find?_cons_of_neg (p := fun p : List Key × List Int => badKH way f p.1) q]
      exact ih
noncomputable def leastH (way : Str) (R : Nat) (n : Nd) (f : List Nat) : Option (List Int) := ((allH way R n).find? fun p => badKH way f p.1).map (·.2)
def optH : Option (List Int) → D
  | some l => runD l
  | none => .non
theorem hrun_ok {way : Str} {R : Nat} {n : Nd} {f : List Nat} (hn : RelOk n f) (hR : R ≤ 3) : ph_p_Question_run [.val (hO way R n f)] = .ret (optH (leastH way R n f)) [.val (hO way R n f)] := by
  have hl := hrun_loop (way := way) (f := f) (allH way R n) fun p hp => (allH_in (way := way) hn hR).inn p hp
  have hr := hreached_ok (way := way) hn hR
  unfold ph_p_Question_run F_p_Question_run leastH
  generalize (allH way R n).find? (fun p => badKH way f p.1) = z at hl
  generalize allH way R n = T at hl hr
  have hl : loopF (tupG 2 (consG (nmG 1) (consG (nmG 2) nilG))) L_p_Question_run_1 ((tabD T).map fun kv => D.tup [kTup kv.1, kv.2]) [some (.val (hO way R n f)), none, none] = endH (hO way R n f) z := hl
  cases z <;> simp [ev_fn, meK, lkT, lkF, hr, hl, optH, endH]
/-! ### a question -/
abbrev ways4 : List Str := ["lost", "twice", "order", "left"]
theorem hinit_ok {d w r : D} : ph_p_Handing_init [.bor (.ins "Handing" []), .val d, .val w, .val r] = .ret .non [.bor (.ins "Handing" [("graph", d), ("way", w), ("limit", r)]), .val d, .val w, .val r] := by
  have e : ph_p_Question_init [.bor (.ins "Handing" []), .val d] = .ret .non [.bor (.ins "Handing" [("graph", d)]), .val d] := by
    unfold ph_p_Question_init F_p_Question_init
    simp [ev_fn, fldS, ptF]
  unfold ph_p_Handing_init F_p_Handing_init
  simp [ev_fn, fldS, ptF, supE, e]
theorem hinF_strN {k : Str} {l : List Str} : inF true (.str k) (.tup (l.map D.str)) = some (.bl (!decide (k ∈ l))) := by
  unfold inF
  show (match some (V.str k), flats (l.map D.str) with | some u, some us => _ | _, _ => none) = _
  rw [flats_strs]
  show some (D.bl (if true = true then !inV (V.str k) (l.map V.str) else inV (V.str k) (l.map V.str))) = _
  rw [if_pos rfl, inV_str]
theorem hneed_ok {way : Str} {R : Nat} (hw : way ∈ ways4) (h1 : 1 ≤ R) (h3 : R ≤ 3) : ph_p_need_way_and_room [.val (.str way), .val (.int (R : Nat))] = .ret .non [.val (.str way), .val (.int (R : Nat))] := by
  have eb := is_between_ok (d := .int (R : Nat)) (lo := 1) (hi := 3) rfl
  have hb : isBtw (.int (R : Nat)) 1 3 = true := by
    have a1 : (1 : Int) ≤ (R : Nat) := by omega
    have a2 : ((R : Nat) : Int) ≤ 3 := by omega
    simp [isBtw, a1, a2]
  rw [hb] at eb
  have e' : inF true (.str way) (.ctp [.str "lost", .str "twice", .str "order", .str "left"]) = some (.bl false) := by
    have h0 : decide (way ∈ ways4) = true := decide_eq_true hw
    have h1 := hinF_strN (k := way) (l := ways4)
    rw [h0] at h1
    exact h1
  unfold ph_p_need_way_and_room F_p_need_way_and_room
  simp [ev_fn, isi_str, D.bStr, e', eb]
theorem hquestion_ok {way : Str} {R : Nat} {n : Nd} {f : List Nat} (hw : way ∈ ways4) (h1 : 1 ≤ R) (h3 : R ≤ 3) : ph_p_Relay_question [.val (relayO n f), .val (.str way), .val (.int (R : Nat))] = .ret (hO way R n f) [.val (relayO n f), .val (.str way), .val (.int (R : Nat))] := by
  unfold ph_p_Relay_question F_p_Relay_question
  simp [ev_fn, hneed_ok hw h1 h3, hinit_ok]
end PV

/-! Qj: what a walk by breadth finds: runs, shortest ones first; questions of relays by it. -/
namespace PV
open PySem PySem.Spec PyProof.Rows L2
section
variable {mv : List Key → List (Int × List Key)} {k0 k : List Key} {run : List Int} {t : Tab}
/-- a run that leads to a key -/
inductive Pth (mv : List Key → List (Int × List Key)) (k0 : List Key) : List Int → List Key → Prop
  | nil : Pth mv k0 [] k0
  | snoc {r : List Int} {k : List Key} {p : Int × List Key} : Pth mv k0 r k → p ∈ mv k → Pth mv k0 (r ++ [p.1]) p.2
structure BF (mv : List Key → List (Int × List Key)) (k0 : List Key) (t : Tab) (i : Nat) : Prop where
  pth : ∀ x ∈ t, Pth mv k0 x.2 x.1
  srt : t.Pairwise fun x y => x.2.length ≤ y.2.length
  near : ∀ x, t[i]? = some x → ∀ y ∈ t, y.2.length ≤ x.2.length + 1
  done : ∀ (j : Nat) x, j < i → t[j]? = some x → ∀ p ∈ mv x.1, ∃ y ∈ t, y.1 = p.2 ∧ y.2.length ≤ x.2.length + 1
theorem grow_mem {p : Int × List Key} {x : List Key × List Int} (h : x ∈ t) : x ∈ grow run t p := by
  unfold grow; split
  · exact h
  · exact List.mem_append_left _ h
theorem growAll_mem : ∀ {ms : List (Int × List Key)} {t : Tab} {x : List Key × List Int}, x ∈ t → x ∈ growAll run t ms
  | [], t, x, h => h
  | m :: ms, t, x, h => growAll_mem (ms := ms) (t := grow run t m) (grow_mem h)
theorem growAll_bf {i : Nat} {ms0 : List (Int × List Key)} (hk : Pth mv k0 run k) (hms0 : ∀ p ∈ ms0, p ∈ mv k) : ∀ (ms : List (Int × List Key)) (t : Tab), (∀ p ∈ ms, p ∈ ms0) → (∀ x ∈ t, Pth mv k0 x.2 x.1) → (t.Pairwise fun x y => x.2.length ≤ y.2.length) → (∀ y ∈ t, y.2.length ≤ run.length + 1) →
    (∀ x ∈ growAll run t ms, Pth mv k0 x.2 x.1) ∧ ((growAll run t ms).Pairwise fun x y => x.2.length ≤ y.2.length) ∧ (∀ y ∈ growAll run t ms, y.2.length ≤ run.length + 1) ∧ ∀ p ∈ ms, ∃ y ∈ growAll run t ms, y.1 = p.2 ∧ y.2.length ≤ run.length + 1
  | [], t, _, h1, h2, h3 => ⟨h1, h2, h3, fun _ h => (nomatch h)⟩
  | m :: ms, t, hms, h1, h2, h3 => by
    have a1 : ∀ x ∈ grow run t m, Pth mv k0 x.2 x.1 := grow_all (P := fun k r => Pth mv k0 r k) h1 (.snoc hk (hms0 _ (hms m List.mem_cons_self)))
    have a3 : ∀ y ∈ grow run t m, y.2.length ≤ run.length + 1 := grow_all (P := fun _ r => r.length ≤ run.length + 1) h3 (by simp)
    have a2 : (grow run t m).Pairwise fun x y => x.2.length ≤ y.2.length := by
      unfold grow; split
      · exact h2
      · refine List.pairwise_append.mpr ⟨h2, by simp, fun a ha b hb => ?_⟩
        have : b = (m.2, run ++ [m.1]) := by simpa using hb
        rw [this]
        have := h3 a ha
        simp; exact this
    have a4 : ∃ y ∈ grow run t m, y.1 = m.2 ∧ y.2.length ≤ run.length + 1 := by
      unfold grow; split
      · rename_i hm
        obtain ⟨y, hy, e⟩ := List.mem_map.mp hm
        exact ⟨y, hy, e, h3 y hy⟩
      · exact ⟨(m.2, run ++ [m.1]), List.mem_append_right _ (by simp), rfl, by simp⟩
    obtain ⟨b1, b2, b3, b4⟩ := growAll_bf (i := i) hk hms0 ms (grow run t m) (fun p hp => hms p (List.mem_cons_of_mem _ hp)) a1 a2 a3
    refine ⟨b1, b2, b3, fun p hp => ?_⟩
    rcases List.mem_cons.mp hp with rfl | hp
    · obtain ⟨y, hy, e1, e2⟩ := a4
      exact ⟨y, growAll_mem (ms := ms) hy, e1, e2⟩
    · exact b4 p hp
/-- one turn -/
theorem BF.turn {i : Nat} (h : BF mv k0 t i) (hi : t[i]? = some (k, run)) : BF mv k0 (growAll run t (mv k)) (i + 1) := by
  have hm := List.mem_of_getElem? hi
  obtain ⟨b1, b2, b3, b4⟩ := growAll_bf (i := i) (ms0 := mv k) (h.pth _ hm) (fun _ h => h) (mv k) t (fun _ h => h) h.pth h.srt (h.near _ hi)
  refine ⟨b1, b2, fun x hx y hy => ?_, fun j x hj hx p hp => ?_⟩
  · have h0 := growAll_pre (run := run) (ms := mv k) hi
    have h1 : run.length ≤ x.2.length := by
      obtain ⟨l1, e1⟩ := List.getElem?_eq_some_iff.mp h0
      obtain ⟨l2, e2⟩ := List.getElem?_eq_some_iff.mp hx
      have := List.pairwise_iff_getElem.mp b2 i (i + 1) l1 l2 (by omega)
      rw [e1, e2] at this
      exact this
    have h2 : y.2.length ≤ run.length + 1 := b3 y hy
    omega
  · rcases Nat.lt_succ_iff_lt_or_eq.mp hj with hj | rfl
    · have hjl : j < t.length := by have := (List.getElem?_eq_some_iff.mp hi).1; omega
      have e2 := growAll_pre (run := run) (ms := mv k) (List.getElem?_eq_getElem hjl)
      rw [hx] at e2
      obtain ⟨y, hy, q1, q2⟩ := h.done j x hj (by rw [List.getElem?_eq_getElem hjl, Option.some.inj e2]) p hp
      exact ⟨y, growAll_mem hy, q1, q2⟩
    · rw [growAll_pre (run := run) hi] at hx
      cases hx
      exact b4 p hp
theorem bfs_end (N : Nat) : ∀ (fu i : Nat) (t : Tab), BF mv k0 t i → (∀ (fu i : Nat) (t : Tab), bfs mv fu i t = bfs mv fu i t) → i ≤ t.length → (bfs mv fu i t).length < fu + i → ∃ j, (bfs mv fu i t).length ≤ j ∧ BF mv k0 (bfs mv fu i t) j
  | 0, i, t, h, _, hi, hf => by
    have : bfs mv 0 i t = t := rfl
    rw [this] at hf
    omega
  | fu + 1, i, t, h, h0, hi, hf => by
    unfold bfs at hf ⊢
    cases q : t[i]? with
    | none => exact ⟨i, List.getElem?_eq_none_iff.mp q, h⟩
    | some p =>
      rw [q] at hf
      have hl : i < t.length := (List.getElem?_eq_some_iff.mp q).1
      exact bfs_end N fu (i + 1) _ (h.turn q) h0 (by have := growAll_len (run := p.2) (ms := mv p.1) (t := t); omega) (by simp only at hf; omega)
theorem bf_start : BF mv k0 [(k0, [])] 0 := by
  refine ⟨fun x hx => ?_, by simp, fun x hx y hy => ?_, fun j x hj => absurd hj (Nat.not_lt_zero _)⟩
  · have : x = (k0, []) := by simpa using hx
    rw [this]; exact .nil
  · have : y = (k0, []) := by simpa using hy
    rw [this]; simp
/-- each run leads to what is found, not later -/
theorem bf_all {j : Nat} (h : BF mv k0 t j) (hj : t.length ≤ j) (h0 : (k0, []) ∈ t) (hp : Pth mv k0 run k) : ∃ y ∈ t, y.1 = k ∧ y.2.length ≤ run.length := by
  induction hp with
  | nil => exact ⟨_, h0, rfl, Nat.le_refl _⟩
  | snoc hp hm ih =>
    obtain ⟨y, hy, e, hl⟩ := ih
    obtain ⟨i, hi, ei⟩ := List.mem_iff_getElem.mp hy
    subst e
    obtain ⟨z, hz, e1, e2⟩ := h.done i y (by omega) (by rw [List.getElem?_eq_getElem hi, ei]) _ hm
    exact ⟨z, hz, e1, by rw [List.length_append]; simp; omega⟩
theorem bf_least {P : List Key → Bool} {x : List Key × List Int} (h : t.Pairwise fun x y => x.2.length ≤ y.2.length) (hx : t.find? (fun p => P p.1) = some x) : ∀ y ∈ t, P y.1 = true → x.2.length ≤ y.2.length := by
  induction t with
  | nil => simp at hx
  | cons a t ih =>
    obtain ⟨h1, h2⟩ := List.pairwise_cons.mp h
    by_cases q : P a.1 = true
    · rw [List.find?_cons_of_pos (p := fun p : List Key × List Int => P p.1) q] at hx
      cases hx
      intro y hy _
      rcases List.mem_cons.mp hy with rfl | hy
      · exact Nat.le_refl _
      · exact h1 y hy
    · rw [List.find?_cons_of_neg (p := fun p : List Key × List Int => P p.1) q] at hx
      intro y hy hb
      rcases List.mem_cons.mp hy with rfl | hy
      · exact absurd hb q
      · exact ih h2 hx y hy hb
end
/-! ### runs of a relay -/
section
variable {way : Str} {R : Nat} {n : Nd} {f : List Nat} {m : Nat} {s : Hk} {r : List Int}
/-- a run that leads to a state -/
abbrev RunH (way : Str) (R : Nat) (n : Nd) (r : List Int) (m : Nat) (s : Hk) : Prop := Pth (mvKH way R n) (keyH 0 s0) r (keyH m s)
theorem allH_bf (hn : RelOk n f) (hR : R ≤ 3) : ∃ j, (allH way R n).length ≤ j ∧ BF (mvKH way R n) (keyH 0 s0) (allH way R n) j := by
  have hl := (allH_in (way := way) hn hR).len hn.few
  unfold allH at *
  exact bfs_end 0 8192 0 _ bf_start (fun _ _ _ => rfl) (by simp) (by omega)
theorem allH_0 : (keyH 0 s0, []) ∈ allH way R n := by
  have : ∀ (fu i : Nat) (t : Tab), (keyH 0 s0, []) ∈ t → (keyH 0 s0, []) ∈ bfs (mvKH way R n) fu i t := by
    intro fu
    induction fu with
    | zero => intro i t h; exact h
    | succ fu ih =>
      intro i t h
      unfold bfs
      cases t[i]? with
      | none => exact h
      | some p => exact ih _ _ (growAll_mem h)
  exact this _ _ _ (by simp)
theorem run_in (hn : RelOk n f) (hR : R ≤ 3) {k : List Key} (h : Pth (mvKH way R n) (keyH 0 s0) r k) : InH n.length R k := by
  induction h with
  | nil => exact ⟨0, _, rfl, hn.pos, by unfold HkOk; simp; exact hR⟩
  | snoc _ hm ih => exact (hmv_in hn ih _ hm).1
/-- there is a bad run exactly if one is told -/
theorem least_some (hn : RelOk n f) (hR : R ≤ 3) : (leastH way R n f).isSome = true ↔ ∃ r m s, RunH way R n r m s ∧ badH way f m s = true := by
  obtain ⟨j, hj, hb⟩ := allH_bf (way := way) hn hR
  unfold leastH
  rw [Option.isSome_map, List.find?_isSome]
  constructor
  · rintro ⟨x, hx, hbad⟩
    obtain ⟨m, s, e, hm, hs⟩ := (allH_in (way := way) hn hR).inn x hx
    have hp := hb.pth x hx
    rw [e] at hp hbad
    rw [badKH_st] at hbad
    exact ⟨_, m, s, hp, hbad⟩
  · rintro ⟨r, m, s, hp, hbad⟩
    obtain ⟨y, hy, e, _⟩ := bf_all hb hj allH_0 hp
    exact ⟨y, hy, by rw [e, badKH_st]; exact hbad⟩
/-- what is told is a bad run, and none is shorter -/
theorem least_is (hn : RelOk n f) (hR : R ≤ 3) (h : leastH way R n f = some r) : (∃ m s, RunH way R n r m s ∧ badH way f m s = true) ∧ ∀ r' m' s', RunH way R n r' m' s' → badH way f m' s' = true → r.length ≤ r'.length := by
  obtain ⟨j, hj, hb⟩ := allH_bf (way := way) hn hR
  unfold leastH at h
  obtain ⟨x, hx, rfl⟩ := Option.map_eq_some_iff.mp h
  have hxm := List.mem_of_find?_eq_some hx
  have hxb : badKH way f x.1 = true := List.find?_some (p := fun p : List Key × List Int => badKH way f p.1) hx
  constructor
  · obtain ⟨m, s, e, hm, hs⟩ := (allH_in (way := way) hn hR).inn x hxm
    have hp := hb.pth x hxm
    rw [e] at hp hxb
    rw [badKH_st] at hxb
    exact ⟨m, s, hp, hxb⟩
  · intro r' m' s' hp hbad
    obtain ⟨y, hy, e, hl⟩ := bf_all hb hj allH_0 hp
    have := bf_least (P := fun k => badKH way f k) hb.srt hx y hy (by rw [e, badKH_st]; exact hbad)
    omega
/-- steps of runs -/
theorem run_nil : RunH way R n [] 0 s0 := .nil
theorem run_crash (h : RunH way R n r m s) : RunH way R n (r ++ [-2]) 0 (crashN s) :=
  .snoc (p := (-2, keyH 0 (crashN s))) h (by rw [mvKH_st]; exact List.mem_map.mpr ⟨(-2, (0, crashN s)), by unfold mvH; exact List.mem_cons_self, rfl⟩)
theorem run_other (h : RunH way R n r m s) (hk : s.k < R) : RunH way R n (r ++ [-1]) m (otherN s) :=
  .snoc (p := (-1, keyH m (otherN s))) h (by
    rw [mvKH_st]
    refine List.mem_map.mpr ⟨(-1, (m, otherN s)), ?_, rfl⟩
    unfold mvH
    rw [if_pos hk]
    exact List.mem_cons_of_mem _ (List.mem_append_left _ (by simp)))
theorem run_edge {e : Str × Nat} {j : Nat} (h : RunH way R n r m s) (he : (n.getD m [])[j]? = some e) : RunH way R n (r ++ [(j : Int)]) e.2 (behN way e.1 s) :=
  .snoc (p := ((j : Int), keyH e.2 (behN way e.1 s))) h (by
    rw [mvKH_st]
    refine List.mem_map.mpr ⟨((j : Int), (e.2, behN way e.1 s)), ?_, rfl⟩
    unfold mvH
    refine List.mem_cons_of_mem _ (List.mem_append_right _ (List.mem_map.mpr ⟨(e, j), ?_, rfl⟩))
    rw [List.mem_zipIdx_iff_getElem?]
    exact he)
/-- induction over runs, by states -/
theorem run_ind (hn : RelOk n f) (hR : R ≤ 3) {P : List Int → Nat → Hk → Prop} (h0 : P [] 0 s0)
    (hc : ∀ r m s, RunH way R n r m s → m < n.length → HkOk R s → P r m s → P (r ++ [-2]) 0 (crashN s))
    (ho : ∀ r m s, RunH way R n r m s → m < n.length → HkOk R s → s.k < R → P r m s → P (r ++ [-1]) m (otherN s))
    (he : ∀ r m s e (j : Nat), RunH way R n r m s → m < n.length → HkOk R s → (n.getD m [])[j]? = some e → e.1 ∈ rSteps → P r m s → P (r ++ [(j : Int)]) e.2 (behN way e.1 s))
    (h : RunH way R n r m s) : P r m s := by
  have key : ∀ {r : List Int} {k : List Key}, Pth (mvKH way R n) (keyH 0 s0) r k → ∀ m s, k = keyH m s → P r m s := by
    clear h
    intro r k h
    induction h with
    | nil =>
      intro m s e
      simp only [keyH, List.cons.injEq, Sum.inl.injEq, and_true] at e
      obtain ⟨a1, a2, a3, a4, a5, a6⟩ := e
      have : s = s0 := by cases s; simp only at a2 a3 a4 a5 a6; simp only [s0, Hk.mk.injEq]; omega
      subst this
      have : m = 0 := by omega
      subst this
      exact h0
    | @snoc r k p hp hm ih =>
      intro m' s' e'
      obtain ⟨m, s, rfl, hm1, hs⟩ := run_in hn hR hp
      have ih := ih m s rfl
      rw [mvKH_st] at hm
      obtain ⟨q, hq, rfl⟩ := List.mem_map.mp hm
      have e' : keyH q.2.1 q.2.2 = keyH m' s' := e'
      simp only [keyH, List.cons.injEq, Sum.inl.injEq, and_true] at e'
      obtain ⟨a1, a2, a3, a4, a5, a6⟩ := e'
      obtain ⟨l, mq, sq⟩ := q
      have : sq = s' := by cases sq; cases s'; simp only at a2 a3 a4 a5 a6; simp only [Hk.mk.injEq]; omega
      subst this
      have : mq = m' := by simp only at a1; omega
      subst this
      unfold mvH at hq
      rcases List.mem_cons.mp hq with e | hq
      · cases e
        exact hc r m s hp hm1 hs ih
      rcases List.mem_append.mp hq with hq | hq
      · by_cases hk : s.k < R
        · rw [if_pos hk] at hq
          have : (l, mq, sq) = (-1, (m, otherN s)) := by simpa using hq
          cases this
          exact ho r _ s hp hm1 hs hk ih
        · rw [if_neg hk] at hq; cases hq
      · obtain ⟨x, hx, ex⟩ := List.mem_map.mp hq
        cases ex
        rw [List.mem_zipIdx_iff_getElem?] at hx
        exact he r m s x.1 x.2 hp hm1 hs hx (hn.stp _ (hnode_mem hm1) _ (List.mem_of_getElem? hx)) ih
  exact key h m s rfl
end
end PV

/-! Qk: what is lost is lost by one notice. -/
namespace PV
open PySem PySem.Spec PyProof.Rows L2
section
variable {R : Nat} {n : Nd} {f : List Nat} {m : Nat} {s : Hk} {r : List Int}
/-- the bit of a notice -/
abbrev bitN (b i : Nat) : Nat := b / 2 ^ i % 2
theorem or_bits : ∀ b, b < 16 → ∀ p, p < 4 → ∀ i, i < 4 → bitN (orN b p) i = if i = p then 1 else bitN b i := by decide
theorem low_bits : ∀ b, b < 16 → ∀ p, p < 4 → (b % 2 ^ p = 2 ^ p - 1 ↔ ∀ i, i < p → bitN b i = 1) := by
  intro b hb p hp
  have h : ∀ b, b < 16 → ∀ p, p < 4 → decide (b % 2 ^ p = 2 ^ p - 1) = (List.range p).all fun i => decide (bitN b i = 1) := by decide
  have := h b hb p hp
  constructor
  · intro h1 i hi
    rw [decide_eq_true h1] at this
    have := List.all_eq_true.mp this.symm i (List.mem_range.mpr hi)
    simpa using this
  · intro h1
    have h2 : ((List.range p).all fun i => decide (bitN b i = 1)) = true := List.all_eq_true.mpr fun i hi => by simpa using h1 i (List.mem_range.mp hi)
    rw [h2] at this
    simpa using this
theorem bit_lt (b i : Nat) : bitN b i = 0 ∨ bitN b i = 1 := by unfold bitN; omega
theorem am_lost {b p : Nat} : amN "lost" b p = 0 := by simp [amN]
theorem mi_lost {b p : Nat} : miN "lost" b p = if ¬ b % 2 ^ p = 2 ^ p - 1 then 1 else 0 := by simp [miN]
theorem bad_lost : badH "lost" f m s = (decide (s.f = 1) || decide (s.b % 2 = 0)) := by simp [badH]
/-- a bad run with room 1 -/
def Bad1 (n : Nd) (f : List Nat) : Prop := ∃ r m s, RunH "lost" 1 n r m s ∧ badH "lost" f m s = true
/-- with the notices that were kept so far: what room 1 has -/
def LInv (n : Nd) (f : List Nat) (m : Nat) (s : Hk) : Prop := Bad1 n f ∨ (s.f = 0 ∧ bitN s.b 0 = 1 ∧ (∃ r h, RunH "lost" 1 n r m ⟨0, 0, h, 1, 0⟩) ∧
  ∀ i, 1 ≤ i → i ≤ s.p → bitN s.b i = 0 → ∃ r, RunH "lost" 1 n r m ⟨1, 1, if i = s.p then s.h else 0, 1, 0⟩)
theorem beh_empty {st : Str} {h : Nat} (hs : st ∈ rSteps) : ∃ h', behN "lost" st ⟨0, 0, h, 1, 0⟩ = ⟨0, 0, h', 1, 0⟩ := by
  simp only [rSteps, List.mem_cons, List.not_mem_nil, or_false] at hs
  rcases hs with rfl | rfl | rfl | rfl | rfl
  · exact ⟨0, by simp [behN]⟩
  · by_cases q : h = 1
    · exact ⟨h, by simp [behN, passN, q, am_lost, orN]⟩
    · exact ⟨h, by simp [behN, passN, q]⟩
  · exact ⟨h, by simp [behN, passN, mi_lost]⟩
  · by_cases q : h = 1
    · exact ⟨h, by simp [behN, passN, q, am_lost, orN, mi_lost]⟩
    · exact ⟨h, by simp [behN, passN, q, mi_lost]⟩
  · exact ⟨0, by simp [behN]⟩
theorem linv_all (hn : RelOk n f) (hR : R ≤ 3) (h : RunH "lost" R n r m s) : LInv n f m s := by
  refine run_ind (f := f) (P := fun _ m s => LInv n f m s) hn hR ?_ ?_ ?_ ?_ h
  · refine .inr ⟨rfl, by decide, ⟨[], 0, .nil⟩, fun i h1 h2 => ?_⟩
    have : i ≤ 0 := h2
    omega
  · intro r m s _ _ _ hI
    rcases hI with hI | ⟨h1, h2, ⟨r', h', h3⟩, h4⟩
    · exact .inl hI
    · refine .inr ⟨h1, h2, ⟨_, 0, run_crash h3⟩, fun i a1 a2 => ?_⟩
      have : i ≤ 0 := a2
      omega
  · intro r m s _ _ _ _ hI
    rcases hI with hI | ⟨h1, h2, h3, h4⟩
    · exact .inl hI
    · exact .inr ⟨h1, h2, h3, h4⟩
  · intro r m s e j hr hm hs he hst hI
    rcases hI with hI | ⟨h1, h2, ⟨r', h', h3⟩, h4⟩
    · exact .inl hI
    obtain ⟨h'', e0⟩ := beh_empty (h := h') hst
    have hA := run_edge h3 he
    rw [e0] at hA
    have hsm := hk_small hs
    obtain ⟨k1, k2, k3, k4, k5, k6⟩ := hs
    obtain ⟨k, p, hh, b, fa⟩ := s
    simp only at h1 h2 h4 hsm k1 k2 k3 k4 k5 k6
    subst h1
    have hst0 := hst
    simp only [rSteps, List.mem_cons, List.not_mem_nil, or_false] at hst
    -- marking, with what was passed on
    have mark : ∀ (b' : Nat), b' < 16 → bitN b' 0 = 1 → (∀ i, 1 ≤ i → i ≤ p → bitN b' i = 0 → ∃ r, RunH "lost" 1 n r e.2 ⟨0, 0, (if i = p then hh else 0), 0, 0⟩) →
        LInv n f e.2 ⟨k - p, 0, hh, b' / 2 ^ p, max 0 (miN "lost" b' p)⟩ := fun b' hb' hb0 hx => by
      by_cases q : ∃ i, 1 ≤ i ∧ i ≤ p ∧ bitN b' i = 0
      · obtain ⟨i, a1, a2, a3⟩ := q
        obtain ⟨r2, hr2⟩ := hx i a1 a2 a3
        exact .inl ⟨r2, _, _, hr2, by rw [bad_lost]; simp⟩
      · have q' : ∀ i, i ≤ p → bitN b' i = 1 := fun i hi => by
          by_cases h0 : i = 0
          · rw [h0]; exact hb0
          · rcases bit_lt b' i with z | z
            · exact absurd ⟨i, by omega, hi, z⟩ q
            · exact z
        refine .inr ⟨?_, ?_, ⟨_, _, hA⟩, fun i a1 a2 => ?_⟩
        · have := (low_bits b' hb' p hsm.2.1).mpr fun i hi => q' i (by omega)
          show max 0 (miN "lost" b' p) = 0
          rw [mi_lost, if_neg (by simpa using this)]; rfl
        · have := q' p (Nat.le_refl _)
          show b' / 2 ^ p / 2 ^ 0 % 2 = 1
          rw [Nat.pow_zero, Nat.div_one]; exact this
        · have : i ≤ 0 := a2
          omega
    rcases hst with q | q | q | q | q
    · -- next
      by_cases hpk : p < k
      · have e1 : behN "lost" e.1 ⟨k, p, hh, b, 0⟩ = ⟨k, p + 1, 1, b, 0⟩ := by rw [q]; simp [behN, hpk]
        rw [e1]
        refine .inr ⟨rfl, h2, ⟨_, _, hA⟩, fun i a1 a2 a3 => ?_⟩
        have a2 : i ≤ p + 1 := a2
        by_cases hi : i = p + 1
        · have g1 := run_other h3 (by show 0 < 1; omega)
          have g2 := run_edge g1 he
          have e2 : behN "lost" e.1 (otherN ⟨0, 0, h', 1, 0⟩) = ⟨1, 1, 1, 1, 0⟩ := by rw [q]; simp [behN, otherN]
          rw [e2] at g2
          exact ⟨_, by simp only [hi, if_true]; exact g2⟩
        · obtain ⟨r2, g1⟩ := h4 i a1 (by omega) a3
          have g2 := run_edge g1 he
          have e2 : ∀ x, behN "lost" e.1 ⟨1, 1, x, 1, 0⟩ = ⟨1, 1, 0, 1, 0⟩ := fun x => by rw [q]; simp [behN]
          rw [e2] at g2
          exact ⟨_, by simp only [hi, if_false]; exact g2⟩
      · have e1 : behN "lost" e.1 ⟨k, p, hh, b, 0⟩ = ⟨k, p, 0, b, 0⟩ := by rw [q]; simp [behN, hpk]
        rw [e1]
        refine .inr ⟨rfl, h2, ⟨_, _, hA⟩, fun i a1 a2 a3 => ?_⟩
        obtain ⟨r2, g1⟩ := h4 i a1 a2 a3
        have g2 := run_edge g1 he
        have e2 : ∀ x, behN "lost" e.1 ⟨1, 1, x, 1, 0⟩ = ⟨1, 1, 0, 1, 0⟩ := fun x => by rw [q]; simp [behN]
        rw [e2] at g2
        exact ⟨_, by simp only [ite_self]; exact g2⟩
    · -- pass
      by_cases hh1 : hh = 1
      · have e1 : behN "lost" e.1 ⟨k, p, hh, b, 0⟩ = ⟨k, p, hh, orN b p, 0⟩ := by rw [q]; simp [behN, passN, hh1, am_lost]
        rw [e1]
        refine .inr ⟨rfl, ?_, ⟨_, _, hA⟩, fun i a1 a2 a3 => ?_⟩
        · show bitN (orN b p) 0 = 1
          rw [or_bits b hsm.2.2.2.1 p hsm.2.1 0 (by omega)]
          split
          · rfl
          · exact h2
        · have a2 : i ≤ p := a2
          have a3 : bitN (orN b p) i = 0 := a3
          rw [or_bits b hsm.2.2.2.1 p hsm.2.1 i (by omega)] at a3
          by_cases hi : i = p
          · rw [if_pos hi] at a3; omega
          · rw [if_neg hi] at a3
            obtain ⟨r2, g1⟩ := h4 i a1 a2 a3
            rw [if_neg hi] at g1
            have g2 := run_edge g1 he
            have e2 : behN "lost" e.1 ⟨1, 1, 0, 1, 0⟩ = ⟨1, 1, 0, 1, 0⟩ := by rw [q]; simp [behN, passN]
            rw [e2] at g2
            exact ⟨_, by simp only [hi, if_false]; exact g2⟩
      · have e1 : behN "lost" e.1 ⟨k, p, hh, b, 0⟩ = ⟨k, p, hh, b, 0⟩ := by rw [q]; simp [behN, passN, hh1]
        rw [e1]
        have hh0 : hh = 0 := by omega
        refine .inr ⟨rfl, h2, ⟨_, _, hA⟩, fun i a1 a2 a3 => ?_⟩
        obtain ⟨r2, g1⟩ := h4 i a1 a2 a3
        have g2 := run_edge g1 he
        have e2 : behN "lost" e.1 ⟨1, 1, (if i = p then hh else 0), 1, 0⟩ = ⟨1, 1, (if i = p then hh else 0), 1, 0⟩ := by rw [q, hh0]; simp [behN, passN]
        rw [e2] at g2
        exact ⟨_, g2⟩
    · -- mark
      have e1 : behN "lost" e.1 ⟨k, p, hh, b, 0⟩ = ⟨k - p, 0, hh, b / 2 ^ p, max 0 (miN "lost" b p)⟩ := by rw [q]; simp [behN, passN]
      rw [e1]
      refine mark b hsm.2.2.2.1 h2 fun i a1 a2 a3 => ?_
      obtain ⟨r2, g1⟩ := h4 i a1 a2 a3
      have g2 := run_edge g1 he
      have e2 : ∀ x, behN "lost" e.1 ⟨1, 1, x, 1, 0⟩ = ⟨0, 0, x, 0, 0⟩ := fun x => by rw [q]; simp [behN, passN, mi_lost]
      rw [e2] at g2
      exact ⟨_, g2⟩
    · -- both
      by_cases hh1 : hh = 1
      · have e1 : behN "lost" e.1 ⟨k, p, hh, b, 0⟩ = ⟨k - p, 0, hh, orN b p / 2 ^ p, max 0 (miN "lost" (orN b p) p)⟩ := by rw [q]; simp [behN, passN, hh1, am_lost]
        rw [e1]
        refine mark (orN b p) (Nat.lt_of_lt_of_le (or_lt k (by omega) p k1 b k5) (pow_le (by omega))) ?_ fun i a1 a2 a3 => ?_
        · rw [or_bits b hsm.2.2.2.1 p hsm.2.1 0 (by omega)]
          split
          · rfl
          · exact h2
        · rw [or_bits b hsm.2.2.2.1 p hsm.2.1 i (by omega)] at a3
          by_cases hi : i = p
          · rw [if_pos hi] at a3; omega
          · rw [if_neg hi] at a3
            obtain ⟨r2, g1⟩ := h4 i a1 a2 a3
            rw [if_neg hi] at g1
            have g2 := run_edge g1 he
            have e2 : behN "lost" e.1 ⟨1, 1, 0, 1, 0⟩ = ⟨0, 0, 0, 0, 0⟩ := by rw [q]; simp [behN, passN, mi_lost]
            rw [e2] at g2
            exact ⟨_, by simp only [hi, if_false]; exact g2⟩
      · have e1 : behN "lost" e.1 ⟨k, p, hh, b, 0⟩ = ⟨k - p, 0, hh, b / 2 ^ p, max 0 (miN "lost" b p)⟩ := by rw [q]; simp [behN, passN, hh1]
        rw [e1]
        have hh0 : hh = 0 := by omega
        refine mark b hsm.2.2.2.1 h2 fun i a1 a2 a3 => ?_
        obtain ⟨r2, g1⟩ := h4 i a1 a2 a3
        have g2 := run_edge g1 he
        have e2 : behN "lost" e.1 ⟨1, 1, (if i = p then hh else 0), 1, 0⟩ = ⟨0, 0, (if i = p then hh else 0), 0, 0⟩ := by rw [q, hh0]; simp [behN, passN, mi_lost]
        rw [e2] at g2
        exact ⟨_, g2⟩
    · -- back
      have e1 : behN "lost" e.1 ⟨k, p, hh, b, 0⟩ = ⟨k, 0, 0, b, 0⟩ := by rw [q]; simp [behN]
      rw [e1]
      refine .inr ⟨rfl, h2, ⟨_, _, hA⟩, fun i a1 a2 => ?_⟩
      have : i ≤ 0 := a2
      omega
/-- more room has the runs of less -/
theorem run_more {way : Str} {R' : Nat} (hn : RelOk n f) (hR : R ≤ R') (hR' : R' ≤ 3) (h : RunH way R n r m s) : RunH way R' n r m s := by
  refine run_ind (f := f) (P := fun r m s => RunH way R' n r m s) hn (by omega) .nil ?_ ?_ ?_ h
  · intro r m s _ _ _ hI; exact run_crash hI
  · intro r m s _ _ _ hk hI; exact run_other hI (by omega)
  · intro r m s e j _ _ _ he _ hI; exact run_edge hI he
theorem lost_rooms (hn : RelOk n f) (h1 : 1 ≤ R) (hR : R ≤ 3) : (leastH "lost" R n f).isSome = (leastH "lost" 1 n f).isSome := by
  rw [Bool.eq_iff_iff, least_some hn hR, least_some hn (by omega)]
  constructor
  · rintro ⟨r, m, s, hr, hb⟩
    rcases linv_all (f := f) hn hR hr with h | ⟨h1, h2, _⟩
    · exact h
    · rw [bad_lost, h1] at hb
      have h2 : s.b / 2 ^ 0 % 2 = 1 := h2
      rw [Nat.pow_zero, Nat.div_one] at h2
      simp [h2] at hb
  · rintro ⟨r, m, s, hr, hb⟩
    exact ⟨r, m, s, run_more hn h1 hR hr, hb⟩
/-! ### one notice of others -/
/-- the same but for what is in hand at the mark -/
def Alk (s s' : Hk) : Prop := s'.k = s.k ∧ s'.p = s.p ∧ s'.b = s.b ∧ s'.f = s.f ∧ (1 ≤ s.p → s'.h = s.h)
theorem alk_beh {st : Str} {s s' : Hk} (hst : st ∈ rSteps) (hb : s.b % 2 = 1) (hs : s.b < 16) (h : Alk s s') : Alk (behN "lost" st s) (behN "lost" st s') := by
  obtain ⟨k, p, hh, b, fa⟩ := s
  obtain ⟨k', p', hh', b', fa'⟩ := s'
  obtain ⟨a1, a2, a3, a4, a5⟩ := h
  simp only at a1 a2 a3 a4 a5 hb hs
  subst a1 a2 a3 a4
  have o0 : orN b' 0 = b' := by simp [orN, hb]
  by_cases hp : 1 ≤ p'
  · rw [a5 hp]
    exact ⟨rfl, rfl, rfl, rfl, fun _ => rfl⟩
  · have hp0 : p' = 0 := by omega
    subst hp0
    simp only [rSteps, List.mem_cons, List.not_mem_nil, or_false] at hst
    rcases hst with rfl | rfl | rfl | rfl | rfl
    · by_cases q : 0 < k' <;> simp [behN, q, Alk]
    · by_cases q1 : hh = 1 <;> by_cases q2 : hh' = 1 <;> simp [behN, passN, q1, q2, Alk, o0, am_lost]
    · simp [behN, passN, Alk]
    · by_cases q1 : hh = 1 <;> by_cases q2 : hh' = 1 <;> simp [behN, passN, q1, q2, Alk, o0, am_lost]
    · simp [behN, Alk]
def cntO (r : List Int) : Nat := r.countP fun a => decide (a = -1)
theorem cnt_snoc {a : Int} : cntO (r ++ [a]) = cntO r + if a = -1 then 1 else 0 := by
  unfold cntO
  rw [List.countP_append]
  by_cases q : a = -1 <;> simp [q]
/-- a shorter bad run -/
def Shorter (n : Nd) (f : List Nat) (L : Nat) : Prop := ∃ r m s, RunH "lost" 1 n r m s ∧ badH "lost" f m s = true ∧ r.length < L
def OInv (n : Nd) (f : List Nat) (r : List Int) (m : Nat) (s : Hk) : Prop := Shorter n f r.length ∨ (cntO r = 0 ∧ ∃ h, s = ⟨0, 0, h, 1, 0⟩) ∨
  (cntO r = 1 ∧ ∃ r' h, RunH "lost" 1 n r' m ⟨0, 0, h, 1, 0⟩ ∧ r'.length < r.length) ∨ (2 ≤ cntO r ∧ ∃ r' s', RunH "lost" 1 n r' m s' ∧ Alk s s' ∧ r'.length < r.length)
theorem Shorter.up {L L' : Nat} (h : Shorter n f L) (hl : L ≤ L') : Shorter n f L' := by
  obtain ⟨r, m, s, h1, h2, h3⟩ := h
  exact ⟨r, m, s, h1, h2, by omega⟩
theorem oinv_all (hn : RelOk n f) (h : RunH "lost" 1 n r m s) : OInv n f r m s := by
  have len : ∀ (r : List Int) (a : Int), (r ++ [a]).length = r.length + 1 := fun r a => by simp
  refine run_ind (f := f) (P := fun r m s => OInv n f r m s) hn (by omega) ?_ ?_ ?_ ?_ h
  · exact .inr (.inl ⟨rfl, 0, rfl⟩)
  · intro r m s hr hm hs hI
    have c0 : cntO (r ++ [-2]) = cntO r := by rw [cnt_snoc]; simp
    unfold OInv
    rw [c0, len]
    rcases hI with h | ⟨h1, h', rfl⟩ | ⟨h1, r', h', h2, h3⟩ | ⟨h1, r', s', h2, h3, h4⟩
    · exact .inl (h.up (by omega))
    · exact .inr (.inl ⟨h1, 0, rfl⟩)
    · exact .inr (.inr (.inl ⟨h1, _, 0, run_crash h2, by rw [len]; omega⟩))
    · refine .inr (.inr (.inr ⟨h1, _, _, run_crash h2, ?_, by rw [len]; omega⟩))
      obtain ⟨a1, a2, a3, a4, a5⟩ := h3
      exact ⟨a1, rfl, a3, a4, fun _ => rfl⟩
  · intro r m s hr hm hs hk hI
    have c0 : cntO (r ++ [-1]) = cntO r + 1 := by rw [cnt_snoc]; simp
    unfold OInv
    rw [c0, len]
    rcases hI with h | ⟨h1, h', rfl⟩ | ⟨h1, r', h', h2, h3⟩ | ⟨h1, r', s', h2, h3, h4⟩
    · exact .inl (h.up (by omega))
    · exact .inr (.inr (.inl ⟨by omega, r, h', hr, by omega⟩))
    · by_cases hb : badH "lost" f m s = true
      · exact .inl ⟨r, m, s, hr, hb, by omega⟩
      · rw [bad_lost] at hb
        simp only [Bool.or_eq_true, decide_eq_true_eq, not_or] at hb
        obtain ⟨k1, k2, k3, k4, k5, k6⟩ := hs
        obtain ⟨k, p, hh, b, fa⟩ := s
        simp only at hb k1 k2 k3 k4 k5 k6 hk
        have e1 : k = 0 := by omega
        subst e1
        have e2 : p = 0 := by omega
        subst e2
        have e3 : b = 1 := by
          have : 2 ^ (0 + 1) = 2 := rfl
          omega
        subst e3
        have e4 : fa = 0 := by omega
        subst e4
        refine .inr (.inr (.inr ⟨by omega, _, _, run_other h2 (by show 0 < 1; omega), ⟨rfl, rfl, rfl, rfl, fun z => ?_⟩, by rw [len]; omega⟩))
        have : 1 ≤ 0 := z
        omega
    · refine .inr (.inr (.inr ⟨by omega, _, _, run_other h2 (by rw [h3.1]; exact hk), ?_, by rw [len]; omega⟩))
      obtain ⟨a1, a2, a3, a4, a5⟩ := h3
      exact ⟨by show s'.k + 1 = s.k + 1; omega, a2, a3, a4, a5⟩
  · intro r m s e j hr hm hs he hst hI
    have c0 : cntO (r ++ [(j : Int)]) = cntO r := by rw [cnt_snoc, if_neg (by omega)]; rfl
    unfold OInv
    rw [c0, len]
    rcases hI with h | ⟨h1, h', rfl⟩ | ⟨h1, r', h', h2, h3⟩ | ⟨h1, r', s', h2, h3, h4⟩
    · exact .inl (h.up (by omega))
    · obtain ⟨h'', e0⟩ := beh_empty (h := h') hst
      exact .inr (.inl ⟨h1, h'', e0⟩)
    · obtain ⟨h'', e0⟩ := beh_empty (h := h') hst
      have g := run_edge h2 he
      rw [e0] at g
      exact .inr (.inr (.inl ⟨h1, _, h'', g, by rw [len]; omega⟩))
    · by_cases hb : badH "lost" f m s = true
      · exact .inl ⟨r, m, s, hr, hb, by omega⟩
      · rw [bad_lost] at hb
        simp only [Bool.or_eq_true, decide_eq_true_eq, not_or] at hb
        exact .inr (.inr (.inr ⟨h1, _, _, run_edge h2 he, alk_beh hst (by omega) (hk_small hs).2.2.2.1 h3, by rw [len]; omega⟩))
theorem lost_one (hn : RelOk n f) (h : leastH "lost" 1 n f = some r) : cntO r = 1 := by
  obtain ⟨⟨m, s, hr, hb⟩, hmin⟩ := least_is hn (by omega) h
  rcases oinv_all (f := f) hn hr with ⟨r', m', s', g1, g2, g3⟩ | ⟨h1, h', rfl⟩ | ⟨h1, _⟩ | ⟨h1, r', s', h2, h3, h4⟩
  · have := hmin r' m' s' g1 g2
    omega
  · rw [bad_lost] at hb
    simp at hb
  · exact h1
  · obtain ⟨a1, a2, a3, a4, a5⟩ := h3
    have : badH "lost" f m s' = true := by rw [bad_lost, a3, a4, ← bad_lost (f := f) (m := m) (s := s)]; exact hb
    have := hmin r' m s' h2 this
    omega
end
end PV

/-! Ql: marks of one notice: what is lost or passed on twice where no edge does both. -/
namespace PV
open PySem PySem.Spec PyProof.Rows L2
section
variable {R : Nat} {n : Nd} {f : List Nat} {m : Nat} {s : Hk} {r : List Int}
/-- whether the notice is taken behind a step -/
def tkM (st : Str) (t : Nat) : Nat := if st = "next" then 1 else if st = "back" then 0 else t
/-- the node's edges and the crash -/
abbrev backE : Str × Nat := ("back", 0)
abbrev edM (n : Nd) (m : Nat) : List (Str × Nat) := n.getD m [] ++ [backE]
/-- pairs that a walk finds -/
inductive Mk (n : Nd) : Nat → Nat → Prop
  | nil : Mk n 0 0
  | step {m t : Nat} {e : Str × Nat} : Mk n m t → e ∈ edM n m → ¬ ((e.1 = "mark" ∨ e.1 = "both") ∧ t = 1) → Mk n e.2 (tkM e.1 t)
/-- some run marks -/
def Marks (n : Nd) : Prop := ∃ m t e, Mk n m t ∧ e ∈ edM n m ∧ (e.1 = "mark" ∨ e.1 = "both") ∧ t = 1
/-- a closed set of pairs where nothing marks -/
def ClM (n : Nd) (S : List (Nat × Nat)) : Prop := (0, 0) ∈ S ∧ ∀ p ∈ S, ∀ e ∈ edM n p.1, ¬ ((e.1 = "mark" ∨ e.1 = "both") ∧ p.2 = 1) ∧ (e.2, tkM e.1 p.2) ∈ S
theorem mi_twice {b p : Nat} : miN "twice" b p = 0 := by simp [miN]
theorem am_twice {b p : Nat} : amN "twice" b p = if b / 2 ^ p % 2 = 1 then 1 else 0 := by simp [amN]
/-- nothing is lost where nothing marks -/
theorem no_marks {S : List (Nat × Nat)} (hS : ClM n S) (hn : RelOk n f) (hR : R ≤ 3) (h : RunH "lost" R n r m s) : s.f = 0 ∧ s.b % 2 = 1 ∧ ((m, 1) ∈ S ∨ (s.p = 0 ∧ (m, 0) ∈ S)) := by
  have hback : ∀ p ∈ S, (0, 0) ∈ S := fun _ _ => hS.1
  refine run_ind (f := f) (P := fun _ m s => s.f = 0 ∧ s.b % 2 = 1 ∧ ((m, 1) ∈ S ∨ (s.p = 0 ∧ (m, 0) ∈ S))) hn hR ?_ ?_ ?_ ?_ h
  · exact ⟨rfl, rfl, .inr ⟨rfl, hS.1⟩⟩
  · intro r m s _ _ _ hI
    exact ⟨hI.1, hI.2.1, .inr ⟨rfl, hS.1⟩⟩
  · intro r m s _ _ _ _ hI
    exact hI
  · intro r m s e j hr hm hs he hst hI
    obtain ⟨k, p, hh, b, fa⟩ := s
    obtain ⟨h1, h2, h3⟩ := hI
    simp only at h1 h2 h3
    subst h1
    have hed : e ∈ edM n m := List.mem_append_left _ (List.mem_of_getElem? he)
    have o0 : orN b 0 = b := by simp [orN, h2]
    have hsm := hk_small hs
    simp only at hsm
    have hor : orN b p % 2 = 1 := by
      have := or_bits b hsm.2.2.2.1 p hsm.2.1 0 (by omega)
      unfold bitN at this
      rw [Nat.pow_zero, Nat.div_one, Nat.div_one] at this
      rw [this]; split
      · rfl
      · exact h2
    simp only [rSteps, List.mem_cons, List.not_mem_nil, or_false] at hst
    rcases h3 with h3 | ⟨rfl, h3⟩
    · obtain ⟨g1, g2⟩ := hS.2 _ h3 e hed
      have g1 : ¬ (e.1 = "mark" ∨ e.1 = "both") := fun z => g1 ⟨z, rfl⟩
      rcases hst with q | q | q | q | q
      · rw [q] at g2 ⊢
        have g2 : (e.2, 1) ∈ S := by simpa [tkM] using g2
        by_cases hpk : p < k <;> simp [behN, hpk, h2, g2]
      · rw [q] at g2 ⊢
        have g2 : (e.2, 1) ∈ S := by simpa [tkM] using g2
        by_cases h1 : hh = 1 <;> simp [behN, passN, h1, h2, g2, hor, am_lost]
      · exact absurd (.inl q) g1
      · exact absurd (.inr q) g1
      · rw [q] at g2 ⊢
        have g2 : (e.2, 0) ∈ S := by simpa [tkM] using g2
        simp [behN, h2, g2]
    · obtain ⟨g1, g2⟩ := hS.2 _ h3 e hed
      rcases hst with q | q | q | q | q
      · rw [q] at g2 ⊢
        have g2 : (e.2, 1) ∈ S := by simpa [tkM] using g2
        by_cases hpk : 0 < k <;> simp [behN, hpk, h2, g2]
      · rw [q] at g2 ⊢
        have g2 : (e.2, 0) ∈ S := by simpa [tkM] using g2
        by_cases h1 : hh = 1 <;> simp [behN, passN, h1, h2, g2, o0, am_lost]
      · rw [q] at g2 ⊢
        have g2 : (e.2, 0) ∈ S := by simpa [tkM] using g2
        simp [behN, passN, h2, g2, mi_lost]
        omega
      · rw [q] at g2 ⊢
        have g2 : (e.2, 0) ∈ S := by simpa [tkM] using g2
        by_cases h1 : hh = 1 <;> simp [behN, passN, h1, h2, g2, o0, am_lost, mi_lost] <;> omega
      · rw [q] at g2 ⊢
        have g2 : (e.2, 0) ∈ S := by simpa [tkM] using g2
        simp [behN, h2, g2]
theorem none_lost {S : List (Nat × Nat)} (hS : ClM n S) (hn : RelOk n f) (hR : R ≤ 3) : leastH "lost" R n f = none := by
  cases q : leastH "lost" R n f with
  | none => rfl
  | some r =>
    obtain ⟨⟨m, s, hr, hb⟩, _⟩ := least_is hn hR q
    obtain ⟨h1, h2, _⟩ := no_marks hS hn hR hr
    rw [bad_lost, h1] at hb
    simp [h2] at hb
/-- some run passes on twice -/
def BadT (R : Nat) (n : Nd) (f : List Nat) : Prop := ∃ r m s, RunH "twice" R n r m s ∧ badH "twice" f m s = true
theorem bad_twice : badH "twice" f m s = decide (s.f = 1) := by simp [badH]
/-- how far a pair that is found leads -/
def QM (R : Nat) (n : Nd) (f : List Nat) (m t : Nat) : Prop := BadT R n f ∨ ∃ h b, (h = 0 ∨ h = 1 ∧ t = 1) ∧ (t = 0 ∨ t = 1) ∧ (∃ r, RunH "lost" R n r m ⟨1, t, h, b, 0⟩) ∧ (∃ r, RunH "twice" R n r m ⟨1, t, h, b, 0⟩) ∧
  (b = 1 ∧ (∀ r, RunH "twice" R n r 0 ⟨1, 0, 0, 3, 0⟩ → ∃ r, RunH "twice" R n r m ⟨1, t, h, 3, 0⟩) ∨ b = 3 ∧ (∀ r, RunH "twice" R n r 0 ⟨1, 0, 0, 3, 0⟩ → BadT R n f))
theorem edge_or_crash {P : Prop} {e : Str × Nat} (he : e ∈ edM n m) (h1 : ∀ j : Nat, (n.getD m [])[j]? = some e → P) (h2 : e = backE → P) : P := by
  rcases List.mem_append.mp he with h | h
  · obtain ⟨j, hj⟩ := List.mem_iff_getElem?.mp h
    exact h1 j hj
  · exact h2 (by simpa using h)
/-- one step of the same kind from any state -/
theorem step_any {way : Str} {e : Str × Nat} (he : e ∈ edM n m) {s : Hk} (h : ∃ r, RunH way R n r m s) : ∃ r, RunH way R n r e.2 (behN way e.1 s) := by
  obtain ⟨r, h⟩ := h
  refine edge_or_crash he (fun j hj => ⟨_, run_edge h hj⟩) fun q => ?_
  subst q
  have := run_crash h
  have e1 : behN way "back" s = crashN s := by simp [behN, crashN]
  exact ⟨_, by rw [e1]; exact this⟩
theorem qm_all (h1 : 1 ≤ R) (hb : ∀ m, ∀ e ∈ n.getD m [], e.1 ∈ rSteps ∧ e.1 ≠ "both") {t : Nat} (h : Mk n m t) : QM R n f m t := by
  induction h with
  | nil =>
    have h0 : ∀ way, RunH way R n ([] ++ [-1]) 0 (otherN s0) := fun way => run_other (run_nil (way := way)) (by show 0 < R; omega)
    exact .inr ⟨0, 1, .inl rfl, .inl rfl, ⟨_, h0 _⟩, ⟨_, h0 _⟩, .inl ⟨rfl, fun r hr => ⟨r, hr⟩⟩⟩
  | @step m t e hm he hnot ih =>
    rcases ih with ih | ⟨h, b, c1, c2, r1, r2, c3⟩
    · exact .inl ih
    have hst : (e.1 ∈ rSteps ∧ e.1 ≠ "both") := by
      rcases List.mem_append.mp he with h | h
      · exact hb m e h
      · have : e = backE := by simpa using h
        subst this
        exact ⟨by simp [rSteps], by simp⟩
    have q1 := step_any he r1
    have q2 := step_any he r2
    have q3 : ∀ {s : Hk}, (∃ r, RunH "twice" R n r m s) → ∃ r, RunH "twice" R n r e.2 (behN "twice" e.1 s) := fun h => step_any he h
    obtain ⟨hst, hnb⟩ := hst
    generalize he1 : e.1 = st at *
    simp only [rSteps, List.mem_cons, List.not_mem_nil, or_false] at hst
    -- where bits stay
    have stay : ∀ h', (h' = 0 ∨ h' = 1 ∧ tkM st t = 1) → (tkM st t = 0 ∨ tkM st t = 1) → (∀ way b, behN way st ⟨1, t, h, b, 0⟩ = ⟨1, tkM st t, h', b, 0⟩) → QM R n f e.2 (tkM st t) := fun h' z1 z2 z3 => by
      rw [z3] at q1 q2
      refine .inr ⟨h', b, z1, z2, q1, q2, ?_⟩
      rcases c3 with ⟨e1, c3⟩ | ⟨e1, c3⟩
      · refine .inl ⟨e1, fun r hr => ?_⟩
        have := q3 (c3 r hr)
        rw [z3] at this
        exact this
      · exact .inr ⟨e1, c3⟩
    rcases hst with q | q | q | q | q
    · -- next
      subst q
      rcases c2 with rfl | rfl
      · exact stay 1 (by simp [tkM]) (by simp [tkM]) (fun way b => by simp [behN, tkM])
      · exact stay 0 (by simp) (by simp [tkM]) (fun way b => by simp [behN, tkM])
    · -- pass
      subst q
      rcases c1 with rfl | ⟨rfl, rfl⟩
      · exact stay 0 (by simp) (by simpa [tkM] using c2) (fun way b => by simp [behN, passN, tkM])
      · rcases c3 with ⟨rfl, c3⟩ | ⟨rfl, c3⟩
        · have e1 : behN "lost" "pass" ⟨1, 1, 1, 1, 0⟩ = ⟨1, 1, 1, 3, 0⟩ := by simp [behN, passN, orN, am_lost]
          have e2 : behN "twice" "pass" ⟨1, 1, 1, 1, 0⟩ = ⟨1, 1, 1, 3, 0⟩ := by simp [behN, passN, orN, am_twice]
          rw [e1] at q1
          rw [e2] at q2
          refine .inr ⟨1, 3, .inr ⟨rfl, by simp [tkM]⟩, by simp [tkM], by simpa [tkM] using q1, by simpa [tkM] using q2, .inr ⟨rfl, fun r hr => ?_⟩⟩
          obtain ⟨r3, g⟩ := q3 (c3 r hr)
          exact ⟨r3, _, _, g, by rw [bad_twice]; simp [behN, passN, am_twice]⟩
        · obtain ⟨r3, g⟩ := q2
          exact .inl ⟨r3, _, _, g, by rw [bad_twice]; simp [behN, passN, am_twice]⟩
    · -- mark
      subst q
      have ht : t = 0 := by
        rcases c2 with rfl | rfl
        · rfl
        · exact absurd ⟨.inl rfl, rfl⟩ hnot
      subst ht
      have hh : h = 0 := by
        rcases c1 with rfl | ⟨_, z⟩
        · rfl
        · omega
      subst hh
      refine stay 0 (by simp) (by simp [tkM]) (fun way b => ?_)
      have : miN way b 0 = 0 := by simp [miN]; omega
      simp [behN, passN, tkM, this]
    · exact absurd q hnb
    · -- back
      subst q
      exact stay 0 (by simp) (by simp [tkM]) (fun way b => by simp [behN, tkM])
/-- lost, or passed on twice -/
theorem marks_bad (hM : Marks n) (hn : RelOk n f) (h1 : 1 ≤ R) (hR : R ≤ 3) (hb : ∀ nd ∈ n, ∀ e ∈ nd, e.1 ≠ "both") : (leastH "lost" R n f).isSome = true ∨ (leastH "twice" R n f).isSome = true := by
  have hb' : ∀ m, ∀ e ∈ n.getD m [], e.1 ∈ rSteps ∧ e.1 ≠ "both" := fun m e he => by
    by_cases hm : m < n.length
    · exact ⟨hn.stp _ (hnode_mem hm) _ he, hb _ (hnode_mem hm) _ he⟩
    · rw [List.getD_eq_getElem?_getD, List.getElem?_eq_none (by omega)] at he
      exact absurd he (by simp)
  obtain ⟨m, t, e, hm, he, hk, rfl⟩ := hM
  rcases qm_all (R := R) (f := f) h1 hb' hm with h | ⟨h, b, c1, c2, r1, r2, c3⟩
  · exact .inr ((least_some hn hR).mpr h)
  · have hmark : e.1 = "mark" := by
      rcases hk with hk | hk
      · exact hk
      · rcases List.mem_append.mp he with z | z
        · exact absurd hk (hb' m e z).2
        · have : e = backE := by simpa using z
          subst this
          simp at hk
    rcases c3 with ⟨rfl, c3⟩ | ⟨rfl, c3⟩
    · obtain ⟨r, g⟩ := step_any he r1
      refine .inl ((least_some hn hR).mpr ⟨r, _, _, g, ?_⟩)
      rw [bad_lost, hmark]
      simp [behN, passN, mi_lost]
    · obtain ⟨r2, g2⟩ := r2
      exact .inr ((least_some hn hR).mpr (c3 _ (run_crash g2)))
end
end PV

namespace K94
open PySem PySem.Spec PyProof.Rows L2 PV
noncomputable def L_marks_1 : DE → O := (killS true [false, false, false, false, false, true, true, true] (thenS (ifS (andT (tst (op2 (inF false) (var 5) (tupE (valA (cst (.str "mark")) (valA (cst (.str "both")) noA))))) (tst (op2 eqD (var 4) (cst (.int 1))))) (retS (cst (.bl true))) skipS) (thenS (setS 7 (tupE (valA (var 6) (valA (ifE (tst (op2 eqD (var 5) (cst (.str "next")))) (cst (.int 1)) (ifE (tst (op2 eqD (var 5) (cst (.str "back")))) (cst (.int 0)) (var 4))) noA)))) (ifS (tst (dInT true 1 (var 7))) (thenS (dPutT 1 (var 7) (cst (.bl true))) (appS 2 (var 7))) skipS))))
noncomputable def L_marks_2 : DE → O := (killS true [false, false, false, true, true, true, true, true] (thenS (asgS (tupG 2 (consG (nmG 3) (consG (nmG 4) nilG))) (popE 2)) (forS (seqE (op2 addA (ofN (callN listN (valA (op2 ixD (var 0) (var 3)) noA))) (ofN (lstN (valA (tupE (valA (cst (.str "back")) (valA (cst (.int 0)) noA))) noA))))) (tupG 2 (consG (nmG 5) (consG (nmG 6) nilG))) L_marks_1)))
noncomputable def F_marks : DE → O := (killS true [] (thenS (parS [1, 2] (ownI (dOneT (tupE (valA (cst (.int 0)) (valA (cst (.int 0)) noA))) (cst (.bl true))) (ownI (lstN (valA (tupE (valA (cst (.int 0)) (valA (cst (.int 0)) noA))) noA)) noI))) (thenS (whileS 8192 (tst (neSl 2)) L_marks_2) (retS (cst (.bl false))))))
noncomputable def ph_marks : List Sl → FR := fnF 1 8 F_marks
noncomputable def L_law_1 : DE → O := (killS true [false, false, true, true, true, true, true, true, true, true, true, false, false, false] (thenS (asgS (tupG 2 (consG (nmG 4) (consG (nmG 6) nilG))) (ifE (tst (op2 igt (var 2) (cst (.int 0)))) (callF ph_relay (slotA 1 (valA (cst (.int 6)) noA))) (tupE (valA (tupE (valA (tupE (valA (tupE (valA (cst (.str "next")) (valA (cst (.int 1)) noA))) noA)) (valA (tupE (valA (tupE (valA (cst (.str "mark")) (valA (cst (.int 0)) noA))) noA)) noA))) (valA (tupE (valA (cst (.int 0)) noA)) noA))))) (thenS (setS 3 (callF ph_pick (slotA 1 (valA (ofN (lstN (valA (cst (.str "pass")) (valA (cst (.str "mark")) (valA (cst (.str "next")) (valA (cst (.str "both")) noA)))))) noA)))) (thenS (setS 4 (callB tupleD (valA (ofN (lcN (seqE (var 4)) (nmG 11) noCond (callB tupleD (valA (ofN (lcN (seqE (var 11)) (tupG 2 (consG (nmG 12) (consG (nmG 13) nilG))) noCond (tupE (valA (ifE (tst (op2 eqD (var 12) (cst (.str "both")))) (var 3) (var 12)) (valA (var 13) noA))) [12, 13])) noA)) [11])) noA))) (thenS (parS [7, 8] (valI (ofN (makeN "Relay" ph_p_Relay_init (valA (var 4) (valA (var 6) noA)))) (valI (callF ph_pick (slotA 1 (valA (ofN (lstN (valA (cst (.int 1)) (valA (cst (.int 2)) (valA (cst (.int 3)) noA))))) noA))) noI))) (thenS (parS [9, 10] (valI (callM "run" [("Handing", ph_p_Question_run)] (callM "question" [("Relay", ph_p_Relay_question)] (var 7) (valA (cst (.str "lost")) (valA (var 8) noA))) noA) (valI (callM "run" [("Handing", ph_p_Question_run)] (callM "question" [("Relay", ph_p_Relay_question)] (var 7) (valA (cst (.str "twice")) (valA (var 8) noA))) noA) noI))) (thenS (setS 5 (op2 neZ (ofN (lcN (seqE (var 4)) (nmG 11) (tst (op2 neZ (ofN (lcN (seqE (var 11)) (tupG 2 (consG (nmG 12) (consG (nmG 13) nilG))) (tst (op2 eqD (var 12) (cst (.str "both")))) (cst (.int 1)) [12, 13])) (ofN (lstN noA)))) (cst (.int 1)) [11])) (ofN (lstN noA)))) (ifS (tst (callF ph_marks (valA (var 4) noA))) (ifS (andT (notT (tst (var 5))) (andT (tst (op2 isNo (var 9) (cst .non))) (tst (op2 isNo (var 10) (cst .non))))) (retS (cst (.bl false))) skipS) (ifS (tst (op2 notNo (var 9) (cst .non))) (retS (cst (.bl false))) skipS)))))))))
noncomputable def L_law_2 : DE → O := (killS true [false, true, true, true, true, true, true, true, true, true, true, false, false, false] (forS (rng1 (valA (cst (.int 3)) noA)) (nmG 2) L_law_1))
noncomputable def F_law : DE → O := (killS true [] (thenS (forPens 0 3 1 L_law_2) (retS (cst (.bl true)))))
noncomputable def ph_law : List Sl → FR := fnF 1 14 F_law
end K94

namespace K94
open PySem PySem.Spec PyProof.Rows L2 PV
abbrev Pr := Nat × Nat
abbrev prD (p : Pr) : D := .tup [.int (p.1 : Nat), .int (p.2 : Nat)]
abbrev keyM (p : Pr) : List Key := [.inl (p.1 : Nat), .inl (p.2 : Nat)]
def fdD (fd : List Pr) : List (List Key × D) := fd.map fun p => (keyM p, .bl true)
theorem key_inj {p q : Pr} : (keyM p = keyM q) ↔ p = q := by
  obtain ⟨a, b⟩ := p
  obtain ⟨c, d⟩ := q
  simp only [keyM, List.cons.injEq, Sum.inl.injEq, and_true, Prod.mk.injEq]
  omega
theorem keyT_pr {a b : Nat} : keyT (.tup [.int (a : Nat), .int (b : Nat)]) = some (keyM (a, b)) := rfl
theorem val_fd {p : Pr} : ∀ (fd : List Pr), (valT (fdD fd) (keyM p)).isSome = decide (p ∈ fd)
  | [] => rfl
  | q :: fd => by
    have ih := val_fd (p := p) fd
    unfold valT fdD at *
    rw [List.map_cons]
    by_cases h : keyM q = keyM p
    · rw [List.find?_cons_of_pos (by simpa using h)]
      have := key_inj.mp h
      simp [this]
    · rw [List.find?_cons_of_neg (by simpa using h), ih]
      have h' : ¬ p = q := fun z => h (key_inj.mpr z.symm)
      simp [h']
theorem put_fd {p : Pr} {fd : List Pr} (h : p ∉ fd) : putT (fdD fd) (keyM p) (.bl true) = fdD (fd ++ [p]) := by
  unfold putT
  have e : ((fdD fd).any fun kv => decide (kv.1 = keyM p)) = false := by
    rw [Bool.eq_false_iff]
    intro z
    obtain ⟨x, hx, hk⟩ := List.any_eq_true.mp z
    obtain ⟨q, hq, rfl⟩ := List.mem_map.mp hx
    have := key_inj.mp (of_decide_eq_true hk)
    exact h (this ▸ hq)
  rw [e, if_neg Bool.false_ne_true]
  unfold fdD
  rw [List.map_append]; rfl
theorem fd_len (fd : List Pr) : (fdD fd).length = fd.length := List.length_map _
/-! ### the walk -/
theorem while_ret {f : DE → R Bool} {g : DE → O} {n : Nat} {δ δ1 δ2 : DE} {d : D} (h1 : f δ = .ok true δ1) (h2 : g δ1 = .ret d δ2) : whileF f g (n + 1) δ = .ret d δ2 := by
  conv => lhs; unfold whileF
  simp only [h1, bindS, h2, if_true]
abbrev MR (n : Nd) (fd ln : List Pr) (a b c d e : Option Sl) : DE := [some (.val (nodesD n)), some (.own (.dcT (fdD fd))), some (.own (.lst (ln.map prD))), a, b, c, d, e]
def adM (s : List Pr × List Pr) (p : Pr) : List Pr × List Pr := if p ∈ s.1 then s else (s.1 ++ [p], s.2 ++ [p])
abbrev isMk (st : Str) : Prop := st = "mark" ∨ st = "both"
theorem ht_mk {st : Str} : inF false (.str st) (.tup [.str "mark", .str "both"]) = some (.bl (decide (isMk st))) := by
  have := inF_strT (k := st) (l := ["mark", "both"])
  simp only [List.map_cons, List.map_nil] at this
  rw [this]
  congr 3
  simp
theorem mark_ret {n : Nd} {fd ln : List Pr} {m : Nat} {e : Str × Nat} (h : isMk e.1) :
    L_marks_1 (MR n fd ln (some (.val (.int (m : Nat)))) (some (.val (.int ((1 : Nat) : Int)))) (some (.val (.str e.1))) (some (.val (.int (e.2 : Nat)))) none) = .ret (.bl true) [none, none, none, none, none, none, none, none] := by
  have ht := ht_mk (st := e.1)
  rw [decide_eq_true h] at ht
  unfold L_marks_1
  simp [ht]
theorem mark_turn {n : Nd} {fd ln : List Pr} {m t : Nat} {e : Str × Nat} (h : ¬ (isMk e.1 ∧ t = 1)) (h1 : fd.length ≤ 1000) (h2 : ln.length ≤ 1000) :
    L_marks_1 (MR n fd ln (some (.val (.int (m : Nat)))) (some (.val (.int (t : Nat)))) (some (.val (.str e.1))) (some (.val (.int (e.2 : Nat)))) none) = .nx (MR n (adM (fd, ln) (e.2, tkM e.1 t)).1 (adM (fd, ln) (e.2, tkM e.1 t)).2 (some (.val (.int (m : Nat)))) (some (.val (.int (t : Nat)))) none none none) := by
  have l1 : (fdD fd).length < 1000000 := by rw [fd_len]; omega
  have l2 : ln.length < 1000000 := by omega
  have ht := ht_mk (st := e.1)
  have hv := val_fd (p := (e.2, tkM e.1 t)) fd
  have hpk : (e.2, tkM e.1 t) ∉ fd → putT (fdD fd) (keyM (e.2, tkM e.1 t)) (.bl true) = fdD (fd ++ [(e.2, tkM e.1 t)]) := fun h => put_fd h
  have ek : keyT (.tup [.int (e.2 : Nat), .int (tkM e.1 t : Nat)]) = some (keyM (e.2, tkM e.1 t)) := rfl
  -- the test
  have hc : ∀ δ : DE, δ[5]? = some (some (.val (.str e.1))) → δ[4]? = some (some (.val (.int (t : Nat)))) → andT (tst (op2 (inF false) (var 5) (tupE (valA (cst (.str "mark")) (valA (cst (.str "both")) noA))))) (tst (op2 eqD (var 4) (cst (.int 1)))) δ = .ok false δ := fun δ e5 e4 => by
    by_cases hm : isMk e.1
    · rw [decide_eq_true hm] at ht
      have ht1 : ¬ t = 1 := fun z => h ⟨hm, z⟩
      have ht1' : ¬ ((t : Nat) : Int) = 1 := by omega
      simp [ht, e5, e4, ht1']
    · rw [decide_eq_false hm] at ht
      simp [ht, e5]
  have hl : ifE (tst (op2 eqD (var 5) (cst (.str "next")))) (cst (.int 1)) (ifE (tst (op2 eqD (var 5) (cst (.str "back")))) (cst (.int 0)) (var 4)) (MR n fd ln (some (.val (.int (m : Nat)))) (some (.val (.int (t : Nat)))) (some (.val (.str e.1))) (some (.val (.int (e.2 : Nat)))) none) = .ok (.int (tkM e.1 t : Nat)) (MR n fd ln (some (.val (.int (m : Nat)))) (some (.val (.int (t : Nat)))) (some (.val (.str e.1))) (some (.val (.int (e.2 : Nat)))) none) := by
    unfold tkM
    by_cases q1 : e.1 = "next"
    · simp [q1]
    · by_cases q2 : e.1 = "back"
      · simp [q2]
      · simp [q1, q2]
  have hc := hc (MR n fd ln (some (.val (.int (m : Nat)))) (some (.val (.int (t : Nat)))) (some (.val (.str e.1))) (some (.val (.int (e.2 : Nat)))) none) rfl rfl
  unfold L_marks_1 adM
  generalize tkM e.1 t = t' at *
  generalize andT (tst (op2 (inF false) (var 5) (tupE (valA (cst (.str "mark")) (valA (cst (.str "both")) noA))))) (tst (op2 eqD (var 4) (cst (.int 1)))) = C at *
  generalize ifE (tst (op2 eqD (var 5) (cst (.str "next")))) (cst (.int 1)) (ifE (tst (op2 eqD (var 5) (cst (.str "back")))) (cst (.int 0)) (var 4)) = E at *
  by_cases hm : (e.2, t') ∈ fd
  · rw [decide_eq_true hm] at hv
    simp [hc, hl, ek, hv, hm]
  · rw [decide_eq_false hm] at hv
    have hp := hpk hm
    simp [hc, hl, ek, hv, hm, hp, l1, l2]
noncomputable def wkM (t : Nat) : List (Str × Nat) → List Pr × List Pr → Option (List Pr × List Pr)
  | [], s => some s
  | e :: es, s => @ite _ (isMk e.1 ∧ t = 1) (Classical.propDecidable _) none (wkM t es (adM s (e.2, tkM e.1 t)))
def endM (n : Nd) (m t : Nat) : Option (List Pr × List Pr) → O
  | some s => .nx (MR n s.1 s.2 (some (.val (.int (m : Nat)))) (some (.val (.int (t : Nat)))) none none none)
  | none => .ret (.bl true) [none, none, none, none, none, none, none, none]
theorem ad_len (s : List Pr × List Pr) (p : Pr) : (adM s p).1.length ≤ s.1.length + 1 ∧ (adM s p).2.length ≤ s.2.length + 1 := by
  unfold adM
  split
  · exact ⟨Nat.le_succ _, Nat.le_succ _⟩
  · simp
theorem mark_edges {n : Nd} {m t : Nat} : ∀ (es : List (Str × Nat)) (fd ln : List Pr), fd.length + es.length ≤ 1000 → ln.length + es.length ≤ 1000 →
    loopF (tupG 2 (consG (nmG 5) (consG (nmG 6) nilG))) L_marks_1 (es.map edgeD) (MR n fd ln (some (.val (.int (m : Nat)))) (some (.val (.int (t : Nat)))) none none none) = endM n m t (wkM t es (fd, ln))
  | [], fd, ln, _, _ => rfl
  | e :: es, fd, ln, h1, h2 => by
    rw [List.length_cons] at h1 h2
    rw [List.map_cons]
    unfold loopF wkM
    show (match L_marks_1 (MR n fd ln (some (.val (.int (m : Nat)))) (some (.val (.int (t : Nat)))) (some (.val (.str e.1))) (some (.val (.int (e.2 : Nat)))) none) with
      | .nx δ => loopF _ _ _ δ
      | .cnt δ => loopF _ _ _ δ
      | .brk δ => .nx δ
      | o => o) = _
    by_cases hm : isMk e.1 ∧ t = 1
    · obtain ⟨hm, rfl⟩ := hm
      rw [mark_ret hm, if_pos ⟨hm, rfl⟩]; rfl
    · rw [mark_turn hm (by omega) (by omega), if_neg hm]
      obtain ⟨a1, a2⟩ := ad_len (fd, ln) (e.2, tkM e.1 t)
      exact mark_edges es (adM (fd, ln) (e.2, tkM e.1 t)).1 (adM (fd, ln) (e.2, tkM e.1 t)).2 (by simp only at a1; omega) (by simp only at a2; omega)
structure CM (n : Nd) (s : List Pr × List Pr) (ex : Pr → Prop) : Prop where
  nd : s.1.Nodup
  gd : ∀ p ∈ s.1, p.1 < n.length ∧ p.2 ≤ 1 ∧ Mk n p.1 p.2
  sub : ∀ p ∈ s.2, p ∈ s.1
  zero : (0, 0) ∈ s.1
  cl : ∀ q ∈ s.1, q ∈ s.2 ∨ ex q ∨ ∀ e ∈ edM n q.1, ¬ (isMk e.1 ∧ q.2 = 1) ∧ (e.2, tkM e.1 q.2) ∈ s.1
def mu (s : List Pr × List Pr) : Nat := 2 * (12 - s.1.length) + s.2.length
section
variable {n : Nd} {f : List Nat} {s : List Pr × List Pr} {ex : Pr → Prop}
theorem CM.len (h : CM n s ex) (h6 : n.length ≤ 6) : s.1.length ≤ 12 := by
  have := nodup_le 12 (s.1.map fun p => 2 * p.1 + p.2) (List.pairwise_map.mpr (List.Pairwise.imp_of_mem (fun {a b} ha hb hne e => hne (by
    obtain ⟨a1, a2⟩ := a
    obtain ⟨b1, b2⟩ := b
    have := (h.gd _ ha).2.1
    have := (h.gd _ hb).2.1
    simp only at *
    have e1 : a1 = b1 := by omega
    have e2 : a2 = b2 := by omega
    rw [e1, e2])) h.nd)) fun x hx => by
    obtain ⟨p, hp, rfl⟩ := List.mem_map.mp hx
    have := h.gd p hp
    omega
  rw [List.length_map] at this
  exact this
theorem CM.ad {p : Pr} (h : CM n s ex) (hp : p.1 < n.length ∧ p.2 ≤ 1 ∧ Mk n p.1 p.2) (h6 : n.length ≤ 6) : CM n (adM s p) ex ∧ mu (adM s p) ≤ mu s ∧ (∀ x ∈ s.1, x ∈ (adM s p).1) ∧ p ∈ (adM s p).1 := by
  by_cases q : p ∈ s.1
  · have e : adM s p = s := by unfold adM; rw [if_pos q]
    rw [e]
    exact ⟨h, Nat.le_refl _, fun x hx => hx, q⟩
  · have e : adM s p = (s.1 ++ [p], s.2 ++ [p]) := by unfold adM; rw [if_neg q]
    have hc : CM n (adM s p) ex := by
      rw [e]
      refine ⟨List.nodup_append.mpr ⟨h.nd, by simp, fun a ha b hb => ?_⟩, fun x hx => ?_, fun x hx => ?_, List.mem_append_left _ h.zero, fun x hx => ?_⟩
      · have : b = p := by simpa using hb
        subst this
        exact fun z => q (z ▸ ha)
      · rcases List.mem_append.mp hx with hx | hx
        · exact h.gd x hx
        · have : x = p := by simpa using hx
          rw [this]; exact hp
      · rcases List.mem_append.mp hx with hx | hx
        · exact List.mem_append_left _ (h.sub x hx)
        · exact List.mem_append_right _ hx
      · rcases List.mem_append.mp hx with hx | hx
        · rcases h.cl x hx with g | g | g
          · exact .inl (List.mem_append_left _ g)
          · exact .inr (.inl g)
          · exact .inr (.inr fun e he => ⟨(g e he).1, List.mem_append_left _ (g e he).2⟩)
        · exact .inl (List.mem_append_right _ hx)
    have hl := hc.len h6
    rw [e] at hl
    refine ⟨hc, ?_, fun x hx => by rw [e]; exact List.mem_append_left _ hx, by rw [e]; exact List.mem_append_right _ (by simp)⟩
    rw [e]
    unfold mu
    simp only [List.length_append, List.length_cons, List.length_nil] at hl ⊢
    omega
theorem ed_lt (hn : RelOk n f) {m : Nat} (hm : m < n.length) {e : Str × Nat} (he : e ∈ edM n m) : e.2 < n.length := by
  rcases List.mem_append.mp he with h | h
  · exact hn.thr _ (hnode_mem hm) _ h
  · have : e = backE := by simpa using h
    subst this
    exact hn.pos
theorem tk_le {st : Str} {t : Nat} (h : t ≤ 1) : tkM st t ≤ 1 := by
  unfold tkM; split
  · omega
  · split <;> omega
theorem wk_ok (hn : RelOk n f) {m t : Nat} : ∀ (es : List (Str × Nat)) (s : List Pr × List Pr), CM n s ex → (m, t) ∈ s.1 → (∀ e ∈ es, e ∈ edM n m) →
    (wkM t es s = none → ∃ e ∈ edM n m, isMk e.1 ∧ t = 1) ∧ ∀ s', wkM t es s = some s' → CM n s' ex ∧ mu s' ≤ mu s ∧ (∀ x ∈ s.1, x ∈ s'.1) ∧ ∀ e ∈ es, ¬ (isMk e.1 ∧ t = 1) ∧ (e.2, tkM e.1 t) ∈ s'.1
  | [], s, h, _, _ => ⟨fun z => (nomatch z), fun s' z => by
    cases z
    exact ⟨h, Nat.le_refl _, fun x hx => hx, fun e he => (nomatch he)⟩⟩
  | e :: es, s, h, hm, he => by
    unfold wkM
    obtain ⟨g1, g2, g3⟩ := h.gd _ hm
    have he0 := he e List.mem_cons_self
    by_cases q : isMk e.1 ∧ t = 1
    · rw [if_pos q]
      exact ⟨fun _ => ⟨e, he0, q⟩, fun s' z => (nomatch z)⟩
    · rw [if_neg q]
      have hp : ((e.2, tkM e.1 t) : Pr).1 < n.length ∧ ((e.2, tkM e.1 t) : Pr).2 ≤ 1 ∧ Mk n ((e.2, tkM e.1 t) : Pr).1 ((e.2, tkM e.1 t) : Pr).2 := ⟨ed_lt hn g1 he0, tk_le g2, .step g3 he0 q⟩
      obtain ⟨k1, k2, k3, k4⟩ := h.ad hp hn.few
      obtain ⟨i1, i2⟩ := wk_ok hn es (adM s (e.2, tkM e.1 t)) k1 (k3 _ hm) fun x hx => he x (List.mem_cons_of_mem _ hx)
      refine ⟨i1, fun s' z => ?_⟩
      obtain ⟨j1, j2, j3, j4⟩ := i2 s' z
      refine ⟨j1, Nat.le_trans j2 k2, fun x hx => j3 x (k3 x hx), fun x hx => ?_⟩
      rcases List.mem_cons.mp hx with rfl | hx
      · exact ⟨q, j3 _ k4⟩
      · exact j4 x hx
theorem mark_while (hn : RelOk n f) : ∀ (fu : Nat) (s : List Pr × List Pr), CM n s (fun _ => False) → mu s < fu → mu s ≤ 100 →
    (Marks n ∧ whileF (tst (neSl 2)) L_marks_2 fu (MR n s.1 s.2 none none none none none) = .ret (.bl true) [none, none, none, none, none, none, none, none]) ∨ ∃ fd, ClM n fd ∧ whileF (tst (neSl 2)) L_marks_2 fu (MR n s.1 s.2 none none none none none) = .nx (MR n fd [] none none none none none)
  | 0, s, _, h, _ => absurd h (Nat.not_lt_zero _)
  | fu + 1, (fd, ln), hc, hf, hm100 => by
    have hle := hc.len hn.few
    rcases List.eq_nil_or_concat ln with rfl | ⟨ln', p, ec⟩
    · refine .inr ⟨fd, ⟨hc.zero, fun p hp => ?_⟩, while_end (by simp)⟩
      rcases hc.cl p hp with g | g | g
      · exact (nomatch g)
      · exact g.elim
      · exact g
    · rw [List.concat_eq_append] at ec
      subst ec
      obtain ⟨m, t⟩ := p
      have hmem : (m, t) ∈ fd := hc.sub _ (List.mem_append_right _ (by simp))
      obtain ⟨hm, ht, hmk⟩ := hc.gd _ hmem
      have hm : m < n.length := hm
      have hc' : CM n (fd, ln') (fun q => q = (m, t)) := ⟨hc.nd, hc.gd, fun x hx => hc.sub x (List.mem_append_left _ hx), hc.zero, fun q hq => by
        rcases hc.cl q hq with g | g | g
        · rcases List.mem_append.mp g with g | g
          · exact .inl g
          · exact .inr (.inl (by simpa using g))
        · exact g.elim
        · exact .inr (.inr g)⟩
      obtain ⟨k1, k2⟩ := wk_ok hn (m := m) (t := t) (edM n m) (fd, ln') hc' hmem fun e he => he
      have hw := hn.wid _ (hnode_mem hm)
      have hmu : mu (fd, ln') + 1 = mu (fd, ln' ++ [(m, t)]) := by
        show 2 * (12 - fd.length) + ln'.length + 1 = 2 * (12 - fd.length) + (ln' ++ [(m, t)]).length
        rw [List.length_append, List.length_singleton]; omega
      have hll : ln'.length ≤ 100 := by
        have : 2 * (12 - fd.length) + (ln' ++ [(m, t)]).length ≤ 100 := hm100
        rw [List.length_append] at this; omega
      have hle : fd.length ≤ 12 := hle
      have e1 := mark_edges (n := n) (m := m) (t := t) (edM n m) fd ln' (by rw [List.length_append, List.length_singleton]; omega) (by rw [List.length_append, List.length_singleton]; omega)
      have hx := hix_node hm
      have hcnd : tst (neSl 2) (MR n fd (ln' ++ [(m, t)]) none none none none none) = .ok true (MR n fd (ln' ++ [(m, t)]) none none none none none) := by simp
      have hlen : (n.getD m []).length + 1 ≤ 1000000 := by omega
      have e1 : loopF (tupG 2 (consG (nmG 5) (consG (nmG 6) nilG))) L_marks_1 ((n.getD m []).map edgeD ++ [.tup [.str "back", .int 0]]) (MR n fd ln' (some (.val (.int (m : Nat)))) (some (.val (.int (t : Nat)))) none none none) = endM n m t (wkM t (edM n m) (fd, ln')) := by
        rw [← e1, List.map_append]; rfl
      generalize wkM t (edM n m) (fd, ln') = z at *
      cases z with
      | none =>
        refine .inl ⟨?_, ?_⟩
        · obtain ⟨e, he, hk, rfl⟩ := k1 rfl
          exact ⟨m, 1, e, hmk, he, hk, rfl⟩
        · have et : L_marks_2 (MR n fd (ln' ++ [(m, t)]) none none none none none) = .ret (.bl true) [none, none, none, none, none, none, none, none] := by
            unfold L_marks_2
            generalize n.getD m [] = nd at *
            simp [hx, nodeD, e1, hlen, endM]
          exact while_ret hcnd et
      | some s' =>
        obtain ⟨j1, j2, j3, j4⟩ := k2 s' rfl
        have et : L_marks_2 (MR n fd (ln' ++ [(m, t)]) none none none none none) = .nx (MR n s'.1 s'.2 none none none none none) := by
          unfold L_marks_2
          generalize n.getD m [] = nd at *
          simp [hx, nodeD, e1, hlen, endM]
        have hc2 : CM n s' (fun _ => False) := ⟨j1.nd, j1.gd, j1.sub, j1.zero, fun q hq => by
          rcases j1.cl q hq with g | g | g
          · exact .inl g
          · exact .inr (.inr (by subst g; exact j4))
          · exact .inr (.inr g)⟩
        rw [while_go hcnd et]
        exact mark_while hn fu s' hc2 (by omega) (by omega)
theorem marks_ok (hn : RelOk n f) : (Marks n ∧ ph_marks [.val (nodesD n)] = .ret (.bl true) [.val (nodesD n)]) ∨ ∃ S, ClM n S ∧ ph_marks [.val (nodesD n)] = .ret (.bl false) [.val (nodesD n)] := by
  have hc0 : CM n ([(0, 0)], [(0, 0)]) (fun _ => False) := ⟨by simp, fun p hp => by
    have : p = (0, 0) := by simpa using hp
    subst this
    exact ⟨hn.pos, by simp, .nil⟩, fun p hp => hp, by simp, fun q hq => .inl hq⟩
  have ek : keyT (.tup [.int 0, .int 0]) = some [.inl 0, .inl 0] := rfl
  rcases mark_while hn 8192 ([(0, 0)], [(0, 0)]) hc0 (by decide) (by decide) with ⟨h1, h2⟩ | ⟨fd, h1, h2⟩
  · refine .inl ⟨h1, ?_⟩
    have h2 : whileF (tst (neSl 2)) L_marks_2 8192 [some (.val (nodesD n)), some (.own (.dcT [([.inl 0, .inl 0], .bl true)])), some (.own (.lst [.tup [.int 0, .int 0]])), none, none, none, none, none] = .ret (.bl true) [none, none, none, none, none, none, none, none] := h2
    unfold ph_marks F_marks
    generalize nodesD n = N at *
    simp [ev_fn, ek, h2]
  · refine .inr ⟨fd, h1, ?_⟩
    have h2 : whileF (tst (neSl 2)) L_marks_2 8192 [some (.val (nodesD n)), some (.own (.dcT [([.inl 0, .inl 0], .bl true)])), some (.own (.lst [.tup [.int 0, .int 0]])), none, none, none, none, none] = .nx (MR n fd [] none none none none none) := h2
    unfold ph_marks F_marks
    generalize nodesD n = N at *
    simp [ev_fn, ek, h2]
end
/-! ### the law -/
abbrev LW (ns : List Int) (m : MD) (x2 x3 x4 x5 x6 x7 x8 x9 x10 x11 x12 x13 : Option Sl) : DE := [some (.val (.scr ns)), some (.own m), x2, x3, x4, x5, x6, x7, x8, x9, x10, x11, x12, x13]
/-- "both" turned into another step -/
noncomputable def rpE (o : Str) (e : Str × Nat) : Str × Nat := (if e.1 = "both" then o else e.1, e.2)
noncomputable def rpN (o : Str) (n : Nd) : Nd := n.map fun nd => nd.map (rpE o)
theorem rp_ok {n : Nd} {f : List Nat} {o : Str} (ho : o ∈ rSteps) (hn : RelOk n f) : RelOk (rpN o n) f := by
  have hl : (rpN o n).length = n.length := List.length_map _
  have hm : ∀ nd ∈ rpN o n, ∃ nd0 ∈ n, nd = nd0.map (rpE o) := fun nd h => by
    obtain ⟨nd0, h1, rfl⟩ := List.mem_map.mp h
    exact ⟨nd0, h1, rfl⟩
  refine ⟨by rw [hl]; exact hn.pos, by rw [hl]; exact hn.few, fun nd h => ?_, fun nd h e he => ?_, fun nd h e he => ?_, by rw [hl]; exact hn.fin, hn.asc⟩
  · obtain ⟨nd0, h1, rfl⟩ := hm nd h
    rw [List.length_map]; exact hn.wid _ h1
  · obtain ⟨nd0, h1, rfl⟩ := hm nd h
    obtain ⟨e0, he0, rfl⟩ := List.mem_map.mp he
    unfold rpE
    split
    · exact ho
    · exact hn.stp _ h1 _ he0
  · obtain ⟨nd0, h1, rfl⟩ := hm nd h
    obtain ⟨e0, he0, rfl⟩ := List.mem_map.mp he
    rw [hl]
    exact hn.thr _ h1 e0 he0

abbrev LV (ns : List Int) (m : MD) (x2 x3 x4 x5 x6 x7 x8 x9 x10 : Option Sl) : DE := LW ns m x2 x3 x4 x5 x6 x7 x8 x9 x10 none none none
noncomputable abbrev elIn : DE → R D := tupE (valA (ifE (tst (op2 eqD (var 12) (cst (.str "both")))) (var 3) (var 12)) (valA (var 13) noA))
theorem inner_map {ns : List Int} {m : MD} {x2 x4 x5 x6 x7 x8 x9 x10 : Option Sl} {o : Str} {nd : List (Str × Nat)} (h : nd.length ≤ 1000) :
    lcN (seqE (var 11)) (tupG 2 (consG (nmG 12) (consG (nmG 13) nilG))) noCond elIn [12, 13] (LW ns m x2 (some (.val (.str o))) x4 x5 x6 x7 x8 x9 x10 (some (.val (nodeD nd))) none none) = .ok (.lst ((nd.map (rpE o)).map edgeD)) (LW ns m x2 (some (.val (.str o))) x4 x5 x6 x7 x8 x9 x10 (some (.val (nodeD nd))) none none) := by
  have e := lcE_map (f := seqE (var 11)) (t := tupG 2 (consG (nmG 12) (consG (nmG 13) nilG))) (elt := elIn) (vs := [12, 13]) (as := nd)
    (δ := LW ns m x2 (some (.val (.str o))) x4 x5 x6 x7 x8 x9 x10 (some (.val (nodeD nd))) none none)
    (δ0 := LW ns m x2 (some (.val (.str o))) x4 x5 x6 x7 x8 x9 x10 (some (.val (nodeD nd))) none none)
    (δw := LW ns m x2 (some (.val (.str o))) x4 x5 x6 x7 x8 x9 x10 (some (.val (nodeD nd))) none none) edgeD (fun e => edgeD (rpE o e)) (by simp [nodeD]) rfl (by rw [lim_eq]; omega)
    (fun a ha => by
      refine ⟨LW ns m x2 (some (.val (.str o))) x4 x5 x6 x7 x8 x9 x10 (some (.val (nodeD nd))) (some (.val (.str a.1))) (some (.val (.int (a.2 : Nat)))), LW ns m x2 (some (.val (.str o))) x4 x5 x6 x7 x8 x9 x10 (some (.val (nodeD nd))) (some (.val (.str a.1))) (some (.val (.int (a.2 : Nat)))), rfl, ?_, rfl⟩
      unfold rpE
      by_cases q : a.1 = "both"
      · simp [q, edgeD]
      · simp [q, edgeD])
  rw [e, List.map_map]
  rfl
noncomputable abbrev elOut : DE → R D := callB tupleD (valA (ofN (lcN (seqE (var 11)) (tupG 2 (consG (nmG 12) (consG (nmG 13) nilG))) noCond elIn [12, 13])) noA)
theorem outer_map {ns : List Int} {m : MD} {x2 x5 x6 x7 x8 x9 x10 : Option Sl} {o : Str} {n : Nd} (hl : n.length ≤ 1000) (h : ∀ nd ∈ n, nd.length ≤ 1000) :
    lcN (seqE (var 4)) (nmG 11) noCond elOut [11] (LV ns m x2 (some (.val (.str o))) (some (.val (nodesD n))) x5 x6 x7 x8 x9 x10) = .ok (.lst ((rpN o n).map nodeD)) (LV ns m x2 (some (.val (.str o))) (some (.val (nodesD n))) x5 x6 x7 x8 x9 x10) := by
  have e := lcE_map (f := seqE (var 4)) (t := nmG 11) (elt := elOut) (vs := [11]) (as := n)
    (δ := LV ns m x2 (some (.val (.str o))) (some (.val (nodesD n))) x5 x6 x7 x8 x9 x10)
    (δ0 := LV ns m x2 (some (.val (.str o))) (some (.val (nodesD n))) x5 x6 x7 x8 x9 x10)
    (δw := LV ns m x2 (some (.val (.str o))) (some (.val (nodesD n))) x5 x6 x7 x8 x9 x10) nodeD (fun nd => nodeD (nd.map (rpE o))) (by simp [nodesD]) rfl (by rw [lim_eq]; omega)
    (fun nd hnd => by
      refine ⟨LW ns m x2 (some (.val (.str o))) (some (.val (nodesD n))) x5 x6 x7 x8 x9 x10 (some (.val (nodeD nd))) none none, LW ns m x2 (some (.val (.str o))) (some (.val (nodesD n))) x5 x6 x7 x8 x9 x10 (some (.val (nodeD nd))) none none, rfl, ?_, rfl⟩
      have e := inner_map (ns := ns) (m := m) (x2 := x2) (x4 := some (.val (nodesD n))) (x5 := x5) (x6 := x6) (x7 := x7) (x8 := x8) (x9 := x9) (x10 := x10) (o := o) (h nd hnd)
      generalize (nd.map (rpE o)) = nd' at *
      show _ = R.ok (D.tup (nd'.map edgeD)) _
      simp [e])
  rw [e]
  unfold rpN
  rw [List.map_map]
  rfl
def hasB (n : Nd) : Bool := n.any fun nd => nd.any fun e => decide (e.1 = "both")
noncomputable abbrev bothQ (e : Str × Nat) : Option D := if e.1 = "both" then some (.int 1) else none
theorem bothQ_empty : ∀ nd : List (Str × Nat), (nd.filterMap bothQ).isEmpty = !(nd.any fun e => decide (e.1 = "both"))
  | [] => rfl
  | e :: nd => by
    have ih := bothQ_empty nd
    by_cases q : e.1 = "both"
    · have e1 : bothQ e = some (.int 1) := by unfold bothQ; rw [if_pos q]
      rw [List.filterMap_cons_some e1]
      simp [q]
    · have e1 : bothQ e = none := by unfold bothQ; rw [if_neg q]
      rw [List.filterMap_cons_none e1, ih]
      simp [q]
noncomputable abbrev ndQ (nd : List (Str × Nat)) : Option D := if (nd.any fun e => decide (e.1 = "both")) = true then some (.int 1) else none
theorem ndQ_empty : ∀ n : Nd, (n.filterMap ndQ).isEmpty = !hasB n
  | [] => rfl
  | nd :: n => by
    have ih := ndQ_empty n
    unfold hasB at *
    by_cases q : (nd.any fun e => decide (e.1 = "both")) = true
    · have e1 : ndQ nd = some (.int 1) := by unfold ndQ; rw [if_pos q]
      rw [List.filterMap_cons_some e1, List.any_cons, q]
      rfl
    · have e1 : ndQ nd = none := by unfold ndQ; rw [if_neg q]
      rw [List.filterMap_cons_none e1, ih, List.any_cons, Bool.eq_false_iff.mpr q]
      rfl
theorem inner_both {ns : List Int} {m : MD} {x2 x3 x4 x5 x6 x7 x8 x9 x10 : Option Sl} {nd : List (Str × Nat)} (h : nd.length ≤ 1000) :
    lcN (seqE (var 11)) (tupG 2 (consG (nmG 12) (consG (nmG 13) nilG))) (tst (op2 eqD (var 12) (cst (.str "both")))) (cst (.int 1)) [12, 13] (LW ns m x2 x3 x4 x5 x6 x7 x8 x9 x10 (some (.val (nodeD nd))) none none) = .ok (.lst (nd.filterMap bothQ)) (LW ns m x2 x3 x4 x5 x6 x7 x8 x9 x10 (some (.val (nodeD nd))) none none) := by
  exact lcE_fm (f := seqE (var 11)) (t := tupG 2 (consG (nmG 12) (consG (nmG 13) nilG))) (elt := cst (.int 1)) (vs := [12, 13]) (as := nd)
    (δ := LW ns m x2 x3 x4 x5 x6 x7 x8 x9 x10 (some (.val (nodeD nd))) none none)
    (δ0 := LW ns m x2 x3 x4 x5 x6 x7 x8 x9 x10 (some (.val (nodeD nd))) none none)
    (δw := LW ns m x2 x3 x4 x5 x6 x7 x8 x9 x10 (some (.val (nodeD nd))) none none) edgeD bothQ (by simp [nodeD]) rfl (by rw [lim_eq]; omega)
    (fun a ha => by
      refine ⟨LW ns m x2 x3 x4 x5 x6 x7 x8 x9 x10 (some (.val (nodeD nd))) (some (.val (.str a.1))) (some (.val (.int (a.2 : Nat)))), rfl, ?_⟩
      by_cases q : a.1 = "both"
      · exact .inr ⟨.int 1, _, _, by unfold bothQ; rw [if_pos q], by simp [q]; rfl, rfl, rfl⟩
      · exact .inl ⟨by unfold bothQ; rw [if_neg q], _, by simp [q]; rfl, rfl⟩)
noncomputable abbrev cdB : DE → R Bool := tst (op2 neZ (ofN (lcN (seqE (var 11)) (tupG 2 (consG (nmG 12) (consG (nmG 13) nilG))) (tst (op2 eqD (var 12) (cst (.str "both")))) (cst (.int 1)) [12, 13])) (ofN (lstN noA)))
theorem outer_both {ns : List Int} {m : MD} {x2 x3 x5 x6 x7 x8 x9 x10 : Option Sl} {n : Nd} (hl : n.length ≤ 1000) (h : ∀ nd ∈ n, nd.length ≤ 1000) :
    lcN (seqE (var 4)) (nmG 11) cdB (cst (.int 1)) [11] (LV ns m x2 x3 (some (.val (nodesD n))) x5 x6 x7 x8 x9 x10) = .ok (.lst (n.filterMap ndQ)) (LV ns m x2 x3 (some (.val (nodesD n))) x5 x6 x7 x8 x9 x10) := by
  exact lcE_fm (f := seqE (var 4)) (t := nmG 11) (elt := cst (.int 1)) (vs := [11]) (as := n)
    (δ := LV ns m x2 x3 (some (.val (nodesD n))) x5 x6 x7 x8 x9 x10)
    (δ0 := LV ns m x2 x3 (some (.val (nodesD n))) x5 x6 x7 x8 x9 x10)
    (δw := LV ns m x2 x3 (some (.val (nodesD n))) x5 x6 x7 x8 x9 x10) nodeD ndQ (by simp [nodesD]) rfl (by rw [lim_eq]; omega)
    (fun nd hnd => by
      refine ⟨LW ns m x2 x3 (some (.val (nodesD n))) x5 x6 x7 x8 x9 x10 (some (.val (nodeD nd))) none none, rfl, ?_⟩
      have e := inner_both (ns := ns) (m := m) (x2 := x2) (x3 := x3) (x4 := some (.val (nodesD n))) (x5 := x5) (x6 := x6) (x7 := x7) (x8 := x8) (x9 := x9) (x10 := x10) (h nd hnd)
      have eb := bothQ_empty nd
      generalize nd.filterMap bothQ = zs at *
      by_cases q : (nd.any fun e => decide (e.1 = "both")) = true
      · rw [q] at eb
        exact .inr ⟨.int 1, _, _, by unfold ndQ; rw [if_pos q], by simp [e, eb]; rfl, rfl, rfl⟩
      · rw [Bool.eq_false_iff.mpr q] at eb
        exact .inl ⟨by unfold ndQ; rw [if_neg q], _, by simp [e, eb]; rfl, rfl⟩)
theorem both_not {n : Nd} (h : hasB n = false) : ∀ nd ∈ n, ∀ e ∈ nd, e.1 ≠ "both" := fun nd hnd e he z => by
  have : hasB n = true := List.any_eq_true.mpr ⟨nd, hnd, List.any_eq_true.mpr ⟨e, he, decide_eq_true z⟩⟩
  rw [h] at this
  cases this

noncomputable abbrev E0 : DE → R D := ifE (tst (op2 igt (var 2) (cst (.int 0)))) (callF ph_relay (slotA 1 (valA (cst (.int 6)) noA))) (tupE (valA (tupE (valA (tupE (valA (tupE (valA (cst (.str "next")) (valA (cst (.int 1)) noA))) noA)) (valA (tupE (valA (tupE (valA (cst (.str "mark")) (valA (cst (.int 0)) noA))) noA)) noA))) (valA (tupE (valA (cst (.int 0)) noA)) noA)))
theorem first_ok {ns : List Int} {m : MD} {t : Nat} (hp : IsPen m) : ∃ n f m1, IsPen m1 ∧ RelOk n f ∧ E0 (LV ns m (some (.val (.int (t : Nat)))) none none none none none none none none) = .ok (.tup [nodesD n, finD f]) (LV ns m1 (some (.val (.int (t : Nat)))) none none none none none none none none) := by
  by_cases h : 0 < t
  · have h' : (0 : Int) < (t : Nat) := by omega
    obtain ⟨n, f, m1, p1, hn, e1⟩ := relay_ok (most := 6) hp (by omega) (by omega)
    have e1 : ph_relay [.bor m, .val (.int 6)] = .ret (.tup [nodesD n, finD f]) [.bor m1, .val (.int 6)] := e1
    exact ⟨n, f, m1, p1, hn, by simp [h, h', e1]⟩
  · have h' : ¬ (0 : Int) < (t : Nat) := by omega
    have hn : RelOk [[("next", 1)], [("mark", 0)]] [0] := ⟨by simp, by simp, by simp, by simp [rSteps], by simp, by simp, by simp⟩
    refine ⟨[[("next", 1)], [("mark", 0)]], [0], m, hp, hn, ?_⟩
    have h0 : t = 0 := by omega
    subst h0
    simp [nodesD, finD, nodeD, edgeD]
theorem non_isN : D.non.isN = true := id rfl
theorem opt_isN (z : Option (List Int)) : (optH z).isN = !z.isSome := by cases z <;> rfl
theorem turn_ok {ns : List Int} {m : MD} {t : Nat} (hp : IsPen m) : ∃ m', IsPen m' ∧ L_law_1 (LV ns m (some (.val (.int (t : Nat)))) none none none none none none none none) = .nx (LV ns m' none none none none none none none none none) := by
  obtain ⟨n0, f, m1, p1, hn0, e0⟩ := first_ok (ns := ns) (t := t) hp
  obtain ⟨od, m2, p2, ho, e1⟩ := pick_in (l := [.str "pass", .str "mark", .str "next", .str "both"]) p1 (by simp) (by simp)
  obtain ⟨rd, m3, p3, hr, e3⟩ := pick_in (l := [.int 1, .int 2, .int 3]) p2 (by simp) (by simp)
  obtain ⟨o, rfl, hoS⟩ : ∃ o : Str, od = .str o ∧ o ∈ rSteps := by
    simp only [List.mem_cons, List.not_mem_nil, or_false] at ho
    rcases ho with rfl | rfl | rfl | rfl <;> exact ⟨_, rfl, by simp [rSteps]⟩
  obtain ⟨R, rfl, hR1, hR3⟩ : ∃ R : Nat, rd = .int (R : Nat) ∧ 1 ≤ R ∧ R ≤ 3 := by
    simp only [List.mem_cons, List.not_mem_nil, or_false] at hr
    rcases hr with rfl | rfl | rfl
    · exact ⟨1, rfl, by omega, by omega⟩
    · exact ⟨2, rfl, by omega, by omega⟩
    · exact ⟨3, rfl, by omega, by omega⟩
  have hn := rp_ok hoS hn0
  have w0 : ∀ nd ∈ n0, nd.length ≤ 1000 := fun nd h => by have := hn0.wid nd h; omega
  have w1 : ∀ nd ∈ rpN o n0, nd.length ≤ 1000 := fun nd h => by have := hn.wid nd h; omega
  have l0 : n0.length ≤ 1000 := by have := hn0.few; omega
  have l1 : (rpN o n0).length ≤ 1000 := by have := hn.few; omega
  have e2 := outer_map (ns := ns) (m := m2) (x2 := some (.val (.int (t : Nat)))) (x5 := none) (x6 := some (.val (finD f))) (x7 := none) (x8 := none) (x9 := none) (x10 := none) (o := o) l0 w0
  generalize rpN o n0 = n at *
  have e4 := relay_init_ok hn
  have q1 := hquestion_ok (way := "lost") (R := R) (n := n) (f := f) (by simp) hR1 hR3
  have q2 := hquestion_ok (way := "twice") (R := R) (n := n) (f := f) (by simp) hR1 hR3
  have r1 := hrun_ok (way := "lost") hn hR3
  have r2 := hrun_ok (way := "twice") hn hR3
  have e5 := outer_both (ns := ns) (m := m3) (x2 := some (.val (.int (t : Nat)))) (x3 := some (.val (.str o))) (x5 := none) (x6 := some (.val (finD f))) (x7 := some (.val (relayO n f))) (x8 := some (.val (.int (R : Nat)))) (x9 := some (.val (optH (leastH "lost" R n f)))) (x10 := some (.val (optH (leastH "twice" R n f)))) l1 w1
  have o1 := opt_isN (leastH "lost" R n f)
  have o2 := opt_isN (leastH "twice" R n f)
  have eb := ndQ_empty n
  refine ⟨m3, p3, ?_⟩
  have hcases : (∃ bv, ph_marks [.val (nodesD n)] = .ret (.bl bv) [.val (nodesD n)] ∧ (bv = true → hasB n = false → (leastH "lost" R n f).isSome = true ∨ (leastH "twice" R n f).isSome = true) ∧ (bv = false → (leastH "lost" R n f).isSome = false)) := by
    rcases marks_ok hn with ⟨h1, h2⟩ | ⟨S, h1, h2⟩
    · exact ⟨true, h2, fun _ hB => marks_bad h1 hn hR1 hR3 (both_not hB), fun z => (nomatch z)⟩
    · exact ⟨false, h2, fun z => (nomatch z), fun _ => by rw [none_lost h1 hn hR3]; rfl⟩
  obtain ⟨bv, e6, c1, c2⟩ := hcases
  generalize optH (leastH "lost" R n f) = z1 at *
  generalize optH (leastH "twice" R n f) = z2 at *
  generalize (leastH "lost" R n f).isSome = b1 at *
  generalize (leastH "twice" R n f).isSome = b2 at *
  generalize hasB n = hb at *
  generalize n.filterMap ndQ = zs at *
  have e2' : D.tup (n.map nodeD) = nodesD n := rfl
  unfold L_law_1
  simp only [relayO, hO] at e4 q1 q2 r1 r2 e5 ⊢
  generalize hN : nodesD n = N at *
  generalize finD f = F at *
  unfold E0 at e0
  generalize ifE (tst (op2 igt (var 2) (cst (.int 0)))) (callF ph_relay (slotA 1 (valA (cst (.int 6)) noA))) (tupE (valA (tupE (valA (tupE (valA (tupE (valA (cst (.str "next")) (valA (cst (.int 1)) noA))) noA)) (valA (tupE (valA (tupE (valA (cst (.str "mark")) (valA (cst (.int 0)) noA))) noA)) noA))) (valA (tupE (valA (cst (.int 0)) noA)) noA))) = E at *
  cases bv with
  | true =>
    have c1 := c1 rfl
    cases hb with
    | true => simp [e0, e1, e2, e2', e3, e4, meK, lkT, lkF, q1, q2, r1, r2, e5, e6, eb]
    | false =>
      have c1 := c1 rfl
      cases b1 with
      | true => simp [e0, e1, e2, e2', e3, e4, meK, lkT, lkF, q1, q2, r1, r2, e5, e6, eb, o1]
      | false =>
        cases b2 with
        | true => simp [e0, e1, e2, e2', e3, e4, meK, lkT, lkF, q1, q2, r1, r2, e5, e6, eb, o1, o2]
        | false => simp at c1
  | false =>
    have c2 := c2 rfl
    subst c2
    cases hb <;> simp [e0, e1, e2, e2', e3, e4, meK, lkT, lkF, q1, q2, r1, r2, e5, e6, eb, o1]

abbrev E1 (ns : List Int) (x : Option Sl) : DE := [some (.val (.scr ns)), x, none, none, none, none, none, none, none, none, none, none, none, none]
theorem pen_turn {ns : List Int} {m : MD} (hp : IsPen m) : L_law_2 (E1 ns (some (.own m))) = .nx (E1 ns none) := by
  obtain ⟨δ', e3, m3, p3, rfl⟩ := loop_ok (t := nmG 2) (g := L_law_1) (ds := (List.range 3).map fun i : Nat => D.int (i : Nat)) (fun k δ => ∃ m, IsPen m ∧ δ = E1 ns (some (.own m)))
    (fun k d δ hk hI => by
      obtain ⟨m, p, rfl⟩ := hI
      rw [List.getElem?_map] at hk
      obtain ⟨j, hj, rfl⟩ := Option.map_eq_some_iff.mp hk
      obtain ⟨m', q1, q2⟩ := turn_ok (ns := ns) (m := m) (t := j) p
      exact ⟨_, _, rfl, q2, m', q1, rfl⟩) (E1 ns (some (.own m))) ⟨m, hp, rfl⟩
  have eg := rgK_nat (n := 3) (δ := E1 ns (some (.own m))) (by omega)
  have eg : rgK [.val (.int 3)] (E1 ns (some (.own m))) = _ := eg
  unfold L_law_2
  generalize (List.range 3).map (fun i : Nat => D.int (i : Nat)) = L at e3 eg
  simp [eg, e3]
theorem law_true : ∀ ns : List Int, ns.length ≤ 63 → ∃ as', ph_law [.val (.scr ns)] = .ret (.bl true) as' := by
  intro ns hl
  obtain ⟨δ', e1, rfl⟩ := penLoop_ok (i := 1) (g := L_law_2) (ps := pensOf ns 3) (fun δ => δ = E1 ns none)
    (fun p δ hp hI => by
      subst hI
      exact ⟨E1 ns (some (.own (.lst (penD p)))), E1 ns none, rfl, pen_turn (pens_are hp), rfl⟩) (E1 ns none) rfl
  have ef : forPens 0 3 1 L_law_2 (E1 ns none) = .nx (E1 ns none) := by
    unfold forPens
    show (if ns.length ≤ 1000 ∧ 3 ≤ 1000 then penLoop 1 L_law_2 (pensOf ns 3) (E1 ns none) else .stuck) = _
    rw [if_pos ⟨by omega, by omega⟩]
    exact e1
  refine ⟨[.val (.scr ns)], ?_⟩
  unfold ph_law F_law
  simp [ev_fn, ef]
end K94

namespace K94
open PySem PySem.Spec PyProof.Rows L2 PV
abbrev topS (i : Nat) : Stmt := PySem.Challenge.pw_closenews_k94_whole_no_both.main.body.getD i (.Pass ⟨0, 0, 0, 0⟩)
abbrev s_p_is_between : Stmt := topS 8
theorem sc_p_is_between : FnScope ["thing", "low", "high"] ["thing", "low", "high"] (defScope s_p_is_between) := ⟨rfl, rfl, rfl, by decide +kernel, rfl, by decide +kernel, by decide +kernel⟩
abbrev s_p_are_nodes : Stmt := topS 13
theorem sc_p_are_nodes : FnScope ["thing", "is_step", "node", "edge"] ["thing", "is_step"] (defScope s_p_are_nodes) := ⟨rfl, rfl, rfl, by decide +kernel, rfl, by decide +kernel, by decide +kernel⟩
abbrev s_p_are_finals : Stmt := topS 14
theorem sc_p_are_finals : FnScope ["thing", "many", "one", "other"] ["thing", "many"] (defScope s_p_are_finals) := ⟨rfl, rfl, rfl, by decide +kernel, rfl, by decide +kernel, by decide +kernel⟩
abbrev s_p_Graph_init : Stmt := inClass (topS 15) 0
theorem sc_p_Graph_init : FnScope ["self", "nodes", "finals"] ["self", "nodes", "finals"] (defScope s_p_Graph_init) := ⟨rfl, rfl, rfl, by decide +kernel, rfl, by decide +kernel, by decide +kernel⟩
abbrev s_p_Question_init : Stmt := inClass (topS 16) 0
theorem sc_p_Question_init : FnScope ["self", "graph"] ["self", "graph"] (defScope s_p_Question_init) := ⟨rfl, rfl, rfl, by decide +kernel, rfl, by decide +kernel, by decide +kernel⟩
abbrev s_p_Question_reached : Stmt := inClass (topS 16) 5
theorem sc_p_Question_reached : FnScope ["self", "found", "line", "at", "label", "later"] ["self"] (defScope s_p_Question_reached) := ⟨rfl, rfl, rfl, by decide +kernel, rfl, by decide +kernel, by decide +kernel⟩
abbrev s_p_Question_run : Stmt := inClass (topS 16) 6
theorem sc_p_Question_run : FnScope ["self", "state", "run"] ["self"] (defScope s_p_Question_run) := ⟨rfl, rfl, rfl, by decide +kernel, rfl, by decide +kernel, by decide +kernel⟩
abbrev s_p_is_relay_step : Stmt := topS 24
theorem sc_p_is_relay_step : FnScope ["thing"] ["thing"] (defScope s_p_is_relay_step) := ⟨rfl, rfl, rfl, by decide +kernel, rfl, by decide +kernel, by decide +kernel⟩
abbrev s_p_need_way_and_room : Stmt := topS 25
theorem sc_p_need_way_and_room : FnScope ["way", "room"] ["way", "room"] (defScope s_p_need_way_and_room) := ⟨rfl, rfl, rfl, by decide +kernel, rfl, by decide +kernel, by decide +kernel⟩
abbrev s_p_Relay_init : Stmt := inClass (topS 26) 0
theorem sc_p_Relay_init : FnScopeS ["self", "nodes", "finals"] ["self", "nodes", "finals"] (defScope s_p_Relay_init) := ⟨rfl, rfl, rfl, by decide +kernel, rfl, by decide +kernel, by decide +kernel, by decide +kernel, rfl, rfl⟩
abbrev s_p_Relay_question : Stmt := inClass (topS 26) 2
theorem sc_p_Relay_question : FnScope ["self", "way", "room"] ["self", "way", "room"] (defScope s_p_Relay_question) := ⟨rfl, rfl, rfl, by decide +kernel, rfl, by decide +kernel, by decide +kernel⟩
abbrev s_p_Handing_init : Stmt := inClass (topS 27) 0
theorem sc_p_Handing_init : FnScopeS ["self", "graph", "way", "room"] ["self", "graph", "way", "room"] (defScope s_p_Handing_init) := ⟨rfl, rfl, rfl, by decide +kernel, rfl, by decide +kernel, by decide +kernel, by decide +kernel, rfl, rfl⟩
abbrev s_p_Handing_first : Stmt := inClass (topS 27) 1
theorem sc_p_Handing_first : FnScope ["self"] ["self"] (defScope s_p_Handing_first) := ⟨rfl, rfl, rfl, by decide +kernel, rfl, by decide +kernel, by decide +kernel⟩
abbrev s_p_Handing_moves : Stmt := inClass (topS 27) 2
theorem sc_p_Handing_moves : FnScope ["self", "state", "found", "node", "kept", "place", "held", "passed", "fault", "label", "rest", "step", "there"] ["self", "state"] (defScope s_p_Handing_moves) := ⟨rfl, rfl, rfl, by decide +kernel, rfl, by decide +kernel, by decide +kernel⟩
abbrev s_p_Handing_behind : Stmt := inClass (topS 27) 3
theorem sc_p_Handing_behind : FnScope ["self", "step", "rest", "kept", "place", "held", "passed", "fault"] ["self", "step", "rest"] (defScope s_p_Handing_behind) := ⟨rfl, rfl, rfl, by decide +kernel, rfl, by decide +kernel, by decide +kernel⟩
abbrev s_p_Handing_amiss : Stmt := inClass (topS 27) 4
theorem sc_p_Handing_amiss : FnScope ["self", "passed", "place", "had"] ["self", "passed", "place"] (defScope s_p_Handing_amiss) := ⟨rfl, rfl, rfl, by decide +kernel, rfl, by decide +kernel, by decide +kernel⟩
abbrev s_p_Handing_missing : Stmt := inClass (topS 27) 5
theorem sc_p_Handing_missing : FnScope ["self", "passed", "place", "below"] ["self", "passed", "place"] (defScope s_p_Handing_missing) := ⟨rfl, rfl, rfl, by decide +kernel, rfl, by decide +kernel, by decide +kernel⟩
abbrev s_p_Handing_is_bad : Stmt := inClass (topS 27) 6
theorem sc_p_Handing_is_bad : FnScope ["self", "state", "node", "kept", "place", "held", "passed", "fault", "is_done"] ["self", "state"] (defScope s_p_Handing_is_bad) := ⟨rfl, rfl, rfl, by decide +kernel, rfl, by decide +kernel, by decide +kernel⟩
abbrev s_rest : Stmt := topS 29
theorem sc_rest : FnScope ["_law_number", "_law_by"] ["_law_number", "_law_by"] (defScope s_rest) := ⟨rfl, rfl, rfl, by decide +kernel, rfl, by decide +kernel, by decide +kernel⟩
abbrev s_pen : Stmt := topS 30
theorem sc_pen : FnScope ["_law_cell"] ["_law_cell"] (defScope s_pen) := ⟨rfl, rfl, rfl, by decide +kernel, rfl, by decide +kernel, by decide +kernel⟩
abbrev s_cell_at : Stmt := topS 31
theorem sc_cell_at : FnScope ["_law_script", "_law_k"] ["_law_script", "_law_k"] (defScope s_cell_at) := ⟨rfl, rfl, rfl, by decide +kernel, rfl, by decide +kernel, by decide +kernel⟩
abbrev s_pens : Stmt := topS 32
theorem sc_pens : FnScope ["_law_script", "_law_many", "_law_k"] ["_law_script", "_law_many"] (defScope s_pens) := ⟨rfl, rfl, rfl, by decide +kernel, rfl, by decide +kernel, by decide +kernel⟩
abbrev s_draw : Stmt := topS 33
theorem sc_draw : FnScope ["_law_pen_here", "_law_many", "_law_mixed", "_law_found"] ["_law_pen_here", "_law_many"] (defScope s_draw) := ⟨rfl, rfl, rfl, by decide +kernel, rfl, by decide +kernel, by decide +kernel⟩
abbrev s_pick : Stmt := topS 34
theorem sc_pick : FnScope ["_law_pen_here", "_law_some"] ["_law_pen_here", "_law_some"] (defScope s_pick) := ⟨rfl, rfl, rfl, by decide +kernel, rfl, by decide +kernel, by decide +kernel⟩
abbrev s_relay_step : Stmt := topS 35
theorem sc_relay_step : FnScope ["_law_pen_here"] ["_law_pen_here"] (defScope s_relay_step) := ⟨rfl, rfl, rfl, by decide +kernel, rfl, by decide +kernel, by decide +kernel⟩
abbrev s_relay_nodes : Stmt := topS 36
theorem sc_relay_nodes : FnScope ["_law_pen_here", "_law_most", "_law_at", "_law_many", "_law_nodes", "_law_way", "_law_wide", "_law_edges", "_law_lap"] ["_law_pen_here", "_law_most"] (defScope s_relay_nodes) := ⟨rfl, rfl, rfl, by decide +kernel, rfl, by decide +kernel, by decide +kernel⟩
abbrev s_finals : Stmt := topS 37
theorem sc_finals : FnScope ["_law_pen_here", "_law_many", "_law_at"] ["_law_pen_here", "_law_many"] (defScope s_finals) := ⟨rfl, rfl, rfl, by decide +kernel, rfl, by decide +kernel, by decide +kernel⟩
abbrev s_known : Stmt := topS 38
theorem sc_known : FnScope ["_law_pen_here", "_law_rows", "_law_row", "_law_finals_here", "_law_at", "_law_step"] ["_law_pen_here"] (defScope s_known) := ⟨rfl, rfl, rfl, by decide +kernel, rfl, by decide +kernel, by decide +kernel⟩
abbrev s_relay : Stmt := topS 39
theorem sc_relay : FnScope ["_law_pen_here", "_law_most", "_law_nodes"] ["_law_pen_here", "_law_most"] (defScope s_relay) := ⟨rfl, rfl, rfl, by decide +kernel, rfl, by decide +kernel, by decide +kernel⟩
abbrev s_marks : Stmt := topS 40
theorem sc_marks : FnScope ["_law_nodes", "_law_found", "_law_line", "_law_node", "_law_taken", "_law_step", "_law_there", "_law_later"] ["_law_nodes"] (defScope s_marks) := ⟨rfl, rfl, rfl, by decide +kernel, rfl, by decide +kernel, by decide +kernel⟩
abbrev s_law : Stmt := topS 41
theorem sc_law : FnScope ["_law_script", "_law_pen_here", "_law_turn", "_law_other", "_law_nodes", "_law_has_both", "_law_finals_here", "_law_relay_here", "_law_room", "_law_lost", "_law_twice", "_law_node", "_law_step", "_law_there"] ["_law_script"] (defScope s_law) := ⟨rfl, rfl, rfl, by decide +kernel, rfl, by decide +kernel, by decide +kernel⟩
abbrev file : Str := PySem.Challenge.pw_closenews_k94_whole_no_both.main.file
abbrev HPf (P : Program) : Prop := ((P.main.file : Str) == file) = true ∧ (P.main.scope.names.lookup ("super" : Str)).isSome = false
structure Txt (K : PySem.W.Frag) (mg : Str → Option Value) where
  K_Relay : Addr
  K_Handing : Addr
  C_InvalidGraph : Addr
  C_InvalidRoom : Addr
  C_InvalidWay : Addr
  a_MARKING : Addr
  a_PASSING : Addr
  a_STEPS : Addr
  a_WAYS : Addr
  f_p_is_between : Addr
  d_p_is_between : FuncData
  f_p_are_nodes : Addr
  d_p_are_nodes : FuncData
  f_p_are_finals : Addr
  d_p_are_finals : FuncData
  f_p_Graph_init : Addr
  d_p_Graph_init : FuncData
  f_p_Question_init : Addr
  d_p_Question_init : FuncData
  f_p_Question_reached : Addr
  d_p_Question_reached : FuncData
  f_p_Question_run : Addr
  d_p_Question_run : FuncData
  f_p_is_relay_step : Addr
  d_p_is_relay_step : FuncData
  f_p_need_way_and_room : Addr
  d_p_need_way_and_room : FuncData
  f_p_Relay_init : Addr
  d_p_Relay_init : FuncData
  cc_p_Relay_init : Addr
  Dc_p_Relay_init : Addr
  cda_p_Relay_init : Addr
  f_p_Relay_question : Addr
  d_p_Relay_question : FuncData
  f_p_Handing_init : Addr
  d_p_Handing_init : FuncData
  cc_p_Handing_init : Addr
  Dc_p_Handing_init : Addr
  cda_p_Handing_init : Addr
  f_p_Handing_first : Addr
  d_p_Handing_first : FuncData
  f_p_Handing_moves : Addr
  d_p_Handing_moves : FuncData
  f_p_Handing_behind : Addr
  d_p_Handing_behind : FuncData
  f_p_Handing_amiss : Addr
  d_p_Handing_amiss : FuncData
  f_p_Handing_missing : Addr
  d_p_Handing_missing : FuncData
  f_p_Handing_is_bad : Addr
  d_p_Handing_is_bad : FuncData
  f_rest : Addr
  d_rest : FuncData
  f_pen : Addr
  d_pen : FuncData
  f_cell_at : Addr
  d_cell_at : FuncData
  f_pens : Addr
  d_pens : FuncData
  f_draw : Addr
  d_draw : FuncData
  f_pick : Addr
  d_pick : FuncData
  f_relay_step : Addr
  d_relay_step : FuncData
  f_relay_nodes : Addr
  d_relay_nodes : FuncData
  f_finals : Addr
  d_finals : FuncData
  f_known : Addr
  d_known : FuncData
  f_relay : Addr
  d_relay : FuncData
  f_marks : Addr
  d_marks : FuncData
  f_law : Addr
  d_law : FuncData
  gK_Relay : mg "Relay" = some (.ref K_Relay)
  k_Relay : ClsT K "Relay" K_Relay
  kns_Relay : PySem.W.nsIn K mainGlobals "Relay" = some (some (.ref K_Relay))
  mk_Relay : Mk K K_Relay f_p_Relay_init
  gK_Handing : mg "Handing" = some (.ref K_Handing)
  k_Handing : ClsT K "Handing" K_Handing
  kns_Handing : PySem.W.nsIn K mainGlobals "Handing" = some (some (.ref K_Handing))
  mk_Handing : Mk K K_Handing f_p_Handing_init
  na_Handing_graph : NoAttr K K_Handing "graph"
  na_Handing_limit : NoAttr K K_Handing "limit"
  na_Handing_way : NoAttr K K_Handing "way"
  na_Relay_finals : NoAttr K K_Relay "finals"
  na_Relay_nodes : NoAttr K K_Relay "nodes"
  m_Handing_amiss : Meth K K_Handing "amiss" f_p_Handing_amiss
  m_Handing_behind : Meth K K_Handing "behind" f_p_Handing_behind
  m_Handing_first : Meth K K_Handing "first" f_p_Handing_first
  m_Handing_is_bad : Meth K K_Handing "is_bad" f_p_Handing_is_bad
  m_Handing_missing : Meth K K_Handing "missing" f_p_Handing_missing
  m_Handing_moves : Meth K K_Handing "moves" f_p_Handing_moves
  m_Handing_reached : Meth K K_Handing "reached" f_p_Question_reached
  m_Handing_run : Meth K K_Handing "run" f_p_Question_run
  m_Relay_question : Meth K K_Relay "question" f_p_Relay_question
  gC_InvalidGraph : mg "InvalidGraph" = some (.ref C_InvalidGraph)
  nC_InvalidGraph : PySem.W.nsIn K mainGlobals "InvalidGraph" = some (some (.ref C_InvalidGraph))
  xC_InvalidGraph : PySem.W.excIn K C_InvalidGraph [.type "ValueError", .type "Exception", .type "BaseException", .type "object"] "ValueError.__new__" = true
  kC_InvalidGraph : PySem.W.keepIn K (.ref C_InvalidGraph) = true
  bC_InvalidGraph : PySem.W.subIn K (.ref C_InvalidGraph) (.type "BaseException") = some true
  tC_InvalidGraph : PySem.W.typeIn K (.ref C_InvalidGraph) = some (.type "type")
  gC_InvalidRoom : mg "InvalidRoom" = some (.ref C_InvalidRoom)
  nC_InvalidRoom : PySem.W.nsIn K mainGlobals "InvalidRoom" = some (some (.ref C_InvalidRoom))
  xC_InvalidRoom : PySem.W.excIn K C_InvalidRoom [.type "ValueError", .type "Exception", .type "BaseException", .type "object"] "ValueError.__new__" = true
  kC_InvalidRoom : PySem.W.keepIn K (.ref C_InvalidRoom) = true
  bC_InvalidRoom : PySem.W.subIn K (.ref C_InvalidRoom) (.type "BaseException") = some true
  tC_InvalidRoom : PySem.W.typeIn K (.ref C_InvalidRoom) = some (.type "type")
  gC_InvalidWay : mg "InvalidWay" = some (.ref C_InvalidWay)
  nC_InvalidWay : PySem.W.nsIn K mainGlobals "InvalidWay" = some (some (.ref C_InvalidWay))
  xC_InvalidWay : PySem.W.excIn K C_InvalidWay [.type "ValueError", .type "Exception", .type "BaseException", .type "object"] "ValueError.__new__" = true
  kC_InvalidWay : PySem.W.keepIn K (.ref C_InvalidWay) = true
  bC_InvalidWay : PySem.W.subIn K (.ref C_InvalidWay) (.type "BaseException") = some true
  tC_InvalidWay : PySem.W.typeIn K (.ref C_InvalidWay) = some (.type "type")
  n_all : mg "all" = none
  n_bool : mg "bool" = none
  n_enumerate : mg "enumerate" = none
  n_int : mg "int" = none
  n_isinstance : mg "isinstance" = none
  n_len : mg "len" = none
  n_list : mg "list" = none
  n_max : mg "max" = none
  n_min : mg "min" = none
  n_range : mg "range" = none
  n_str : mg "str" = none
  s_super : mg "super" = none
  s_any : PySem.W.nsIn K cStatics "thirdparty.any" = some none
  n_tuple : mg "tuple" = none
  n_zip : mg "zip" = none
  t_kCRASH : Tok
  c_CRASH : mg "CRASH" = some (.int (-2) t_kCRASH)
  c_MARKING : mg "MARKING" = some (.ref a_MARKING)
  v_MARKING : ∀ F, Den K F (.ctp [(.str "mark"), (.str "both")]) (.ref a_MARKING)
  t_kMOST_EDGES : Tok
  c_MOST_EDGES : mg "MOST_EDGES" = some (.int 3 t_kMOST_EDGES)
  t_kMOST_NODES : Tok
  c_MOST_NODES : mg "MOST_NODES" = some (.int 6 t_kMOST_NODES)
  t_kMOST_ROOM : Tok
  c_MOST_ROOM : mg "MOST_ROOM" = some (.int 3 t_kMOST_ROOM)
  t_kOTHER : Tok
  c_OTHER : mg "OTHER" = some (.int (-1) t_kOTHER)
  c_PASSING : mg "PASSING" = some (.ref a_PASSING)
  v_PASSING : ∀ F, Den K F (.ctp [(.str "pass"), (.str "both")]) (.ref a_PASSING)
  c_STEPS : mg "STEPS" = some (.ref a_STEPS)
  v_STEPS : ∀ F, Den K F (.ctp [(.str "next"), (.str "pass"), (.str "mark"), (.str "both"), (.str "back")]) (.ref a_STEPS)
  c_WAYS : mg "WAYS" = some (.ref a_WAYS)
  v_WAYS : ∀ F, Den K F (.ctp [(.str "lost"), (.str "twice"), (.str "order"), (.str "left")]) (.ref a_WAYS)
  g_p_is_between : mg "is_between" = some (.ref f_p_is_between)
  t_p_is_between : Fun K "is_between" "is_between" s_p_is_between f_p_is_between d_p_is_between
  b_p_is_between : Binds K d_p_is_between ["thing", "low", "high"] []
  g_p_are_nodes : mg "are_nodes" = some (.ref f_p_are_nodes)
  t_p_are_nodes : Fun K "are_nodes" "are_nodes" s_p_are_nodes f_p_are_nodes d_p_are_nodes
  b_p_are_nodes : Binds K d_p_are_nodes ["thing", "is_step"] []
  g_p_are_finals : mg "are_finals" = some (.ref f_p_are_finals)
  t_p_are_finals : Fun K "are_finals" "are_finals" s_p_are_finals f_p_are_finals d_p_are_finals
  b_p_are_finals : Binds K d_p_are_finals ["thing", "many"] []
  t_p_Graph_init : Fun K "__init__" "Graph.__init__" s_p_Graph_init f_p_Graph_init d_p_Graph_init
  b_p_Graph_init : Binds K d_p_Graph_init ["self", "nodes", "finals"] []
  t_p_Question_init : Fun K "__init__" "Question.__init__" s_p_Question_init f_p_Question_init d_p_Question_init
  b_p_Question_init : Binds K d_p_Question_init ["self", "graph"] []
  t_p_Question_reached : Fun K "reached" "Question.reached" s_p_Question_reached f_p_Question_reached d_p_Question_reached
  b_p_Question_reached : Binds K d_p_Question_reached ["self"] []
  t_p_Question_run : Fun K "run" "Question.run" s_p_Question_run f_p_Question_run d_p_Question_run
  b_p_Question_run : Binds K d_p_Question_run ["self"] []
  g_p_is_relay_step : mg "is_relay_step" = some (.ref f_p_is_relay_step)
  ns_p_is_relay_step : PySem.W.nsIn K mainGlobals "is_relay_step" = some (some (.ref f_p_is_relay_step))
  t_p_is_relay_step : Fun K "is_relay_step" "is_relay_step" s_p_is_relay_step f_p_is_relay_step d_p_is_relay_step
  b_p_is_relay_step : Binds K d_p_is_relay_step ["thing"] []
  g_p_need_way_and_room : mg "need_way_and_room" = some (.ref f_p_need_way_and_room)
  t_p_need_way_and_room : Fun K "need_way_and_room" "need_way_and_room" s_p_need_way_and_room f_p_need_way_and_room d_p_need_way_and_room
  b_p_need_way_and_room : Binds K d_p_need_way_and_room ["way", "room"] []
  t_p_Relay_init : FunS K "__init__" "Relay.__init__" s_p_Relay_init f_p_Relay_init d_p_Relay_init cc_p_Relay_init Dc_p_Relay_init cda_p_Relay_init file
  sd_p_Relay_init : ∃ cd, PySem.W.clsIn K Dc_p_Relay_init = some cd
  sy_p_Relay_init : PySem.W.typeIn K (.ref f_p_Graph_init) = some (.type "function")
  sn_p_Relay_init : PySem.W.fnIn K f_p_Graph_init = true
  su_p_Relay_init_Relay : SupC K "Relay" Dc_p_Relay_init f_p_Graph_init
  b_p_Relay_init : Binds K d_p_Relay_init ["self", "nodes", "finals"] []
  t_p_Relay_question : Fun K "question" "Relay.question" s_p_Relay_question f_p_Relay_question d_p_Relay_question
  b_p_Relay_question : Binds K d_p_Relay_question ["self", "way", "room"] []
  t_p_Handing_init : FunS K "__init__" "Handing.__init__" s_p_Handing_init f_p_Handing_init d_p_Handing_init cc_p_Handing_init Dc_p_Handing_init cda_p_Handing_init file
  sd_p_Handing_init : ∃ cd, PySem.W.clsIn K Dc_p_Handing_init = some cd
  sy_p_Handing_init : PySem.W.typeIn K (.ref f_p_Question_init) = some (.type "function")
  sn_p_Handing_init : PySem.W.fnIn K f_p_Question_init = true
  su_p_Handing_init_Handing : SupC K "Handing" Dc_p_Handing_init f_p_Question_init
  b_p_Handing_init : Binds K d_p_Handing_init ["self", "graph", "way", "room"] []
  t_p_Handing_first : Fun K "first" "Handing.first" s_p_Handing_first f_p_Handing_first d_p_Handing_first
  b_p_Handing_first : Binds K d_p_Handing_first ["self"] []
  t_p_Handing_moves : Fun K "moves" "Handing.moves" s_p_Handing_moves f_p_Handing_moves d_p_Handing_moves
  b_p_Handing_moves : Binds K d_p_Handing_moves ["self", "state"] []
  t_p_Handing_behind : Fun K "behind" "Handing.behind" s_p_Handing_behind f_p_Handing_behind d_p_Handing_behind
  b_p_Handing_behind : Binds K d_p_Handing_behind ["self", "step", "rest"] []
  t_p_Handing_amiss : Fun K "amiss" "Handing.amiss" s_p_Handing_amiss f_p_Handing_amiss d_p_Handing_amiss
  b_p_Handing_amiss : Binds K d_p_Handing_amiss ["self", "passed", "place"] []
  t_p_Handing_missing : Fun K "missing" "Handing.missing" s_p_Handing_missing f_p_Handing_missing d_p_Handing_missing
  b_p_Handing_missing : Binds K d_p_Handing_missing ["self", "passed", "place"] []
  t_p_Handing_is_bad : Fun K "is_bad" "Handing.is_bad" s_p_Handing_is_bad f_p_Handing_is_bad d_p_Handing_is_bad
  b_p_Handing_is_bad : Binds K d_p_Handing_is_bad ["self", "state"] []
  g_rest : mg "_law_rest" = some (.ref f_rest)
  t_rest : Fun K "_law_rest" "_law_rest" s_rest f_rest d_rest
  b_rest : Binds K d_rest ["_law_number", "_law_by"] []
  g_pen : mg "_law_pen" = some (.ref f_pen)
  t_pen : Fun K "_law_pen" "_law_pen" s_pen f_pen d_pen
  b_pen : Binds K d_pen ["_law_cell"] []
  g_cell_at : mg "_law_cell_at" = some (.ref f_cell_at)
  t_cell_at : Fun K "_law_cell_at" "_law_cell_at" s_cell_at f_cell_at d_cell_at
  b_cell_at : Binds K d_cell_at ["_law_script", "_law_k"] []
  g_pens : mg "_law_pens" = some (.ref f_pens)
  t_pens : Fun K "_law_pens" "_law_pens" s_pens f_pens d_pens
  b_pens : Binds K d_pens ["_law_script", "_law_many"] []
  g_draw : mg "_law_draw" = some (.ref f_draw)
  t_draw : Fun K "_law_draw" "_law_draw" s_draw f_draw d_draw
  b_draw : Binds K d_draw ["_law_pen_here", "_law_many"] []
  g_pick : mg "_law_pick" = some (.ref f_pick)
  t_pick : Fun K "_law_pick" "_law_pick" s_pick f_pick d_pick
  b_pick : Binds K d_pick ["_law_pen_here", "_law_some"] []
  g_relay_step : mg "_law_relay_step" = some (.ref f_relay_step)
  t_relay_step : Fun K "_law_relay_step" "_law_relay_step" s_relay_step f_relay_step d_relay_step
  b_relay_step : Binds K d_relay_step ["_law_pen_here"] []
  g_relay_nodes : mg "_law_relay_nodes" = some (.ref f_relay_nodes)
  t_relay_nodes : Fun K "_law_relay_nodes" "_law_relay_nodes" s_relay_nodes f_relay_nodes d_relay_nodes
  b_relay_nodes : Binds K d_relay_nodes ["_law_pen_here", "_law_most"] []
  g_finals : mg "_law_finals" = some (.ref f_finals)
  t_finals : Fun K "_law_finals" "_law_finals" s_finals f_finals d_finals
  b_finals : Binds K d_finals ["_law_pen_here", "_law_many"] []
  g_known : mg "_law_known" = some (.ref f_known)
  t_known : Fun K "_law_known" "_law_known" s_known f_known d_known
  b_known : Binds K d_known ["_law_pen_here"] []
  g_relay : mg "_law_relay" = some (.ref f_relay)
  t_relay : Fun K "_law_relay" "_law_relay" s_relay f_relay d_relay
  b_relay : Binds K d_relay ["_law_pen_here", "_law_most"] []
  g_marks : mg "_law_marks" = some (.ref f_marks)
  t_marks : Fun K "_law_marks" "_law_marks" s_marks f_marks d_marks
  b_marks : Binds K d_marks ["_law_nodes"] []
  g_law : mg "law" = some (.ref f_law)
  t_law : Fun K "law" "law" s_law f_law d_law
  b_law : Binds K d_law ["_law_script"] []
section
variable {P : Program} {w : World} {K : PySem.W.Frag} {mg : Str → Option Value} {base : Heap} [Tbl]
theorem na_finals (T : Txt K mg) : NoA K ["Relay"] "finals" := fun c h => by
  simp only [List.mem_cons, List.not_mem_nil, or_false] at h
  subst h
  exact ⟨_, T.k_Relay, T.na_Relay_finals⟩
theorem na_graph (T : Txt K mg) : NoA K ["Handing"] "graph" := fun c h => by
  simp only [List.mem_cons, List.not_mem_nil, or_false] at h
  subst h
  exact ⟨_, T.k_Handing, T.na_Handing_graph⟩
theorem na_limit (T : Txt K mg) : NoA K ["Handing"] "limit" := fun c h => by
  simp only [List.mem_cons, List.not_mem_nil, or_false] at h
  subst h
  exact ⟨_, T.k_Handing, T.na_Handing_limit⟩
theorem na_nodes (T : Txt K mg) : NoA K ["Relay"] "nodes" := fun c h => by
  simp only [List.mem_cons, List.not_mem_nil, or_false] at h
  subst h
  exact ⟨_, T.k_Relay, T.na_Relay_nodes⟩
theorem na_way (T : Txt K mg) : NoA K ["Handing"] "way" := fun c h => by
  simp only [List.mem_cons, List.not_mem_nil, or_false] at h
  subst h
  exact ⟨_, T.k_Handing, T.na_Handing_way⟩
theorem sup_p_Relay_init (T : Txt K mg) : ∀ c ∈ (["Relay"] : List Str), SupC K c T.Dc_p_Relay_init T.f_p_Graph_init := fun c h => by
  simp only [List.mem_cons, List.not_mem_nil, or_false] at h
  subst h
  exact T.su_p_Relay_init_Relay
theorem sup_p_Handing_init (T : Txt K mg) : ∀ c ∈ (["Handing"] : List Str), SupC K c T.Dc_p_Handing_init T.f_p_Question_init := fun c h => by
  simp only [List.mem_cons, List.not_mem_nil, or_false] at h
  subst h
  exact T.su_p_Handing_init_Handing
theorem ok_p_is_between (hP : HPf P) (T : Txt K mg) : VOk false P w K mg base 1 T.f_p_is_between T.d_p_is_between ["thing", "low", "high"] ph_p_is_between := PV.Fun.val T.t_p_is_between sc_p_is_between rfl fun cd A outer s H E hcd hr gd tk => (vss_kill true [] (vss_one (vs_ret (ve_and (ve_bf b_isi (by rfl) T.n_isinstance (by decide +kernel) (va_val (ve_var 0) (va_val (ve_bltn (d := .ty "int") (v := .ty "int") (by rfl) T.n_int (by decide +kernel) rfl (fun _ => rfl)) va_nil))) (ve_and (ve_not (ve_bf b_isi (by rfl) T.n_isinstance (by decide +kernel) (va_val (ve_var 0) (va_val (ve_bltn (d := .ty "bool") (v := .ty "bool") (by rfl) T.n_bool (by decide +kernel) rfl (fun _ => rfl)) va_nil)))) (ve_one (ve_chain o_ile o_ile (ve_var 1) (ve_var 0) (ve_var 2))))))))
theorem ok_p_Graph_init (hP : HPf P) (T : Txt K mg) : VOk false P w K mg base 1 T.f_p_Graph_init T.d_p_Graph_init ["self", "nodes", "finals"] ph_p_Graph_init := PV.Fun.val T.t_p_Graph_init sc_p_Graph_init rfl fun cd A outer s H E hcd hr gd tk => (vss_kill true [] (vss_cons (vs_fld ["Relay"] (na_nodes T) 0 (ve_var 1)) (vss_one (vs_fld ["Relay"] (na_finals T) 0 (ve_var 2)))))
theorem ok_p_Question_init (hP : HPf P) (T : Txt K mg) : VOk false P w K mg base 1 T.f_p_Question_init T.d_p_Question_init ["self", "graph"] ph_p_Question_init := PV.Fun.val T.t_p_Question_init sc_p_Question_init rfl fun cd A outer s H E hcd hr gd tk => (vss_kill true [] (vss_one (vs_fld ["Handing"] (na_graph T) 0 (ve_var 1))))
theorem ok_p_is_relay_step (hP : HPf P) (T : Txt K mg) : VOk false P w K mg base 1 T.f_p_is_relay_step T.d_p_is_relay_step ["thing"] ph_p_is_relay_step := PV.Fun.val T.t_p_is_relay_step sc_p_is_relay_step rfl fun cd A outer s H E hcd hr gd tk => (vss_kill true [] (vss_one (vs_ret (ve_and (ve_bf b_isi (by rfl) T.n_isinstance (by decide +kernel) (va_val (ve_var 0) (va_val (ve_bltn (d := .ty "str") (v := .ty "str") (by rfl) T.n_str (by decide +kernel) rfl (fun _ => rfl)) va_nil))) (ve_one (ve_cmp o_in (ve_var 0) (ve_glob (d := (.ctp [(.str "next"), (.str "pass"), (.str "mark"), (.str "both"), (.str "back")])) (v := .ref T.a_STEPS) (by rfl) T.c_STEPS rfl T.v_STEPS) (by rfl)))))))
theorem ok_p_Handing_first (hP : HPf P) (T : Txt K mg) : VOk false P w K mg base 1 T.f_p_Handing_first T.d_p_Handing_first ["self"] ph_p_Handing_first := PV.Fun.val T.t_p_Handing_first sc_p_Handing_first rfl fun cd A outer s H E hcd hr gd tk => (vss_kill true [] (vss_one (vs_ret (ve_tup (va_val ve_int (va_val ve_int (va_val ve_int (va_val ve_int (va_val ve_int (va_val ve_int va_nil))))))))))
theorem ok_p_Handing_amiss (hP : HPf P) (T : Txt K mg) : VOk false P w K mg base 1 T.f_p_Handing_amiss T.d_p_Handing_amiss ["self", "passed", "place"] ph_p_Handing_amiss := PV.Fun.val T.t_p_Handing_amiss sc_p_Handing_amiss rfl fun cd A outer s H E hcd hr gd tk => (vss_kill true [] (vss_cons (vs_set (i := 3) sc_p_Handing_amiss.nd rfl (by first | exact Or.inl rfl | exact Or.inr rfl) (ve_cmp (o_eq hr.units) (ve_op o_iand (ve_op o_ishr (ve_var 1) (ve_var 2)) ve_int) ve_int (nomark _))) (vss_cons (vs_if (vt_cmp (o_eq hr.units) (ve_fld ["Handing"] (na_way T) (ve_var 0)) ve_str (nomark _)) (vss_one (vs_ret (ve_if (vt_val (ve_var 3)) ve_int ve_int))) vss_nil) (vss_cons (vs_if (vt_cmp (o_eq hr.units) (ve_fld ["Handing"] (na_way T) (ve_var 0)) ve_str (nomark _)) (vss_one (vs_ret (ve_if (vt_w (vw_and (vt_not (vt_val (ve_var 3))) (vw_and1 (vt_cmp o_igt (ve_op o_ishr (ve_var 1) (ve_var 2)) ve_int (nomark _))))) ve_int ve_int))) vss_nil) (vss_one (vs_ret ve_int))))))
theorem ok_p_Handing_missing (hP : HPf P) (T : Txt K mg) : VOk false P w K mg base 1 T.f_p_Handing_missing T.d_p_Handing_missing ["self", "passed", "place"] ph_p_Handing_missing := PV.Fun.val T.t_p_Handing_missing sc_p_Handing_missing rfl fun cd A outer s H E hcd hr gd tk => (vss_kill true [] (vss_cons (vs_set (i := 3) sc_p_Handing_missing.nd rfl (by first | exact Or.inl rfl | exact Or.inr rfl) (ve_op o_isub (ve_op o_ishl ve_int (ve_var 2)) ve_int)) (vss_cons (vs_if (vt_w (vw_and (vt_cmp o_in (ve_fld ["Handing"] (na_way T) (ve_var 0)) (ve_tup (va_val ve_str (va_val ve_str va_nil))) (by rfl)) (vw_and1 (vt_cmp (o_ne hr.units) (ve_op o_iand (ve_var 1) (ve_var 3)) (ve_var 3) (nomark _))))) (vss_one (vs_ret ve_int)) vss_nil) (vss_one (vs_ret ve_int)))))
theorem ok_p_Handing_is_bad (hP : HPf P) (T : Txt K mg) : VOk false P w K mg base 1 T.f_p_Handing_is_bad T.d_p_Handing_is_bad ["self", "state"] ph_p_Handing_is_bad := PV.Fun.val T.t_p_Handing_is_bad sc_p_Handing_is_bad rfl fun cd A outer s H E hcd hr gd tk => (vss_kill true [] (vss_cons (vs_asg (ve_var 1) (vg_tup (n := 6) rfl (vgs_cons (vg_name (i := 2) sc_p_Handing_is_bad.nd rfl (by first | exact Or.inl rfl | exact Or.inr rfl)) (vgs_cons (vg_name (i := 3) sc_p_Handing_is_bad.nd rfl (by first | exact Or.inl rfl | exact Or.inr rfl)) (vgs_cons (vg_name (i := 4) sc_p_Handing_is_bad.nd rfl (by first | exact Or.inl rfl | exact Or.inr rfl)) (vgs_cons (vg_name (i := 5) sc_p_Handing_is_bad.nd rfl (by first | exact Or.inl rfl | exact Or.inr rfl)) (vgs_cons (vg_name (i := 6) sc_p_Handing_is_bad.nd rfl (by first | exact Or.inl rfl | exact Or.inr rfl)) (vgs_cons (vg_name (i := 7) sc_p_Handing_is_bad.nd rfl (by first | exact Or.inl rfl | exact Or.inr rfl)) vgs_nil)))))))) (vss_cons (vs_if (vt_cmp (o_eq hr.units) (ve_fld ["Handing"] (na_way T) (ve_var 0)) ve_str (nomark _)) (vss_one (vs_ret (ve_or (ve_cmp (o_eq hr.units) (ve_var 7) ve_int (nomark _)) (ve_one (ve_cmp (o_eq hr.units) (ve_op o_iand (ve_var 6) ve_int) ve_int (nomark _)))))) vss_nil) (vss_cons (vs_if (vt_cmp (o_eq hr.units) (ve_fld ["Handing"] (na_way T) (ve_var 0)) ve_str (nomark _)) (vss_cons (vs_set (i := 8) sc_p_Handing_is_bad.nd rfl (by first | exact Or.inl rfl | exact Or.inr rfl) (ve_and (ve_cmp (o_eq hr.units) (ve_var 7) ve_int (nomark _)) (ve_one (ve_cmp (o_eq hr.units) (ve_var 6) (ve_op o_isub (ve_op o_ishl ve_int (ve_op o_add (ve_var 3) ve_int)) ve_int) (nomark _))))) (vss_one (vs_ret (ve_and (ve_cmp o_in (ve_var 2) (ve_fld ["Relay"] (na_finals T) (ve_fld ["Handing"] (na_graph T) (ve_var 0))) (by rfl)) (ve_and (ve_cmp (o_eq hr.units) (ve_var 4) (ve_var 3) (nomark _)) (ve_one (ve_not (ve_var 8)))))))) vss_nil) (vss_one (vs_ret (ve_cmp (o_eq hr.units) (ve_var 7) ve_int (nomark _))))))))
theorem ok_rest (hP : HPf P) (T : Txt K mg) : VOk false P w K mg base 1 T.f_rest T.d_rest ["_law_number", "_law_by"] ph_rest := PV.Fun.val T.t_rest sc_rest rfl fun cd A outer s H E hcd hr gd tk => (vss_one (vs_ret (ve_op o_isub (ve_var 0) (ve_op o_mul (ve_op o_idiv (ve_var 0) (ve_var 1)) (ve_var 1)))))
theorem ok_cell_at (hP : HPf P) (T : Txt K mg) : VOk false P w K mg base 1 T.f_cell_at T.d_cell_at ["_law_script", "_law_k"] ph_cell_at := PV.Fun.val T.t_cell_at sc_cell_at rfl fun cd A outer s H E hcd hr gd tk => (vss_cons (vs_if (vt_cmp o_ilt (ve_var 1) (ve_bf b_len (by rfl) T.n_len (by decide +kernel) (va_val (ve_var 0) va_nil)) (nomark _)) (vss_one (vs_ret (ve_ix (ve_var 0) (ve_var 1) (fun _ _ => rfl)))) vss_nil) (vss_one (vs_ret ve_int)))
theorem ok_marks (hP : HPf P) (T : Txt K mg) : VOk false P w K mg base 1 T.f_marks T.d_marks ["_law_nodes"] ph_marks := PV.Fun.val T.t_marks sc_marks rfl fun cd A outer s H E hcd hr gd tk => (vss_kill true [] (vss_cons (vs_par2 (i := 1) (j := 2) rfl sc_marks.nd rfl rfl (by decide) rfl rfl (vl_own (vn_dOneT (u1 hr.units) (ve_tup (va_val ve_int (va_val ve_int va_nil))) ve_bl) (vl_own (vn_lst (va_val (ve_tup (va_val ve_int (va_val ve_int va_nil))) va_nil)) vl_nil))) (vss_cons (vs_while 8192 (passes_of rfl) (vt_neSl hr.units 2) (show VSs _ _ _ L_marks_2 from vss_kill true [false, false, false, true, true, true, true, true] (vss_cons (vs_asg (ve_pop 2) (vg_tup (n := 2) rfl (vgs_cons (vg_name (i := 3) sc_marks.nd rfl (by first | exact Or.inl rfl | exact Or.inr rfl)) (vgs_cons (vg_name (i := 4) sc_marks.nd rfl (by first | exact Or.inl rfl | exact Or.inr rfl)) vgs_nil)))) (vss_one (vs_for (passes_of rfl) rfl (vi_seq (ve_op o_add (ve_new (vn_bty b_list (by rfl) T.n_list (by decide +kernel) (va_val (ve_ix (ve_var 0) (ve_var 3) (fun _ _ => rfl)) va_nil))) (ve_new (vn_lst (va_val (ve_tup (va_val ve_str (va_val ve_int va_nil))) va_nil))))) (vg_tup (n := 2) rfl (vgs_cons (vg_name (i := 5) sc_marks.nd rfl (by first | exact Or.inl rfl | exact Or.inr rfl)) (vgs_cons (vg_name (i := 6) sc_marks.nd rfl (by first | exact Or.inl rfl | exact Or.inr rfl)) vgs_nil))) (show VSs _ _ _ L_marks_1 from vss_kill true [false, false, false, false, false, true, true, true] (vss_cons (vs_if (vt_w (vw_and (vt_cmp o_in (ve_var 5) (ve_tup (va_val ve_str (va_val ve_str va_nil))) (by rfl)) (vw_and1 (vt_cmp (o_eq hr.units) (ve_var 4) ve_int (nomark _))))) (vss_one (vs_ret ve_bl)) vss_nil) (vss_cons (vs_set (i := 7) sc_marks.nd rfl (by first | exact Or.inl rfl | exact Or.inr rfl) (ve_tup (va_val (ve_var 6) (va_val (ve_if (vt_cmp (o_eq hr.units) (ve_var 5) ve_str (nomark _)) ve_int (ve_if (vt_cmp (o_eq hr.units) (ve_var 5) ve_str (nomark _)) ve_int (ve_var 4))) va_nil)))) (vss_one (vs_if (vt_pc (vp_dnotinT (u1 hr.units) 1 (ve_var 7))) (vss_cons (vs_dputT (u1 hr.units) 1 ve_bl (ve_var 7)) (vss_one (vs_append 2 (ve_var 7)))) vss_nil)))))))))) (vss_one (vs_ret ve_bl)))))
theorem ok_p_are_nodes (hP : HPf P) (T : Txt K mg) : VOk false P w K mg base 2 T.f_p_are_nodes T.d_p_are_nodes ["thing", "is_step"] ph_p_are_nodes := PV.Fun.val T.t_p_are_nodes sc_p_are_nodes rfl fun cd A outer s H E hcd hr gd tk => (vss_kill true [] (vss_cons (vs_if (vt_w (vw_or (vt_not (vt_val (ve_bf b_isi (by rfl) T.n_isinstance (by decide +kernel) (va_val (ve_var 0) (va_val (ve_bltn (d := .ty "tuple") (v := .ty "tuple") (by rfl) T.n_tuple (by decide +kernel) rfl (fun _ => rfl)) va_nil))))) (vw_or1 (vt_not (vt_chain o_ile o_ile ve_int (ve_bf b_len (by rfl) T.n_len (by decide +kernel) (va_val (ve_var 0) va_nil)) (ve_glob (d := (.int 6)) (v := (.int 6)) (by rfl) T.c_MOST_NODES ⟨_, rfl⟩ (fun _ => rfl))))))) (vss_one (vs_ret ve_bl)) vss_nil) (vss_cons (vs_for (passes_of rfl) rfl (vi_seq (ve_var 0)) (vg_name (i := 2) sc_p_are_nodes.nd rfl (by first | exact Or.inl rfl | exact Or.inr rfl)) (show VSs _ _ _ L_p_are_nodes_2 from vss_kill true [false, false, true, true] (vss_cons (vs_if (vt_w (vw_or (vt_not (vt_val (ve_bf b_isi (by rfl) T.n_isinstance (by decide +kernel) (va_val (ve_var 2) (va_val (ve_bltn (d := .ty "tuple") (v := .ty "tuple") (by rfl) T.n_tuple (by decide +kernel) rfl (fun _ => rfl)) va_nil))))) (vw_or1 (vt_cmp o_igt (ve_bf b_len (by rfl) T.n_len (by decide +kernel) (va_val (ve_var 2) va_nil)) (ve_glob (d := (.int 3)) (v := (.int 3)) (by rfl) T.c_MOST_EDGES ⟨_, rfl⟩ (fun _ => rfl)) (nomark _))))) (vss_one (vs_ret ve_bl)) vss_nil) (vss_one (vs_for (passes_of rfl) rfl (vi_seq (ve_var 2)) (vg_name (i := 3) sc_p_are_nodes.nd rfl (by first | exact Or.inl rfl | exact Or.inr rfl)) (show VSs _ _ _ L_p_are_nodes_1 from vss_kill true [false, false, false, true] (vss_cons (vs_if (vt_w (vw_or (vt_not (vt_val (ve_bf b_isi (by rfl) T.n_isinstance (by decide +kernel) (va_val (ve_var 3) (va_val (ve_bltn (d := .ty "tuple") (v := .ty "tuple") (by rfl) T.n_tuple (by decide +kernel) rfl (fun _ => rfl)) va_nil))))) (vw_or (vt_cmp (o_ne hr.units) (ve_bf b_len (by rfl) T.n_len (by decide +kernel) (va_val (ve_var 3) va_nil)) ve_int (nomark _)) (vw_or1 (vt_not (vt_val (ve_callL (k := 1) (g := false) 1 (FnV.cons T.ns_p_is_relay_step (ok_p_is_relay_step hP T) (by decide) T.t_p_is_relay_step.kp T.b_p_is_relay_step FnV.nil) (hr.mono (by decide)) (fun z => absurd z Bool.false_ne_true) tk (va_val (ve_ix (ve_var 3) ve_int (fun _ _ => rfl)) va_nil)))))))) (vss_one (vs_ret ve_bl)) vss_nil) (vss_one (vs_if (vt_not (vt_val (ve_call (ok_p_is_between hP T) (hr.mono (by decide)) (fun z => absurd z Bool.false_ne_true) tk (by rfl) T.g_p_is_between T.t_p_is_between.kp T.b_p_is_between (va_val (ve_ix (ve_var 3) ve_int (fun _ _ => rfl)) (va_val ve_int (va_val (ve_op o_isub (ve_bf b_len (by rfl) T.n_len (by decide +kernel) (va_val (ve_var 0) va_nil)) ve_int) va_nil)))))) (vss_one (vs_ret ve_bl)) vss_nil))))))))) (vss_one (vs_ret ve_bl)))))
theorem ok_p_are_finals (hP : HPf P) (T : Txt K mg) : VOk false P w K mg base 2 T.f_p_are_finals T.d_p_are_finals ["thing", "many"] ph_p_are_finals := PV.Fun.val T.t_p_are_finals sc_p_are_finals rfl fun cd A outer s H E hcd hr gd tk => (vss_kill true [] (vss_cons (vs_if (vt_w (vw_or (vt_not (vt_val (ve_bf b_isi (by rfl) T.n_isinstance (by decide +kernel) (va_val (ve_var 0) (va_val (ve_bltn (d := .ty "tuple") (v := .ty "tuple") (by rfl) T.n_tuple (by decide +kernel) rfl (fun _ => rfl)) va_nil))))) (vw_or1 (vt_not (vt_val (ve_bf (b_all rfl) (by rfl) T.n_all (by decide +kernel) (va_val (ve_new (vn_lc (own := [("one", 2)]) rfl sc_p_are_finals.nd (vi_seq (ve_var 0)) (blkOk_by (N := ["thing", "many", "one", "other"]) (sc := defScope s_p_are_finals) (by decide +kernel)) (by decide) (fun _ _ _ _ _ => (vg_name (i := 2) sc_p_are_finals.nd rfl (by first | exact Or.inl rfl | exact Or.inr rfl))) (fun _ _ _ _ _ => vts_nil) (fun _ _ _ _ _ => (ve_call (ok_p_is_between hP T) (hr.mono (by decide)) (fun z => absurd z Bool.false_ne_true) takes0 (by rfl) T.g_p_is_between T.t_p_is_between.kp T.b_p_is_between (va_val (ve_var 2) (va_val ve_int (va_val (ve_op o_isub (ve_var 1) ve_int) va_nil))))))) va_nil))))))) (vss_one (vs_ret ve_bl)) vss_nil) (vss_one (vs_ret (ve_bf (b_all rfl) (by rfl) T.n_all (by decide +kernel) (va_val (ve_new (vn_lc (own := [("one", 2), ("other", 3)]) rfl sc_p_are_finals.nd (vi_zip (by rfl) T.n_zip (va_val (ve_var 0) (va_val (ve_slice (ve_var 0) (vo_some ve_int) vo_none) va_nil))) (blkOk_by (N := ["thing", "many", "one", "other"]) (sc := defScope s_p_are_finals) (by decide +kernel)) (by decide) (fun _ _ _ _ _ => (vg_tup (n := 2) rfl (vgs_cons (vg_name (i := 2) sc_p_are_finals.nd rfl (by first | exact Or.inl rfl | exact Or.inr rfl)) (vgs_cons (vg_name (i := 3) sc_p_are_finals.nd rfl (by first | exact Or.inl rfl | exact Or.inr rfl)) vgs_nil)))) (fun _ _ _ _ _ => vts_nil) (fun _ _ _ _ _ => (ve_cmp o_ilt (ve_var 2) (ve_var 3) (nomark _))))) va_nil))))))
theorem ok_p_need_way_and_room (hP : HPf P) (T : Txt K mg) : VOk false P w K mg base 2 T.f_p_need_way_and_room T.d_p_need_way_and_room ["way", "room"] ph_p_need_way_and_room := PV.Fun.val T.t_p_need_way_and_room sc_p_need_way_and_room rfl fun cd A outer s H E hcd hr gd tk => (vss_kill true [] (vss_cons (vs_if (vt_w (vw_or (vt_not (vt_val (ve_bf b_isi (by rfl) T.n_isinstance (by decide +kernel) (va_val (ve_var 0) (va_val (ve_bltn (d := .ty "str") (v := .ty "str") (by rfl) T.n_str (by decide +kernel) rfl (fun _ => rfl)) va_nil))))) (vw_or1 (vt_cmp o_notIn (ve_var 0) (ve_glob (d := (.ctp [(.str "lost"), (.str "twice"), (.str "order"), (.str "left")])) (v := .ref T.a_WAYS) (by rfl) T.c_WAYS rfl T.v_WAYS) (by rfl))))) (vss_one (vs_raise rfl tk PySem.F.excBase_ValueError T.xC_InvalidWay T.gC_InvalidWay T.kC_InvalidWay T.bC_InvalidWay T.tC_InvalidWay T.nC_InvalidWay (by rfl))) vss_nil) (vss_one (vs_if (vt_not (vt_val (ve_call (ok_p_is_between hP T) (hr.mono (by decide)) (fun z => absurd z Bool.false_ne_true) tk (by rfl) T.g_p_is_between T.t_p_is_between.kp T.b_p_is_between (va_val (ve_var 1) (va_val ve_int (va_val (ve_glob (d := (.int 3)) (v := (.int 3)) (by rfl) T.c_MOST_ROOM ⟨_, rfl⟩ (fun _ => rfl)) va_nil)))))) (vss_one (vs_raise rfl tk PySem.F.excBase_ValueError T.xC_InvalidRoom T.gC_InvalidRoom T.kC_InvalidRoom T.bC_InvalidRoom T.tC_InvalidRoom T.nC_InvalidRoom (by rfl))) vss_nil))))
theorem ok_p_Handing_init (hP : HPf P) (T : Txt K mg) : VOk false P w K mg base 2 T.f_p_Handing_init T.d_p_Handing_init ["self", "graph", "way", "room"] ph_p_Handing_init := PV.FunS.val T.t_p_Handing_init sc_p_Handing_init rfl fun A outer s H E hr gd tk => (vsa_cons (vsa_super (ar := _) T.t_p_Handing_init sc_p_Handing_init rfl rfl rfl rfl ⟨T.sd_p_Handing_init, T.s_super, T.s_any, T.sy_p_Handing_init, T.sn_p_Handing_init, hP.1, hP.2⟩ (fun c hc => sup_p_Handing_init T c hc) (ok_p_Question_init hP T) (hr.mono (by decide)) (fun z => absurd z Bool.false_ne_true) T.b_p_Question_init tk (va_val (ve_var 1) va_nil)) (vsa_of (vss_cons (vs_fld ["Handing"] (na_way T) 0 (ve_var 2)) (vss_one (vs_fld ["Handing"] (na_limit T) 0 (ve_var 3))))))
theorem ok_p_Handing_behind (hP : HPf P) (T : Txt K mg) : VOk false P w K mg base 2 T.f_p_Handing_behind T.d_p_Handing_behind ["self", "step", "rest"] ph_p_Handing_behind := PV.Fun.val T.t_p_Handing_behind sc_p_Handing_behind rfl fun cd A outer s H E hcd hr gd tk => (vss_kill true [] (vss_cons (vs_asg (ve_var 2) (vg_tup (n := 5) rfl (vgs_cons (vg_name (i := 3) sc_p_Handing_behind.nd rfl (by first | exact Or.inl rfl | exact Or.inr rfl)) (vgs_cons (vg_name (i := 4) sc_p_Handing_behind.nd rfl (by first | exact Or.inl rfl | exact Or.inr rfl)) (vgs_cons (vg_name (i := 5) sc_p_Handing_behind.nd rfl (by first | exact Or.inl rfl | exact Or.inr rfl)) (vgs_cons (vg_name (i := 6) sc_p_Handing_behind.nd rfl (by first | exact Or.inl rfl | exact Or.inr rfl)) (vgs_cons (vg_name (i := 7) sc_p_Handing_behind.nd rfl (by first | exact Or.inl rfl | exact Or.inr rfl)) vgs_nil))))))) (vss_cons (vs_if (vt_cmp (o_eq hr.units) (ve_var 1) ve_str (nomark _)) (vss_one (vs_ret (ve_if (vt_cmp o_ilt (ve_var 4) (ve_var 3) (nomark _)) (ve_tup (va_val (ve_var 3) (va_val (ve_op o_add (ve_var 4) ve_int) (va_val ve_int (va_val (ve_var 6) (va_val (ve_var 7) va_nil)))))) (ve_tup (va_val (ve_var 3) (va_val (ve_var 4) (va_val ve_int (va_val (ve_var 6) (va_val (ve_var 7) va_nil))))))))) vss_nil) (vss_cons (vs_if (vt_cmp (o_eq hr.units) (ve_var 1) ve_str (nomark _)) (vss_one (vs_ret (ve_tup (va_val (ve_var 3) (va_val ve_int (va_val ve_int (va_val (ve_var 6) (va_val (ve_var 7) va_nil)))))))) vss_nil) (vss_cons (vs_if (vt_w (vw_and (vt_cmp o_in (ve_var 1) (ve_glob (d := (.ctp [(.str "pass"), (.str "both")])) (v := .ref T.a_PASSING) (by rfl) T.c_PASSING rfl T.v_PASSING) (by rfl)) (vw_and1 (vt_cmp (o_eq hr.units) (ve_var 5) ve_int (nomark _))))) (vss_cons (vs_set (i := 7) sc_p_Handing_behind.nd rfl (by first | exact Or.inl rfl | exact Or.inr rfl) (ve_bf (b_max2 rfl) (by rfl) T.n_max (by decide +kernel) (va_val (ve_var 7) (va_val (ve_meth (k := 1) (g := false) (ve_var 0) (MethV.cons T.k_Handing T.m_Handing_amiss (ok_p_Handing_amiss hP T) (by decide) T.b_p_Handing_amiss MethV.nil) (hr.mono (by decide)) (fun z => absurd z Bool.false_ne_true) tk (va_val (ve_var 6) (va_val (ve_var 4) va_nil))) va_nil)))) (vss_one (vs_set (i := 6) sc_p_Handing_behind.nd rfl (by first | exact Or.inl rfl | exact Or.inr rfl) (ve_op o_ior (ve_var 6) (ve_op o_ishl ve_int (ve_var 4)))))) vss_nil) (vss_cons (vs_if (vt_cmp o_in (ve_var 1) (ve_glob (d := (.ctp [(.str "mark"), (.str "both")])) (v := .ref T.a_MARKING) (by rfl) T.c_MARKING rfl T.v_MARKING) (by rfl)) (vss_cons (vs_set (i := 7) sc_p_Handing_behind.nd rfl (by first | exact Or.inl rfl | exact Or.inr rfl) (ve_bf (b_max2 rfl) (by rfl) T.n_max (by decide +kernel) (va_val (ve_var 7) (va_val (ve_meth (k := 1) (g := false) (ve_var 0) (MethV.cons T.k_Handing T.m_Handing_missing (ok_p_Handing_missing hP T) (by decide) T.b_p_Handing_missing MethV.nil) (hr.mono (by decide)) (fun z => absurd z Bool.false_ne_true) tk (va_val (ve_var 6) (va_val (ve_var 4) va_nil))) va_nil)))) (vss_one (vs_ret (ve_tup (va_val (ve_op o_isub (ve_var 3) (ve_var 4)) (va_val ve_int (va_val (ve_var 5) (va_val (ve_op o_ishr (ve_var 6) (ve_var 4)) (va_val (ve_var 7) va_nil))))))))) vss_nil) (vss_one (vs_ret (ve_tup (va_val (ve_var 3) (va_val (ve_var 4) (va_val (ve_var 5) (va_val (ve_var 6) (va_val (ve_var 7) va_nil))))))))))))))
theorem ok_pen (hP : HPf P) (T : Txt K mg) : FnOk P w K mg base (L2.CX P w) 2 T.f_pen T.d_pen ["_law_cell"] (spNew K 1 1 F_pen) := PV.Fun.new T.t_pen sc_pen rfl fun cd A outer s H E hr tk => ⟨_, _, rfl, (vn_lst (va_val (ve_bf (b_max2 rfl) (by rfl) T.n_max (by decide +kernel) (va_val ve_int (va_val (ve_op o_isub (ve_var 0) (ve_op o_ipow ve_int ve_int)) va_nil))) (va_val (ve_op o_add (ve_call (ok_rest hP T) (hr.mono (by decide)) (fun z => absurd z Bool.false_ne_true) tk (by rfl) T.g_rest T.t_rest.kp T.b_rest (va_val (ve_var 0) (va_val ve_int va_nil))) ve_int) (va_val ve_int va_nil))))⟩
theorem ok_draw (hP : HPf P) (T : Txt K mg) : VOk false P w K mg base 2 T.f_draw T.d_draw ["_law_pen_here", "_law_many"] ph_draw := PV.Fun.val T.t_draw sc_draw rfl fun cd A outer s H E hcd hr gd tk => (vss_cons (vs_if (vt_cmp o_igt (ve_ixSl 0 ve_int (fun _ _ => rfl)) ve_int (nomark _)) (vss_cons (vs_set (i := 3) sc_draw.nd rfl (by first | exact Or.inl rfl | exact Or.inr rfl) (ve_call (ok_rest hP T) (hr.mono (by decide)) (fun z => absurd z Bool.false_ne_true) tk (by rfl) T.g_rest T.t_rest.kp T.b_rest (va_val (ve_ixSl 0 ve_int (fun _ _ => rfl)) (va_val (ve_var 1) va_nil)))) (vss_cons (vs_put 0 (ve_op o_idiv (ve_ixSl 0 ve_int (fun _ _ => rfl)) (ve_var 1)) ve_int) (vss_one (vs_ret (ve_var 3))))) vss_nil) (vss_cons (vs_put 0 (ve_op o_add (ve_ixSl 0 ve_int (fun _ _ => rfl)) ve_int) ve_int) (vss_cons (vs_put 0 (ve_call (ok_rest hP T) (hr.mono (by decide)) (fun z => absurd z Bool.false_ne_true) tk (by rfl) T.g_rest T.t_rest.kp T.b_rest (va_val (ve_op o_add (ve_op o_add (ve_op o_mul (ve_ixSl 0 ve_int (fun _ _ => rfl)) ve_int) (ve_op o_mul ve_int (ve_ixSl 0 ve_int (fun _ _ => rfl)))) ve_int) (va_val ve_int va_nil))) ve_int) (vss_cons (vs_set (i := 2) sc_draw.nd rfl (by first | exact Or.inl rfl | exact Or.inr rfl) (ve_call (ok_rest hP T) (hr.mono (by decide)) (fun z => absurd z Bool.false_ne_true) tk (by rfl) T.g_rest T.t_rest.kp T.b_rest (va_val (ve_op o_add (ve_op o_add (ve_op o_mul (ve_ixSl 0 ve_int (fun _ _ => rfl)) (ve_ixSl 0 ve_int (fun _ _ => rfl))) (ve_op o_mul ve_int (ve_ixSl 0 ve_int (fun _ _ => rfl)))) ve_int) (va_val ve_int va_nil)))) (vss_cons (vs_set (i := 2) sc_draw.nd rfl (by first | exact Or.inl rfl | exact Or.inr rfl) (ve_call (ok_rest hP T) (hr.mono (by decide)) (fun z => absurd z Bool.false_ne_true) tk (by rfl) T.g_rest T.t_rest.kp T.b_rest (va_val (ve_op o_add (ve_op o_mul (ve_var 2) (ve_var 2)) (ve_op o_mul ve_int (ve_var 2))) (va_val ve_int va_nil)))) (vss_one (vs_ret (ve_call (ok_rest hP T) (hr.mono (by decide)) (fun z => absurd z Bool.false_ne_true) tk (by rfl) T.g_rest T.t_rest.kp T.b_rest (va_val (ve_op o_idiv (ve_var 2) ve_int) (va_val (ve_var 1) va_nil))))))))))
theorem ok_p_Relay_init (hP : HPf P) (T : Txt K mg) : VOk false P w K mg base 3 T.f_p_Relay_init T.d_p_Relay_init ["self", "nodes", "finals"] ph_p_Relay_init := PV.FunS.val T.t_p_Relay_init sc_p_Relay_init rfl fun A outer s H E hr gd tk => (vsa_cons (vsa1_of (vs_if (vt_w (vw_or (vt_not (vt_val (ve_call (ok_p_are_nodes hP T) (hr.mono (by decide)) (fun z => absurd z Bool.false_ne_true) tk (by rfl) T.g_p_are_nodes T.t_p_are_nodes.kp T.b_p_are_nodes (va_val (ve_var 1) (va_val (ve_fn (by rfl) T.g_p_is_relay_step T.ns_p_is_relay_step) va_nil))))) (vw_or1 (vt_not (vt_val (ve_call (ok_p_are_finals hP T) (hr.mono (by decide)) (fun z => absurd z Bool.false_ne_true) tk (by rfl) T.g_p_are_finals T.t_p_are_finals.kp T.b_p_are_finals (va_val (ve_var 2) (va_val (ve_bf b_len (by rfl) T.n_len (by decide +kernel) (va_val (ve_var 1) va_nil)) va_nil)))))))) (vss_one (vs_raise rfl tk PySem.F.excBase_ValueError T.xC_InvalidGraph T.gC_InvalidGraph T.kC_InvalidGraph T.bC_InvalidGraph T.tC_InvalidGraph T.nC_InvalidGraph (by rfl))) vss_nil)) (vsa_one (vsa_super (ar := _) T.t_p_Relay_init sc_p_Relay_init rfl rfl rfl rfl ⟨T.sd_p_Relay_init, T.s_super, T.s_any, T.sy_p_Relay_init, T.sn_p_Relay_init, hP.1, hP.2⟩ (fun c hc => sup_p_Relay_init T c hc) (ok_p_Graph_init hP T) (hr.mono (by decide)) (fun z => absurd z Bool.false_ne_true) T.b_p_Graph_init tk (va_val (ve_var 1) (va_val (ve_var 2) va_nil)))))
theorem ok_p_Handing_moves (hP : HPf P) (T : Txt K mg) : VOk false P w K mg base 3 T.f_p_Handing_moves T.d_p_Handing_moves ["self", "state"] ph_p_Handing_moves := PV.Fun.val T.t_p_Handing_moves sc_p_Handing_moves rfl fun cd A outer s H E hcd hr gd tk => (vss_kill true [] (vss_cons (vs_asg (ve_var 1) (vg_tup (n := 6) rfl (vgs_cons (vg_name (i := 3) sc_p_Handing_moves.nd rfl (by first | exact Or.inl rfl | exact Or.inr rfl)) (vgs_cons (vg_name (i := 4) sc_p_Handing_moves.nd rfl (by first | exact Or.inl rfl | exact Or.inr rfl)) (vgs_cons (vg_name (i := 5) sc_p_Handing_moves.nd rfl (by first | exact Or.inl rfl | exact Or.inr rfl)) (vgs_cons (vg_name (i := 6) sc_p_Handing_moves.nd rfl (by first | exact Or.inl rfl | exact Or.inr rfl)) (vgs_cons (vg_name (i := 7) sc_p_Handing_moves.nd rfl (by first | exact Or.inl rfl | exact Or.inr rfl)) (vgs_cons (vg_name (i := 8) sc_p_Handing_moves.nd rfl (by first | exact Or.inl rfl | exact Or.inr rfl)) vgs_nil)))))))) (vss_cons (vs_own (i := 2) sc_p_Handing_moves.nd rfl (by first | exact Or.inl rfl | exact Or.inr rfl) (vn_lst (va_val (ve_tup (va_val (ve_glob (d := (.int (-2))) (v := (.int (-2))) (by rfl) T.c_CRASH ⟨_, rfl⟩ (fun _ => rfl)) (va_val (ve_tup (va_val ve_int (va_val (ve_var 4) (va_val ve_int (va_val ve_int (va_val (ve_var 7) (va_val (ve_var 8) va_nil))))))) va_nil))) va_nil))) (vss_cons (vs_if (vt_cmp o_ilt (ve_var 4) (ve_fld ["Handing"] (na_limit T) (ve_var 0)) (nomark _)) (vss_one (vs_append 2 (ve_tup (va_val (ve_glob (d := (.int (-1))) (v := (.int (-1))) (by rfl) T.c_OTHER ⟨_, rfl⟩ (fun _ => rfl)) (va_val (ve_tup (va_val (ve_var 3) (va_val (ve_op o_add (ve_var 4) ve_int) (va_val (ve_var 5) (va_val (ve_var 6) (va_val (ve_var 7) (va_val (ve_var 8) va_nil))))))) va_nil))))) vss_nil) (vss_cons (vs_for (passes_of rfl) rfl (vi_enum (by rfl) T.n_enumerate (va_val (ve_ix (ve_fld ["Relay"] (na_nodes T) (ve_fld ["Handing"] (na_graph T) (ve_var 0))) (ve_var 3) (fun _ _ => rfl)) va_nil)) (vg_tup (n := 2) rfl (vgs_cons (vg_name (i := 9) sc_p_Handing_moves.nd rfl (by first | exact Or.inl rfl | exact Or.inr rfl)) (vgs_cons (vg_tup (n := 2) rfl (vgs_cons (vg_name (i := 11) sc_p_Handing_moves.nd rfl (by first | exact Or.inl rfl | exact Or.inr rfl)) (vgs_cons (vg_name (i := 12) sc_p_Handing_moves.nd rfl (by first | exact Or.inl rfl | exact Or.inr rfl)) vgs_nil))) vgs_nil))) (show VSs _ _ _ L_p_Handing_moves_1 from vss_kill true [false, false, false, false, false, false, false, false, false, true, true, true, true] (vss_cons (vs_set (i := 10) sc_p_Handing_moves.nd rfl (by first | exact Or.inl rfl | exact Or.inr rfl) (ve_meth (k := 2) (g := false) (ve_var 0) (MethV.cons T.k_Handing T.m_Handing_behind (ok_p_Handing_behind hP T) (by decide) T.b_p_Handing_behind MethV.nil) (hr.mono (by decide)) (fun z => absurd z Bool.false_ne_true) tk (va_val (ve_var 11) (va_val (ve_slice (ve_var 1) (vo_some ve_int) vo_none) va_nil)))) (vss_one (vs_append 2 (ve_tup (va_val (ve_var 9) (va_val (ve_tup (va_val (ve_var 12) (va_star (ve_var 10) va_nil))) va_nil)))))))) (vss_one (vs_ret (ve_var 2))))))))
theorem ok_pens (hP : HPf P) (T : Txt K mg) : FnOk P w K mg base (L2.CX P w) 3 T.f_pens T.d_pens ["_law_script", "_law_many"] (spPens K) := T.t_pens.okX sc_pens (fun vs H Q E h => by obtain ⟨a, ns, m, rfl, _⟩ := h; rfl) fun cd A outer s H vs Q E hr h =>
  ⟨_, pss_one (ps_ret (pe_lc (own := [("_law_k", 2)]) (g := gName 2) (tt := tYes) rfl sc_pens.nd (pi_range1 rfl T.n_range (pa_cons (show VE _ W0 _ (callB max2D (valA (cst (.int 1)) (valA (callB min2D (valA (callB lenD (valA (var 0) noA)) (valA (var 1) noA))) noA))) from
      ve_bf (b_max2 rfl) (by rfl) T.n_max (by decide +kernel) (va_val ve_int (va_val (ve_bf (b_min2 rfl) (by rfl) T.n_min (by decide +kernel) (va_val (ve_bf b_len (by rfl) T.n_len (by decide +kernel) (va_val (ve_var 0) va_nil)) (va_val (ve_var 1) va_nil))) va_nil))) pa_nil))
      (blkOk_by (N := ["_law_script", "_law_many", "_law_k"]) (sc := defScope s_pens) (by decide +kernel)) (fun _ _ _ _ _ => pg_name (i := 2) sc_pens.nd rfl (by first | exact Or.inl rfl | exact Or.inr rfl)) (fun _ _ _ _ _ => pts_nil)
      (fun _ _ _ _ _ => pe_callS (ok_pen hP T) (hr.mono (by decide)) (by rfl) T.g_pen T.t_pen.kp T.b_pen (fun σ => passAt takes0 σ) (pa_cons (pe_callS (ok_cell_at hP T).fn (hr.mono (by decide)) (by rfl) T.g_cell_at T.t_cell_at.kp T.b_cell_at (fun σ => passAt takes0 σ) (pa_cons (pv 0) (pa_cons (pv 2) pa_nil))) pa_nil)))),
    pens_read rfl (fun ns m => by simp [callB, valA, cst, var, noA, R.bind, R.of, peeks, peekA, lenD, min2D, max2D]; split <;> split <;> omega) h⟩

theorem ok_pick (hP : HPf P) (T : Txt K mg) : VOk false P w K mg base 3 T.f_pick T.d_pick ["_law_pen_here", "_law_some"] ph_pick := PV.Fun.val T.t_pick sc_pick rfl fun cd A outer s H E hcd hr gd tk => (vss_one (vs_ret (ve_ix (ve_var 1) (ve_call (ok_draw hP T) (hr.mono (by decide)) (fun z => absurd z Bool.false_ne_true) tk (by rfl) T.g_draw T.t_draw.kp T.b_draw (va_slot 0 (va_val (ve_bf b_len (by rfl) T.n_len (by decide +kernel) (va_val (ve_var 1) va_nil)) va_nil))) (fun _ _ => rfl))))
theorem ok_finals (hP : HPf P) (T : Txt K mg) : VOk false P w K mg base 3 T.f_finals T.d_finals ["_law_pen_here", "_law_many"] ph_finals := PV.Fun.val T.t_finals sc_finals rfl fun cd A outer s H E hcd hr gd tk => (vss_kill true [] (vss_one (vs_ret (ve_bty b_tuple (by rfl) T.n_tuple (by decide +kernel) (va_val (ve_new (vn_lc (own := [("_law_at", 2)]) rfl sc_finals.nd (vi_range1 (by rfl) T.n_range (va_val (ve_var 1) va_nil)) (blkOk_by (N := ["_law_pen_here", "_law_many", "_law_at"]) (sc := defScope s_finals) (by decide +kernel)) (by decide) (fun _ _ _ _ _ => (vg_name (i := 2) sc_finals.nd rfl (by first | exact Or.inl rfl | exact Or.inr rfl))) (fun _ _ _ _ _ => vts_one (vt_cmp o_igt (ve_call (ok_draw hP T) (hr.mono (by decide)) (fun z => absurd z Bool.false_ne_true) takes0 (by rfl) T.g_draw T.t_draw.kp T.b_draw (va_slot 0 (va_val ve_int va_nil))) ve_int (nomark _))) (fun _ _ _ _ _ => (ve_var 2)))) va_nil)))))
theorem ok_p_Question_reached (hP : HPf P) (T : Txt K mg) : VOk false P w K mg base 4 T.f_p_Question_reached T.d_p_Question_reached ["self"] ph_p_Question_reached := PV.Fun.val T.t_p_Question_reached sc_p_Question_reached rfl fun cd A outer s H E hcd hr gd tk => (vss_kill true [] (vss_cons (vs_own (i := 1) sc_p_Question_reached.nd rfl (by first | exact Or.inl rfl | exact Or.inr rfl) (vn_dOneT (u1 hr.units) (ve_meth0 (k := 1) (g := false) (ve_var 0) (MethV.cons T.k_Handing T.m_Handing_first (ok_p_Handing_first hP T) (by decide) T.b_p_Handing_first MethV.nil) (hr.mono (by decide)) (fun z => absurd z Bool.false_ne_true) tk) (ve_tup va_nil))) (vss_cons (vs_own (i := 2) sc_p_Question_reached.nd rfl (by first | exact Or.inl rfl | exact Or.inr rfl) (vn_lst (va_val (ve_meth0 (k := 1) (g := false) (ve_var 0) (MethV.cons T.k_Handing T.m_Handing_first (ok_p_Handing_first hP T) (by decide) T.b_p_Handing_first MethV.nil) (hr.mono (by decide)) (fun z => absurd z Bool.false_ne_true) tk) va_nil))) (vss_cons (vs_set (i := 3) sc_p_Question_reached.nd rfl (by first | exact Or.inl rfl | exact Or.inr rfl) ve_int) (vss_cons (vs_while 8192 (passes_of rfl) (vt_cmp o_ilt (ve_var 3) (ve_bf b_len (by rfl) T.n_len (by decide +kernel) (va_slot 2 va_nil)) (nomark _)) (show VSs _ _ _ L_p_Question_reached_2 from vss_kill true [false, false, false, false, true, true] (vss_cons (vs_for (passes_of rfl) rfl (vi_seq (ve_meth (k := 3) (g := false) (ve_var 0) (MethV.cons T.k_Handing T.m_Handing_moves (ok_p_Handing_moves hP T) (by decide) T.b_p_Handing_moves MethV.nil) (hr.mono (by decide)) (fun z => absurd z Bool.false_ne_true) tk (va_val (ve_ixSl 2 (ve_var 3) (fun _ _ => rfl)) va_nil))) (vg_tup (n := 2) rfl (vgs_cons (vg_name (i := 4) sc_p_Question_reached.nd rfl (by first | exact Or.inl rfl | exact Or.inr rfl)) (vgs_cons (vg_name (i := 5) sc_p_Question_reached.nd rfl (by first | exact Or.inl rfl | exact Or.inr rfl)) vgs_nil))) (show VSs _ _ _ L_p_Question_reached_1 from vss_kill true [false, false, false, false, true, true] (vss_one (vs_if (vt_pc (vp_dnotinT (u1 hr.units) 1 (ve_var 5))) (vss_cons (vs_dputT (u1 hr.units) 1 (ve_tup (va_star (ve_dgetT (u1 hr.units) 1 (ve_ixSl 2 (ve_var 3) (fun _ _ => rfl)) (fun _ _ => rfl)) (va_val (ve_var 4) va_nil))) (ve_var 5)) (vss_one (vs_append 2 (ve_var 5)))) vss_nil)))) (vss_one (vs_aug (i := 3) sc_p_Question_reached.nd rfl (by first | exact Or.inl rfl | exact Or.inr rfl) ve_int (ip_int ip_add)))))) (vss_one (vs_ret (ve_lock 1))))))))
theorem ok_p_Relay_question (hP : HPf P) (T : Txt K mg) : VOk false P w K mg base 4 T.f_p_Relay_question T.d_p_Relay_question ["self", "way", "room"] ph_p_Relay_question := PV.Fun.val T.t_p_Relay_question sc_p_Relay_question rfl fun cd A outer s H E hcd hr gd tk => (vss_kill true [] (vss_cons (vs_expr (ve_call (ok_p_need_way_and_room hP T) (hr.mono (by decide)) (fun z => absurd z Bool.false_ne_true) tk (by rfl) T.g_p_need_way_and_room T.t_p_need_way_and_room.kp T.b_p_need_way_and_room (va_val (ve_var 1) (va_val (ve_var 2) va_nil)))) (vss_one (vs_ret (ve_new (vn_make T.mk_Handing (ok_p_Handing_init hP T) (hr.mono (by decide)) (fun z => absurd z Bool.false_ne_true) tk (by rfl) T.gK_Handing T.k_Handing.ns T.b_p_Handing_init (va_val (ve_var 0) (va_val (ve_var 1) (va_val (ve_var 2) va_nil)))))))))
theorem ok_relay_step (hP : HPf P) (T : Txt K mg) : VOk false P w K mg base 4 T.f_relay_step T.d_relay_step ["_law_pen_here"] ph_relay_step := PV.Fun.val T.t_relay_step sc_relay_step rfl fun cd A outer s H E hcd hr gd tk => (vss_kill true [] (vss_one (vs_ret (ve_call (ok_pick hP T) (hr.mono (by decide)) (fun z => absurd z Bool.false_ne_true) tk (by rfl) T.g_pick T.t_pick.kp T.b_pick (va_slot 0 (va_val (ve_new (vn_lst (va_val ve_str (va_val ve_str (va_val ve_str (va_val ve_str (va_val ve_str (va_val ve_str (va_val ve_str (va_val ve_str (va_val ve_str (va_val ve_str va_nil)))))))))))) va_nil))))))
theorem ok_known (hP : HPf P) (T : Txt K mg) : VOk false P w K mg base 4 T.f_known T.d_known ["_law_pen_here"] ph_known := PV.Fun.val T.t_known sc_known rfl fun cd A outer s H E hcd hr gd tk => (vss_kill true [] (vss_cons (vs_set (i := 1) sc_known.nd rfl (by first | exact Or.inl rfl | exact Or.inr rfl) (ve_new (vn_lst (va_val (ve_new (vn_lst (va_val ve_str (va_val ve_str va_nil)))) (va_val (ve_new (vn_lst (va_val ve_str (va_val ve_str (va_val ve_str va_nil))))) (va_val (ve_new (vn_lst (va_val ve_str (va_val ve_str (va_val ve_str va_nil))))) (va_val (ve_new (vn_lst (va_val ve_str (va_val ve_str (va_val ve_str va_nil))))) va_nil))))))) (vss_cons (vs_set (i := 1) sc_known.nd rfl (by first | exact Or.inl rfl | exact Or.inr rfl) (ve_op o_add (ve_var 1) (ve_new (vn_lst (va_val (ve_new (vn_lst (va_val ve_str (va_val ve_str (va_val ve_str va_nil))))) (va_val (ve_new (vn_lst (va_val ve_str (va_val ve_str (va_val ve_str va_nil))))) (va_val (ve_new (vn_lst (va_val ve_str (va_val ve_str (va_val ve_str (va_val ve_str (va_val ve_str va_nil))))))) va_nil))))))) (vss_cons (vs_set (i := 1) sc_known.nd rfl (by first | exact Or.inl rfl | exact Or.inr rfl) (ve_op o_add (ve_var 1) (ve_new (vn_lst (va_val (ve_new (vn_lst (va_val ve_str (va_val ve_str (va_val ve_str va_nil))))) (va_val (ve_new (vn_lst (va_val ve_str (va_val ve_str (va_val ve_str (va_val ve_str (va_val ve_str (va_val ve_str va_nil)))))))) va_nil)))))) (vss_cons (vs_set (i := 1) sc_known.nd rfl (by first | exact Or.inl rfl | exact Or.inr rfl) (ve_op o_add (ve_var 1) (ve_new (vn_lst (va_val (ve_new (vn_lst (va_val ve_str (va_val ve_str (va_val ve_str (va_val ve_str va_nil)))))) (va_val (ve_new (vn_lst (va_val ve_str (va_val ve_str (va_val ve_str va_nil))))) va_nil)))))) (vss_cons (vs_set (i := 2) sc_known.nd rfl (by first | exact Or.inl rfl | exact Or.inr rfl) (ve_call (ok_pick hP T) (hr.mono (by decide)) (fun z => absurd z Bool.false_ne_true) tk (by rfl) T.g_pick T.t_pick.kp T.b_pick (va_slot 0 (va_val (ve_var 1) va_nil)))) (vss_cons (vs_set (i := 3) sc_known.nd rfl (by first | exact Or.inl rfl | exact Or.inr rfl) (ve_call (ok_pick hP T) (hr.mono (by decide)) (fun z => absurd z Bool.false_ne_true) tk (by rfl) T.g_pick T.t_pick.kp T.b_pick (va_slot 0 (va_val (ve_new (vn_lst (va_val (ve_tup (va_val ve_int va_nil)) (va_val (ve_tup (va_val ve_int va_nil)) (va_val (ve_tup (va_val (ve_op o_isub (ve_bf b_len (by rfl) T.n_len (by decide +kernel) (va_val (ve_var 2) va_nil)) ve_int) va_nil)) va_nil))))) va_nil)))) (vss_one (vs_ret (ve_tup (va_val (ve_bty b_tuple (by rfl) T.n_tuple (by decide +kernel) (va_val (ve_new (vn_lc (own := [("_law_at", 4), ("_law_step", 5)]) rfl sc_known.nd (vi_enum (by rfl) T.n_enumerate (va_val (ve_var 2) va_nil)) (blkOk_by (N := ["_law_pen_here", "_law_rows", "_law_row", "_law_finals_here", "_law_at", "_law_step"]) (sc := defScope s_known) (by decide +kernel)) (by decide) (fun _ _ _ _ _ => (vg_tup (n := 2) rfl (vgs_cons (vg_name (i := 4) sc_known.nd rfl (by first | exact Or.inl rfl | exact Or.inr rfl)) (vgs_cons (vg_name (i := 5) sc_known.nd rfl (by first | exact Or.inl rfl | exact Or.inr rfl)) vgs_nil)))) (fun _ _ _ _ _ => vts_nil) (fun _ _ _ _ _ => (ve_tup (va_val (ve_tup (va_val (ve_var 5) (va_val (ve_call (ok_rest hP T) (hr.mono (by decide)) (fun z => absurd z Bool.false_ne_true) takes0 (by rfl) T.g_rest T.t_rest.kp T.b_rest (va_val (ve_op o_add (ve_var 4) ve_int) (va_val (ve_bf b_len (by rfl) T.n_len (by decide +kernel) (va_val (ve_var 2) va_nil)) va_nil))) va_nil))) va_nil))))) va_nil)) (va_val (ve_var 3) va_nil))))))))))))
theorem ok_p_Question_run (hP : HPf P) (T : Txt K mg) : VOk false P w K mg base 5 T.f_p_Question_run T.d_p_Question_run ["self"] ph_p_Question_run := PV.Fun.val T.t_p_Question_run sc_p_Question_run rfl fun cd A outer s H E hcd hr gd tk => (vss_kill true [] (vss_cons (vs_for (passes_of rfl) rfl (vi_itemsT (ve_meth0 (k := 4) (g := false) (ve_var 0) (MethV.cons T.k_Handing T.m_Handing_reached (ok_p_Question_reached hP T) (by decide) T.b_p_Question_reached MethV.nil) (hr.mono (by decide)) (fun z => absurd z Bool.false_ne_true) tk)) (vg_tup (n := 2) rfl (vgs_cons (vg_name (i := 1) sc_p_Question_run.nd rfl (by first | exact Or.inl rfl | exact Or.inr rfl)) (vgs_cons (vg_name (i := 2) sc_p_Question_run.nd rfl (by first | exact Or.inl rfl | exact Or.inr rfl)) vgs_nil))) (show VSs _ _ _ L_p_Question_run_1 from vss_kill true [false, true, true] (vss_one (vs_if (vt_val (ve_meth (k := 1) (g := false) (ve_var 0) (MethV.cons T.k_Handing T.m_Handing_is_bad (ok_p_Handing_is_bad hP T) (by decide) T.b_p_Handing_is_bad MethV.nil) (hr.mono (by decide)) (fun z => absurd z Bool.false_ne_true) tk (va_val (ve_var 1) va_nil))) (vss_one (vs_ret (ve_var 2))) vss_nil)))) (vss_one (vs_ret ve_non))))
theorem ok_relay_nodes (hP : HPf P) (T : Txt K mg) : VOk false P w K mg base 5 T.f_relay_nodes T.d_relay_nodes ["_law_pen_here", "_law_most"] ph_relay_nodes := PV.Fun.val T.t_relay_nodes sc_relay_nodes rfl fun cd A outer s H E hcd hr gd tk => (vss_kill true [] (vss_cons (vs_parT (n := 3) rfl (gn_cons (i := 3) sc_relay_nodes.nd rfl (by first | exact Or.inl rfl | exact Or.inr rfl) (gn_cons (i := 4) sc_relay_nodes.nd rfl (by first | exact Or.inl rfl | exact Or.inr rfl) (gn_cons (i := 5) sc_relay_nodes.nd rfl (by first | exact Or.inl rfl | exact Or.inr rfl) gn_nil))) (vl_val (ve_op o_add ve_int (ve_call (ok_draw hP T) (hr.mono (by decide)) (fun z => absurd z Bool.false_ne_true) tk (by rfl) T.g_draw T.t_draw.kp T.b_draw (va_slot 0 (va_val (ve_var 1) va_nil)))) (vl_own (vn_lst va_nil) (vl_val (ve_call (ok_draw hP T) (hr.mono (by decide)) (fun z => absurd z Bool.false_ne_true) tk (by rfl) T.g_draw T.t_draw.kp T.b_draw (va_slot 0 (va_val ve_int va_nil))) vl_nil)))) (vss_cons (vs_for (passes_of rfl) rfl (vi_range1 (by rfl) T.n_range (va_val (ve_var 3) va_nil)) (vg_name (i := 2) sc_relay_nodes.nd rfl (by first | exact Or.inl rfl | exact Or.inr rfl)) (show VSs _ _ _ L_relay_nodes_1 from vss_kill true [false, false, true, false, false, false, true, true, false] (vss_cons (vs_set (i := 6) sc_relay_nodes.nd rfl (by first | exact Or.inl rfl | exact Or.inr rfl) (ve_call (ok_pick hP T) (hr.mono (by decide)) (fun z => absurd z Bool.false_ne_true) tk (by rfl) T.g_pick T.t_pick.kp T.b_pick (va_slot 0 (va_val (ve_new (vn_lst (va_val ve_int (va_val ve_int (va_val ve_int (va_val ve_int (va_val ve_int (va_val ve_int va_nil)))))))) va_nil)))) (vss_cons (vs_setLc (i := 7) (own := [("_law_lap", 8)]) rfl sc_relay_nodes.nd rfl rfl (sw_true rfl rfl rfl (by decide +kernel)) (vi_range1 (by rfl) T.n_range (va_val (ve_var 6) va_nil)) (blkOk_by (N := ["_law_pen_here", "_law_most", "_law_at", "_law_many", "_law_nodes", "_law_way", "_law_wide", "_law_edges", "_law_lap"]) (sc := defScope s_relay_nodes) (by decide +kernel)) (by decide) (fun _ _ _ _ _ => (vg_name (i := 8) sc_relay_nodes.nd rfl (by first | exact Or.inl rfl | exact Or.inr rfl))) (fun _ _ _ _ _ => vts_nil) (fun _ _ _ _ _ => (ve_tup (va_val (ve_call (ok_relay_step hP T) (hr.mono (by decide)) (fun z => absurd z Bool.false_ne_true) takes0 (by rfl) T.g_relay_step T.t_relay_step.kp T.b_relay_step (va_slot 0 va_nil)) (va_val (ve_call (ok_draw hP T) (hr.mono (by decide)) (fun z => absurd z Bool.false_ne_true) takes0 (by rfl) T.g_draw T.t_draw.kp T.b_draw (va_slot 0 (va_val (ve_var 3) va_nil))) va_nil))))) (vss_cons (vs_if (vt_w (vw_and (vt_cmp o_igt (ve_var 5) ve_int (nomark _)) (vw_and1 (vt_w (vw_or (vt_cmp o_ilt (ve_op o_add (ve_var 2) ve_int) (ve_var 3) (nomark _)) (vw_or1 (vt_cmp (o_eq hr.units) (ve_var 5) ve_int (nomark _)))))))) (vss_one (vs_set (i := 7) sc_relay_nodes.nd rfl (by first | exact Or.inl rfl | exact Or.inr rfl) (ve_op o_add (ve_new (vn_lst (va_val (ve_tup (va_val (ve_call (ok_relay_step hP T) (hr.mono (by decide)) (fun z => absurd z Bool.false_ne_true) tk (by rfl) T.g_relay_step T.t_relay_step.kp T.b_relay_step (va_slot 0 va_nil)) (va_val (ve_call (ok_rest hP T) (hr.mono (by decide)) (fun z => absurd z Bool.false_ne_true) tk (by rfl) T.g_rest T.t_rest.kp T.b_rest (va_val (ve_op o_add (ve_var 2) ve_int) (va_val (ve_var 3) va_nil))) va_nil))) va_nil))) (ve_slice (ve_var 7) (vo_some ve_int) vo_none)))) vss_nil) (vss_one (vs_append 4 (ve_bty b_tuple (by rfl) T.n_tuple (by decide +kernel) (va_val (ve_var 7) va_nil))))))))) (vss_one (vs_ret (ve_bty b_tuple (by rfl) T.n_tuple (by decide +kernel) (va_slot 4 va_nil)))))))
theorem ok_relay (hP : HPf P) (T : Txt K mg) : VOk false P w K mg base 6 T.f_relay T.d_relay ["_law_pen_here", "_law_most"] ph_relay := PV.Fun.val T.t_relay sc_relay rfl fun cd A outer s H E hcd hr gd tk => (vss_kill true [] (vss_cons (vs_if (vt_cmp (o_eq hr.units) (ve_call (ok_draw hP T) (hr.mono (by decide)) (fun z => absurd z Bool.false_ne_true) tk (by rfl) T.g_draw T.t_draw.kp T.b_draw (va_slot 0 (va_val ve_int va_nil))) ve_int (nomark _)) (vss_one (vs_ret (ve_call (ok_known hP T) (hr.mono (by decide)) (fun z => absurd z Bool.false_ne_true) tk (by rfl) T.g_known T.t_known.kp T.b_known (va_slot 0 va_nil)))) vss_nil) (vss_cons (vs_set (i := 2) sc_relay.nd rfl (by first | exact Or.inl rfl | exact Or.inr rfl) (ve_call (ok_relay_nodes hP T) (hr.mono (by decide)) (fun z => absurd z Bool.false_ne_true) tk (by rfl) T.g_relay_nodes T.t_relay_nodes.kp T.b_relay_nodes (va_slot 0 (va_val (ve_var 1) va_nil)))) (vss_one (vs_ret (ve_tup (va_val (ve_var 2) (va_val (ve_call (ok_pick hP T) (hr.mono (by decide)) (fun z => absurd z Bool.false_ne_true) tk (by rfl) T.g_pick T.t_pick.kp T.b_pick (va_slot 0 (va_val (ve_new (vn_lst (va_val (ve_call (ok_finals hP T) (hr.mono (by decide)) (fun z => absurd z Bool.false_ne_true) tk (by rfl) T.g_finals T.t_finals.kp T.b_finals (va_slot 0 (va_val (ve_bf b_len (by rfl) T.n_len (by decide +kernel) (va_val (ve_var 2) va_nil)) va_nil))) (va_val (ve_tup (va_val ve_int va_nil)) (va_val (ve_tup (va_val (ve_op o_isub (ve_bf b_len (by rfl) T.n_len (by decide +kernel) (va_val (ve_var 2) va_nil)) ve_int) va_nil)) va_nil))))) va_nil))) va_nil))))))))
theorem ok_law (hP : HPf P) (T : Txt K mg) : VOk false P w K mg base 7 T.f_law T.d_law ["_law_script"] ph_law := PV.Fun.val T.t_law sc_law rfl fun cd A outer s H E hcd hr gd tk => (vss_kill true [] (vss_cons (PS.to (ps_for (passes_of rfl) rfl (pi_list (pe_callS (ok_pens hP T) (hr.mono (by decide)) (by rfl) T.g_pens T.t_pens.kp T.b_pens (fun σ => passAt tk σ) (pa_cons (pv 0) (pa_cons pe_int pa_nil)))) (pg_name (i := 1) sc_law.nd rfl (by first | exact Or.inl rfl | exact Or.inr rfl)) (show VSs _ _ _ L_law_2 from vss_kill true [false, true, true, true, true, true, true, true, true, true, true, false, false, false] (vss_one (vs_for (passes_of rfl) rfl (vi_range1 (by rfl) T.n_range (va_val ve_int va_nil)) (vg_name (i := 2) sc_law.nd rfl (by first | exact Or.inl rfl | exact Or.inr rfl)) (show VSs _ _ _ L_law_1 from vss_kill true [false, false, true, true, true, true, true, true, true, true, true, false, false, false] (vss_cons (vs_asg (ve_if (vt_cmp o_igt (ve_var 2) ve_int (nomark _)) (ve_call (ok_relay hP T) (hr.mono (by decide)) (fun z => absurd z Bool.false_ne_true) tk (by rfl) T.g_relay T.t_relay.kp T.b_relay (va_slot 1 (va_val ve_int va_nil))) (ve_tup (va_val (ve_tup (va_val (ve_tup (va_val (ve_tup (va_val ve_str (va_val ve_int va_nil))) va_nil)) (va_val (ve_tup (va_val (ve_tup (va_val ve_str (va_val ve_int va_nil))) va_nil)) va_nil))) (va_val (ve_tup (va_val ve_int va_nil)) va_nil)))) (vg_tup (n := 2) rfl (vgs_cons (vg_name (i := 4) sc_law.nd rfl (by first | exact Or.inl rfl | exact Or.inr rfl)) (vgs_cons (vg_name (i := 6) sc_law.nd rfl (by first | exact Or.inl rfl | exact Or.inr rfl)) vgs_nil)))) (vss_cons (vs_set (i := 3) sc_law.nd rfl (by first | exact Or.inl rfl | exact Or.inr rfl) (ve_call (ok_pick hP T) (hr.mono (by decide)) (fun z => absurd z Bool.false_ne_true) tk (by rfl) T.g_pick T.t_pick.kp T.b_pick (va_slot 1 (va_val (ve_new (vn_lst (va_val ve_str (va_val ve_str (va_val ve_str (va_val ve_str va_nil)))))) va_nil)))) (vss_cons (vs_set (i := 4) sc_law.nd rfl (by first | exact Or.inl rfl | exact Or.inr rfl) (ve_bty b_tuple (by rfl) T.n_tuple (by decide +kernel) (va_val (ve_new (vn_lc (own := [("_law_node", 11)]) rfl sc_law.nd (vi_seq (ve_var 4)) (blkOk_by (N := ["_law_script", "_law_pen_here", "_law_turn", "_law_other", "_law_nodes", "_law_has_both", "_law_finals_here", "_law_relay_here", "_law_room", "_law_lost", "_law_twice", "_law_node", "_law_step", "_law_there"]) (sc := defScope s_law) (by decide +kernel)) (by decide) (fun _ _ _ _ _ => (vg_name (i := 11) sc_law.nd rfl (by first | exact Or.inl rfl | exact Or.inr rfl))) (fun _ _ _ _ _ => vts_nil) (fun _ _ _ _ _ => (ve_bty b_tuple (by rfl) T.n_tuple (by decide +kernel) (va_val (ve_new (vn_lc (own := [("_law_step", 12), ("_law_there", 13)]) rfl sc_law.nd (vi_seq (ve_var 11)) (blkOk_by (by kernel_rfl)) (by decide) (fun _ _ _ _ _ => (vg_tup (n := 2) rfl (vgs_cons (vg_name (i := 12) sc_law.nd rfl (by first | exact Or.inl rfl | exact Or.inr rfl)) (vgs_cons (vg_name (i := 13) sc_law.nd rfl (by first | exact Or.inl rfl | exact Or.inr rfl)) vgs_nil)))) (fun _ _ _ _ _ => vts_nil) (fun _ _ _ _ _ => (ve_tup (va_val (ve_if (vt_cmp (o_eq hr.units) (ve_var 12) ve_str (nomark _)) (ve_var 3) (ve_var 12)) (va_val (ve_var 13) va_nil)))))) va_nil))))) va_nil))) (vss_cons (vs_par2 (i := 7) (j := 8) rfl sc_law.nd rfl rfl (by decide) rfl rfl (vl_val (ve_new (vn_make T.mk_Relay (ok_p_Relay_init hP T) (hr.mono (by decide)) (fun z => absurd z Bool.false_ne_true) tk (by rfl) T.gK_Relay T.k_Relay.ns T.b_p_Relay_init (va_val (ve_var 4) (va_val (ve_var 6) va_nil)))) (vl_val (ve_call (ok_pick hP T) (hr.mono (by decide)) (fun z => absurd z Bool.false_ne_true) tk (by rfl) T.g_pick T.t_pick.kp T.b_pick (va_slot 1 (va_val (ve_new (vn_lst (va_val ve_int (va_val ve_int (va_val ve_int va_nil))))) va_nil))) vl_nil))) (vss_cons (vs_par2 (i := 9) (j := 10) rfl sc_law.nd rfl rfl (by decide) rfl rfl (vl_val (ve_meth0 (k := 5) (g := false) (ve_meth (k := 4) (g := false) (ve_var 7) (MethV.cons T.k_Relay T.m_Relay_question (ok_p_Relay_question hP T) (by decide) T.b_p_Relay_question MethV.nil) (hr.mono (by decide)) (fun z => absurd z Bool.false_ne_true) tk (va_val ve_str (va_val (ve_var 8) va_nil))) (MethV.cons T.k_Handing T.m_Handing_run (ok_p_Question_run hP T) (by decide) T.b_p_Question_run MethV.nil) (hr.mono (by decide)) (fun z => absurd z Bool.false_ne_true) tk) (vl_val (ve_meth0 (k := 5) (g := false) (ve_meth (k := 4) (g := false) (ve_var 7) (MethV.cons T.k_Relay T.m_Relay_question (ok_p_Relay_question hP T) (by decide) T.b_p_Relay_question MethV.nil) (hr.mono (by decide)) (fun z => absurd z Bool.false_ne_true) tk (va_val ve_str (va_val (ve_var 8) va_nil))) (MethV.cons T.k_Handing T.m_Handing_run (ok_p_Question_run hP T) (by decide) T.b_p_Question_run MethV.nil) (hr.mono (by decide)) (fun z => absurd z Bool.false_ne_true) tk) vl_nil))) (vss_cons (vs_set (i := 5) sc_law.nd rfl (by first | exact Or.inl rfl | exact Or.inr rfl) (ve_cmp (o_neZ hr.units) (ve_new (vn_lc (own := [("_law_node", 11)]) rfl sc_law.nd (vi_seq (ve_var 4)) (blkOk_by (N := ["_law_script", "_law_pen_here", "_law_turn", "_law_other", "_law_nodes", "_law_has_both", "_law_finals_here", "_law_relay_here", "_law_room", "_law_lost", "_law_twice", "_law_node", "_law_step", "_law_there"]) (sc := defScope s_law) (by decide +kernel)) (by decide) (fun _ _ _ _ _ => (vg_name (i := 11) sc_law.nd rfl (by first | exact Or.inl rfl | exact Or.inr rfl))) (fun _ _ _ _ _ => vts_one (vt_cmp (o_neZ hr.units) (ve_new (vn_lc (own := [("_law_step", 12), ("_law_there", 13)]) rfl sc_law.nd (vi_seq (ve_var 11)) (blkOk_by (by kernel_rfl)) (by decide) (fun _ _ _ _ _ => (vg_tup (n := 2) rfl (vgs_cons (vg_name (i := 12) sc_law.nd rfl (by first | exact Or.inl rfl | exact Or.inr rfl)) (vgs_cons (vg_name (i := 13) sc_law.nd rfl (by first | exact Or.inl rfl | exact Or.inr rfl)) vgs_nil)))) (fun _ _ _ _ _ => vts_one (vt_cmp (o_eq hr.units) (ve_var 12) ve_str (nomark _))) (fun _ _ _ _ _ => ve_int))) (ve_new (vn_lst va_nil)) (nomark _))) (fun _ _ _ _ _ => ve_int))) (ve_new (vn_lst va_nil)) (nomark _))) (vss_one (vs_if (vt_val (ve_call (ok_marks hP T) (hr.mono (by decide)) (fun z => absurd z Bool.false_ne_true) tk (by rfl) T.g_marks T.t_marks.kp T.b_marks (va_val (ve_var 4) va_nil))) (vss_one (vs_if (vt_w (vw_and (vt_not (vt_val (ve_var 5))) (vw_and (vt_cmp o_isN (ve_var 9) ve_non (nomark _)) (vw_and1 (vt_cmp o_isN (ve_var 10) ve_non (nomark _)))))) (vss_one (vs_ret ve_bl)) vss_nil)) (vss_one (vs_if (vt_cmp o_notN (ve_var 9) ve_non (nomark _)) (vss_one (vs_ret ve_bl)) vss_nil))))))))))))))) fun _ _ _ z => rd_pens z) (vss_one (vs_ret ve_bl))))
end
end K94

namespace K94
open PySem PySem.Spec PyProof.Rows L2 PV
theorem all_mk {l : PySem.W.OpenLaw} {q : Program} {w : World} {K : PySem.W.Frag} {h : Heap} {mg : Str → Option Value} {fa : Addr} (hP : HPf l.prog) (X : K.In h) (G : h.Ns mainGlobals mg) (hfa : mg "law" = some (.ref fa))
    {K_Relay : Addr}
    {K_Handing : Addr}
    {C_InvalidGraph : Addr}
    {C_InvalidRoom : Addr}
    {C_InvalidWay : Addr}
    {tk_CRASH : Tok}
    {a_MARKING : Addr} {od_MARKING : Option Addr} {n_MARKING : Nat} {sl_MARKING : Array (Option Value)} {tMARKING_0 tMARKING_1 : Tok}
    {tk_MOST_EDGES : Tok}
    {tk_MOST_NODES : Tok}
    {tk_MOST_ROOM : Tok}
    {tk_OTHER : Tok}
    {a_PASSING : Addr} {od_PASSING : Option Addr} {n_PASSING : Nat} {sl_PASSING : Array (Option Value)} {tPASSING_0 tPASSING_1 : Tok}
    {a_STEPS : Addr} {od_STEPS : Option Addr} {n_STEPS : Nat} {sl_STEPS : Array (Option Value)} {tSTEPS_0 tSTEPS_1 tSTEPS_2 tSTEPS_3 tSTEPS_4 : Tok}
    {a_WAYS : Addr} {od_WAYS : Option Addr} {n_WAYS : Nat} {sl_WAYS : Array (Option Value)} {tWAYS_0 tWAYS_1 tWAYS_2 tWAYS_3 : Tok}
    {f_p_is_between : Addr} {od_p_is_between an_p_is_between : Option Addr} {sl_p_is_between : Array (Option Value)} {oc_p_is_between kV_p_is_between dc_p_is_between pm_p_is_between cd_p_is_between ct_p_is_between : Value}
    {f_p_are_nodes : Addr} {od_p_are_nodes an_p_are_nodes : Option Addr} {sl_p_are_nodes : Array (Option Value)} {oc_p_are_nodes kV_p_are_nodes dc_p_are_nodes pm_p_are_nodes cd_p_are_nodes ct_p_are_nodes : Value}
    {f_p_are_finals : Addr} {od_p_are_finals an_p_are_finals : Option Addr} {sl_p_are_finals : Array (Option Value)} {oc_p_are_finals kV_p_are_finals dc_p_are_finals pm_p_are_finals cd_p_are_finals ct_p_are_finals : Value}
    {f_p_Graph_init : Addr} {od_p_Graph_init an_p_Graph_init : Option Addr} {sl_p_Graph_init : Array (Option Value)} {oc_p_Graph_init kV_p_Graph_init dc_p_Graph_init pm_p_Graph_init cd_p_Graph_init ct_p_Graph_init : Value}
    {f_p_Question_init : Addr} {od_p_Question_init an_p_Question_init : Option Addr} {sl_p_Question_init : Array (Option Value)} {oc_p_Question_init kV_p_Question_init dc_p_Question_init pm_p_Question_init cd_p_Question_init ct_p_Question_init : Value}
    {f_p_Question_reached : Addr} {od_p_Question_reached an_p_Question_reached : Option Addr} {sl_p_Question_reached : Array (Option Value)} {oc_p_Question_reached kV_p_Question_reached dc_p_Question_reached pm_p_Question_reached cd_p_Question_reached ct_p_Question_reached : Value}
    {f_p_Question_run : Addr} {od_p_Question_run an_p_Question_run : Option Addr} {sl_p_Question_run : Array (Option Value)} {oc_p_Question_run kV_p_Question_run dc_p_Question_run pm_p_Question_run cd_p_Question_run ct_p_Question_run : Value}
    {f_p_is_relay_step : Addr} {od_p_is_relay_step an_p_is_relay_step : Option Addr} {sl_p_is_relay_step : Array (Option Value)} {oc_p_is_relay_step kV_p_is_relay_step dc_p_is_relay_step pm_p_is_relay_step cd_p_is_relay_step ct_p_is_relay_step : Value}
    {f_p_need_way_and_room : Addr} {od_p_need_way_and_room an_p_need_way_and_room : Option Addr} {sl_p_need_way_and_room : Array (Option Value)} {oc_p_need_way_and_room kV_p_need_way_and_room dc_p_need_way_and_room pm_p_need_way_and_room cd_p_need_way_and_room ct_p_need_way_and_room : Value}
    {f_p_Relay_init : Addr} {od_p_Relay_init an_p_Relay_init : Option Addr} {sl_p_Relay_init : Array (Option Value)} {oc_p_Relay_init kV_p_Relay_init dc_p_Relay_init pm_p_Relay_init ct_p_Relay_init : Value}
    {cc_p_Relay_init Dc_p_Relay_init cda_p_Relay_init : Addr} {ocl_p_Relay_init : Value} {ocd_p_Relay_init : Option Addr} {ocs_p_Relay_init : Array (Option Value)} {cl2_p_Relay_init : Value} {cd2_p_Relay_init : Option Addr} {vs_p_Relay_init : Array Value} {cs2_p_Relay_init : Array (Option Value)} {tf_p_Relay_init : Tok} {cdD_p_Relay_init : ClassData}
    {cdC_p_Relay_init_Relay : ClassData}
    {f_p_Relay_question : Addr} {od_p_Relay_question an_p_Relay_question : Option Addr} {sl_p_Relay_question : Array (Option Value)} {oc_p_Relay_question kV_p_Relay_question dc_p_Relay_question pm_p_Relay_question cd_p_Relay_question ct_p_Relay_question : Value}
    {f_p_Handing_init : Addr} {od_p_Handing_init an_p_Handing_init : Option Addr} {sl_p_Handing_init : Array (Option Value)} {oc_p_Handing_init kV_p_Handing_init dc_p_Handing_init pm_p_Handing_init ct_p_Handing_init : Value}
    {cc_p_Handing_init Dc_p_Handing_init cda_p_Handing_init : Addr} {ocl_p_Handing_init : Value} {ocd_p_Handing_init : Option Addr} {ocs_p_Handing_init : Array (Option Value)} {cl2_p_Handing_init : Value} {cd2_p_Handing_init : Option Addr} {vs_p_Handing_init : Array Value} {cs2_p_Handing_init : Array (Option Value)} {tf_p_Handing_init : Tok} {cdD_p_Handing_init : ClassData}
    {cdC_p_Handing_init_Handing : ClassData}
    {f_p_Handing_first : Addr} {od_p_Handing_first an_p_Handing_first : Option Addr} {sl_p_Handing_first : Array (Option Value)} {oc_p_Handing_first kV_p_Handing_first dc_p_Handing_first pm_p_Handing_first cd_p_Handing_first ct_p_Handing_first : Value}
    {f_p_Handing_moves : Addr} {od_p_Handing_moves an_p_Handing_moves : Option Addr} {sl_p_Handing_moves : Array (Option Value)} {oc_p_Handing_moves kV_p_Handing_moves dc_p_Handing_moves pm_p_Handing_moves cd_p_Handing_moves ct_p_Handing_moves : Value}
    {f_p_Handing_behind : Addr} {od_p_Handing_behind an_p_Handing_behind : Option Addr} {sl_p_Handing_behind : Array (Option Value)} {oc_p_Handing_behind kV_p_Handing_behind dc_p_Handing_behind pm_p_Handing_behind cd_p_Handing_behind ct_p_Handing_behind : Value}
    {f_p_Handing_amiss : Addr} {od_p_Handing_amiss an_p_Handing_amiss : Option Addr} {sl_p_Handing_amiss : Array (Option Value)} {oc_p_Handing_amiss kV_p_Handing_amiss dc_p_Handing_amiss pm_p_Handing_amiss cd_p_Handing_amiss ct_p_Handing_amiss : Value}
    {f_p_Handing_missing : Addr} {od_p_Handing_missing an_p_Handing_missing : Option Addr} {sl_p_Handing_missing : Array (Option Value)} {oc_p_Handing_missing kV_p_Handing_missing dc_p_Handing_missing pm_p_Handing_missing cd_p_Handing_missing ct_p_Handing_missing : Value}
    {f_p_Handing_is_bad : Addr} {od_p_Handing_is_bad an_p_Handing_is_bad : Option Addr} {sl_p_Handing_is_bad : Array (Option Value)} {oc_p_Handing_is_bad kV_p_Handing_is_bad dc_p_Handing_is_bad pm_p_Handing_is_bad cd_p_Handing_is_bad ct_p_Handing_is_bad : Value}
    {f_rest : Addr} {od_rest an_rest : Option Addr} {sl_rest : Array (Option Value)} {oc_rest kV_rest dc_rest pm_rest cd_rest ct_rest : Value}
    {f_pen : Addr} {od_pen an_pen : Option Addr} {sl_pen : Array (Option Value)} {oc_pen kV_pen dc_pen pm_pen cd_pen ct_pen : Value}
    {f_cell_at : Addr} {od_cell_at an_cell_at : Option Addr} {sl_cell_at : Array (Option Value)} {oc_cell_at kV_cell_at dc_cell_at pm_cell_at cd_cell_at ct_cell_at : Value}
    {f_pens : Addr} {od_pens an_pens : Option Addr} {sl_pens : Array (Option Value)} {oc_pens kV_pens dc_pens pm_pens cd_pens ct_pens : Value}
    {f_draw : Addr} {od_draw an_draw : Option Addr} {sl_draw : Array (Option Value)} {oc_draw kV_draw dc_draw pm_draw cd_draw ct_draw : Value}
    {f_pick : Addr} {od_pick an_pick : Option Addr} {sl_pick : Array (Option Value)} {oc_pick kV_pick dc_pick pm_pick cd_pick ct_pick : Value}
    {f_relay_step : Addr} {od_relay_step an_relay_step : Option Addr} {sl_relay_step : Array (Option Value)} {oc_relay_step kV_relay_step dc_relay_step pm_relay_step cd_relay_step ct_relay_step : Value}
    {f_relay_nodes : Addr} {od_relay_nodes an_relay_nodes : Option Addr} {sl_relay_nodes : Array (Option Value)} {oc_relay_nodes kV_relay_nodes dc_relay_nodes pm_relay_nodes cd_relay_nodes ct_relay_nodes : Value}
    {f_finals : Addr} {od_finals an_finals : Option Addr} {sl_finals : Array (Option Value)} {oc_finals kV_finals dc_finals pm_finals cd_finals ct_finals : Value}
    {f_known : Addr} {od_known an_known : Option Addr} {sl_known : Array (Option Value)} {oc_known kV_known dc_known pm_known cd_known ct_known : Value}
    {f_relay : Addr} {od_relay an_relay : Option Addr} {sl_relay : Array (Option Value)} {oc_relay kV_relay dc_relay pm_relay cd_relay ct_relay : Value}
    {f_marks : Addr} {od_marks an_marks : Option Addr} {sl_marks : Array (Option Value)} {oc_marks kV_marks dc_marks pm_marks cd_marks ct_marks : Value}
    {f_law : Addr} {od_law an_law : Option Addr} {sl_law : Array (Option Value)} {oc_law kV_law dc_law pm_law cd_law ct_law : Value}
    (kn_Relay : PySem.W.nsIn K mainGlobals "Relay" = some (some (.ref K_Relay)))
    (kg_Relay : PySem.W.plainGet K K_Relay Str.empty = true)
    (kd_Relay : PySem.W.hasDictIn K K_Relay = true)
    (ko_Relay : PySem.W.plainOver K K_Relay = true)
    (ks_Relay : PySem.W.findIn K (.ref K_Relay) "__setattr__" = some (some (.builtin "object.__setattr__")))
    (kc_Relay : PySem.W.findIn K (.ref K_Relay) "__class__" = some (some (.builtin "object.__class__")))
    (km_Relay : PySem.W.mroIn K K_Relay (.type "object") = some true)
    (ki_Relay : PySem.W.findIn K (.ref K_Relay) "__init__" = some (some (.ref f_p_Relay_init)))
    (kk_Relay : PySem.W.makesIn K K_Relay = true)
    (kp_Relay : PySem.W.keepIn K (.ref K_Relay) = true)
    (kn_Handing : PySem.W.nsIn K mainGlobals "Handing" = some (some (.ref K_Handing)))
    (kg_Handing : PySem.W.plainGet K K_Handing Str.empty = true)
    (kd_Handing : PySem.W.hasDictIn K K_Handing = true)
    (ko_Handing : PySem.W.plainOver K K_Handing = true)
    (ks_Handing : PySem.W.findIn K (.ref K_Handing) "__setattr__" = some (some (.builtin "object.__setattr__")))
    (kc_Handing : PySem.W.findIn K (.ref K_Handing) "__class__" = some (some (.builtin "object.__class__")))
    (km_Handing : PySem.W.mroIn K K_Handing (.type "object") = some true)
    (ki_Handing : PySem.W.findIn K (.ref K_Handing) "__init__" = some (some (.ref f_p_Handing_init)))
    (kk_Handing : PySem.W.makesIn K K_Handing = true)
    (kp_Handing : PySem.W.keepIn K (.ref K_Handing) = true)
    (na_Handing_graph : PySem.W.findIn K (.ref K_Handing) "graph" = some none)
    (na_Handing_limit : PySem.W.findIn K (.ref K_Handing) "limit" = some none)
    (na_Handing_way : PySem.W.findIn K (.ref K_Handing) "way" = some none)
    (na_Relay_finals : PySem.W.findIn K (.ref K_Relay) "finals" = some none)
    (na_Relay_nodes : PySem.W.findIn K (.ref K_Relay) "nodes" = some none)
    (mt_Handing_amiss : PySem.W.findIn K (.ref K_Handing) "amiss" = some (some (.ref f_p_Handing_amiss)))
    (mt_Handing_behind : PySem.W.findIn K (.ref K_Handing) "behind" = some (some (.ref f_p_Handing_behind)))
    (mt_Handing_first : PySem.W.findIn K (.ref K_Handing) "first" = some (some (.ref f_p_Handing_first)))
    (mt_Handing_is_bad : PySem.W.findIn K (.ref K_Handing) "is_bad" = some (some (.ref f_p_Handing_is_bad)))
    (mt_Handing_missing : PySem.W.findIn K (.ref K_Handing) "missing" = some (some (.ref f_p_Handing_missing)))
    (mt_Handing_moves : PySem.W.findIn K (.ref K_Handing) "moves" = some (some (.ref f_p_Handing_moves)))
    (mt_Handing_reached : PySem.W.findIn K (.ref K_Handing) "reached" = some (some (.ref f_p_Question_reached)))
    (mt_Handing_run : PySem.W.findIn K (.ref K_Handing) "run" = some (some (.ref f_p_Question_run)))
    (mt_Relay_question : PySem.W.findIn K (.ref K_Relay) "question" = some (some (.ref f_p_Relay_question)))
    (en_InvalidGraph : PySem.W.nsIn K mainGlobals "InvalidGraph" = some (some (.ref C_InvalidGraph)))
    (ex_InvalidGraph : PySem.W.excIn K C_InvalidGraph [.type "ValueError", .type "Exception", .type "BaseException", .type "object"] "ValueError.__new__" = true)
    (ek_InvalidGraph : PySem.W.keepIn K (.ref C_InvalidGraph) = true)
    (eb_InvalidGraph : PySem.W.subIn K (.ref C_InvalidGraph) (.type "BaseException") = some true)
    (et_InvalidGraph : PySem.W.typeIn K (.ref C_InvalidGraph) = some (.type "type"))
    (en_InvalidRoom : PySem.W.nsIn K mainGlobals "InvalidRoom" = some (some (.ref C_InvalidRoom)))
    (ex_InvalidRoom : PySem.W.excIn K C_InvalidRoom [.type "ValueError", .type "Exception", .type "BaseException", .type "object"] "ValueError.__new__" = true)
    (ek_InvalidRoom : PySem.W.keepIn K (.ref C_InvalidRoom) = true)
    (eb_InvalidRoom : PySem.W.subIn K (.ref C_InvalidRoom) (.type "BaseException") = some true)
    (et_InvalidRoom : PySem.W.typeIn K (.ref C_InvalidRoom) = some (.type "type"))
    (en_InvalidWay : PySem.W.nsIn K mainGlobals "InvalidWay" = some (some (.ref C_InvalidWay)))
    (ex_InvalidWay : PySem.W.excIn K C_InvalidWay [.type "ValueError", .type "Exception", .type "BaseException", .type "object"] "ValueError.__new__" = true)
    (ek_InvalidWay : PySem.W.keepIn K (.ref C_InvalidWay) = true)
    (eb_InvalidWay : PySem.W.subIn K (.ref C_InvalidWay) (.type "BaseException") = some true)
    (et_InvalidWay : PySem.W.typeIn K (.ref C_InvalidWay) = some (.type "type"))
    (z_all : PySem.W.nsIn K mainGlobals "all" = some none)
    (z_bool : PySem.W.nsIn K mainGlobals "bool" = some none)
    (z_enumerate : PySem.W.nsIn K mainGlobals "enumerate" = some none)
    (z_int : PySem.W.nsIn K mainGlobals "int" = some none)
    (z_isinstance : PySem.W.nsIn K mainGlobals "isinstance" = some none)
    (z_len : PySem.W.nsIn K mainGlobals "len" = some none)
    (z_list : PySem.W.nsIn K mainGlobals "list" = some none)
    (z_max : PySem.W.nsIn K mainGlobals "max" = some none)
    (z_min : PySem.W.nsIn K mainGlobals "min" = some none)
    (z_range : PySem.W.nsIn K mainGlobals "range" = some none)
    (z_str : PySem.W.nsIn K mainGlobals "str" = some none)
    (z_super : PySem.W.nsIn K mainGlobals "super" = some none)
    (zst_any : PySem.W.nsIn K cStatics "thirdparty.any" = some none)
    (z_tuple : PySem.W.nsIn K mainGlobals "tuple" = some none)
    (z_zip : PySem.W.nsIn K mainGlobals "zip" = some none)
    (q_CRASH : PySem.W.nsIn K mainGlobals "CRASH" = some (some (.int (-2) tk_CRASH)))
    (q_MARKING : PySem.W.nsIn K mainGlobals "MARKING" = some (some (.ref a_MARKING)))
    (ql_MARKING : K.lookup a_MARKING = some ⟨.type "tuple", od_MARKING, .seq #[.str "mark" tMARKING_0, .str "both" tMARKING_1] n_MARKING, sl_MARKING⟩)
    (q_MOST_EDGES : PySem.W.nsIn K mainGlobals "MOST_EDGES" = some (some (.int 3 tk_MOST_EDGES)))
    (q_MOST_NODES : PySem.W.nsIn K mainGlobals "MOST_NODES" = some (some (.int 6 tk_MOST_NODES)))
    (q_MOST_ROOM : PySem.W.nsIn K mainGlobals "MOST_ROOM" = some (some (.int 3 tk_MOST_ROOM)))
    (q_OTHER : PySem.W.nsIn K mainGlobals "OTHER" = some (some (.int (-1) tk_OTHER)))
    (q_PASSING : PySem.W.nsIn K mainGlobals "PASSING" = some (some (.ref a_PASSING)))
    (ql_PASSING : K.lookup a_PASSING = some ⟨.type "tuple", od_PASSING, .seq #[.str "pass" tPASSING_0, .str "both" tPASSING_1] n_PASSING, sl_PASSING⟩)
    (q_STEPS : PySem.W.nsIn K mainGlobals "STEPS" = some (some (.ref a_STEPS)))
    (ql_STEPS : K.lookup a_STEPS = some ⟨.type "tuple", od_STEPS, .seq #[.str "next" tSTEPS_0, .str "pass" tSTEPS_1, .str "mark" tSTEPS_2, .str "both" tSTEPS_3, .str "back" tSTEPS_4] n_STEPS, sl_STEPS⟩)
    (q_WAYS : PySem.W.nsIn K mainGlobals "WAYS" = some (some (.ref a_WAYS)))
    (ql_WAYS : K.lookup a_WAYS = some ⟨.type "tuple", od_WAYS, .seq #[.str "lost" tWAYS_0, .str "twice" tWAYS_1, .str "order" tWAYS_2, .str "left" tWAYS_3] n_WAYS, sl_WAYS⟩)
    (l_p_Relay_init : K.lookup f_p_Relay_init = some ⟨oc_p_Relay_init, od_p_Relay_init, .func (PySem.W.fnX "__init__" "Relay.__init__" (defArgs s_p_Relay_init) (defBody s_p_Relay_init) (defScope s_p_Relay_init) [("__class__", cc_p_Relay_init)] .none kV_p_Relay_init dc_p_Relay_init pm_p_Relay_init an_p_Relay_init (.ref cda_p_Relay_init) ct_p_Relay_init), sl_p_Relay_init⟩)
    (c_p_Relay_init : PySem.W.codeIn K (.ref cda_p_Relay_init) "Relay.__init__" = true)
    (k_p_Relay_init : PySem.W.keepIn K (.ref f_p_Relay_init) = true)
    (u_p_Relay_init : K.lookup cc_p_Relay_init = some ⟨ocl_p_Relay_init, ocd_p_Relay_init, .cell (some (.ref Dc_p_Relay_init)), ocs_p_Relay_init⟩)
    (w_p_Relay_init : K.lookup cda_p_Relay_init = some ⟨cl2_p_Relay_init, cd2_p_Relay_init, .fields vs_p_Relay_init, cs2_p_Relay_init⟩)
    (x_p_Relay_init : vs_p_Relay_init[2]? = some (.str file tf_p_Relay_init))
    (y_p_Relay_init : PySem.W.clsIn K Dc_p_Relay_init = some cdD_p_Relay_init)
    (sc1_p_Relay_init_Relay : PySem.W.clsIn K K_Relay = some cdC_p_Relay_init_Relay)
    (sc2_p_Relay_init_Relay : PySem.W.mroIn K K_Relay (.ref Dc_p_Relay_init) = some true)
    (sc3_p_Relay_init_Relay : PySem.W.ks_superIn K K_Relay Dc_p_Relay_init "__init__" = some (some (.ref f_p_Graph_init)))
    (l_p_Handing_init : K.lookup f_p_Handing_init = some ⟨oc_p_Handing_init, od_p_Handing_init, .func (PySem.W.fnX "__init__" "Handing.__init__" (defArgs s_p_Handing_init) (defBody s_p_Handing_init) (defScope s_p_Handing_init) [("__class__", cc_p_Handing_init)] .none kV_p_Handing_init dc_p_Handing_init pm_p_Handing_init an_p_Handing_init (.ref cda_p_Handing_init) ct_p_Handing_init), sl_p_Handing_init⟩)
    (c_p_Handing_init : PySem.W.codeIn K (.ref cda_p_Handing_init) "Handing.__init__" = true)
    (k_p_Handing_init : PySem.W.keepIn K (.ref f_p_Handing_init) = true)
    (u_p_Handing_init : K.lookup cc_p_Handing_init = some ⟨ocl_p_Handing_init, ocd_p_Handing_init, .cell (some (.ref Dc_p_Handing_init)), ocs_p_Handing_init⟩)
    (w_p_Handing_init : K.lookup cda_p_Handing_init = some ⟨cl2_p_Handing_init, cd2_p_Handing_init, .fields vs_p_Handing_init, cs2_p_Handing_init⟩)
    (x_p_Handing_init : vs_p_Handing_init[2]? = some (.str file tf_p_Handing_init))
    (y_p_Handing_init : PySem.W.clsIn K Dc_p_Handing_init = some cdD_p_Handing_init)
    (sc1_p_Handing_init_Handing : PySem.W.clsIn K K_Handing = some cdC_p_Handing_init_Handing)
    (sc2_p_Handing_init_Handing : PySem.W.mroIn K K_Handing (.ref Dc_p_Handing_init) = some true)
    (sc3_p_Handing_init_Handing : PySem.W.ks_superIn K K_Handing Dc_p_Handing_init "__init__" = some (some (.ref f_p_Question_init)))
    (a_p_is_between : PySem.W.nsIn K mainGlobals "is_between" = some (some (.ref f_p_is_between)))
    (l_p_is_between : K.lookup f_p_is_between = some ⟨oc_p_is_between, od_p_is_between, .func (PySem.W.fnOf "is_between" "is_between" (defArgs s_p_is_between) (defBody s_p_is_between) (defScope s_p_is_between) .none kV_p_is_between dc_p_is_between pm_p_is_between an_p_is_between cd_p_is_between ct_p_is_between), sl_p_is_between⟩)
    (c_p_is_between : PySem.W.codeIn K cd_p_is_between "is_between" = true)
    (k_p_is_between : PySem.W.keepIn K (.ref f_p_is_between) = true)
    (a_p_are_nodes : PySem.W.nsIn K mainGlobals "are_nodes" = some (some (.ref f_p_are_nodes)))
    (l_p_are_nodes : K.lookup f_p_are_nodes = some ⟨oc_p_are_nodes, od_p_are_nodes, .func (PySem.W.fnOf "are_nodes" "are_nodes" (defArgs s_p_are_nodes) (defBody s_p_are_nodes) (defScope s_p_are_nodes) .none kV_p_are_nodes dc_p_are_nodes pm_p_are_nodes an_p_are_nodes cd_p_are_nodes ct_p_are_nodes), sl_p_are_nodes⟩)
    (c_p_are_nodes : PySem.W.codeIn K cd_p_are_nodes "are_nodes" = true)
    (k_p_are_nodes : PySem.W.keepIn K (.ref f_p_are_nodes) = true)
    (a_p_are_finals : PySem.W.nsIn K mainGlobals "are_finals" = some (some (.ref f_p_are_finals)))
    (l_p_are_finals : K.lookup f_p_are_finals = some ⟨oc_p_are_finals, od_p_are_finals, .func (PySem.W.fnOf "are_finals" "are_finals" (defArgs s_p_are_finals) (defBody s_p_are_finals) (defScope s_p_are_finals) .none kV_p_are_finals dc_p_are_finals pm_p_are_finals an_p_are_finals cd_p_are_finals ct_p_are_finals), sl_p_are_finals⟩)
    (c_p_are_finals : PySem.W.codeIn K cd_p_are_finals "are_finals" = true)
    (k_p_are_finals : PySem.W.keepIn K (.ref f_p_are_finals) = true)
    (fn_p_Graph_init : PySem.W.isFn K (.ref f_p_Graph_init) = true)
    (l_p_Graph_init : K.lookup f_p_Graph_init = some ⟨oc_p_Graph_init, od_p_Graph_init, .func (PySem.W.fnOf "__init__" "Graph.__init__" (defArgs s_p_Graph_init) (defBody s_p_Graph_init) (defScope s_p_Graph_init) .none kV_p_Graph_init dc_p_Graph_init pm_p_Graph_init an_p_Graph_init cd_p_Graph_init ct_p_Graph_init), sl_p_Graph_init⟩)
    (c_p_Graph_init : PySem.W.codeIn K cd_p_Graph_init "Graph.__init__" = true)
    (k_p_Graph_init : PySem.W.keepIn K (.ref f_p_Graph_init) = true)
    (fn_p_Question_init : PySem.W.isFn K (.ref f_p_Question_init) = true)
    (l_p_Question_init : K.lookup f_p_Question_init = some ⟨oc_p_Question_init, od_p_Question_init, .func (PySem.W.fnOf "__init__" "Question.__init__" (defArgs s_p_Question_init) (defBody s_p_Question_init) (defScope s_p_Question_init) .none kV_p_Question_init dc_p_Question_init pm_p_Question_init an_p_Question_init cd_p_Question_init ct_p_Question_init), sl_p_Question_init⟩)
    (c_p_Question_init : PySem.W.codeIn K cd_p_Question_init "Question.__init__" = true)
    (k_p_Question_init : PySem.W.keepIn K (.ref f_p_Question_init) = true)
    (fn_p_Question_reached : PySem.W.isFn K (.ref f_p_Question_reached) = true)
    (l_p_Question_reached : K.lookup f_p_Question_reached = some ⟨oc_p_Question_reached, od_p_Question_reached, .func (PySem.W.fnOf "reached" "Question.reached" (defArgs s_p_Question_reached) (defBody s_p_Question_reached) (defScope s_p_Question_reached) .none kV_p_Question_reached dc_p_Question_reached pm_p_Question_reached an_p_Question_reached cd_p_Question_reached ct_p_Question_reached), sl_p_Question_reached⟩)
    (c_p_Question_reached : PySem.W.codeIn K cd_p_Question_reached "Question.reached" = true)
    (k_p_Question_reached : PySem.W.keepIn K (.ref f_p_Question_reached) = true)
    (fn_p_Question_run : PySem.W.isFn K (.ref f_p_Question_run) = true)
    (l_p_Question_run : K.lookup f_p_Question_run = some ⟨oc_p_Question_run, od_p_Question_run, .func (PySem.W.fnOf "run" "Question.run" (defArgs s_p_Question_run) (defBody s_p_Question_run) (defScope s_p_Question_run) .none kV_p_Question_run dc_p_Question_run pm_p_Question_run an_p_Question_run cd_p_Question_run ct_p_Question_run), sl_p_Question_run⟩)
    (c_p_Question_run : PySem.W.codeIn K cd_p_Question_run "Question.run" = true)
    (k_p_Question_run : PySem.W.keepIn K (.ref f_p_Question_run) = true)
    (a_p_is_relay_step : PySem.W.nsIn K mainGlobals "is_relay_step" = some (some (.ref f_p_is_relay_step)))
    (l_p_is_relay_step : K.lookup f_p_is_relay_step = some ⟨oc_p_is_relay_step, od_p_is_relay_step, .func (PySem.W.fnOf "is_relay_step" "is_relay_step" (defArgs s_p_is_relay_step) (defBody s_p_is_relay_step) (defScope s_p_is_relay_step) .none kV_p_is_relay_step dc_p_is_relay_step pm_p_is_relay_step an_p_is_relay_step cd_p_is_relay_step ct_p_is_relay_step), sl_p_is_relay_step⟩)
    (c_p_is_relay_step : PySem.W.codeIn K cd_p_is_relay_step "is_relay_step" = true)
    (k_p_is_relay_step : PySem.W.keepIn K (.ref f_p_is_relay_step) = true)
    (a_p_need_way_and_room : PySem.W.nsIn K mainGlobals "need_way_and_room" = some (some (.ref f_p_need_way_and_room)))
    (l_p_need_way_and_room : K.lookup f_p_need_way_and_room = some ⟨oc_p_need_way_and_room, od_p_need_way_and_room, .func (PySem.W.fnOf "need_way_and_room" "need_way_and_room" (defArgs s_p_need_way_and_room) (defBody s_p_need_way_and_room) (defScope s_p_need_way_and_room) .none kV_p_need_way_and_room dc_p_need_way_and_room pm_p_need_way_and_room an_p_need_way_and_room cd_p_need_way_and_room ct_p_need_way_and_room), sl_p_need_way_and_room⟩)
    (c_p_need_way_and_room : PySem.W.codeIn K cd_p_need_way_and_room "need_way_and_room" = true)
    (k_p_need_way_and_room : PySem.W.keepIn K (.ref f_p_need_way_and_room) = true)
    (fn_p_Relay_init : PySem.W.isFn K (.ref f_p_Relay_init) = true)
    (fi_p_Relay_init : PySem.W.fnIn K f_p_Graph_init = true)
    (fn_p_Relay_question : PySem.W.isFn K (.ref f_p_Relay_question) = true)
    (l_p_Relay_question : K.lookup f_p_Relay_question = some ⟨oc_p_Relay_question, od_p_Relay_question, .func (PySem.W.fnOf "question" "Relay.question" (defArgs s_p_Relay_question) (defBody s_p_Relay_question) (defScope s_p_Relay_question) .none kV_p_Relay_question dc_p_Relay_question pm_p_Relay_question an_p_Relay_question cd_p_Relay_question ct_p_Relay_question), sl_p_Relay_question⟩)
    (c_p_Relay_question : PySem.W.codeIn K cd_p_Relay_question "Relay.question" = true)
    (k_p_Relay_question : PySem.W.keepIn K (.ref f_p_Relay_question) = true)
    (fn_p_Handing_init : PySem.W.isFn K (.ref f_p_Handing_init) = true)
    (fi_p_Handing_init : PySem.W.fnIn K f_p_Question_init = true)
    (fn_p_Handing_first : PySem.W.isFn K (.ref f_p_Handing_first) = true)
    (l_p_Handing_first : K.lookup f_p_Handing_first = some ⟨oc_p_Handing_first, od_p_Handing_first, .func (PySem.W.fnOf "first" "Handing.first" (defArgs s_p_Handing_first) (defBody s_p_Handing_first) (defScope s_p_Handing_first) .none kV_p_Handing_first dc_p_Handing_first pm_p_Handing_first an_p_Handing_first cd_p_Handing_first ct_p_Handing_first), sl_p_Handing_first⟩)
    (c_p_Handing_first : PySem.W.codeIn K cd_p_Handing_first "Handing.first" = true)
    (k_p_Handing_first : PySem.W.keepIn K (.ref f_p_Handing_first) = true)
    (fn_p_Handing_moves : PySem.W.isFn K (.ref f_p_Handing_moves) = true)
    (l_p_Handing_moves : K.lookup f_p_Handing_moves = some ⟨oc_p_Handing_moves, od_p_Handing_moves, .func (PySem.W.fnOf "moves" "Handing.moves" (defArgs s_p_Handing_moves) (defBody s_p_Handing_moves) (defScope s_p_Handing_moves) .none kV_p_Handing_moves dc_p_Handing_moves pm_p_Handing_moves an_p_Handing_moves cd_p_Handing_moves ct_p_Handing_moves), sl_p_Handing_moves⟩)
    (c_p_Handing_moves : PySem.W.codeIn K cd_p_Handing_moves "Handing.moves" = true)
    (k_p_Handing_moves : PySem.W.keepIn K (.ref f_p_Handing_moves) = true)
    (fn_p_Handing_behind : PySem.W.isFn K (.ref f_p_Handing_behind) = true)
    (l_p_Handing_behind : K.lookup f_p_Handing_behind = some ⟨oc_p_Handing_behind, od_p_Handing_behind, .func (PySem.W.fnOf "behind" "Handing.behind" (defArgs s_p_Handing_behind) (defBody s_p_Handing_behind) (defScope s_p_Handing_behind) .none kV_p_Handing_behind dc_p_Handing_behind pm_p_Handing_behind an_p_Handing_behind cd_p_Handing_behind ct_p_Handing_behind), sl_p_Handing_behind⟩)
    (c_p_Handing_behind : PySem.W.codeIn K cd_p_Handing_behind "Handing.behind" = true)
    (k_p_Handing_behind : PySem.W.keepIn K (.ref f_p_Handing_behind) = true)
    (fn_p_Handing_amiss : PySem.W.isFn K (.ref f_p_Handing_amiss) = true)
    (l_p_Handing_amiss : K.lookup f_p_Handing_amiss = some ⟨oc_p_Handing_amiss, od_p_Handing_amiss, .func (PySem.W.fnOf "amiss" "Handing.amiss" (defArgs s_p_Handing_amiss) (defBody s_p_Handing_amiss) (defScope s_p_Handing_amiss) .none kV_p_Handing_amiss dc_p_Handing_amiss pm_p_Handing_amiss an_p_Handing_amiss cd_p_Handing_amiss ct_p_Handing_amiss), sl_p_Handing_amiss⟩)
    (c_p_Handing_amiss : PySem.W.codeIn K cd_p_Handing_amiss "Handing.amiss" = true)
    (k_p_Handing_amiss : PySem.W.keepIn K (.ref f_p_Handing_amiss) = true)
    (fn_p_Handing_missing : PySem.W.isFn K (.ref f_p_Handing_missing) = true)
    (l_p_Handing_missing : K.lookup f_p_Handing_missing = some ⟨oc_p_Handing_missing, od_p_Handing_missing, .func (PySem.W.fnOf "missing" "Handing.missing" (defArgs s_p_Handing_missing) (defBody s_p_Handing_missing) (defScope s_p_Handing_missing) .none kV_p_Handing_missing dc_p_Handing_missing pm_p_Handing_missing an_p_Handing_missing cd_p_Handing_missing ct_p_Handing_missing), sl_p_Handing_missing⟩)
    (c_p_Handing_missing : PySem.W.codeIn K cd_p_Handing_missing "Handing.missing" = true)
    (k_p_Handing_missing : PySem.W.keepIn K (.ref f_p_Handing_missing) = true)
    (fn_p_Handing_is_bad : PySem.W.isFn K (.ref f_p_Handing_is_bad) = true)
    (l_p_Handing_is_bad : K.lookup f_p_Handing_is_bad = some ⟨oc_p_Handing_is_bad, od_p_Handing_is_bad, .func (PySem.W.fnOf "is_bad" "Handing.is_bad" (defArgs s_p_Handing_is_bad) (defBody s_p_Handing_is_bad) (defScope s_p_Handing_is_bad) .none kV_p_Handing_is_bad dc_p_Handing_is_bad pm_p_Handing_is_bad an_p_Handing_is_bad cd_p_Handing_is_bad ct_p_Handing_is_bad), sl_p_Handing_is_bad⟩)
    (c_p_Handing_is_bad : PySem.W.codeIn K cd_p_Handing_is_bad "Handing.is_bad" = true)
    (k_p_Handing_is_bad : PySem.W.keepIn K (.ref f_p_Handing_is_bad) = true)
    (a_rest : PySem.W.nsIn K mainGlobals "_law_rest" = some (some (.ref f_rest)))
    (l_rest : K.lookup f_rest = some ⟨oc_rest, od_rest, .func (PySem.W.fnOf "_law_rest" "_law_rest" (defArgs s_rest) (defBody s_rest) (defScope s_rest) .none kV_rest dc_rest pm_rest an_rest cd_rest ct_rest), sl_rest⟩)
    (c_rest : PySem.W.codeIn K cd_rest "_law_rest" = true)
    (k_rest : PySem.W.keepIn K (.ref f_rest) = true)
    (a_pen : PySem.W.nsIn K mainGlobals "_law_pen" = some (some (.ref f_pen)))
    (l_pen : K.lookup f_pen = some ⟨oc_pen, od_pen, .func (PySem.W.fnOf "_law_pen" "_law_pen" (defArgs s_pen) (defBody s_pen) (defScope s_pen) .none kV_pen dc_pen pm_pen an_pen cd_pen ct_pen), sl_pen⟩)
    (c_pen : PySem.W.codeIn K cd_pen "_law_pen" = true)
    (k_pen : PySem.W.keepIn K (.ref f_pen) = true)
    (a_cell_at : PySem.W.nsIn K mainGlobals "_law_cell_at" = some (some (.ref f_cell_at)))
    (l_cell_at : K.lookup f_cell_at = some ⟨oc_cell_at, od_cell_at, .func (PySem.W.fnOf "_law_cell_at" "_law_cell_at" (defArgs s_cell_at) (defBody s_cell_at) (defScope s_cell_at) .none kV_cell_at dc_cell_at pm_cell_at an_cell_at cd_cell_at ct_cell_at), sl_cell_at⟩)
    (c_cell_at : PySem.W.codeIn K cd_cell_at "_law_cell_at" = true)
    (k_cell_at : PySem.W.keepIn K (.ref f_cell_at) = true)
    (a_pens : PySem.W.nsIn K mainGlobals "_law_pens" = some (some (.ref f_pens)))
    (l_pens : K.lookup f_pens = some ⟨oc_pens, od_pens, .func (PySem.W.fnOf "_law_pens" "_law_pens" (defArgs s_pens) (defBody s_pens) (defScope s_pens) .none kV_pens dc_pens pm_pens an_pens cd_pens ct_pens), sl_pens⟩)
    (c_pens : PySem.W.codeIn K cd_pens "_law_pens" = true)
    (k_pens : PySem.W.keepIn K (.ref f_pens) = true)
    (a_draw : PySem.W.nsIn K mainGlobals "_law_draw" = some (some (.ref f_draw)))
    (l_draw : K.lookup f_draw = some ⟨oc_draw, od_draw, .func (PySem.W.fnOf "_law_draw" "_law_draw" (defArgs s_draw) (defBody s_draw) (defScope s_draw) .none kV_draw dc_draw pm_draw an_draw cd_draw ct_draw), sl_draw⟩)
    (c_draw : PySem.W.codeIn K cd_draw "_law_draw" = true)
    (k_draw : PySem.W.keepIn K (.ref f_draw) = true)
    (a_pick : PySem.W.nsIn K mainGlobals "_law_pick" = some (some (.ref f_pick)))
    (l_pick : K.lookup f_pick = some ⟨oc_pick, od_pick, .func (PySem.W.fnOf "_law_pick" "_law_pick" (defArgs s_pick) (defBody s_pick) (defScope s_pick) .none kV_pick dc_pick pm_pick an_pick cd_pick ct_pick), sl_pick⟩)
    (c_pick : PySem.W.codeIn K cd_pick "_law_pick" = true)
    (k_pick : PySem.W.keepIn K (.ref f_pick) = true)
    (a_relay_step : PySem.W.nsIn K mainGlobals "_law_relay_step" = some (some (.ref f_relay_step)))
    (l_relay_step : K.lookup f_relay_step = some ⟨oc_relay_step, od_relay_step, .func (PySem.W.fnOf "_law_relay_step" "_law_relay_step" (defArgs s_relay_step) (defBody s_relay_step) (defScope s_relay_step) .none kV_relay_step dc_relay_step pm_relay_step an_relay_step cd_relay_step ct_relay_step), sl_relay_step⟩)
    (c_relay_step : PySem.W.codeIn K cd_relay_step "_law_relay_step" = true)
    (k_relay_step : PySem.W.keepIn K (.ref f_relay_step) = true)
    (a_relay_nodes : PySem.W.nsIn K mainGlobals "_law_relay_nodes" = some (some (.ref f_relay_nodes)))
    (l_relay_nodes : K.lookup f_relay_nodes = some ⟨oc_relay_nodes, od_relay_nodes, .func (PySem.W.fnOf "_law_relay_nodes" "_law_relay_nodes" (defArgs s_relay_nodes) (defBody s_relay_nodes) (defScope s_relay_nodes) .none kV_relay_nodes dc_relay_nodes pm_relay_nodes an_relay_nodes cd_relay_nodes ct_relay_nodes), sl_relay_nodes⟩)
    (c_relay_nodes : PySem.W.codeIn K cd_relay_nodes "_law_relay_nodes" = true)
    (k_relay_nodes : PySem.W.keepIn K (.ref f_relay_nodes) = true)
    (a_finals : PySem.W.nsIn K mainGlobals "_law_finals" = some (some (.ref f_finals)))
    (l_finals : K.lookup f_finals = some ⟨oc_finals, od_finals, .func (PySem.W.fnOf "_law_finals" "_law_finals" (defArgs s_finals) (defBody s_finals) (defScope s_finals) .none kV_finals dc_finals pm_finals an_finals cd_finals ct_finals), sl_finals⟩)
    (c_finals : PySem.W.codeIn K cd_finals "_law_finals" = true)
    (k_finals : PySem.W.keepIn K (.ref f_finals) = true)
    (a_known : PySem.W.nsIn K mainGlobals "_law_known" = some (some (.ref f_known)))
    (l_known : K.lookup f_known = some ⟨oc_known, od_known, .func (PySem.W.fnOf "_law_known" "_law_known" (defArgs s_known) (defBody s_known) (defScope s_known) .none kV_known dc_known pm_known an_known cd_known ct_known), sl_known⟩)
    (c_known : PySem.W.codeIn K cd_known "_law_known" = true)
    (k_known : PySem.W.keepIn K (.ref f_known) = true)
    (a_relay : PySem.W.nsIn K mainGlobals "_law_relay" = some (some (.ref f_relay)))
    (l_relay : K.lookup f_relay = some ⟨oc_relay, od_relay, .func (PySem.W.fnOf "_law_relay" "_law_relay" (defArgs s_relay) (defBody s_relay) (defScope s_relay) .none kV_relay dc_relay pm_relay an_relay cd_relay ct_relay), sl_relay⟩)
    (c_relay : PySem.W.codeIn K cd_relay "_law_relay" = true)
    (k_relay : PySem.W.keepIn K (.ref f_relay) = true)
    (a_marks : PySem.W.nsIn K mainGlobals "_law_marks" = some (some (.ref f_marks)))
    (l_marks : K.lookup f_marks = some ⟨oc_marks, od_marks, .func (PySem.W.fnOf "_law_marks" "_law_marks" (defArgs s_marks) (defBody s_marks) (defScope s_marks) .none kV_marks dc_marks pm_marks an_marks cd_marks ct_marks), sl_marks⟩)
    (c_marks : PySem.W.codeIn K cd_marks "_law_marks" = true)
    (k_marks : PySem.W.keepIn K (.ref f_marks) = true)
    (a_law : PySem.W.nsIn K mainGlobals "law" = some (some (.ref f_law)))
    (l_law : K.lookup f_law = some ⟨oc_law, od_law, .func (PySem.W.fnOf "law" "law" (defArgs s_law) (defBody s_law) (defScope s_law) .none kV_law dc_law pm_law an_law cd_law ct_law), sl_law⟩)
    (c_law : PySem.W.codeIn K cd_law "law" = true)
    (k_law : PySem.W.keepIn K (.ref f_law) = true) :
    ∃ (tbl : Tbl) (tb : List (Str × Addr × Addr)) (fd : FuncData) (φ : List Sl → FR), (∀ p ∈ tb, PySem.W.tabIn K p.1 = some p.2 ∧ K.lookup p.2.2 = none ∧ ((recsOf q).find? (fun e => e.name == p.1)).isSome = true) ∧ (∀ t ∈ tbl.T, ∃ p ∈ tb, t.1 = p.2.2) ∧ (∀ (s : Shared) (v : Value), BindsTo s fd ⟨[v], []⟩ [("_law_script", v)]) ∧ (∀ base : Heap, K.In base → base.Ns mainGlobals mg → (∀ p ∈ tb, LamX.TabB base mg p.2.1 p.2.2) → @VOk tbl true l.prog w K mg base 7 fa fd ["_law_script"] φ) ∧ ∀ ns : List Int, ns.length ≤ 63 → ∃ as', φ [.val (.scr ns)] = .ret (.bl true) as' := by
  have e : f_law = fa := by
    have e := hfa.symm.trans (PySem.W.mg_of X G a_law)
    cases e; rfl
  subst e
  have F_p_is_between := fun_mk (st := s_p_is_between) l_p_is_between c_p_is_between k_p_is_between
  have F_p_are_nodes := fun_mk (st := s_p_are_nodes) l_p_are_nodes c_p_are_nodes k_p_are_nodes
  have F_p_are_finals := fun_mk (st := s_p_are_finals) l_p_are_finals c_p_are_finals k_p_are_finals
  have F_p_Graph_init := fun_mk (st := s_p_Graph_init) l_p_Graph_init c_p_Graph_init k_p_Graph_init
  have F_p_Question_init := fun_mk (st := s_p_Question_init) l_p_Question_init c_p_Question_init k_p_Question_init
  have F_p_Question_reached := fun_mk (st := s_p_Question_reached) l_p_Question_reached c_p_Question_reached k_p_Question_reached
  have F_p_Question_run := fun_mk (st := s_p_Question_run) l_p_Question_run c_p_Question_run k_p_Question_run
  have F_p_is_relay_step := fun_mk (st := s_p_is_relay_step) l_p_is_relay_step c_p_is_relay_step k_p_is_relay_step
  have F_p_need_way_and_room := fun_mk (st := s_p_need_way_and_room) l_p_need_way_and_room c_p_need_way_and_room k_p_need_way_and_room
  have F_p_Relay_init : FunS K "__init__" "Relay.__init__" s_p_Relay_init f_p_Relay_init _ cc_p_Relay_init Dc_p_Relay_init cda_p_Relay_init file := ⟨⟨_, _, _, _, _, _, _, _, rfl, l_p_Relay_init⟩, c_p_Relay_init, k_p_Relay_init, ⟨_, _, _, u_p_Relay_init⟩, ⟨_, _, _, _, _, w_p_Relay_init, x_p_Relay_init⟩⟩
  have F_p_Relay_question := fun_mk (st := s_p_Relay_question) l_p_Relay_question c_p_Relay_question k_p_Relay_question
  have F_p_Handing_init : FunS K "__init__" "Handing.__init__" s_p_Handing_init f_p_Handing_init _ cc_p_Handing_init Dc_p_Handing_init cda_p_Handing_init file := ⟨⟨_, _, _, _, _, _, _, _, rfl, l_p_Handing_init⟩, c_p_Handing_init, k_p_Handing_init, ⟨_, _, _, u_p_Handing_init⟩, ⟨_, _, _, _, _, w_p_Handing_init, x_p_Handing_init⟩⟩
  have F_p_Handing_first := fun_mk (st := s_p_Handing_first) l_p_Handing_first c_p_Handing_first k_p_Handing_first
  have F_p_Handing_moves := fun_mk (st := s_p_Handing_moves) l_p_Handing_moves c_p_Handing_moves k_p_Handing_moves
  have F_p_Handing_behind := fun_mk (st := s_p_Handing_behind) l_p_Handing_behind c_p_Handing_behind k_p_Handing_behind
  have F_p_Handing_amiss := fun_mk (st := s_p_Handing_amiss) l_p_Handing_amiss c_p_Handing_amiss k_p_Handing_amiss
  have F_p_Handing_missing := fun_mk (st := s_p_Handing_missing) l_p_Handing_missing c_p_Handing_missing k_p_Handing_missing
  have F_p_Handing_is_bad := fun_mk (st := s_p_Handing_is_bad) l_p_Handing_is_bad c_p_Handing_is_bad k_p_Handing_is_bad
  have F_rest := fun_mk (st := s_rest) l_rest c_rest k_rest
  have F_pen := fun_mk (st := s_pen) l_pen c_pen k_pen
  have F_cell_at := fun_mk (st := s_cell_at) l_cell_at c_cell_at k_cell_at
  have F_pens := fun_mk (st := s_pens) l_pens c_pens k_pens
  have F_draw := fun_mk (st := s_draw) l_draw c_draw k_draw
  have F_pick := fun_mk (st := s_pick) l_pick c_pick k_pick
  have F_relay_step := fun_mk (st := s_relay_step) l_relay_step c_relay_step k_relay_step
  have F_relay_nodes := fun_mk (st := s_relay_nodes) l_relay_nodes c_relay_nodes k_relay_nodes
  have F_finals := fun_mk (st := s_finals) l_finals c_finals k_finals
  have F_known := fun_mk (st := s_known) l_known c_known k_known
  have F_relay := fun_mk (st := s_relay) l_relay c_relay k_relay
  have F_marks := fun_mk (st := s_marks) l_marks c_marks k_marks
  have F_law := fun_mk (st := s_law) l_law c_law k_law
  let T : Txt K mg := {
    K_Relay := K_Relay
    gK_Relay := PySem.W.mg_of X G kn_Relay
    kns_Relay := kn_Relay
    k_Relay := ⟨kn_Relay, ⟨kg_Relay, kd_Relay, ko_Relay, ks_Relay⟩, kc_Relay, km_Relay⟩
    mk_Relay := ⟨kk_Relay, ki_Relay, fn_p_Relay_init, kp_Relay⟩
    K_Handing := K_Handing
    gK_Handing := PySem.W.mg_of X G kn_Handing
    kns_Handing := kn_Handing
    k_Handing := ⟨kn_Handing, ⟨kg_Handing, kd_Handing, ko_Handing, ks_Handing⟩, kc_Handing, km_Handing⟩
    mk_Handing := ⟨kk_Handing, ki_Handing, fn_p_Handing_init, kp_Handing⟩
    na_Handing_graph := na_Handing_graph
    na_Handing_limit := na_Handing_limit
    na_Handing_way := na_Handing_way
    na_Relay_finals := na_Relay_finals
    na_Relay_nodes := na_Relay_nodes
    m_Handing_amiss := ⟨mt_Handing_amiss, fn_p_Handing_amiss, k_p_Handing_amiss⟩
    m_Handing_behind := ⟨mt_Handing_behind, fn_p_Handing_behind, k_p_Handing_behind⟩
    m_Handing_first := ⟨mt_Handing_first, fn_p_Handing_first, k_p_Handing_first⟩
    m_Handing_is_bad := ⟨mt_Handing_is_bad, fn_p_Handing_is_bad, k_p_Handing_is_bad⟩
    m_Handing_missing := ⟨mt_Handing_missing, fn_p_Handing_missing, k_p_Handing_missing⟩
    m_Handing_moves := ⟨mt_Handing_moves, fn_p_Handing_moves, k_p_Handing_moves⟩
    m_Handing_reached := ⟨mt_Handing_reached, fn_p_Question_reached, k_p_Question_reached⟩
    m_Handing_run := ⟨mt_Handing_run, fn_p_Question_run, k_p_Question_run⟩
    m_Relay_question := ⟨mt_Relay_question, fn_p_Relay_question, k_p_Relay_question⟩
    C_InvalidGraph := C_InvalidGraph
    gC_InvalidGraph := PySem.W.mg_of X G en_InvalidGraph
    nC_InvalidGraph := en_InvalidGraph
    xC_InvalidGraph := ex_InvalidGraph
    kC_InvalidGraph := ek_InvalidGraph
    bC_InvalidGraph := eb_InvalidGraph
    tC_InvalidGraph := et_InvalidGraph
    C_InvalidRoom := C_InvalidRoom
    gC_InvalidRoom := PySem.W.mg_of X G en_InvalidRoom
    nC_InvalidRoom := en_InvalidRoom
    xC_InvalidRoom := ex_InvalidRoom
    kC_InvalidRoom := ek_InvalidRoom
    bC_InvalidRoom := eb_InvalidRoom
    tC_InvalidRoom := et_InvalidRoom
    C_InvalidWay := C_InvalidWay
    gC_InvalidWay := PySem.W.mg_of X G en_InvalidWay
    nC_InvalidWay := en_InvalidWay
    xC_InvalidWay := ex_InvalidWay
    kC_InvalidWay := ek_InvalidWay
    bC_InvalidWay := eb_InvalidWay
    tC_InvalidWay := et_InvalidWay
    n_all := PySem.W.mg_none_of X G z_all
    n_bool := PySem.W.mg_none_of X G z_bool
    n_enumerate := PySem.W.mg_none_of X G z_enumerate
    n_int := PySem.W.mg_none_of X G z_int
    n_isinstance := PySem.W.mg_none_of X G z_isinstance
    n_len := PySem.W.mg_none_of X G z_len
    n_list := PySem.W.mg_none_of X G z_list
    n_max := PySem.W.mg_none_of X G z_max
    n_min := PySem.W.mg_none_of X G z_min
    n_range := PySem.W.mg_none_of X G z_range
    n_str := PySem.W.mg_none_of X G z_str
    s_super := PySem.W.mg_none_of X G z_super
    s_any := zst_any
    n_tuple := PySem.W.mg_none_of X G z_tuple
    n_zip := PySem.W.mg_none_of X G z_zip
    t_kCRASH := tk_CRASH
    c_CRASH := PySem.W.mg_of X G q_CRASH
    a_MARKING := a_MARKING
    c_MARKING := PySem.W.mg_of X G q_MARKING
    v_MARKING := fun F => ⟨_, [.str "mark", .str "both"], rfl, .inr ⟨_, _, _, ql_MARKING, rfl, rfl, by show 2 ≤ sizeLine; decide, (.cons ⟨_, rfl⟩ (.cons ⟨_, rfl⟩ .nil))⟩, ⟨_, _, rfl, rfl, ⟨_, _, rfl, rfl, rfl⟩⟩⟩
    t_kMOST_EDGES := tk_MOST_EDGES
    c_MOST_EDGES := PySem.W.mg_of X G q_MOST_EDGES
    t_kMOST_NODES := tk_MOST_NODES
    c_MOST_NODES := PySem.W.mg_of X G q_MOST_NODES
    t_kMOST_ROOM := tk_MOST_ROOM
    c_MOST_ROOM := PySem.W.mg_of X G q_MOST_ROOM
    t_kOTHER := tk_OTHER
    c_OTHER := PySem.W.mg_of X G q_OTHER
    a_PASSING := a_PASSING
    c_PASSING := PySem.W.mg_of X G q_PASSING
    v_PASSING := fun F => ⟨_, [.str "pass", .str "both"], rfl, .inr ⟨_, _, _, ql_PASSING, rfl, rfl, by show 2 ≤ sizeLine; decide, (.cons ⟨_, rfl⟩ (.cons ⟨_, rfl⟩ .nil))⟩, ⟨_, _, rfl, rfl, ⟨_, _, rfl, rfl, rfl⟩⟩⟩
    a_STEPS := a_STEPS
    c_STEPS := PySem.W.mg_of X G q_STEPS
    v_STEPS := fun F => ⟨_, [.str "next", .str "pass", .str "mark", .str "both", .str "back"], rfl, .inr ⟨_, _, _, ql_STEPS, rfl, rfl, by show 5 ≤ sizeLine; decide, (.cons ⟨_, rfl⟩ (.cons ⟨_, rfl⟩ (.cons ⟨_, rfl⟩ (.cons ⟨_, rfl⟩ (.cons ⟨_, rfl⟩ .nil)))))⟩, ⟨_, _, rfl, rfl, ⟨_, _, rfl, rfl, ⟨_, _, rfl, rfl, ⟨_, _, rfl, rfl, ⟨_, _, rfl, rfl, rfl⟩⟩⟩⟩⟩⟩
    a_WAYS := a_WAYS
    c_WAYS := PySem.W.mg_of X G q_WAYS
    v_WAYS := fun F => ⟨_, [.str "lost", .str "twice", .str "order", .str "left"], rfl, .inr ⟨_, _, _, ql_WAYS, rfl, rfl, by show 4 ≤ sizeLine; decide, (.cons ⟨_, rfl⟩ (.cons ⟨_, rfl⟩ (.cons ⟨_, rfl⟩ (.cons ⟨_, rfl⟩ .nil))))⟩, ⟨_, _, rfl, rfl, ⟨_, _, rfl, rfl, ⟨_, _, rfl, rfl, ⟨_, _, rfl, rfl, rfl⟩⟩⟩⟩⟩
    f_p_is_between := f_p_is_between
    d_p_is_between := _
    g_p_is_between := PySem.W.mg_of X G a_p_is_between
    t_p_is_between := F_p_is_between
    b_p_is_between := F_p_is_between.binds (ps := ["thing", "low", "high"]) fun _ _ _ _ _ _ us hl => match us, hl with | [_, _, _], _ => rfl
    f_p_are_nodes := f_p_are_nodes
    d_p_are_nodes := _
    g_p_are_nodes := PySem.W.mg_of X G a_p_are_nodes
    t_p_are_nodes := F_p_are_nodes
    b_p_are_nodes := F_p_are_nodes.binds (ps := ["thing", "is_step"]) fun _ _ _ _ _ _ us hl => match us, hl with | [_, _], _ => rfl
    f_p_are_finals := f_p_are_finals
    d_p_are_finals := _
    g_p_are_finals := PySem.W.mg_of X G a_p_are_finals
    t_p_are_finals := F_p_are_finals
    b_p_are_finals := F_p_are_finals.binds (ps := ["thing", "many"]) fun _ _ _ _ _ _ us hl => match us, hl with | [_, _], _ => rfl
    f_p_Graph_init := f_p_Graph_init
    d_p_Graph_init := _
    t_p_Graph_init := F_p_Graph_init
    b_p_Graph_init := F_p_Graph_init.binds (ps := ["self", "nodes", "finals"]) fun _ _ _ _ _ _ us hl => match us, hl with | [_, _, _], _ => rfl
    f_p_Question_init := f_p_Question_init
    d_p_Question_init := _
    t_p_Question_init := F_p_Question_init
    b_p_Question_init := F_p_Question_init.binds (ps := ["self", "graph"]) fun _ _ _ _ _ _ us hl => match us, hl with | [_, _], _ => rfl
    f_p_Question_reached := f_p_Question_reached
    d_p_Question_reached := _
    t_p_Question_reached := F_p_Question_reached
    b_p_Question_reached := F_p_Question_reached.binds (ps := ["self"]) fun _ _ _ _ _ _ us hl => match us, hl with | [_], _ => rfl
    f_p_Question_run := f_p_Question_run
    d_p_Question_run := _
    t_p_Question_run := F_p_Question_run
    b_p_Question_run := F_p_Question_run.binds (ps := ["self"]) fun _ _ _ _ _ _ us hl => match us, hl with | [_], _ => rfl
    f_p_is_relay_step := f_p_is_relay_step
    d_p_is_relay_step := _
    g_p_is_relay_step := PySem.W.mg_of X G a_p_is_relay_step
    ns_p_is_relay_step := a_p_is_relay_step
    t_p_is_relay_step := F_p_is_relay_step
    b_p_is_relay_step := F_p_is_relay_step.binds (ps := ["thing"]) fun _ _ _ _ _ _ us hl => match us, hl with | [_], _ => rfl
    f_p_need_way_and_room := f_p_need_way_and_room
    d_p_need_way_and_room := _
    g_p_need_way_and_room := PySem.W.mg_of X G a_p_need_way_and_room
    t_p_need_way_and_room := F_p_need_way_and_room
    b_p_need_way_and_room := F_p_need_way_and_room.binds (ps := ["way", "room"]) fun _ _ _ _ _ _ us hl => match us, hl with | [_, _], _ => rfl
    f_p_Relay_init := f_p_Relay_init
    d_p_Relay_init := _
    cc_p_Relay_init := cc_p_Relay_init
    Dc_p_Relay_init := Dc_p_Relay_init
    cda_p_Relay_init := cda_p_Relay_init
    t_p_Relay_init := F_p_Relay_init
    sd_p_Relay_init := ⟨_, y_p_Relay_init⟩
    sy_p_Relay_init := beq_iff_eq.mp fn_p_Graph_init
    sn_p_Relay_init := fi_p_Relay_init
    su_p_Relay_init_Relay := ⟨_, _, kn_Relay, sc1_p_Relay_init_Relay, sc2_p_Relay_init_Relay, sc3_p_Relay_init_Relay⟩
    b_p_Relay_init := F_p_Relay_init.binds (ps := ["self", "nodes", "finals"]) fun _ _ _ _ _ us hl => match us, hl with | [_, _, _], _ => rfl
    f_p_Relay_question := f_p_Relay_question
    d_p_Relay_question := _
    t_p_Relay_question := F_p_Relay_question
    b_p_Relay_question := F_p_Relay_question.binds (ps := ["self", "way", "room"]) fun _ _ _ _ _ _ us hl => match us, hl with | [_, _, _], _ => rfl
    f_p_Handing_init := f_p_Handing_init
    d_p_Handing_init := _
    cc_p_Handing_init := cc_p_Handing_init
    Dc_p_Handing_init := Dc_p_Handing_init
    cda_p_Handing_init := cda_p_Handing_init
    t_p_Handing_init := F_p_Handing_init
    sd_p_Handing_init := ⟨_, y_p_Handing_init⟩
    sy_p_Handing_init := beq_iff_eq.mp fn_p_Question_init
    sn_p_Handing_init := fi_p_Handing_init
    su_p_Handing_init_Handing := ⟨_, _, kn_Handing, sc1_p_Handing_init_Handing, sc2_p_Handing_init_Handing, sc3_p_Handing_init_Handing⟩
    b_p_Handing_init := F_p_Handing_init.binds (ps := ["self", "graph", "way", "room"]) fun _ _ _ _ _ us hl => match us, hl with | [_, _, _, _], _ => rfl
    f_p_Handing_first := f_p_Handing_first
    d_p_Handing_first := _
    t_p_Handing_first := F_p_Handing_first
    b_p_Handing_first := F_p_Handing_first.binds (ps := ["self"]) fun _ _ _ _ _ _ us hl => match us, hl with | [_], _ => rfl
    f_p_Handing_moves := f_p_Handing_moves
    d_p_Handing_moves := _
    t_p_Handing_moves := F_p_Handing_moves
    b_p_Handing_moves := F_p_Handing_moves.binds (ps := ["self", "state"]) fun _ _ _ _ _ _ us hl => match us, hl with | [_, _], _ => rfl
    f_p_Handing_behind := f_p_Handing_behind
    d_p_Handing_behind := _
    t_p_Handing_behind := F_p_Handing_behind
    b_p_Handing_behind := F_p_Handing_behind.binds (ps := ["self", "step", "rest"]) fun _ _ _ _ _ _ us hl => match us, hl with | [_, _, _], _ => rfl
    f_p_Handing_amiss := f_p_Handing_amiss
    d_p_Handing_amiss := _
    t_p_Handing_amiss := F_p_Handing_amiss
    b_p_Handing_amiss := F_p_Handing_amiss.binds (ps := ["self", "passed", "place"]) fun _ _ _ _ _ _ us hl => match us, hl with | [_, _, _], _ => rfl
    f_p_Handing_missing := f_p_Handing_missing
    d_p_Handing_missing := _
    t_p_Handing_missing := F_p_Handing_missing
    b_p_Handing_missing := F_p_Handing_missing.binds (ps := ["self", "passed", "place"]) fun _ _ _ _ _ _ us hl => match us, hl with | [_, _, _], _ => rfl
    f_p_Handing_is_bad := f_p_Handing_is_bad
    d_p_Handing_is_bad := _
    t_p_Handing_is_bad := F_p_Handing_is_bad
    b_p_Handing_is_bad := F_p_Handing_is_bad.binds (ps := ["self", "state"]) fun _ _ _ _ _ _ us hl => match us, hl with | [_, _], _ => rfl
    f_rest := f_rest
    d_rest := _
    g_rest := PySem.W.mg_of X G a_rest
    t_rest := F_rest
    b_rest := F_rest.binds (ps := ["_law_number", "_law_by"]) fun _ _ _ _ _ _ us hl => match us, hl with | [_, _], _ => rfl
    f_pen := f_pen
    d_pen := _
    g_pen := PySem.W.mg_of X G a_pen
    t_pen := F_pen
    b_pen := F_pen.binds (ps := ["_law_cell"]) fun _ _ _ _ _ _ us hl => match us, hl with | [_], _ => rfl
    f_cell_at := f_cell_at
    d_cell_at := _
    g_cell_at := PySem.W.mg_of X G a_cell_at
    t_cell_at := F_cell_at
    b_cell_at := F_cell_at.binds (ps := ["_law_script", "_law_k"]) fun _ _ _ _ _ _ us hl => match us, hl with | [_, _], _ => rfl
    f_pens := f_pens
    d_pens := _
    g_pens := PySem.W.mg_of X G a_pens
    t_pens := F_pens
    b_pens := F_pens.binds (ps := ["_law_script", "_law_many"]) fun _ _ _ _ _ _ us hl => match us, hl with | [_, _], _ => rfl
    f_draw := f_draw
    d_draw := _
    g_draw := PySem.W.mg_of X G a_draw
    t_draw := F_draw
    b_draw := F_draw.binds (ps := ["_law_pen_here", "_law_many"]) fun _ _ _ _ _ _ us hl => match us, hl with | [_, _], _ => rfl
    f_pick := f_pick
    d_pick := _
    g_pick := PySem.W.mg_of X G a_pick
    t_pick := F_pick
    b_pick := F_pick.binds (ps := ["_law_pen_here", "_law_some"]) fun _ _ _ _ _ _ us hl => match us, hl with | [_, _], _ => rfl
    f_relay_step := f_relay_step
    d_relay_step := _
    g_relay_step := PySem.W.mg_of X G a_relay_step
    t_relay_step := F_relay_step
    b_relay_step := F_relay_step.binds (ps := ["_law_pen_here"]) fun _ _ _ _ _ _ us hl => match us, hl with | [_], _ => rfl
    f_relay_nodes := f_relay_nodes
    d_relay_nodes := _
    g_relay_nodes := PySem.W.mg_of X G a_relay_nodes
    t_relay_nodes := F_relay_nodes
    b_relay_nodes := F_relay_nodes.binds (ps := ["_law_pen_here", "_law_most"]) fun _ _ _ _ _ _ us hl => match us, hl with | [_, _], _ => rfl
    f_finals := f_finals
    d_finals := _
    g_finals := PySem.W.mg_of X G a_finals
    t_finals := F_finals
    b_finals := F_finals.binds (ps := ["_law_pen_here", "_law_many"]) fun _ _ _ _ _ _ us hl => match us, hl with | [_, _], _ => rfl
    f_known := f_known
    d_known := _
    g_known := PySem.W.mg_of X G a_known
    t_known := F_known
    b_known := F_known.binds (ps := ["_law_pen_here"]) fun _ _ _ _ _ _ us hl => match us, hl with | [_], _ => rfl
    f_relay := f_relay
    d_relay := _
    g_relay := PySem.W.mg_of X G a_relay
    t_relay := F_relay
    b_relay := F_relay.binds (ps := ["_law_pen_here", "_law_most"]) fun _ _ _ _ _ _ us hl => match us, hl with | [_, _], _ => rfl
    f_marks := f_marks
    d_marks := _
    g_marks := PySem.W.mg_of X G a_marks
    t_marks := F_marks
    b_marks := F_marks.binds (ps := ["_law_nodes"]) fun _ _ _ _ _ _ us hl => match us, hl with | [_], _ => rfl
    f_law := f_law
    d_law := _
    g_law := PySem.W.mg_of X G a_law
    t_law := F_law
    b_law := F_law.binds (ps := ["_law_script"]) fun _ _ _ _ _ _ us hl => match us, hl with | [_], _ => rfl }
  exact ⟨⟨[]⟩, [], _, ph_law, fun p hp => (nomatch hp), fun t ht => (nomatch ht), fun s v => .of_eq rfl, fun base _ _ _ => (letI : Tbl := ⟨[]⟩; (ok_law hP T).gd), fun ns hl => law_true ns hl⟩
end K94
open PySem PySem.W PyProof.Rows in
set_option maxRecDepth 100000 in
set_option maxHeartbeats 0 in
theorem PySem.Challenge.cw_closenews_k94_whole_no_both_holds : PySem.Challenge.rw_closenews_k94_whole_no_both.Holds := by
  w_on; o_law; k_head; (case hw => w_witness2)
  k_fill
  refine PV.walk_end (l := PySem.Challenge.rw_closenews_k94_whole_no_both) (n := 63) (k := 7) (x := "_law_script") rfl (by decide) rfl ⟨rfl, by decide, by decide⟩ (fun w h Y => PySem.W.kIn_of Y) ?F
  case F =>
    intro w mg fa h KX G hmg
    refine' K94.all_mk (by exact ⟨by decide, by decide +kernel⟩) KX G hmg ?kn_Relay ?kg_Relay ?kd_Relay ?ko_Relay ?ks_Relay ?kc_Relay ?km_Relay ?ki_Relay ?kk_Relay ?kp_Relay ?kn_Handing ?kg_Handing ?kd_Handing ?ko_Handing ?ks_Handing ?kc_Handing ?km_Handing ?ki_Handing ?kk_Handing ?kp_Handing ?na_Handing_graph ?na_Handing_limit ?na_Handing_way ?na_Relay_finals ?na_Relay_nodes ?mt_Handing_amiss ?mt_Handing_behind ?mt_Handing_first ?mt_Handing_is_bad ?mt_Handing_missing ?mt_Handing_moves ?mt_Handing_reached ?mt_Handing_run ?mt_Relay_question ?en_InvalidGraph ?ex_InvalidGraph ?ek_InvalidGraph ?eb_InvalidGraph ?et_InvalidGraph ?en_InvalidRoom ?ex_InvalidRoom ?ek_InvalidRoom ?eb_InvalidRoom ?et_InvalidRoom ?en_InvalidWay ?ex_InvalidWay ?ek_InvalidWay ?eb_InvalidWay ?et_InvalidWay ?z_all ?z_bool ?z_enumerate ?z_int ?z_isinstance ?z_len ?z_list ?z_max ?z_min ?z_range ?z_str ?z_super ?zst_any ?z_tuple ?z_zip ?q_CRASH ?q_MARKING ?ql_MARKING ?q_MOST_EDGES ?q_MOST_NODES ?q_MOST_ROOM ?q_OTHER ?q_PASSING ?ql_PASSING ?q_STEPS ?ql_STEPS ?q_WAYS ?ql_WAYS ?l_p_Relay_init ?c_p_Relay_init ?k_p_Relay_init ?u_p_Relay_init ?w_p_Relay_init ?x_p_Relay_init ?y_p_Relay_init ?sc1_p_Relay_init_Relay ?sc2_p_Relay_init_Relay ?sc3_p_Relay_init_Relay ?l_p_Handing_init ?c_p_Handing_init ?k_p_Handing_init ?u_p_Handing_init ?w_p_Handing_init ?x_p_Handing_init ?y_p_Handing_init ?sc1_p_Handing_init_Handing ?sc2_p_Handing_init_Handing ?sc3_p_Handing_init_Handing ?a_p_is_between ?l_p_is_between ?c_p_is_between ?k_p_is_between ?a_p_are_nodes ?l_p_are_nodes ?c_p_are_nodes ?k_p_are_nodes ?a_p_are_finals ?l_p_are_finals ?c_p_are_finals ?k_p_are_finals ?fn_p_Graph_init ?l_p_Graph_init ?c_p_Graph_init ?k_p_Graph_init ?fn_p_Question_init ?l_p_Question_init ?c_p_Question_init ?k_p_Question_init ?fn_p_Question_reached ?l_p_Question_reached ?c_p_Question_reached ?k_p_Question_reached ?fn_p_Question_run ?l_p_Question_run ?c_p_Question_run ?k_p_Question_run ?a_p_is_relay_step ?l_p_is_relay_step ?c_p_is_relay_step ?k_p_is_relay_step ?a_p_need_way_and_room ?l_p_need_way_and_room ?c_p_need_way_and_room ?k_p_need_way_and_room ?fn_p_Relay_init ?fi_p_Relay_init ?fn_p_Relay_question ?l_p_Relay_question ?c_p_Relay_question ?k_p_Relay_question ?fn_p_Handing_init ?fi_p_Handing_init ?fn_p_Handing_first ?l_p_Handing_first ?c_p_Handing_first ?k_p_Handing_first ?fn_p_Handing_moves ?l_p_Handing_moves ?c_p_Handing_moves ?k_p_Handing_moves ?fn_p_Handing_behind ?l_p_Handing_behind ?c_p_Handing_behind ?k_p_Handing_behind ?fn_p_Handing_amiss ?l_p_Handing_amiss ?c_p_Handing_amiss ?k_p_Handing_amiss ?fn_p_Handing_missing ?l_p_Handing_missing ?c_p_Handing_missing ?k_p_Handing_missing ?fn_p_Handing_is_bad ?l_p_Handing_is_bad ?c_p_Handing_is_bad ?k_p_Handing_is_bad ?a_rest ?l_rest ?c_rest ?k_rest ?a_pen ?l_pen ?c_pen ?k_pen ?a_cell_at ?l_cell_at ?c_cell_at ?k_cell_at ?a_pens ?l_pens ?c_pens ?k_pens ?a_draw ?l_draw ?c_draw ?k_draw ?a_pick ?l_pick ?c_pick ?k_pick ?a_relay_step ?l_relay_step ?c_relay_step ?k_relay_step ?a_relay_nodes ?l_relay_nodes ?c_relay_nodes ?k_relay_nodes ?a_finals ?l_finals ?c_finals ?k_finals ?a_known ?l_known ?c_known ?k_known ?a_relay ?l_relay ?c_relay ?k_relay ?a_marks ?l_marks ?c_marks ?k_marks ?a_law ?l_law ?c_law ?k_law
    (case kn_Relay => k_is)
    (case kg_Relay => k_is)
    (case kd_Relay => k_is)
    (case ko_Relay => k_is)
    (case ks_Relay => k_is)
    (case kc_Relay => k_is)
    (case km_Relay => k_is)
    (case ki_Relay => k_is)
    (case kk_Relay => k_is)
    (case kp_Relay => k_is)
    (case kn_Handing => k_is)
    (case kg_Handing => k_is)
    (case kd_Handing => k_is)
    (case ko_Handing => k_is)
    (case ks_Handing => k_is)
    (case kc_Handing => k_is)
    (case km_Handing => k_is)
    (case ki_Handing => k_is)
    (case kk_Handing => k_is)
    (case kp_Handing => k_is)
    (case na_Handing_graph => k_is)
    (case na_Handing_limit => k_is)
    (case na_Handing_way => k_is)
    (case na_Relay_finals => k_is)
    (case na_Relay_nodes => k_is)
    (case mt_Handing_amiss => k_is)
    (case mt_Handing_behind => k_is)
    (case mt_Handing_first => k_is)
    (case mt_Handing_is_bad => k_is)
    (case mt_Handing_missing => k_is)
    (case mt_Handing_moves => k_is)
    (case mt_Handing_reached => k_is)
    (case mt_Handing_run => k_is)
    (case mt_Relay_question => k_is)
    (case en_InvalidGraph => k_is)
    (case ex_InvalidGraph => k_exc)
    (case ek_InvalidGraph => k_is)
    (case eb_InvalidGraph => k_is)
    (case et_InvalidGraph => k_is)
    (case en_InvalidRoom => k_is)
    (case ex_InvalidRoom => k_exc)
    (case ek_InvalidRoom => k_is)
    (case eb_InvalidRoom => k_is)
    (case et_InvalidRoom => k_is)
    (case en_InvalidWay => k_is)
    (case ex_InvalidWay => k_exc)
    (case ek_InvalidWay => k_is)
    (case eb_InvalidWay => k_is)
    (case et_InvalidWay => k_is)
    (case z_all => k_is)
    (case z_bool => k_is)
    (case z_enumerate => k_is)
    (case z_int => k_is)
    (case z_isinstance => k_is)
    (case z_len => k_is)
    (case z_list => k_is)
    (case z_max => k_is)
    (case z_min => k_is)
    (case z_range => k_is)
    (case z_str => k_is)
    (case z_super => k_is)
    (case zst_any => k_is)
    (case z_tuple => k_is)
    (case z_zip => k_is)
    (case q_CRASH => k_is)
    (case q_MARKING => k_is)
    (case ql_MARKING => k_is)
    (case q_MOST_EDGES => k_is)
    (case q_MOST_NODES => k_is)
    (case q_MOST_ROOM => k_is)
    (case q_OTHER => k_is)
    (case q_PASSING => k_is)
    (case ql_PASSING => k_is)
    (case q_STEPS => k_is)
    (case ql_STEPS => k_is)
    (case q_WAYS => k_is)
    (case ql_WAYS => k_is)
    (case l_p_Relay_init => k_is)
    (case c_p_Relay_init => k_is)
    (case k_p_Relay_init => k_is)
    (case u_p_Relay_init => k_is)
    (case w_p_Relay_init => k_is)
    (case x_p_Relay_init => rfl)
    (case y_p_Relay_init => k_is)
    (case sc1_p_Relay_init_Relay => k_is)
    (case sc2_p_Relay_init_Relay => k_is)
    (case sc3_p_Relay_init_Relay => ks_is)
    (case l_p_Handing_init => k_is)
    (case c_p_Handing_init => k_is)
    (case k_p_Handing_init => k_is)
    (case u_p_Handing_init => k_is)
    (case w_p_Handing_init => k_is)
    (case x_p_Handing_init => rfl)
    (case y_p_Handing_init => k_is)
    (case sc1_p_Handing_init_Handing => k_is)
    (case sc2_p_Handing_init_Handing => k_is)
    (case sc3_p_Handing_init_Handing => ks_is)
    (case a_p_is_between => k_is)
    (case l_p_is_between => k_is)
    (case c_p_is_between => k_is)
    (case k_p_is_between => k_is)
    (case a_p_are_nodes => k_is)
    (case l_p_are_nodes => k_is)
    (case c_p_are_nodes => k_is)
    (case k_p_are_nodes => k_is)
    (case a_p_are_finals => k_is)
    (case l_p_are_finals => k_is)
    (case c_p_are_finals => k_is)
    (case k_p_are_finals => k_is)
    (case fn_p_Graph_init => k_is)
    (case l_p_Graph_init => k_is)
    (case c_p_Graph_init => k_is)
    (case k_p_Graph_init => k_is)
    (case fn_p_Question_init => k_is)
    (case l_p_Question_init => k_is)
    (case c_p_Question_init => k_is)
    (case k_p_Question_init => k_is)
    (case fn_p_Question_reached => k_is)
    (case l_p_Question_reached => k_is)
    (case c_p_Question_reached => k_is)
    (case k_p_Question_reached => k_is)
    (case fn_p_Question_run => k_is)
    (case l_p_Question_run => k_is)
    (case c_p_Question_run => k_is)
    (case k_p_Question_run => k_is)
    (case a_p_is_relay_step => k_is)
    (case l_p_is_relay_step => k_is)
    (case c_p_is_relay_step => k_is)
    (case k_p_is_relay_step => k_is)
    (case a_p_need_way_and_room => k_is)
    (case l_p_need_way_and_room => k_is)
    (case c_p_need_way_and_room => k_is)
    (case k_p_need_way_and_room => k_is)
    (case fn_p_Relay_init => k_is)
    (case fi_p_Relay_init => k_is)
    (case fn_p_Relay_question => k_is)
    (case l_p_Relay_question => k_is)
    (case c_p_Relay_question => k_is)
    (case k_p_Relay_question => k_is)
    (case fn_p_Handing_init => k_is)
    (case fi_p_Handing_init => k_is)
    (case fn_p_Handing_first => k_is)
    (case l_p_Handing_first => k_is)
    (case c_p_Handing_first => k_is)
    (case k_p_Handing_first => k_is)
    (case fn_p_Handing_moves => k_is)
    (case l_p_Handing_moves => k_is)
    (case c_p_Handing_moves => k_is)
    (case k_p_Handing_moves => k_is)
    (case fn_p_Handing_behind => k_is)
    (case l_p_Handing_behind => k_is)
    (case c_p_Handing_behind => k_is)
    (case k_p_Handing_behind => k_is)
    (case fn_p_Handing_amiss => k_is)
    (case l_p_Handing_amiss => k_is)
    (case c_p_Handing_amiss => k_is)
    (case k_p_Handing_amiss => k_is)
    (case fn_p_Handing_missing => k_is)
    (case l_p_Handing_missing => k_is)
    (case c_p_Handing_missing => k_is)
    (case k_p_Handing_missing => k_is)
    (case fn_p_Handing_is_bad => k_is)
    (case l_p_Handing_is_bad => k_is)
    (case c_p_Handing_is_bad => k_is)
    (case k_p_Handing_is_bad => k_is)
    (case a_rest => k_is)
    (case l_rest => k_is)
    (case c_rest => k_is)
    (case k_rest => k_is)
    (case a_pen => k_is)
    (case l_pen => k_is)
    (case c_pen => k_is)
    (case k_pen => k_is)
    (case a_cell_at => k_is)
    (case l_cell_at => k_is)
    (case c_cell_at => k_is)
    (case k_cell_at => k_is)
    (case a_pens => k_is)
    (case l_pens => k_is)
    (case c_pens => k_is)
    (case k_pens => k_is)
    (case a_draw => k_is)
    (case l_draw => k_is)
    (case c_draw => k_is)
    (case k_draw => k_is)
    (case a_pick => k_is)
    (case l_pick => k_is)
    (case c_pick => k_is)
    (case k_pick => k_is)
    (case a_relay_step => k_is)
    (case l_relay_step => k_is)
    (case c_relay_step => k_is)
    (case k_relay_step => k_is)
    (case a_relay_nodes => k_is)
    (case l_relay_nodes => k_is)
    (case c_relay_nodes => k_is)
    (case k_relay_nodes => k_is)
    (case a_finals => k_is)
    (case l_finals => k_is)
    (case c_finals => k_is)
    (case k_finals => k_is)
    (case a_known => k_is)
    (case l_known => k_is)
    (case c_known => k_is)
    (case k_known => k_is)
    (case a_relay => k_is)
    (case l_relay => k_is)
    (case c_relay => k_is)
    (case k_relay => k_is)
    (case a_marks => k_is)
    (case l_marks => k_is)
    (case c_marks => k_is)
    (case k_marks => k_is)
    (case a_law => k_is)
    (case l_law => k_is)
    (case c_law => k_is)
    (case k_law => k_is)

