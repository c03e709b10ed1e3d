import PyProof.Rows.All
import Wide.All
import OpenK.AllK
import Wide.FinOn
import HandS.ForMost
import HandS.More
import HandS.Deep
import HandS.Set
import HandS.Strs
import HandS.SetFor
import HandS.Conv
import HandS.IsInst
import KE.SortData
import HandS.SortInts
import HandS.WordsDict
import HandS.Codes
import HandS.Zip
import KE.BitLaws
import PyProof.Rows.TupDisplay
import HandS.DeepEq
import PyProof.NeKinds
import PySem.Challenge.RW_besidesay_k56_whole_no_marks_make_balls
set_option Elab.async false
set_option linter.all false
set_option maxRecDepth 100000
set_option maxHeartbeats 4000000
/-! Values as data: what a value reads to, the state of a def's frame by data, what an expression and a statement do to it. -/
namespace Bs
open PySem L2

inductive D where
  | non | bl (b : Bool) | int (i : Int) | str (s : Str) | adr (a : Addr)
  | tup (ds : List D) | lst (ds : List D)
  | dik (ks : List Key) (ds : List D) | dit (ks : List (List Key)) (ds : List D)
  | scr (ns : List Int) | typ (n : String)

def Le (F F' : Hp) : Prop := ∀ a u, F a = some u → F' a = some u
theorem Le.refl (F : Hp) : Le F F := fun _ _ h => h
theorem Le.trans {F G H : Hp} (a : Le F G) (b : Le G H) : Le F H := fun x o h => b x o (a x o h)
theorem Le.new {H : Hp} {p : Addr} {o : HO} (h : H p = none) : Le H (upd H p o) := fun a u e => by
  rw [upd_ne (ne_of_none e h)]
  exact e
theorem Le.none {F G : Hp} {p : Addr} (l : Le F G) (h : G p = none) : F p = none := by
  cases e : F p with
  | none => rfl
  | some o => rw [l p o e] at h; cases h
theorem Le.upd2 {F G : Hp} {p : Addr} {o : HO} (l : Le F G) : Le (upd F p o) (upd G p o) := fun a u e => by
  by_cases h : a = p
  · subst h; rw [upd_same] at e ⊢; exact e
  · rw [upd_ne h] at e ⊢; exact l a u e

mutual
def Rdd (K : PySem.W.Frag) (F : Hp) : D → V → Prop
  | .non, v => v = .non
  | .bl b, v => v = .bl b
  | .int i, v => v = .int i
  | .str s, v => v = .str s
  | .adr a, v => v = .ref a
  | .tup ds, v => ∃ a vs, v = .ref a ∧ F a = some (.tup vs) ∧ RdL K F ds vs
  | .lst ds, v => ∃ a vs, v = .ref a ∧ F a = some (.lst vs) ∧ RdL K F ds vs
  | .dik ks ds, v => ∃ a kvs, v = .ref a ∧ F a = some (.dK kvs) ∧ kvs.map (·.1) = ks ∧ RdL K F ds (kvs.map (·.2))
  | .dit ks ds, v => ∃ a kvs, v = .ref a ∧ F a = some (.dT kvs) ∧ kvs.map (·.1) = ks ∧ RdL K F ds (kvs.map (·.2))
  | .scr ns, v => ∃ a, v = .ref a ∧ SqL K F a (ns.map V.int)
  | .typ n, v => v = .ty n
def RdL (K : PySem.W.Frag) (F : Hp) : List D → List V → Prop
  | [], vs => vs = []
  | d :: ds, vs => ∃ v r, vs = v :: r ∧ Rdd K F d v ∧ RdL K F ds r
end

section
variable {K : PySem.W.Frag}
mutual
theorem Rdd.mono {F F' : Hp} (l : Le F F') : ∀ (d : D) (v : V), Rdd K F d v → Rdd K F' d v
  | .non, v, h => by unfold Rdd at h ⊢; exact h
  | .bl b, v, h => by unfold Rdd at h ⊢; exact h
  | .int i, v, h => by unfold Rdd at h ⊢; exact h
  | .str s, v, h => by unfold Rdd at h ⊢; exact h
  | .adr a, v, h => by unfold Rdd at h ⊢; exact h
  | .tup ds, v, h => by
    unfold Rdd at h ⊢
    obtain ⟨a, vs, e, f, r⟩ := h
    exact ⟨a, vs, e, l _ _ f, RdL.mono l ds vs r⟩
  | .lst ds, v, h => by
    unfold Rdd at h ⊢
    obtain ⟨a, vs, e, f, r⟩ := h
    exact ⟨a, vs, e, l _ _ f, RdL.mono l ds vs r⟩
  | .dik ks ds, v, h => by
    unfold Rdd at h ⊢
    obtain ⟨a, vs, e, f, k, r⟩ := h
    exact ⟨a, vs, e, l _ _ f, k, RdL.mono l ds _ r⟩
  | .dit ks ds, v, h => by
    unfold Rdd at h ⊢
    obtain ⟨a, vs, e, f, k, r⟩ := h
    exact ⟨a, vs, e, l _ _ f, k, RdL.mono l ds _ r⟩
  | .scr ns, v, h => by
    unfold Rdd at h ⊢
    obtain ⟨a, e, f⟩ := h
    exact ⟨a, e, Same.seq l f⟩
  | .typ n, v, h => by unfold Rdd at h ⊢; exact h
theorem RdL.mono {F F' : Hp} (l : Le F F') : ∀ (ds : List D) (vs : List V), RdL K F ds vs → RdL K F' ds vs
  | [], vs, h => by unfold RdL at h ⊢; exact h
  | d :: ds, vs, h => by
    unfold RdL at h ⊢
    obtain ⟨v, r, e, h1, h2⟩ := h
    exact ⟨v, r, e, Rdd.mono l d v h1, RdL.mono l ds r h2⟩
end
theorem RdL.nil {F : Hp} : RdL K F [] [] := by unfold RdL; rfl
theorem RdL.cons {F : Hp} {d : D} {v : V} {ds : List D} {vs : List V} (h : Rdd K F d v) (t : RdL K F ds vs) : RdL K F (d :: ds) (v :: vs) := by
  unfold RdL; exact ⟨v, vs, rfl, h, t⟩
theorem RdL.inv {F : Hp} {d : D} {ds : List D} {vs : List V} (h : RdL K F (d :: ds) vs) : ∃ v r, vs = v :: r ∧ Rdd K F d v ∧ RdL K F ds r := by
  unfold RdL at h; exact h
theorem RdL.inv0 {F : Hp} {vs : List V} (h : RdL K F [] vs) : vs = [] := by unfold RdL at h; exact h
theorem RdL.len {F : Hp} : ∀ {ds : List D} {vs : List V}, RdL K F ds vs → ds.length = vs.length
  | [], vs, h => by rw [h.inv0]; rfl
  | d :: ds, vs, h => by
    obtain ⟨v, r, rfl, _, t⟩ := h.inv
    rw [List.length_cons, List.length_cons, RdL.len t]
theorem RdL.get {F : Hp} : ∀ {ds : List D} {vs : List V} {i : Nat} {d : D}, RdL K F ds vs → ds[i]? = some d → ∃ v, vs[i]? = some v ∧ Rdd K F d v
  | [], _, _, _, _, e => by simp at e
  | x :: ds, vs, 0, d, h, e => by
    obtain ⟨v, r, rfl, h1, _⟩ := h.inv
    simp at e; subst e
    exact ⟨v, rfl, h1⟩
  | x :: ds, vs, i + 1, d, h, e => by
    obtain ⟨v, r, rfl, _, t⟩ := h.inv
    obtain ⟨u, e1, e2⟩ := RdL.get (i := i) t (by simpa using e)
    exact ⟨u, by simpa using e1, e2⟩
theorem RdL.append {F : Hp} : ∀ {ds es : List D} {vs us : List V}, RdL K F ds vs → RdL K F es us → RdL K F (ds ++ es) (vs ++ us)
  | [], es, vs, us, h, t => by rw [h.inv0]; exact t
  | d :: ds, es, vs, us, h, t => by
    obtain ⟨v, r, rfl, h1, h2⟩ := h.inv
    exact RdL.cons h1 (RdL.append h2 t)
theorem RdL.snoc {F : Hp} {ds : List D} {vs : List V} {d : D} {v : V} (h : RdL K F ds vs) (t : Rdd K F d v) : RdL K F (ds ++ [d]) (vs ++ [v]) := h.append (RdL.cons t RdL.nil)
theorem RdL.drop {F : Hp} : ∀ {ds : List D} {vs : List V} (n : Nat), RdL K F ds vs → RdL K F (ds.drop n) (vs.drop n)
  | _, _, 0, h => h
  | [], vs, n + 1, h => by rw [h.inv0]; exact RdL.nil
  | d :: ds, vs, n + 1, h => by
    obtain ⟨v, r, rfl, _, h2⟩ := h.inv
    exact RdL.drop n h2
theorem RdL.take {F : Hp} : ∀ {ds : List D} {vs : List V} (n : Nat), RdL K F ds vs → RdL K F (ds.take n) (vs.take n)
  | _, _, 0, h => RdL.nil
  | [], vs, n + 1, h => by rw [h.inv0]; exact RdL.nil
  | d :: ds, vs, n + 1, h => by
    obtain ⟨v, r, rfl, h1, h2⟩ := h.inv
    exact RdL.cons h1 (RdL.take n h2)
theorem RdL.set {F : Hp} {d : D} {v : V} (t : Rdd K F d v) : ∀ {ds : List D} {vs : List V} (n : Nat), RdL K F ds vs → RdL K F (ds.set n d) (vs.set n v)
  | [], vs, n, h => by rw [h.inv0]; exact RdL.nil
  | d :: ds, vs, 0, h => by
    obtain ⟨v, r, rfl, h1, h2⟩ := h.inv
    exact RdL.cons t h2
  | d :: ds, vs, n + 1, h => by
    obtain ⟨v, r, rfl, h1, h2⟩ := h.inv
    exact RdL.cons h1 (RdL.set t n h2)
theorem RdL.ints {F : Hp} : ∀ (ns : List Int), RdL K F (ns.map D.int) (ns.map V.int)
  | [] => RdL.nil
  | n :: ns => RdL.cons (by unfold Rdd; rfl) (RdL.ints ns)
theorem RdL.ints_inv {F : Hp} : ∀ {ns : List Int} {vs : List V}, RdL K F (ns.map D.int) vs → vs = ns.map V.int
  | [], vs, h => h.inv0
  | n :: ns, vs, h => by
    obtain ⟨v, r, rfl, h1, h2⟩ := RdL.inv h
    unfold Rdd at h1
    rw [h1, RdL.ints_inv h2]
    rfl
theorem RdL.strs_inv {F : Hp} : ∀ {ns : List Str} {vs : List V}, RdL K F (ns.map D.str) vs → vs = ns.map V.str
  | [], vs, h => h.inv0
  | n :: ns, vs, h => by
    obtain ⟨v, r, rfl, h1, h2⟩ := RdL.inv h
    unfold Rdd at h1
    rw [h1, RdL.strs_inv h2]
    rfl
/-- by places -/
theorem RdL.of_get {F : Hp} : ∀ {ds : List D} {vs : List V}, ds.length = vs.length → (∀ (i : Nat) (d : D) (v : V), ds[i]? = some d → vs[i]? = some v → Rdd K F d v) → RdL K F ds vs
  | [], [], _, _ => RdL.nil
  | [], _ :: _, h, _ => by simp at h
  | _ :: _, [], h, _ => by simp at h
  | d :: ds, v :: vs, h, k => RdL.cons (k 0 d v rfl rfl) (RdL.of_get (by simpa using h) fun i d' v' e1 e2 => k (i + 1) d' v' (by simpa using e1) (by simpa using e2))
end

/-- what is frozen is read in the heap (a dict that is walked is locked meanwhile) -/
def IsDct (u : HO) : Prop := (∃ kvs, u = .dK kvs) ∨ ∃ kvs, u = .dT kvs
def Ext (F H : Hp) : Prop := ∀ a u, F a = some u → H a = some u ∨ ((∃ o, H a = some (.frz o u)) ∧ IsDct u)
section
variable {K : PySem.W.Frag} {F F' H : Hp} {a : Addr} {xs : List V}
theorem Ext.at {u : HO} (e : Ext F H) (h : F a = some u) (n : ¬ IsDct u) : H a = some u := by
  rcases e _ _ h with q | ⟨_, q⟩
  · exact q
  · exact absurd q n
theorem Ext.tup (e : Ext F H) (h : F a = some (.tup xs)) : H a = some (.tup xs) := e.at h (by rintro (⟨_, z⟩ | ⟨_, z⟩) <;> cases z)
theorem Ext.sqt (e : Ext F H) (h : F a = some (.tup xs)) : SqT K H a xs := SqT.of (e.tup h)
theorem Ext.lst (e : Ext F H) (h : F a = some (.lst xs)) : H a = some (.lst xs) := e.at h (by rintro (⟨_, z⟩ | ⟨_, z⟩) <;> cases z)
theorem Ext.rd {u : HO} (e : Ext F H) (h : F a = some u) : Rd H a u := by
  rcases e _ _ h with q | ⟨⟨o, q⟩, _⟩
  · exact .inl q
  · exact .inr ⟨o, q⟩
theorem Ext.sql (e : Ext F H) (h : SqL K F a xs) : SqL K H a xs := by
  rcases h with (h | ⟨o, h⟩) | h
  · exact .inl (.inl (e.lst h))
  · exact .inl (.inr ⟨o, e.at h (by rintro (⟨_, z⟩ | ⟨_, z⟩) <;> cases z)⟩)
  · exact .inr h
theorem Ext.le (e : Ext F' H) (l : Le F F') : Ext F H := fun a u h => e a u (l a u h)
theorem Ext.hle {H' : Hp} (e : Ext F H) (l : Le H H') : Ext F H' := fun a u h => by
  rcases e a u h with q | ⟨⟨o, q⟩, z⟩
  · exact .inl (l _ _ q)
  · exact .inr ⟨⟨o, l _ _ q⟩, z⟩
theorem Ext.some (e : Ext F H) (h : H a = none) : F a = none := by
  cases q : F a with
  | none => rfl
  | some u => rcases e a u q with z | ⟨⟨o, z⟩, _⟩ <;> (rw [h] at z; cases z)
theorem Ext.new {p : Addr} {o : HO} (e : Ext F H) (h : H p = none) : Ext (upd F p o) (upd H p o) := fun a u q => by
  by_cases z : a = p
  · subst z; rw [upd_same] at q ⊢; exact .inl q
  · rw [upd_ne z] at q ⊢; exact e a u q
/-- an object that isn't frozen is written -/
theorem Ext.put {p : Addr} {o : HO} (e : Ext F H) (h : F p = none) : Ext F (upd H p o) := fun a u q => by
  have z : a ≠ p := ne_of_none q h
  rw [upd_ne z]; exact e a u q
end

/-! ### the frame by data -/
inductive Cell where
  | any | fro (d : D) | own (d : D) | pool

/-- what stands at an object is that data -/
def ObjM (K : PySem.W.Frag) (F : Hp) (o : HO) : D → Prop
  | .lst ds => ∃ vs, o = .lst vs ∧ RdL K F ds vs
  | .dik ks ds => ∃ kvs, o = .dK kvs ∧ kvs.map (·.1) = ks ∧ RdL K F ds (kvs.map (·.2))
  | .dit ks ds => ∃ kvs, o = .dT kvs ∧ kvs.map (·.1) = ks ∧ RdL K F ds (kvs.map (·.2))
  | _ => False
theorem ObjM.mono {K : PySem.W.Frag} {F F' : Hp} {o : HO} {d : D} (l : Le F F') (h : ObjM K F o d) : ObjM K F' o d := by
  cases d with
  | lst ds => obtain ⟨vs, e, r⟩ := h; exact ⟨vs, e, RdL.mono l _ _ r⟩
  | dik ks ds => obtain ⟨vs, e, k, r⟩ := h; exact ⟨vs, e, k, RdL.mono l _ _ r⟩
  | dit ks ds => obtain ⟨vs, e, k, r⟩ := h; exact ⟨vs, e, k, RdL.mono l _ _ r⟩
  | _ => exact h
theorem ObjM.rdd {K : PySem.W.Frag} {F : Hp} {o : HO} {d : D} {p : Addr} (h : ObjM K F o d) (e : F p = some o) : Rdd K F d (.ref p) := by
  cases d with
  | lst ds => obtain ⟨vs, rfl, r⟩ := h; unfold Rdd; exact ⟨p, vs, rfl, e, r⟩
  | dik ks ds => obtain ⟨vs, rfl, k, r⟩ := h; unfold Rdd; exact ⟨p, vs, rfl, e, k, r⟩
  | dit ks ds => obtain ⟨vs, rfl, k, r⟩ := h; unfold Rdd; exact ⟨p, vs, rfl, e, k, r⟩
  | _ => exact h.elim
/-- the law's pool: two ints, the second small -/
def PoolO (o : HO) : Prop := ∃ c s : Int, o = .lst [.int c, .int s] ∧ 0 ≤ s ∧ s < 2147483647

structure Bse (B : Hp) (pp : Option Addr) (F H : Hp) : Prop where
  ext : Ext F H
  base : Le B H
  pool : ∀ p, pp = some p → B p = none ∧ F p = none ∧ ∃ o, H p = some o ∧ PoolO o

def CellV (K : PySem.W.Frag) (B : Hp) (pp : Option Addr) (F : Hp) (x : Option V) : Cell → Prop
  | .any => True
  | .fro d => ∃ v, x = some v ∧ Rdd K F d v
  | .own d => ∃ p o, x = some (.ref p) ∧ F p = none ∧ B p = some o ∧ ObjM K F o d
  | .pool => ∃ p, x = some (.ref p) ∧ pp = some p

structure OkE (K : PySem.W.Frag) (B : Hp) (pp : Option Addr) (F H : Hp) (σ : L2.St) (ρ : List Cell) : Prop where
  bse : Bse B pp F H
  cell : ∀ (i : Nat) (c : Cell), ρ[i]? = some c → ∃ x, σ[i]? = some x ∧ CellV K B pp F x c
  sep : ∀ (i j : Nat) (p : Addr) (d d' : D), ρ[i]? = some (.own d) → ρ[j]? = some (.own d') → σ[i]? = some (some (.ref p)) → σ[j]? = some (some (.ref p)) → i = j

section
variable {K : PySem.W.Frag} {B B' : Hp} {pp : Option Addr} {F F' H H' : Hp} {σ : L2.St} {ρ : List Cell} {p : Addr} {o : HO}
theorem CellV.mono {x : Option V} {c : Cell} (l : Le F F') (hF : ∀ p, B p ≠ none → F p = none → F' p = none) (h : CellV K B pp F x c) : CellV K B pp F' x c := by
  cases c with
  | any => trivial
  | fro d => obtain ⟨v, e, r⟩ := h; exact ⟨v, e, Rdd.mono l _ _ r⟩
  | own d => obtain ⟨p, o, e, f, b, m⟩ := h; exact ⟨p, o, e, hF p (by rw [b]; exact Option.some_ne_none _) f, b, m.mono l⟩
  | pool => exact h
/-- a new frozen object -/
theorem OkE.new (ok : OkE K B pp F H σ ρ) (h : H p = none) : OkE K B pp (upd F p o) (upd H p o) σ ρ := by
  have hF : F p = none := ok.bse.ext.some h
  have hB : B p = none := ok.bse.base.none h
  have l : Le F (upd F p o) := Le.new hF
  refine ⟨⟨ok.bse.ext.new h, ok.bse.base.trans (Le.new h), fun q e => ?_⟩, fun i c hc => ?_, ok.sep⟩
  · obtain ⟨h1, h2, ob, h3, h4⟩ := ok.bse.pool q e
    have n : q ≠ p := ne_of_none h3 h
    exact ⟨h1, by rw [upd_ne n]; exact h2, ob, by rw [upd_ne n]; exact h3, h4⟩
  · obtain ⟨x, e, q⟩ := ok.cell i c hc
    refine ⟨x, e, q.mono l fun b hb hf => ?_⟩
    have n : b ≠ p := by intro z; subst z; exact hb hB
    rw [upd_ne n]; exact hf
/-- a new object that isn't frozen, and stands under the base -/
theorem OkE.newB (ok : OkE K B pp F H σ ρ) (h : H p = none) : OkE K (upd B p o) pp F (upd H p o) σ ρ := by
  have hF : F p = none := ok.bse.ext.some h
  have hB : B p = none := ok.bse.base.none h
  refine ⟨⟨ok.bse.ext.put hF, ok.bse.base.upd2, fun q e => ?_⟩, fun i c hc => ?_, ok.sep⟩
  · obtain ⟨h1, h2, ob, h3, h4⟩ := ok.bse.pool q e
    have n : q ≠ p := ne_of_none h3 h
    exact ⟨by rw [upd_ne n]; exact h1, h2, ob, by rw [upd_ne n]; exact h3, h4⟩
  · obtain ⟨x, e, q⟩ := ok.cell i c hc
    refine ⟨x, e, ?_⟩
    cases c with
    | any => trivial
    | fro d => exact q
    | own d =>
      obtain ⟨r, ob, e1, f, b, m⟩ := q
      have n : r ≠ p := ne_of_none b hB
      exact ⟨r, ob, e1, f, by rw [upd_ne n]; exact b, m⟩
    | pool => exact q
/-- the base may shrink but for what is owned -/
theorem OkE.base (ok : OkE K B pp F H σ ρ) (l : Le B' B) (ho : ∀ (i : Nat) (d : D) (q : Addr), ρ[i]? = some (.own d) → σ[i]? = some (some (.ref q)) → B' q = B q) : OkE K B' pp F H σ ρ := by
  refine ⟨⟨ok.bse.ext, l.trans ok.bse.base, fun q e => ?_⟩, fun i c hc => ?_, ok.sep⟩
  · obtain ⟨h1, h2⟩ := ok.bse.pool q e
    exact ⟨l.none h1, h2⟩
  · obtain ⟨x, e, q⟩ := ok.cell i c hc
    refine ⟨x, e, ?_⟩
    cases c with
    | any => trivial
    | fro d => exact q
    | own d =>
      obtain ⟨r, ob, e1, f, b, m⟩ := q
      exact ⟨r, ob, e1, f, by rw [ho i d r hc (by rw [e, e1])]; exact b, m⟩
    | pool => exact q
/-- an object that is neither owned nor the pool is written, or made new -/
theorem OkE.len (ok : OkE K B pp F H σ ρ) : ρ.length ≤ σ.length := by
  rcases Nat.lt_or_ge σ.length ρ.length with h | h
  · obtain ⟨x, e, _⟩ := ok.cell σ.length _ (List.getElem?_eq_getElem h)
    rw [List.getElem?_eq_none (Nat.le_refl _)] at e
    cases e
  · exact h
/-- a slot is stored -/
theorem OkE.setF (ok : OkE K B pp F H σ ρ) (i : Nat) {d : D} {v : V} (r : Rdd K F d v) : OkE K B pp F H (σ.set i (some v)) (ρ.set i (.fro d)) := by
  have len := ok.len
  refine ⟨ok.bse, fun j c hc => ?_, fun j k q d1 d2 h1 h2 h3 h4 => ?_⟩
  · by_cases e : i = j
    · subst e
      have hi : i < ρ.length := by
        have := (List.getElem?_eq_some_iff.mp hc).1
        simpa using this
      rw [List.getElem?_set_self hi] at hc
      cases hc
      exact ⟨some v, by rw [List.getElem?_set_self (by omega)], v, rfl, r⟩
    · rw [List.getElem?_set_ne e] at hc ⊢
      exact ok.cell j c hc
  · have nj : i ≠ j := by
      rintro rfl
      have hi : i < ρ.length := by
        have := (List.getElem?_eq_some_iff.mp h1).1
        simpa using this
      rw [List.getElem?_set_self hi] at h1
      cases h1
    have nk : i ≠ k := by
      rintro rfl
      have hi : i < ρ.length := by
        have := (List.getElem?_eq_some_iff.mp h2).1
        simpa using this
      rw [List.getElem?_set_self hi] at h2
      cases h2
    rw [List.getElem?_set_ne nj] at h1 h3
    rw [List.getElem?_set_ne nk] at h2 h4
    exact ok.sep j k q d1 d2 h1 h2 h3 h4
theorem OkE.setA (ok : OkE K B pp F H σ ρ) (i : Nat) (x : Option V) : OkE K B pp F H (σ.set i x) (ρ.set i .any) := by
  have len := ok.len
  refine ⟨ok.bse, fun j c hc => ?_, fun j k q d1 d2 h1 h2 h3 h4 => ?_⟩
  · by_cases e : i = j
    · subst e
      have hi : i < ρ.length := by
        have := (List.getElem?_eq_some_iff.mp hc).1
        simpa using this
      rw [List.getElem?_set_self hi] at hc
      cases hc
      exact ⟨x, by rw [List.getElem?_set_self (by omega)], trivial⟩
    · rw [List.getElem?_set_ne e] at hc ⊢
      exact ok.cell j c hc
  · have nj : i ≠ j := by
      rintro rfl
      have hi : i < ρ.length := by
        have := (List.getElem?_eq_some_iff.mp h1).1
        simpa using this
      rw [List.getElem?_set_self hi] at h1
      cases h1
    have nk : i ≠ k := by
      rintro rfl
      have hi : i < ρ.length := by
        have := (List.getElem?_eq_some_iff.mp h2).1
        simpa using this
      rw [List.getElem?_set_self hi] at h2
      cases h2
    rw [List.getElem?_set_ne nj] at h1 h3
    rw [List.getElem?_set_ne nk] at h2 h4
    exact ok.sep j k q d1 d2 h1 h2 h3 h4
/-- a slot is stored with an object of its own, whose content stands under the base -/
theorem OkE.setO (ok : OkE K B pp F H σ ρ) (i : Nat) {d : D} (hB : B p = none) (hP : pp ≠ some p) (hF : F p = none) (hH : H p = some o) (m : ObjM K F o d) :
    OkE K (upd B p o) pp F H (σ.set i (some (.ref p))) (ρ.set i (.own d)) := by
  have len := ok.len
  have own : ∀ (j : Nat) (c : Cell) (q : Addr), ρ[j]? = some c → (∃ e, c = .own e) → σ[j]? = some (some (.ref q)) → q ≠ p := by
    rintro j c q hc ⟨e, rfl⟩ hs rfl
    obtain ⟨x, e1, q2, o2, e2, _, b, _⟩ := ok.cell j _ hc
    rw [hs] at e1
    cases e1
    cases e2
    rw [hB] at b
    cases b
  refine ⟨⟨ok.bse.ext, fun a u e => ?_, fun q e => ?_⟩, fun j c hc => ?_, fun j k q d1 d2 h1 h2 h3 h4 => ?_⟩
  · by_cases z : a = p
    · subst z; rw [upd_same] at e; cases e; exact hH
    · rw [upd_ne z] at e; exact ok.bse.base _ _ e
  · obtain ⟨h1, h2⟩ := ok.bse.pool q e
    have n : q ≠ p := by rintro rfl; exact hP e
    exact ⟨by rw [upd_ne n]; exact h1, h2⟩
  · by_cases e : i = j
    · subst e
      have hi : i < ρ.length := by
        have := (List.getElem?_eq_some_iff.mp hc).1
        simpa using this
      rw [List.getElem?_set_self hi] at hc
      cases hc
      exact ⟨some (.ref p), by rw [List.getElem?_set_self (by omega)], p, o, rfl, hF, upd_same, m⟩
    · rw [List.getElem?_set_ne e] at hc ⊢
      obtain ⟨x, e1, q⟩ := ok.cell j c hc
      refine ⟨x, e1, ?_⟩
      cases c with
      | any => trivial
      | fro d => exact q
      | own d =>
        obtain ⟨r, ob, e2, f, b, m⟩ := q
        have n : r ≠ p := ne_of_none b hB
        exact ⟨r, ob, e2, f, by rw [upd_ne n]; exact b, m⟩
      | pool => exact q
  · by_cases ej : i = j
    · by_cases ek : i = k
      · rw [← ej, ← ek]
      · exfalso
        rw [List.getElem?_set_ne ek] at h2 h4
        have hi : i < ρ.length := by
          have := (List.getElem?_eq_some_iff.mp h1).1
          rw [List.length_set] at this
          omega
        rw [← ej, List.getElem?_set_self (by omega)] at h3
        cases h3
        exact own k _ _ h2 ⟨_, rfl⟩ h4 rfl
    · rw [List.getElem?_set_ne ej] at h1 h3
      by_cases ek : i = k
      · exfalso
        have hi : i < ρ.length := by
          have := (List.getElem?_eq_some_iff.mp h2).1
          rw [List.length_set] at this
          omega
        rw [← ek, List.getElem?_set_self (by omega)] at h4
        cases h4
        exact own j _ _ h1 ⟨_, rfl⟩ h3 rfl
      · rw [List.getElem?_set_ne ek] at h2 h4
        exact ok.sep j k q d1 d2 h1 h2 h3 h4
/-- a def's own object at a slot is frozen -/
theorem OkE.freezeX (ok : OkE K B pp F H σ ρ) {i : Nat} {d : D} (h : ρ[i]? = some (.own d)) : ∃ p o, σ[i]? = some (some (.ref p)) ∧ F p = none ∧ OkE K B pp (upd F p o) H σ (ρ.set i (.fro d)) := by
  obtain ⟨x, e, p, o, rfl, f, b, m⟩ := ok.cell i _ h
  have l : Le F (upd F p o) := Le.new f
  refine ⟨p, o, e, f, ⟨⟨fun a u q => ?_, ok.bse.base, fun q z => ?_⟩, fun j c hc => ?_, fun j k q d1 d2 h1 h2 h3 h4 => ?_⟩⟩
  · by_cases z : a = p
    · subst z; rw [upd_same] at q; cases q; exact .inl (ok.bse.base _ _ b)
    · rw [upd_ne z] at q; exact ok.bse.ext a u q
  · obtain ⟨h1, h2⟩ := ok.bse.pool q z
    have n : q ≠ p := by rintro rfl; rw [h1] at b; cases b
    exact ⟨h1, by rw [upd_ne n]; exact h2.1, h2.2⟩
  · by_cases z : i = j
    · subst z
      rw [List.getElem?_set_self (List.getElem?_eq_some_iff.mp h).1] at hc
      cases hc
      exact ⟨_, e, _, rfl, (m.mono l).rdd upd_same⟩
    · rw [List.getElem?_set_ne z] at hc
      obtain ⟨x, e1, q⟩ := ok.cell j c hc
      refine ⟨x, e1, ?_⟩
      cases c with
      | any => trivial
      | fro d => obtain ⟨v, e2, r⟩ := q; exact ⟨v, e2, Rdd.mono l _ _ r⟩
      | own d' =>
        obtain ⟨r, ob, e2, f2, b2, m2⟩ := q
        have n : r ≠ p := by
          rintro rfl
          subst e2
          exact z (ok.sep i j _ _ _ h hc e e1)
        exact ⟨r, ob, e2, by rw [upd_ne n]; exact f2, b2, m2.mono l⟩
      | pool => exact q
  · have nj : i ≠ j := by
      rintro rfl
      rw [List.getElem?_set_self (List.getElem?_eq_some_iff.mp h).1] at h1
      cases h1
    have nk : i ≠ k := by
      rintro rfl
      rw [List.getElem?_set_self (List.getElem?_eq_some_iff.mp h).1] at h2
      cases h2
    rw [List.getElem?_set_ne nj] at h1
    rw [List.getElem?_set_ne nk] at h2
    exact ok.sep j k q d1 d2 h1 h2 h3 h4
theorem OkE.freeze (ok : OkE K B pp F H σ ρ) {i : Nat} {d : D} (h : ρ[i]? = some (.own d)) : ∃ F', Le F F' ∧ OkE K B pp F' H σ (ρ.set i (.fro d)) := by
  obtain ⟨p, o, _, f, ok'⟩ := ok.freezeX h
  exact ⟨_, Le.new f, ok'⟩
theorem OkE.fro (ok : OkE K B pp F H σ ρ) {i : Nat} {d : D} (h : ρ[i]? = some (.fro d)) : ∃ v, σ[i]? = some (some v) ∧ Rdd K F d v := by
  obtain ⟨x, e, v, rfl, r⟩ := ok.cell i _ h
  exact ⟨v, e, r⟩
end

/-- more is frozen, nothing of the base that wasn't -/
structure Gro (B F F' : Hp) : Prop where
  le : Le F F'
  nf : ∀ a, B a ≠ none → F a = none → F' a = none
theorem Gro.refl {B F : Hp} : Gro B F F := ⟨Le.refl F, fun _ _ h => h⟩
theorem Gro.trans {B F G H : Hp} (a : Gro B F G) (b : Gro B G H) : Gro B F H := ⟨a.le.trans b.le, fun x h e => b.nf x h (a.nf x h e)⟩
theorem Gro.new {B F : Hp} {p : Addr} {o : HO} (hB : B p = none) (hF : F p = none) : Gro B F (upd F p o) := ⟨Le.new hF, fun x h e => by
  have n : x ≠ p := by rintro rfl; exact h hB
  rw [upd_ne n]; exact e⟩
theorem Gro.base {B C F G : Hp} (l : Le C B) (g : Gro B F G) : Gro C F G := ⟨g.le, fun x h e => g.nf x (fun z => h (l.none z)) e⟩
/-! ### expressions -/
section
variable (K : PySem.W.Frag)
/-- e reads to some frozen data of which P -/
def Ev (te : TE) (ρ : List Cell) (P : D → Prop) : Prop := ∀ B pp F H σ, OkE K B pp F H σ ρ → ∀ Q : VK,
  (∀ v d F' H', OkE K B pp F' H' σ ρ → Gro B F F' → P d → Rdd K F' d v → Q v H') → te σ H Q
/-- e is a new object of its own, some data of which P -/
def EvN (te : TE) (ρ : List Cell) (P : D → Prop) : Prop := ∀ B pp F H σ, OkE K B pp F H σ ρ → ∀ Q : VK,
  (∀ p o d F' H', OkE K B pp F' H' σ ρ → Gro B F F' → P d → B p = none → pp ≠ some p → F' p = none → H' p = some o → ObjM K F' o d → Q (.ref p) H') → te σ H Q
def EvT (tt : TT) (ρ : List Cell) (P : Bool → Prop) : Prop := ∀ B pp F H σ, OkE K B pp F H σ ρ → ∀ Q : Bool → Hp → Prop,
  (∀ b F' H', OkE K B pp F' H' σ ρ → Gro B F F' → P b → Q b H') → tt σ H Q
/-- arguments: frozen data, or the pool -/
def ArgV (pp : Option Addr) (F : Hp) (v : V) : Cell → Prop
  | .fro d => Rdd K F d v
  | .pool => ∃ p, v = .ref p ∧ pp = some p
  | _ => False
def ArgsV (pp : Option Addr) (F : Hp) : List V → List Cell → Prop := Paired (fun v c => ArgV K pp F v c)
def EvA (ta : TA) (ρ : List Cell) (P : List Cell → Prop) : Prop := ∀ B pp F H σ, OkE K B pp F H σ ρ → ∀ Q : List V → Hp → Prop,
  (∀ vs cs F' H', OkE K B pp F' H' σ ρ → Gro B F F' → P cs → ArgsV K pp F' vs cs → Q vs H') → ta σ H Q
end
abbrev EvD (K : PySem.W.Frag) (te : TE) (ρ : List Cell) (d : D) : Prop := Ev K te ρ (fun x => x = d)
abbrev EvND (K : PySem.W.Frag) (te : TE) (ρ : List Cell) (d : D) : Prop := EvN K te ρ (fun x => x = d)
abbrev EvB (K : PySem.W.Frag) (tt : TT) (ρ : List Cell) (b : Bool) : Prop := EvT K tt ρ (fun x => x = b)

section
variable {K : PySem.W.Frag} {ρ : List Cell} {te ta tb tc : TE} {t u : TT} {d e f : D}
theorem Ev.imp {P P' : D → Prop} (h : Ev K te ρ P) (k : ∀ d, P d → P' d) : Ev K te ρ P' := fun B pp F H σ ok Q q => h B pp F H σ ok Q fun v d F' H' o l p r => q v d F' H' o l (k d p) r
theorem EvN.imp {P P' : D → Prop} (h : EvN K te ρ P) (k : ∀ d, P d → P' d) : EvN K te ρ P' := fun B pp F H σ ok Q q => h B pp F H σ ok Q fun p o d F' H' ok l pd a b c e f => q p o d F' H' ok l (k d pd) a b c e f
theorem EvT.imp {P P' : Bool → Prop} (h : EvT K t ρ P) (k : ∀ d, P d → P' d) : EvT K t ρ P' := fun B pp F H σ ok Q q => h B pp F H σ ok Q fun b F' H' o l p => q b F' H' o l (k b p)
theorem EvD.to (h : EvD K te ρ d) (k : d = e) : EvD K te ρ e := by rw [← k]; exact h
theorem EvND.to (h : EvND K te ρ d) (k : d = e) : EvND K te ρ e := by rw [← k]; exact h
theorem EvB.to {a b : Bool} (h : EvB K t ρ a) (k : a = b) : EvB K t ρ b := by rw [← k]; exact h
/-- frozen at once -/
theorem EvN.fz {P : D → Prop} (h : EvN K te ρ P) : Ev K te ρ P := fun B pp F H σ ok Q q => h B pp F H σ ok Q fun p o d F' H' ok' l pd hB hP hF hH m => by
  have l' : Gro B F' (upd F' p o) := Gro.new hB hF
  refine q (.ref p) d (upd F' p o) H' ⟨⟨fun a u e => ?_, ok'.bse.base, fun q z => ?_⟩, fun j c hc => ?_, ok'.sep⟩ (l.trans l') pd ((m.mono l'.le).rdd upd_same)
  · by_cases z : a = p
    · subst z; rw [upd_same] at e; cases e; exact .inl hH
    · rw [upd_ne z] at e; exact ok'.bse.ext a u e
  · obtain ⟨h1, h2⟩ := ok'.bse.pool q z
    have n : q ≠ p := by rintro rfl; exact hP z
    exact ⟨h1, by rw [upd_ne n]; exact h2.1, h2.2⟩
  · obtain ⟨x, e1, q⟩ := ok'.cell j c hc
    refine ⟨x, e1, q.mono l'.le fun b hb hf => ?_⟩
    have n : b ≠ p := by rintro rfl; exact hb hB
    rw [upd_ne n]; exact hf
end
end Bs
/-! Rules of the hand layer put together, so that a term of rules leans on no types. -/
namespace BsS
open PySem PySem.Spec PyProof.Rows L2
section
variable {P : Program} {w : World} {A : Around} {E : Value → Shared → Prop} {s : Shared}
abbrev setO0 (w : World) : Obj := { cls := .type "set", dict := none, data := .set #[] 0 (.fresh 0 0 (!w.params.followText "set-order")) }
set_option maxHeartbeats 6400000 in
theorem call_set_lst {l : Addr} {items : Array Value} (ns : List Int) {Q : Value → Shared → Prop} (hh : A.handled = none) (hl : s.heap.IsList l items) (hit : IntsAre items.toList ns) (hb : ns.length + 1 < scanBound)
    (h : ∀ (g : Heap) (tk c : Nat), SetR w g s.heap.objs.size (fun j => decide (j ∈ ns)) c → (∀ b o, s.heap.get? b = some o → g.get? b = some o) → Q (.ref s.heap.objs.size) { s with heap := g, toks := tk }) :
    wpAny (model P w) A (call (.type "set") [.ref l]) Q E s := by
  have hisz : items.size = ns.length := by
    have q := IntsAre.length hit; rw [Array.length_toList] at q; exact q
  obtain ⟨c, tl, hmro⟩ := F.called_set.mro; have hmade := F.called_set.made; have hsub := F.called_set.sub
  refine wpAny_call (codeAny_of_tree ?_); show wpAny _ _ (callAny (.type "set") _) _ _ _
  refine wpAny_pure ⟨Code.quiet_builtin _ (by decide +kernel), codeAny_builtin F.entry_type_call ?_⟩; rw [Around.under_plain (weight_type_call_type "set" [.ref l] []) rfl]
  have h1 := F.called_set.notType; have h2 := F.called_set.canCreate; have hct := F.typeCall_set_1 (.ref l)
  repeat (any_goals (first | assumption | wp_step))
  refine codeAny_mono (code_set_led1 (.ref l) (E := E) (Q₁ := fun obj s₁ => obj = .ref s.heap.objs.size ∧ s₁ = { s with heap := s.heap.push (setO0 w) }) ⟨rfl, rfl⟩) fun r s₁ hr => ?_
  cases r with
  | error e => exact hr
  | ok fl =>
    cases fl with
    | ret obj =>
      obtain ⟨rfl, rfl⟩ := hr
      have hS : (s.heap.push (setO0 w)).get? s.heap.objs.size = some (setO0 w) := Heap.get?_push_size _ rfl
      have hT : Shared.TypeIs { s with heap := s.heap.push (setO0 w) } (.ref s.heap.objs.size) "set" := ⟨_, hS, rfl⟩
      have hli := F.called_set.init.lookup; have hbi := F.called_set.init.bind (.ref s.heap.objs.size)
      repeat (any_goals (first | assumption | wp_step))
      refine codeAny_mono (codeAny_call_builtin (R := wants (fun r s₂ => r = .none ∧ ∃ g tk c, s₂ = { s with heap := g, toks := tk } ∧ SetR w g s.heap.objs.size (fun j => decide (j ∈ ns)) c ∧
          (∀ b o, s.heap.get? b = some o → g.get? b = some o)) E) F.called_set.init.plain F.entry_set_init (check_set_init_1 hT ?_)) fun r₂ s₂ hr₂ => ?_
      · obtain ⟨ol, hol, hcl, nl, hdl⟩ := hl
        obtain ⟨ocls, odict, odata, oslots⟩ := ol; simp only at hcl hdl; subst hcl; subst hdl
        have hol' : (s.heap.push (setO0 w)).get? l = some { cls := .type "list", dict := odict, data := .seq items nl, slots := oslots } := Heap.get?_push_of_some _ hol
        have a1 := F.sub_list_set; have a2 := F.sub_list_frozenset
        have hne : (Value.type "list" == Value.type "dict") = false := by decide
        have hl1 : (s.heap.push (setO0 w)).IsList l items := ⟨_, hol', rfl, nl, rfl⟩
        unfold Builtin.«set.__init__» noKeywords Builtin.Frozenset.updateFrom
        generalize hPI : pyIter = PI; wp_walk; subst hPI
        refine wpAny_pyIter_list hl1 ?_
        refine wpAny_bind (wpAny_runValue ?_)
        have hlS : l < s.heap.objs.size := Heap.lt_size hol
        have hh3 : A.in1.in1.in1.handled = none := by simp [hh]
        have hneI : l ≠ (s.heap.push (setO0 w)).objs.size := by
          rw [Heap.size_push]; exact Nat.ne_of_lt (Nat.lt_succ_of_lt hlS)
        have hSf : s.heap.objs.size ∉ [(s.heap.push (setO0 w)).objs.size, l] := by
          rw [Heap.size_push]; simp only [List.mem_cons, List.mem_singleton, List.not_mem_nil, or_false, not_or]; exact ⟨Nat.ne_of_lt (Nat.lt_succ_self _), Nat.ne_of_gt hlS⟩
        have hval : ∀ (i : Nat) (v : Value), items[i]? = some v → ∃ k t, ns[i]? = some k ∧ v = .int k t := fun i v hv => by
          have hi : i < ns.length := by rw [← hisz]; exact (Array.getElem?_eq_some_iff.mp hv).1
          obtain ⟨t, e⟩ := PyProof.Rows.IntsAre.int_at hit i v (by rw [Array.getElem?_toList]; exact hv)
          refine ⟨ns[i], t, List.getElem?_eq_getElem hi, ?_⟩; rw [e, List.getD_eq_getElem?_getD, List.getElem?_eq_getElem hi]; rfl
        refine set_update_ints ((Walks.list hh3 _ l hneI items).toS) s.heap.objs.size hSf ns hisz hb hval (items.size - 0) 0 _ (by omega) (Nat.zero_le _)
          ⟨⟨_, Heap.get?_push_size _ rfl, rfl, rfl⟩, (hl1.push _)⟩ ⟨0, Nat.le_refl 0, setR_new_at (Heap.get?_push_of_some _ hS)⟩ ?_
        intro s' c' hm hc' hS'
        obtain ⟨g, g2, d', tk', os'⟩ := s'
        have eg : g2 = s.gens := hm.gens; have ed : d' = s.drawn := hm.drawn; have eo : os' = s.os := hm.os
        subst eg; subst ed; subst eo; show wpAny _ _ _ _ _ _
        refine wpAny_pure ?_; show wpAny _ _ (ret Value.none) _ _ _
        refine wpAny_pure ⟨rfl, g, tk', c', rfl, hS', fun b o e => ?_⟩
        have hb0 : b < s.heap.objs.size := Heap.lt_size e; have hb1 : b ≠ s.heap.objs.size := Nat.ne_of_lt hb0
        have hb2 : b ≠ (s.heap.push (setO0 w)).objs.size := by rw [Heap.size_push]; exact Nat.ne_of_lt (Nat.lt_succ_of_lt hb0)
        exact hm.heap b o (by simp only [List.mem_cons, List.mem_singleton, List.not_mem_nil, or_false, not_or]; exact ⟨hb1, hb2⟩) (Heap.get?_push_of_some _ (Heap.get?_push_of_some _ e))
      · cases r₂ with
        | error e => exact hr₂
        | ok fl₂ =>
          cases fl₂ with
          | ret r =>
            obtain ⟨rfl, g, tk, c', rfl, hS', hk'⟩ := hr₂; repeat (any_goals (first | assumption | wp_step))
            exact h _ _ _ hS' hk'
          | _ => exact hr₂.elim
    | _ => exact hr.elim
end
end BsS
namespace Bs
open PySem L2
section
variable {X : Cx}
theorem orr {f : Value → Value → Sem Value} {r r' : R2} (h : OpR X f r) (h' : OpR X f r') : OpR X f (fun x y H Q => r x y H Q ∨ r' x y H Q) := by
  intro pins s σ H x y v u Q I rx ry q
  exact q.elim (h pins s σ H x y v u Q I rx ry) (h' pins s σ H x y v u Q I rx ry)
theorem crr {f : Value} {r r' : List V → Hp → VK → Prop} (h : CallR X f r) (h' : CallR X f r') : CallR X f (fun x H Q => r x H Q ∨ r' x H Q) := by
  intro pins s σ H x us Q I rx q
  exact q.elim (h pins s σ H x us Q I rx) (h' pins s σ H x us Q I rx)
/-! ### + -/
def rAddI : R2 := rI0 fun i j => .int (i + j)
def rAddS : R2 := fun x y H Q => ∃ i j, x = .str i ∧ y = .str j ∧ i.length + j.length ≤ sizeLine ∧ Q (.str (i ++ j)) H
def rAddA (K : PySem.W.Frag) : R2 := fun x y H Q => rAddI x y H Q ∨ rAddS x y H Q ∨ rCat x y H Q ∨ rCatT K x y H Q
theorem op_addA : OpR X (binaryOp .Add) (rAddA X.K) := orr op_add (orr op_add_str (orr op_cat op_catT))
/-! ### x[i] -/
def rIxDct : R2 := fun x y H Q => ∃ a v, x = .ref a ∧ DGet H a y (some v) ∧ Q v H
theorem ix_dct (hu : X.A.units + 1 < cLine) : IxR X rIxDct := by
  intro value slice pins s σ H x y v u Q I rx ry h hs
  obtain ⟨a, z, rfl, g, q⟩ := h
  cases (show v = Value.ref a from rx)
  exact PyProof.Rows.tail_any (dict_typeIs I g) PySem.F.slot_dict_getitem.lookup (d_getItem hu I g ry fun w' s' I' r => ⟨z, H, I', r, q⟩) hs
def rIxA (K : PySem.W.Frag) : R2 := fun x y H Q => rIxL K x y H Q ∨ rIxT K x y H Q ∨ rIxS x y H Q ∨ rIxDct x y H Q
theorem ix_any (hu : X.A.units + 1 < cLine) : IxR X (rIxA X.K) := ix_list.or (ix_tup.or (ix_str.or (ix_dct hu)))
/-! ### ==, in -/
def rEqA (K : PySem.W.Frag) : R2 := fun x y H Q => rEqD K x y H Q ∨ rEq x y H Q
def rNeA (K : PySem.W.Frag) : R2 := fun x y H Q => rNeD K x y H Q ∨ rNe x y H Q
theorem op_eqA (hu : X.A.units + 64 < cLine) : OpR X (compareOp .Eq) (rEqA X.K) := orr (op_eqD hu) op_eq
theorem op_neA (hu : X.A.units + 64 < cLine) : OpR X (compareOp .NotEq) (rNeA X.K) := orr (op_neD hu) op_ne
def rInK (neg : Bool) : R2 := fun y x H Q => ∃ a o, x = .ref a ∧ DGet H a y o ∧ Q (.bl (if neg then !o.isSome else o.isSome)) H
theorem op_inK (hu : X.A.units + 1 < cLine) : OpR X (compareOp .In) (rInK false) := by
  intro pins s σ H y x u v Q I ry rx q
  obtain ⟨a, o, rfl, g, q⟩ := q
  cases (show v = Value.ref a from rx)
  exact d_in hu I g ry fun s' I' => ⟨.bl o.isSome, H, I', rfl, q⟩
theorem op_ninK (hu : X.A.units + 1 < cLine) : OpR X (compareOp .NotIn) (rInK true) := by
  intro pins s σ H y x u v Q I ry rx q
  obtain ⟨a, o, rfl, g, q⟩ := q
  cases (show v = Value.ref a from rx)
  exact d_notIn hu I g ry fun s' I' => ⟨.bl (!o.isSome), H, I', rfl, q⟩
def rInSg : R2 := fun x y H Q => ∃ (c : Nat) (z : Str), x = .str ⟨#[c]⟩ ∧ y = .str z ∧ Q (.bl (decide (c ∈ z.cps.toList))) H
def rNinSg : R2 := fun x y H Q => ∃ (c : Nat) (z : Str), x = .str ⟨#[c]⟩ ∧ y = .str z ∧ Q (.bl (!decide (c ∈ z.cps.toList))) H
def rInA (K : PySem.W.Frag) : R2 := fun x y H Q => rInD K x y H Q ∨ rInSg x y H Q ∨ rInK false x y H Q
def rNinA (K : PySem.W.Frag) : R2 := fun x y H Q => rNotInD K x y H Q ∨ rNinSg x y H Q ∨ rInK true x y H Q
theorem op_inA (hu : X.A.units + 65 < cLine) : OpR X (compareOp .In) (rInA X.K) := orr (op_inD hu) (orr op_in_sign (op_inK (by omega)))
theorem op_ninA (hu : X.A.units + 65 < cLine) : OpR X (compareOp .NotIn) (rNinA X.K) := orr (op_notInD hu) (orr op_notIn_sign (op_ninK (by omega)))
def rIs : R2 := fun x y H Q => y = .non ∧ Q (.bl (decide (x = .non))) H
def rIsNot : R2 := fun x y H Q => y = .non ∧ Q (.bl (!decide (x = .non))) H
theorem op_is : OpR X (compareOp .Is) rIs := op_isN
theorem op_isNot : OpR X (compareOp .IsNot) rIsNot := op_notN
/-! ### len, list, tuple, dict, sorted, int -/
def rLenQ (K : PySem.W.Frag) : List V → Hp → VK → Prop := fun xs H Q => ∃ p ys, xs = [.ref p] ∧ (SqL K H p ys ∨ SqT K H p ys) ∧ Q (.int ys.length) H
def rLenT : List V → Hp → VK → Prop := fun xs H Q => ∃ z : Str, xs = [.str z] ∧ z.length ≤ sizeLine ∧ Q (.int z.length) H
def rLenK : List V → Hp → VK → Prop := fun xs H Q => ∃ a, ∃ kvs : List (Key × V), xs = [V.ref a] ∧ Rd H a (.dK kvs) ∧ Q (.int kvs.length) H
theorem call_lenK : CallR X (.builtin "len") rLenK := by
  intro pins s σ H xs us Q I r h
  obtain ⟨a, kvs, rfl, ha, q⟩ := h; obtain ⟨u, rfl, ru⟩ := vals1 r
  cases ru
  exact d_len I ha fun t s' I' => ⟨.int kvs.length, H, I', ⟨t, rfl⟩, q⟩
def rLenA (K : PySem.W.Frag) : List V → Hp → VK → Prop := fun xs H Q => rLenQ K xs H Q ∨ rLenT xs H Q ∨ rLenK xs H Q
theorem call_lenA : CallR X (.builtin "len") (rLenA X.K) := crr call_len_seq (crr call_len_str call_lenK)
def rLst (K : PySem.W.Frag) : List V → Hp → VK → Prop := fun xs H Q => ∃ p ys, xs = [.ref p] ∧ (SqL K H p ys ∨ SqT K H p ys) ∧ ∀ l, H l = none → Q (.ref l) (upd H l (.lst ys))
theorem call_lst : CallR X (.type "list") (rLst X.K) := call_list_of
def rTpl (K : PySem.W.Frag) : List V → Hp → VK → Prop := fun xs H Q => ∃ p ys, xs = [.ref p] ∧ ((SqL K H p ys ∧ ∀ l, H l = none → Q (.ref l) (upd H l (.tup ys))) ∨ (SqT K H p ys ∧ Q (.ref p) H))
theorem call_tpl : CallR X (.type "tuple") (rTpl X.K) := call_tuple_of
def rDctP (K : PySem.W.Frag) : List V → Hp → VK → Prop := fun xs H Q => ∃ (a : Addr) (ps : List Addr) (kvs : List (Key × V)), xs = [.ref a] ∧ SqL K H a (ps.map V.ref) ∧ Paired (fun p kv => SqT K H p [kV kv.1, kv.2]) ps kvs ∧
    ∀ p, H p = none → Q (.ref p) (upd H p (.dK (mergeK [] kvs)))
def rDctD : List V → Hp → VK → Prop := fun xs H Q => ∃ (a : Addr) (kvs : List (Key × V)), xs = [.ref a] ∧ Rd H a (.dK kvs) ∧ ∀ p, H p = none → Q (.ref p) (upd H p (.dK kvs))
def rDct (K : PySem.W.Frag) : List V → Hp → VK → Prop := fun xs H Q => rDctP K xs H Q ∨ rDctD xs H Q
theorem call_dct (hc : X.calm = true) : CallR X (.type "dict") (rDct X.K) := crr (call_dictP hc) call_dictD
def rInt : List V → Hp → VK → Prop := fun xs H Q => (∃ i, xs = [.int i] ∧ Q (.int i) H) ∨ ∃ k, xs = [.bl k] ∧ Q (.int (if k then 1 else 0)) H
theorem call_int : CallR X (.type "int") rInt := call_int1
def rMx2 : List V → Hp → VK → Prop := fun xs H Q => ∃ i j, xs = [.int i, .int j] ∧ Q (.int (if j > i then j else i)) H
def rMn2 : List V → Hp → VK → Prop := fun xs H Q => ∃ i j, xs = [.int i, .int j] ∧ Q (.int (if j < i then j else i)) H
theorem call_mx2 (hc : X.calm = true) : CallR X (.builtin "max") rMx2 := call_max2 hc
theorem call_mn2 (hc : X.calm = true) : CallR X (.builtin "min") rMn2 := call_min2 hc
def rSrtK : List V → Hp → VK → Prop := fun xs H Q => ∃ (a : Addr) (kvs : List (Key × V)) (ks : List Int), xs = [.ref a] ∧ Rd H a (.dK kvs) ∧ kvs.map (·.1) = ks.map Sum.inl ∧ ks.length < 64 ∧
    ∀ (ys : List Int) (p : Addr), ys.Perm ks → ys.Pairwise (· ≤ ·) → H p = none → Q (.ref p) (upd H p (.lst (ys.map V.int)))
def rSrtD (K : PySem.W.Frag) : List V → Hp → VK → Prop := fun vs H Q => ∃ (a : Addr) (xs : List V) (bs : List PyData), vs = [.ref a] ∧ SqL K H a xs ∧ DpAll K H xs bs ∧ PySem.W.AllAlike bs ∧ PySem.W.Sortable bs ∧ (∀ b ∈ bs, b.depth ≤ 8) ∧
  ∀ (ys : List V) (p : Addr), ys.Perm xs → H p = none → Q (.ref p) (upd H p (.lst ys))
theorem each_of {β : Type} {R : Value → β → Prop} : ∀ {vs : List Value} {bs : List β}, vs.length = bs.length → (∀ (i : Nat) (v : Value) (b : β), vs[i]? = some v → bs[i]? = some b → R v b) → PySem.W.EachIs R vs bs
  | [], [], _, _ => .nil
  | [], _ :: _, h, _ => by simp at h
  | _ :: _, [], h, _ => by simp at h
  | v :: vs, b :: bs, h, k => .cons (k 0 v b rfl rfl) (each_of (by simpa using h) fun i v' b' e1 e2 => k (i + 1) v' b' (by simpa using e1) (by simpa using e2))
theorem each_vals {β : Type} {f : β → V} : ∀ {vs : List Value} {bs : List β}, PySem.W.EachIs (fun v b => RelV (f b) v) vs bs → Vals (bs.map f) vs
  | _, _, .nil => .nil
  | _, _, .cons h t => .cons h (each_vals t)
theorem dpl_len {K : PySem.W.Frag} {H : Hp} : ∀ {xs : List V} {bs : List PyData}, DpAll K H xs bs → xs.length = bs.length
  | _, _, .nil => rfl
  | _, _, .cons _ t => by rw [List.length_cons, List.length_cons, dpl_len t]
theorem dpl_at {K : PySem.W.Frag} {H : Hp} : ∀ {xs : List V} {bs : List PyData}, DpAll K H xs bs → ∀ (i : Nat) (x : V) (b : PyData), xs[i]? = some x → bs[i]? = some b → Dp K H x b
  | _, _, .nil, i, x, b, h, _ => by simp at h
  | _, _, .cons h t, 0, x, b, h1, h2 => by simp at h1 h2; subst h1; subst h2; exact h
  | _, _, .cons h t, i + 1, x, b, h1, h2 => dpl_at t i x b (by simpa using h1) (by simpa using h2)
theorem call_srtD (hu : X.A.units + 64 < cLine) : CallR X (.builtin "sorted") (rSrtD X.K) := by
  intro pins s σ H vs us Q I r h
  obtain ⟨a, xs, bs, rfl, hs, hd, al, so, dep, q⟩ := h
  obtain ⟨its, rv, hl, hz⟩ := I.list hs; obtain ⟨u, rfl, ru⟩ := vals1 r
  cases (show u = Value.ref a from ru)
  have hlen : xs.length = bs.length := dpl_len hd
  have em : (xs.zip bs).map (fun p => p.2) = bs := by
    have e := List.map_snd_zip (l₁ := xs) (l₂ := bs) (by omega)
    exact e
  have em1 : (xs.zip bs).map (fun p => p.1) = xs := by
    have e := List.map_fst_zip (l₁ := xs) (l₂ := bs) (by omega)
    exact e
  have hl2 : (xs.zip bs).length = bs.length := by rw [List.length_zip]; omega
  have hv := rv.length
  have at_ : ∀ (i : Nat) (v : Value) (b : V × PyData), its[i]? = some v → (xs.zip bs)[i]? = some b → RelV b.1 v ∧ Dp X.K H b.1 b.2 := fun i v b e1 e2 => by
    rw [List.getElem?_zip_eq_some] at e2
    obtain ⟨e3, e4⟩ := e2
    obtain ⟨w', ew, rw'⟩ := rv.get e3
    rw [e1] at ew
    cases ew
    exact ⟨rw', dpl_at hd i _ _ e3 e4⟩
  refine PySem.W.sorted_data (β := V × PyData) (enc := fun p => p.2) (R := fun v b => RelV b.1 v) (vs := its) (bs := xs.zip bs) hl.isList (each_of (by omega) fun i v b e1 e2 => (at_ i v b e1 e2).1)
    (each_of (by omega) fun i v b e1 e2 => (at_ i v b e1 e2).2.reads I _ _ _ (at_ i v b e1 e2).1) (by rw [em]; exact al) (by rw [em]; exact so) (by rw [hl2, ← hlen]; exact hz) (fun b hb => ?_) fun out ho he => ?_
  · have : b.2 ∈ bs := by rw [← em]; exact List.mem_map.mpr ⟨b, hb, rfl⟩
    have := dep _ this
    omega
  · have hp : ((xs.zip bs).mergeSort (PySem.W.dataLe false fun p => p.2)).Perm (xs.zip bs) := List.mergeSort_perm _ _
    have hp2 := hp.map (fun p => p.1)
    rw [em1] at hp2
    have hn : H (s.heap.objs.size + 1) = none := I.hok.fresh (Nat.le_succ _)
    obtain ⟨n, hat⟩ := PyProof.Rows.sortedAll_at s.heap its (List.toArray out)
    refine ⟨.ref _, upd H (s.heap.objs.size + 1) (.lst (((xs.zip bs).mergeSort (PySem.W.dataLe false fun p => p.2)).map fun p => p.1)), I.laid (t' := s.toks) (fun b o e => PyProof.Rows.sortedAll_old e) (Nat.le_succ _) ⟨?_, out, n, each_vals he, hat⟩, rfl, q _ _ hp2 hn⟩
    rw [hp2.length_eq]
    exact hz
def rSrt (K : PySem.W.Frag) : List V → Hp → VK → Prop := fun xs H Q => rSortedI K xs H Q ∨ rSrtK xs H Q ∨ rSrtD K xs H Q
theorem call_srt (hc : X.calm = true) (hu : X.A.units + 64 < cLine) : CallR X (.builtin "sorted") (rSrt X.K) := crr cr_sortedI (crr (call_sortedDI hc) (call_srtD hu))
end
/-! ### sets of ints, made on the way -/
def dd : List Int → List Int
  | [] => []
  | x :: r => if x ∈ r then dd r else x :: dd r
theorem dd_mem : ∀ (ns : List Int) (k : Int), k ∈ dd ns ↔ k ∈ ns
  | [], k => Iff.rfl
  | x :: r, k => by
    unfold dd
    split
    · rename_i h
      rw [dd_mem r k, List.mem_cons]
      exact ⟨.inr, fun z => z.elim (fun e => e ▸ h) id⟩
    · rw [List.mem_cons, List.mem_cons, dd_mem r k]
theorem dd_nd : ∀ ns : List Int, (dd ns).Nodup
  | [] => List.nodup_nil
  | x :: r => by
    unfold dd
    split
    · exact dd_nd r
    · rename_i h
      exact List.nodup_cons.mpr ⟨fun z => h ((dd_mem r x).mp z), dd_nd r⟩
theorem dd_len : ∀ ns : List Int, (dd ns).length ≤ ns.length
  | [] => Nat.le_refl _
  | x :: r => by
    have := dd_len r
    unfold dd
    split
    · rw [List.length_cons]; omega
    · rw [List.length_cons, List.length_cons]; omega
theorem dd_all : ∀ {ns : List Int}, (dd ns).length = ns.length → ns.Nodup
  | [], _ => List.nodup_nil
  | x :: r, h => by
    have := dd_len r
    unfold dd at h
    split at h
    · rw [List.length_cons] at h; omega
    · rename_i hx
      rw [List.length_cons, List.length_cons] at h
      exact List.nodup_cons.mpr ⟨hx, dd_all (by omega)⟩
theorem dd_id : ∀ {ns : List Int}, ns.Nodup → dd ns = ns
  | [], _ => rfl
  | x :: r, h => by
    obtain ⟨h1, h2⟩ := List.nodup_cons.mp h
    unfold dd
    rw [if_neg h1, dd_id h2]
theorem setR_len {w : World} {h : Heap} {a : Addr} {ns : List Int} {c : Nat} (R : SetR w h a (fun j => decide (j ∈ ns)) c) : c = (dd ns).length := by
  obtain ⟨o, es, ep, t, _, _, _, _, nd, hm, _, _, hn, _⟩ := R
  have p : (es.toList.map keyOf).Perm (dd ns) := (List.perm_ext_iff_of_nodup nd (dd_nd ns)).mpr fun k => by
    rw [dd_mem, ← hm k]
    exact decide_eq_true_iff
  have e := p.length_eq
  rw [List.length_map, Array.length_toList] at e
  omega
theorem ints_vals : ∀ {ns : List Int} {us : List Value}, Vals (ns.map V.int) us → PyProof.Rows.IntsAre us ns
  | [], _, h => by cases h; exact .nil
  | n :: ns, _, h => by
    cases h with
    | cons r t =>
      obtain ⟨k, rfl⟩ := r
      exact .cons n k (ints_vals t)
section
variable {X : Cx}
/-- set(xs) of a list or a tuple of ints -/
theorem set_run {pins : List (Addr × Obj)} {s : Shared} {σ : L2.St} {H : Hp} {l : Addr} {ns : List Int} {Q : Value → Shared → Prop} {E : Value → Shared → Prop} (I : Inv X pins σ H s) (hc : X.calm = true) (hq : SqL X.K H l (ns.map V.int) ∨ SqT X.K H l (ns.map V.int)) (hl : ns.length ≤ 4000)
    (h : ∀ (g : Heap) (tk : Nat), SetR X.w g s.heap.objs.size (fun j => decide (j ∈ ns)) (dd ns).length → (∀ b o, s.heap.get? b = some o → g.get? b = some o) → Q (.ref s.heap.objs.size) { s with heap := g, toks := tk }) :
    wpAny (model X.prog X.w) X.A (call (.type "set") [.ref l]) Q E s := by
  have hsc : ns.length + 1 < scanBound := by unfold scanBound; omega
  rcases hq with hq | hq
  · obtain ⟨its, r, pl, hz⟩ := I.list hq
    exact BsS.call_set_lst ns (I.ok.hd hc) pl.isList (by simpa using ints_vals r) hsc fun g tk c R k => h g tk (setR_len R ▸ R) k
  · obtain ⟨its, r, pl, hz⟩ := I.tuple hq
    exact call_set_tupI ns (I.ok.hd hc) (show s.heap.IsTuple l its.toArray from pl) (by simpa using ints_vals r) hsc fun g tk c R _ k => h g tk (setR_len R ▸ R) k
def tLenSet (K : PySem.W.Frag) (ta : TE) : TE := fun σ H Q => ta σ H fun x H1 => ∃ (l : Addr) (ns : List Int), x = .ref l ∧ (SqL K H1 l (ns.map V.int) ∨ SqT K H1 l (ns.map V.int)) ∧ ns.length ≤ 4000 ∧ Q (.int ((dd ns).length : Nat)) H1
theorem pe_lenSet {a : Expr} {ta : TE} {p p2 q pos : Pos} (hg : Gl X "len") (hm : X.mg "len" = none) (hg2 : Gl X "set") (hm2 : X.mg "set" = none) (ha : PE X a ta) (hc : X.calm = true := by rfl)
    (na : starEach [a] X.env = (false, eval a X.env) :: starEach [] X.env := by rfl) : PE X (.Call (.Name "len" p) [.Call (.Name "set" p2) [a] [] q] [] pos) (tLenSet X.K ta) := by
  refine ⟨fun pins s σ H Q I h => ?_⟩
  refine PyProof.Rows.Call_ (ld_blt I hg hm PySem.boot_len (PyProof.Rows.callWith_builtin1 (PyProof.Rows.args_cons ?_ rfl) rfl rfl))
  refine PyProof.Rows.Call_ (ld_blt I hg2 hm2 PyProof.Rows.boot_set ?_)
  refine PyProof.Rows.callWith_type1 (PyProof.Rows.args_cons (thn (ha.run pins s σ H _ I h) fun v s1 ⟨x, H1, I1, r1, q1⟩ => PyProof.Rows.args_nil ?_) na) na rfl
  obtain ⟨l, ns, rfl, hq, hl, q1⟩ := q1
  cases r1
  refine set_run I1 hc hq hl fun g tk R k => PyProof.Rows.args_nil ?_
  obtain ⟨o, es, ep, t, ho, hex, hd, _, _, _, hb, hf, hn, _⟩ := R
  have I2 : Inv X pins σ H1 { s1 with heap := g, toks := tk } := I1.kept fun b o e => k b o e
  have hz := dd_len ns
  exact call_len_set ho hex hd hf (by omega) ⟨.int ((dd ns).length : Nat), H1, I2.tok _, ⟨_, by rw [hn]⟩, q1⟩
def tSrtSet (K : PySem.W.Frag) (ta : TE) : TE := fun σ H Q => ta σ H fun x H1 => ∃ (l : Addr) (ns : List Int), x = .ref l ∧ (SqL K H1 l (ns.map V.int) ∨ SqT K H1 l (ns.map V.int)) ∧ ns.length < 64 ∧
  ∀ (ms : List Int) (p : Addr), ms.Pairwise (· < ·) → (∀ k, k ∈ ms ↔ k ∈ ns) → ∀ (b : Addr) (o : HO), H1 b = none → upd H1 b o p = none → Q (.ref p) (upd (upd H1 b o) p (.lst (ms.map V.int)))
theorem pe_srtSet {a : Expr} {ta : TE} {p p2 q pos : Pos} (hg : Gl X "sorted") (hm : X.mg "sorted" = none) (hg2 : Gl X "set") (hm2 : X.mg "set" = none) (ha : PE X a ta) (hc : X.calm = true := by rfl)
    (na : starEach [a] X.env = (false, eval a X.env) :: starEach [] X.env := by rfl) : PE X (.Call (.Name "sorted" p) [.Call (.Name "set" p2) [a] [] q] [] pos) (tSrtSet X.K ta) := by
  refine ⟨fun pins s σ H Q I h => ?_⟩
  refine PyProof.Rows.Call_ (ld_blt I hg hm PyProof.Rows.boot_sorted (PyProof.Rows.callWith_builtin1 (PyProof.Rows.args_cons ?_ rfl) rfl rfl))
  refine PyProof.Rows.Call_ (ld_blt I hg2 hm2 PyProof.Rows.boot_set ?_)
  refine PyProof.Rows.callWith_type1 (PyProof.Rows.args_cons (thn (ha.run pins s σ H _ I h) fun v s1 ⟨x, H1, I1, r1, q1⟩ => PyProof.Rows.args_nil ?_) na) na rfl
  obtain ⟨l, ns, rfl, hq, hl, q1⟩ := q1
  cases r1
  refine set_run I1 hc hq (by omega) fun g tk R k => PyProof.Rows.args_nil ?_
  have hn : H1 s1.heap.objs.size = none := I1.hok.fresh (Nat.le_refl _)
  have I2 : Inv X pins σ (upd H1 s1.heap.objs.size (SetO X.w s1.heap.objs.size (fun j => decide (j ∈ ns)) (dd ns).length)) { s1 with heap := g, toks := tk } := I1.laid (t' := tk) k (Nat.le_refl _) (setO_new R)
  refine PySem.wpAny_mono (cr_sortedSet hc pins { s1 with heap := g, toks := tk } σ _ [.ref s1.heap.objs.size] [.ref s1.heap.objs.size] Q I2 (.cons rfl .nil) ⟨_, _, _, rfl, upd_same, by have := dd_len ns; omega, fun ms p hm1 hm2 _ hp => ?_⟩) (fun v s' h => h) fun _ _ z => z
  exact q1 ms p hm1 (fun k => by rw [hm2 k]; exact decide_eq_true_iff) _ _ hn hp
end
end Bs
/-! What expressions read to, by data. -/
namespace Bs
open PySem L2
/-! ### equality of data -/
mutual
def toPy : D → PyData
  | .non => .none | .bl b => .bool b | .int i => .int i
  | .tup ds => .tuple (toPys ds) | .lst ds => .list (toPys ds)
  | .str _ => .none | .adr _ => .none | .dik _ _ => .none | .dit _ _ => .none | .scr _ => .none | .typ _ => .none
def toPys : List D → List PyData
  | [] => [] | d :: ds => toPy d :: toPys ds
end
/-- of ints, truths, None; lists and tuples of these, n deep at most -/
inductive Fl : Nat → D → Prop where
  | non (n : Nat) : Fl n .non
  | bl (n : Nat) (b : Bool) : Fl n (.bl b)
  | int (n : Nat) (i : Int) : Fl n (.int i)
  | tup {n : Nat} {ds : List D} (h : ∀ x ∈ ds, Fl n x) : Fl (n + 1) (.tup ds)
  | lst {n : Nat} {ds : List D} (h : ∀ x ∈ ds, Fl n x) : Fl (n + 1) (.lst ds)
def eqD (d e : D) : Bool := PyData.eqv (toPy d) (toPy e)
theorem toPys_map : ∀ ds : List D, toPys ds = ds.map toPy
  | [] => rfl
  | d :: ds => by unfold toPys; rw [toPys_map ds]; rfl
theorem fl_int (n : Nat) (i : Int) : Fl n (.int i) := .int n i
theorem fl_bl (n : Nat) (b : Bool) : Fl n (.bl b) := .bl n b
theorem fl_non (n : Nat) : Fl n .non := .non n
theorem fl_lst {n : Nat} {ds : List D} (h : ∀ x ∈ ds, Fl n x) : Fl (n + 1) (.lst ds) := .lst h
theorem fl_tup {n : Nat} {ds : List D} (h : ∀ x ∈ ds, Fl n x) : Fl (n + 1) (.tup ds) := .tup h
theorem lays_of {n : Nat} : ∀ es : List D, (∀ x ∈ es, (toPy x).canLay0 = true ∧ (toPy x).depth ≤ n) → PyData.canLayAll0 (toPys es) = true ∧ PyData.depthAll (toPys es) ≤ n
  | [], _ => by unfold toPys; simp [PyData.canLayAll0, PyData.depthAll]
  | e :: es, hk => by
    obtain ⟨a1, a2⟩ := lays_of es fun x hx => hk x (List.mem_cons_of_mem _ hx)
    obtain ⟨b1, b2⟩ := hk e List.mem_cons_self
    unfold toPys
    refine ⟨?_, ?_⟩
    · unfold PyData.canLayAll0; rw [b1, a1]; rfl
    · unfold PyData.depthAll; omega
theorem fl_lay {n : Nat} {d : D} (h : Fl n d) : (toPy d).canLay0 = true ∧ (toPy d).depth ≤ n := by
  induction h with
  | non n => unfold toPy; simp [PyData.canLay0, PyData.depth]
  | bl n b => unfold toPy; simp [PyData.canLay0, PyData.depth]
  | int n i => unfold toPy; simp [PyData.canLay0, PyData.depth]
  | tup _ ih =>
    obtain ⟨k1, k2⟩ := lays_of _ ih
    unfold toPy
    refine ⟨?_, ?_⟩
    · unfold PyData.canLay0; exact k1
    · unfold PyData.depth; omega
  | lst _ ih =>
    obtain ⟨k1, k2⟩ := lays_of _ ih
    unfold toPy
    refine ⟨?_, ?_⟩
    · unfold PyData.canLay0; exact k1
    · unfold PyData.depth; omega
theorem fl_shaped {n : Nat} {d : D} (h : Fl n d) (hn : n ≤ 60) : SeqAt.shaped (toPy d) = true := by
  obtain ⟨h1, h2⟩ := fl_lay h
  unfold SeqAt.shaped
  rw [h1, decide_eq_true (by omega)]
  rfl
section
variable {K : PySem.W.Frag} {F H : Hp}
theorem dps_of : ∀ {es : List D}, (∀ x ∈ es, ∀ v, Rdd K F x v → Dp K H v (toPy x)) → ∀ vs, RdL K F es vs → DpAll K H vs (toPys es)
  | [], _, vs, rv => by rw [rv.inv0]; unfold toPys; exact .nil
  | d :: es, hk, vs, rv => by
    obtain ⟨v', r', rfl, r1, r2⟩ := rv.inv
    unfold toPys
    exact .cons (hk d List.mem_cons_self v' r1) (dps_of (fun x hx => hk x (List.mem_cons_of_mem _ hx)) r' r2)
theorem fl_dp (e : Ext F H) {n : Nat} {d : D} (h : Fl n d) : ∀ v, Rdd K F d v → Dp K H v (toPy d) := by
  induction h with
  | non n => intro v r; unfold Rdd at r; subst r; unfold toPy; exact .non
  | bl n b => intro v r; unfold Rdd at r; subst r; unfold toPy; exact .bl b
  | int n b => intro v r; unfold Rdd at r; subst r; unfold toPy; exact .int b
  | tup _ ih =>
    intro v r
    unfold Rdd at r
    obtain ⟨a, vs, rfl, f, rv⟩ := r
    unfold toPy
    exact .tup (e.sqt f) (dps_of ih vs rv)
  | lst _ ih =>
    intro v r
    unfold Rdd at r
    obtain ⟨a, vs, rfl, f, rv⟩ := r
    unfold toPy
    exact .lst (SqL.of (e.lst f)) (dps_of ih vs rv)
theorem dpl_of (e : Ext F H) {n : Nat} : ∀ {ds : List D} {vs : List V}, (∀ x ∈ ds, Fl n x) → RdL K F ds vs → DpAll K H vs (ds.map toPy)
  | [], vs, _, r => by rw [r.inv0]; exact .nil
  | d :: ds, vs, k, r => by
    obtain ⟨v, r', rfl, r1, r2⟩ := r.inv
    exact .cons (fl_dp e (k d List.mem_cons_self) v r1) (dpl_of e (fun x hx => k x (List.mem_cons_of_mem _ hx)) r2)
end
/-! its values -/
def eqDs : List D → List D → Bool
  | [], [] => true | d :: ds, e :: es => eqD d e && eqDs ds es | _, _ => false
theorem eqvAll_eqDs : ∀ ds es : List D, PyData.eqvAll (toPys ds) (toPys es) = eqDs ds es
  | [], [] => by unfold toPys; rfl
  | [], _ :: _ => by unfold toPys; rfl
  | _ :: _, [] => by unfold toPys; rfl
  | d :: ds, e :: es => by
    show PyData.eqvAll (toPys (d :: ds)) (toPys (e :: es)) = (eqD d e && eqDs ds es)
    rw [← eqvAll_eqDs ds es, toPys, toPys, PyData.eqvAll]
    rfl
theorem eqD_int (i j : Int) : eqD (.int i) (.int j) = (i == j) := by unfold eqD toPy PyData.eqv; rfl
theorem eqD_bl (i j : Bool) : eqD (.bl i) (.bl j) = (i == j) := by unfold eqD toPy PyData.eqv; rfl
theorem eqD_nn : eqD .non .non = true := by unfold eqD toPy PyData.eqv; rfl
theorem eqD_ni (i : Int) : eqD .non (.int i) = false := by unfold eqD toPy PyData.eqv; rfl
theorem eqD_in (i : Int) : eqD (.int i) .non = false := by unfold eqD toPy PyData.eqv; rfl
theorem eqD_nt (ds : List D) : eqD .non (.tup ds) = false := by unfold eqD toPy PyData.eqv; rfl
theorem eqD_tn (ds : List D) : eqD (.tup ds) .non = false := by unfold eqD toPy PyData.eqv; rfl
theorem eqD_tt (ds es : List D) : eqD (.tup ds) (.tup es) = eqDs ds es := by
  rw [← eqvAll_eqDs]; unfold eqD toPy; rw [PyData.eqv]
theorem eqD_ll (ds es : List D) : eqD (.lst ds) (.lst es) = eqDs ds es := by
  rw [← eqvAll_eqDs]; unfold eqD toPy; rw [PyData.eqv]
theorem eqDs_map {α : Type} [DecidableEq α] {f : α → D} (hf : ∀ a b, eqD (f a) (f b) = decide (a = b)) : ∀ xs ys : List α, eqDs (xs.map f) (ys.map f) = decide (xs = ys)
  | [], [] => rfl
  | [], _ :: _ => by simp [eqDs]
  | _ :: _, [] => by simp [eqDs]
  | x :: xs, y :: ys => by
    show (eqD (f x) (f y) && eqDs (xs.map f) (ys.map f)) = _
    rw [hf, eqDs_map hf xs ys, Bool.eq_iff_iff]
    simp
theorem eqD_int' (a b : Int) : eqD (.int a) (.int b) = decide (a = b) := by
  rw [eqD_int, Bool.eq_iff_iff]; simp
theorem eqD_ints (xs ys : List Int) : eqD (.lst (xs.map .int)) (.lst (ys.map .int)) = decide (xs = ys) := by rw [eqD_ll, eqDs_map eqD_int']
theorem eqD_tints (xs ys : List Int) : eqD (.tup (xs.map .int)) (.tup (ys.map .int)) = decide (xs = ys) := by rw [eqD_tt, eqDs_map eqD_int']
theorem eqD_lnil (ds : List D) : eqD (.lst ds) (.lst []) = ds.isEmpty := by
  rw [eqD_ll]; cases ds <;> rfl
theorem fl_ints (xs : List Int) : Fl 1 (.lst (xs.map .int)) := fl_lst fun x hx => by
  obtain ⟨i, _, rfl⟩ := List.mem_map.mp hx; exact fl_int 0 i
theorem fl_tints (xs : List Int) : Fl 1 (.tup (xs.map .int)) := fl_tup fun x hx => by
  obtain ⟨i, _, rfl⟩ := List.mem_map.mp hx; exact fl_int 0 i
theorem fl_nil (n : Nat) : Fl (n + 1) (.lst []) := fl_lst fun _ h => by cases h
theorem fl_map {α : Type} {n : Nat} {f : α → D} (h : ∀ a, Fl n (f a)) (xs : List α) : Fl (n + 1) (.lst (xs.map f)) := fl_lst fun x hx => by
  obtain ⟨i, _, rfl⟩ := List.mem_map.mp hx; exact h i

/-! ### dicts by data -/
section
variable {κ : Type} [DecidableEq κ]
def getD (ks : List κ) (ds : List D) (k : κ) : Option D := ((ks.zip ds).find? fun p => decide (p.1 = k)).map (·.2)
def hasD (ks : List κ) (k : κ) : Bool := ks.any fun j => decide (j = k)
/-- the keys, the values behind d[k] = v -/
def putKs (ks : List κ) (k : κ) : List κ := if hasD ks k = true then ks else ks ++ [k]
def putDs (ks : List κ) (ds : List D) (k : κ) (v : D) : List D :=
  if hasD ks k = true then (ks.zip ds).map fun p => if p.1 = k then v else p.2 else ds ++ [v]
variable {K : PySem.W.Frag} {F : Hp}
theorem rd_get : ∀ {kvs : List (κ × V)} {ds : List D}, RdL K F ds (kvs.map (·.2)) → ∀ k : κ,
    match getD (kvs.map (·.1)) ds k with
    | some d => ∃ v, valV kvs k = some v ∧ Rdd K F d v
    | none => valV kvs k = none
  | [], ds, r, k => by
    have e : ds = [] := by
      cases ds with
      | nil => rfl
      | cons d ds => obtain ⟨_, _, h, _⟩ := RdL.inv r; cases h
    subst e
    rfl
  | p :: kvs, [], r, k => by have := r.inv0; simp at this
  | p :: kvs, d :: ds, r, k => by
    obtain ⟨v, r', h, r1, r2⟩ := RdL.inv r
    have e1 : p.2 = v := (List.cons.inj h).1
    have e2 : kvs.map (·.2) = r' := (List.cons.inj h).2
    have ih := rd_get (kvs := kvs) (ds := ds) (by rw [e2]; exact r2) k
    by_cases hk : p.1 = k
    · have : getD ((p :: kvs).map (·.1)) (d :: ds) k = some d := by
        unfold getD
        rw [List.map_cons, List.zip_cons_cons, List.find?_cons, decide_eq_true hk]
        rfl
      rw [this]
      exact ⟨p.2, valV_pos hk, e1 ▸ r1⟩
    · have : getD ((p :: kvs).map (·.1)) (d :: ds) k = getD (kvs.map (·.1)) ds k := by
        unfold getD
        rw [List.map_cons, List.zip_cons_cons, List.find?_cons, decide_eq_false hk]
      rw [this, valV_neg hk]
      exact ih
theorem rd_put {d : D} {v : V} (t : Rdd K F d v) {kvs : List (κ × V)} {ds : List D} (r : RdL K F ds (kvs.map (·.2))) (k : κ) :
    (putK kvs k v).map (·.1) = putKs (kvs.map (·.1)) k ∧ RdL K F (putDs (kvs.map (·.1)) ds k d) ((putK kvs k v).map (·.2)) := by
  have e : (kvs.any fun kv => decide (kv.1 = k)) = hasD (kvs.map (·.1)) k := by
    unfold hasD
    rw [List.any_map]
    rfl
  unfold putK putKs putDs
  rw [e]
  by_cases h : hasD (kvs.map (·.1)) k = true
  · rw [if_pos h, if_pos h, if_pos h]
    refine ⟨?_, ?_⟩
    · rw [List.map_map]
      refine List.map_congr_left fun p _ => ?_
      show (if p.1 = k then (p.1, v) else p).1 = p.1
      split <;> rfl
    · clear h e
      induction kvs generalizing ds with
      | nil =>
        have e : ds = [] := by
          cases ds with
          | nil => rfl
          | cons d ds => obtain ⟨_, _, h, _⟩ := RdL.inv r; cases h
        subst e
        exact RdL.nil
      | cons p kvs ih =>
        cases ds with
        | nil => have := r.inv0; simp at this
        | cons d' ds =>
          obtain ⟨v', r', h, r1, r2⟩ := RdL.inv r
          have e1 : p.2 = v' := (List.cons.inj h).1
          have e2 : kvs.map (·.2) = r' := (List.cons.inj h).2
          rw [List.map_cons, List.zip_cons_cons, List.map_cons, List.map_cons, List.map_cons]
          refine RdL.cons ?_ (ih (by rw [e2]; exact r2))
          show Rdd K F (if p.1 = k then d else d') (if p.1 = k then (p.1, v) else p).2
          split
          · exact t
          · rw [e1]; exact r1
  · rw [if_neg h, if_neg h, if_neg h]
    rw [List.map_append, List.map_append]
    exact ⟨rfl, r.snoc t⟩
end

/-! ### what an operation on data gives -/
section
variable (K : PySem.W.Frag)
def OpP (r : R2) (d e : D) (P : D → Prop) : Prop := ∀ B pp F H σ ρ x y, OkE K B pp F H σ ρ → Rdd K F d x → Rdd K F e y → ∀ Q : VK,
  (∀ v f F' H', OkE K B pp F' H' σ ρ → Gro B F F' → P f → Rdd K F' f v → Q v H') → r x y H Q
abbrev OpD (r : R2) (d e f : D) : Prop := OpP K r d e (fun x => x = f)
def CbP (r : List V → Hp → VK → Prop) (ds : List D) (P : D → Prop) : Prop := ∀ B pp F H σ ρ xs, OkE K B pp F H σ ρ → RdL K F ds xs → ∀ Q : VK,
  (∀ v f F' H', OkE K B pp F' H' σ ρ → Gro B F F' → P f → Rdd K F' f v → Q v H') → r xs H Q
abbrev CbD (r : List V → Hp → VK → Prop) (ds : List D) (f : D) : Prop := CbP K r ds (fun x => x = f)
/-- a new object of its own -/
def CbN (r : List V → Hp → VK → Prop) (ds : List D) (P : D → Prop) : Prop := ∀ B pp F H σ ρ xs, OkE K B pp F H σ ρ → RdL K F ds xs → ∀ Q : VK,
  (∀ p o d F' H', OkE K B pp F' H' σ ρ → Gro B F F' → P d → B p = none → pp ≠ some p → F' p = none → H' p = some o → ObjM K F' o d → Q (.ref p) H') → r xs H Q
abbrev CbND (r : List V → Hp → VK → Prop) (ds : List D) (f : D) : Prop := CbN K r ds (fun x => x = f)
/-- arguments to frozen data -/
def EvL (ta : TA) (ρ : List Cell) (P : List D → Prop) : Prop := ∀ B pp F H σ, OkE K B pp F H σ ρ → ∀ Q : List V → Hp → Prop,
  (∀ vs ds F' H', OkE K B pp F' H' σ ρ → Gro B F F' → P ds → RdL K F' ds vs → Q vs H') → ta σ H Q
abbrev EvLD (ta : TA) (ρ : List Cell) (ds : List D) : Prop := EvL K ta ρ (fun x => x = ds)
end
section
variable {K : PySem.W.Frag} {ρ : List Cell} {te ta tb tc : TE} {t u : TT} {tl tr : TA} {d e f : D} {r : R2} {P R : D → Prop}
/-- an operation that makes nothing -/
theorem opd_val (h : ∀ F H x y, Ext F H → Rdd K F d x → Rdd K F e y → ∃ v, (∀ Q : VK, Q v H → r x y H Q) ∧ Rdd K F f v) : OpD K r d e f := fun B pp F H σ ρ x y ok rx ry Q q => by
  obtain ⟨v, h1, h2⟩ := h F H x y ok.bse.ext rx ry
  exact h1 Q (q v f F H ok (Gro.refl) rfl h2)
theorem cbd_val {r : List V → Hp → VK → Prop} {ds : List D} (h : ∀ F H xs, Ext F H → RdL K F ds xs → ∃ v, (∀ Q : VK, Q v H → r xs H Q) ∧ Rdd K F f v) : CbD K r ds f := fun B pp F H σ ρ xs ok rx Q q => by
  obtain ⟨v, h1, h2⟩ := h F H xs ok.bse.ext rx
  exact h1 Q (q v f F H ok (Gro.refl) rfl h2)
theorem e_v {i : Nat} (h : ρ[i]? = some (.fro d)) : EvD K (tVar i) ρ d := fun B pp F H σ ok Q q => by
  obtain ⟨v, e, r⟩ := ok.fro h
  exact ⟨v, e, q v d F H ok (Gro.refl) rfl r⟩
theorem e_c {v : V} (h : ∀ F, Rdd K F d v) : EvD K (tC v) ρ d := fun B pp F H σ ok Q q => q v d F H ok (Gro.refl) rfl (h F)
theorem e_i {i : Int} : EvD K (tC (.int i)) ρ (.int i) := e_c fun F => by unfold Rdd; rfl
theorem e_b {i : Bool} : EvD K (tC (.bl i)) ρ (.bl i) := e_c fun F => by unfold Rdd; rfl
theorem e_s {i : Str} : EvD K (tC (.str i)) ρ (.str i) := e_c fun F => by unfold Rdd; rfl
theorem e_n : EvD K (tC .non) ρ .non := e_c fun F => by unfold Rdd; rfl
theorem e_a {a : Addr} : EvD K (tC (.ref a)) ρ (.adr a) := e_c fun F => by unfold Rdd; rfl
theorem g_op {P' : D → D → Prop} (ha : Ev K ta ρ P) (hb : ∀ d, P d → Ev K tb ρ (P' d)) (h : ∀ d e, P d → P' d e → OpP K r d e R) : Ev K (tOp r ta tb) ρ R := fun B pp F H σ ok Q q =>
  ha B pp F H σ ok _ fun v d F1 H1 ok1 l1 pd rd => hb d pd B pp F1 H1 σ ok1 _ fun u e F2 H2 ok2 l2 pe re => h d e pd pe B pp F2 H2 σ ρ v u ok2 (Rdd.mono l2.le _ _ rd) re Q fun w f F3 H3 ok3 l3 pf rf => q w f F3 H3 ok3 ((l1.trans l2).trans l3) pf rf
theorem e_op (ha : EvD K ta ρ d) (hb : EvD K tb ρ e) (h : OpD K r d e f) : EvD K (tOp r ta tb) ρ f := g_op ha (fun _ _ => hb) (by rintro _ _ rfl rfl; exact h)
theorem o_I0 {g : Int → Int → V} {i j : Int} (h : ∀ F, Rdd K F f (g i j)) : OpD K (rI0 g) (.int i) (.int j) f := opd_val fun F H x y _ rx ry => by
  unfold Rdd at rx ry; subst rx; subst ry
  exact ⟨g i j, fun Q q => ⟨i, j, rfl, rfl, q⟩, h F⟩
theorem o_I {C : Int → Int → Prop} {g : Int → Int → V} {i j : Int} (hc : C i j) (h : ∀ F, Rdd K F f (g i j)) : OpD K (rI C g) (.int i) (.int j) f := opd_val fun F H x y _ rx ry => by
  unfold Rdd at rx ry; subst rx; subst ry
  exact ⟨g i j, fun Q q => ⟨i, j, rfl, rfl, hc, q⟩, h F⟩
theorem rdi {F : Hp} {i : Int} : Rdd K F (.int i) (.int i) := by unfold Rdd; rfl
theorem rdb {F : Hp} {i : Bool} : Rdd K F (.bl i) (.bl i) := by unfold Rdd; rfl
theorem rds {F : Hp} {i : Str} : Rdd K F (.str i) (.str i) := by unfold Rdd; rfl
theorem rdn {F : Hp} : Rdd K F .non .non := by unfold Rdd; rfl
theorem o_sub {i j : Int} : OpD K (rI0 fun i j => .int (i - j)) (.int i) (.int j) (.int (i - j)) := o_I0 fun _ => rdi
theorem o_and {i j : Int} : OpD K (rI0 fun i j => .int (Builtin.bitAnd i j)) (.int i) (.int j) (.int (Builtin.bitAnd i j)) := o_I0 fun _ => rdi
theorem o_lt {i j : Int} : OpD K (rI0 fun i j => .bl (decide (i < j))) (.int i) (.int j) (.bl (decide (i < j))) := o_I0 fun _ => rdb
theorem o_le {i j : Int} : OpD K (rI0 fun i j => .bl (decide (i ≤ j))) (.int i) (.int j) (.bl (decide (i ≤ j))) := o_I0 fun _ => rdb
theorem o_gt {i j : Int} : OpD K (rI0 fun i j => .bl (decide (j < i))) (.int i) (.int j) (.bl (decide (j < i))) := o_I0 fun _ => rdb
theorem o_ge {i j : Int} : OpD K (rI0 fun i j => .bl (decide (j ≤ i))) (.int i) (.int j) (.bl (decide (j ≤ i))) := o_I0 fun _ => rdb
theorem o_mul {i j : Int} (h : CMul i j) : OpD K (rI CMul fun i j => .int (i * j)) (.int i) (.int j) (.int (i * j)) := o_I h fun _ => rdi
theorem o_mod {i j : Int} (h : j ≠ 0) : OpD K (rI (fun _ j => j ≠ 0) fun i j => .int (i.fmod j)) (.int i) (.int j) (.int (i.fmod j)) := o_I h fun _ => rdi
theorem o_div {i j : Int} (h : CDivN i j) : OpD K (rI CDivN fun i j => .int (i.fdiv j)) (.int i) (.int j) (.int (i.fdiv j)) := o_I h fun _ => rdi
theorem o_pow {i j : Int} (h : CPow i j) : OpD K (rI CPow fun i j => .int (i ^ j.toNat)) (.int i) (.int j) (.int (i ^ j.toNat)) := o_I h fun _ => rdi
theorem o_shr {i j : Int} (h : 0 ≤ j) : OpD K (rI (fun _ j => 0 ≤ j) fun i j => .int (i / 2 ^ j.toNat)) (.int i) (.int j) (.int (i / 2 ^ j.toNat)) := o_I h fun _ => rdi
theorem o_add {i j : Int} : OpD K (rAddA K) (.int i) (.int j) (.int (i + j)) := opd_val fun F H x y _ rx ry => by
  unfold Rdd at rx ry; subst rx; subst ry
  exact ⟨.int (i + j), fun Q q => .inl ⟨i, j, rfl, rfl, q⟩, rdi⟩
theorem o_addS {i j : Str} (h : i.length + j.length ≤ 100000) : OpD K (rAddA K) (.str i) (.str j) (.str (i ++ j)) := opd_val fun F H x y _ rx ry => by
  unfold Rdd at rx ry; subst rx; subst ry
  exact ⟨.str (i ++ j), fun Q q => .inr (.inl ⟨i, j, rfl, rfl, Nat.le_trans h (by decide), q⟩), rds⟩
/-- a new frozen object -/
theorem OkE.laid {B : Hp} {pp : Option Addr} {F H : Hp} {σ : L2.St} {ρ : List Cell} {p : Addr} {o : HO} (ok : OkE K B pp F H σ ρ) (h : H p = none) : OkE K B pp (upd F p o) (upd H p o) σ ρ ∧ Gro B F (upd F p o) :=
  ⟨ok.new h, Gro.new (ok.bse.base.none h) (ok.bse.ext.some h)⟩
theorem o_addL {xs ys : List D} (h : xs.length + ys.length ≤ 100000) : OpD K (rAddA K) (.lst xs) (.lst ys) (.lst (xs ++ ys)) := fun B pp F H σ ρ x y ok rx ry Q q => by
  unfold Rdd at rx ry
  obtain ⟨a, vs, rfl, fa, ra⟩ := rx
  obtain ⟨b, us, rfl, fb, rb⟩ := ry
  have la := ra.len; have lb := rb.len
  refine .inr (.inr (.inl ⟨a, b, vs, us, rfl, rfl, ok.bse.ext.lst fa, ok.bse.ext.lst fb, by rw [← la, ← lb]; exact Nat.le_trans h (by decide), fun p hp => ?_⟩))
  obtain ⟨ok', l⟩ := ok.laid (o := .lst (vs ++ us)) hp
  exact q _ _ _ _ ok' l rfl (by unfold Rdd; exact ⟨p, _, rfl, upd_same, RdL.mono l.le _ _ (ra.append rb)⟩)
theorem o_addT {xs ys : List D} (hx : xs ≠ []) (hy : ys ≠ []) (h : xs.length + ys.length ≤ 100000) : OpD K (rAddA K) (.tup xs) (.tup ys) (.tup (xs ++ ys)) := fun B pp F H σ ρ x y ok rx ry Q q => by
  unfold Rdd at rx ry
  obtain ⟨a, vs, rfl, fa, ra⟩ := rx
  obtain ⟨b, us, rfl, fb, rb⟩ := ry
  have la := ra.len; have lb := rb.len
  refine .inr (.inr (.inr ⟨a, b, vs, us, rfl, rfl, ok.bse.ext.sqt fa, ok.bse.ext.sqt fb, ?_, by rw [← la, ← lb]; exact Nat.le_trans h (by decide), ?_, fun _ p hp => ?_⟩))
  · rintro rfl; exact hx (List.eq_nil_of_length_eq_zero la)
  · rintro rfl; exact absurd (List.eq_nil_of_length_eq_zero lb) hy
  · obtain ⟨ok', l⟩ := ok.laid (o := .tup (vs ++ us)) hp
    exact q _ _ _ _ ok' l rfl (by unfold Rdd; exact ⟨p, _, rfl, upd_same, RdL.mono l.le _ _ (ra.append rb)⟩)
theorem atI_map {xs : List D} {vs : List V} {F : Hp} {i : Int} (r : RdL K F xs vs) (h : atI xs i = some d) : ∃ v, atI vs i = some v ∧ Rdd K F d v := by
  unfold atI at h ⊢
  rw [← r.len]
  cases e : ixN xs.length i with
  | none => rw [e] at h; cases h
  | some j => rw [e] at h; exact r.get h
theorem o_ixL {xs : List D} {i : Int} (h : atI xs i = some d) : OpD K (rIxA K) (.lst xs) (.int i) d := opd_val fun F H x y ex rx ry => by
  unfold Rdd at rx ry; subst ry
  obtain ⟨a, vs, rfl, fa, ra⟩ := rx
  obtain ⟨v, e, r⟩ := atI_map ra h
  exact ⟨v, fun Q q => .inl ⟨a, vs, i, v, rfl, rfl, SqL.of (ex.lst fa), e, q⟩, r⟩
theorem o_ixT {xs : List D} {i : Int} (h : atI xs i = some d) : OpD K (rIxA K) (.tup xs) (.int i) d := opd_val fun F H x y ex rx ry => by
  unfold Rdd at rx ry; subst ry
  obtain ⟨a, vs, rfl, fa, ra⟩ := rx
  obtain ⟨v, e, r⟩ := atI_map ra h
  exact ⟨v, fun Q q => .inr (.inl ⟨a, vs, i, v, rfl, rfl, ex.sqt fa, e, q⟩), r⟩
theorem o_ixR {ns : List Int} {i j : Int} (h : atI ns i = some j) : OpD K (rIxA K) (.scr ns) (.int i) (.int j) := opd_val fun F H x y ex rx ry => by
  unfold Rdd at rx ry; subst ry
  obtain ⟨a, rfl, fa⟩ := rx
  refine ⟨.int j, fun Q q => .inl ⟨a, ns.map V.int, i, .int j, rfl, rfl, ex.sql fa, ?_, q⟩, rdi⟩
  unfold atI at h ⊢
  rw [List.length_map]
  cases e : ixN ns.length i with
  | none => rw [e] at h; cases h
  | some k =>
    rw [e] at h
    show (ns.map V.int)[k]? = _
    rw [List.getElem?_map, show ns[k]? = some j from h]
    rfl
theorem o_ixS {z : Str} {i : Int} {c : Nat} (hz : z.length ≤ 100000) (h : atI z.cps.toList i = some c) : OpD K (rIxA K) (.str z) (.int i) (.str ⟨#[c]⟩) := opd_val fun F H x y ex rx ry => by
  unfold Rdd at rx ry; subst ry; subst rx
  exact ⟨_, fun Q q => .inr (.inr (.inl ⟨z, i, c, rfl, rfl, Nat.le_trans hz (by decide), h, q⟩)), rds⟩
/-- what is a key: an int, a text -/
def keyD : D → Option Key
  | .int i => some (.inl i) | .str s => some (.inr s) | _ => none
theorem key_kV {F : Hp} {k : Key} {y : V} (h : keyD d = some k) (r : Rdd K F d y) : y = kV k := by
  cases d with
  | int i => unfold Rdd at r; subst r; cases h; rfl
  | str i => unfold Rdd at r; subst r; cases h; rfl
  | _ => cases h
theorem dget_k {F H : Hp} {a : Addr} {kvs : List (Key × V)} {ds : List D} {y : V} {k : Key} (ex : Ext F H) (fa : F a = some (.dK kvs)) (rv : RdL K F ds (kvs.map (·.2))) (hy : y = kV k) :
    match getD (kvs.map (·.1)) ds k with | some d => ∃ v, DGet H a y (some v) ∧ Rdd K F d v | none => DGet H a y none := by
  have h := rd_get rv k
  cases e : getD (kvs.map (·.1)) ds k with
  | some d => rw [e] at h; obtain ⟨v, h1, h2⟩ := h; exact ⟨v, .inl ⟨kvs, k, ex.rd fa, hy, h1.symm⟩, h2⟩
  | none => rw [e] at h; exact .inl ⟨kvs, k, ex.rd fa, hy, (show valV kvs k = none from h).symm⟩
theorem dget_t {F H : Hp} {a b : Addr} {kvs : List (List Key × V)} {ds : List D} {k : List Key} (ex : Ext F H) (fa : F a = some (.dT kvs)) (rv : RdL K F ds (kvs.map (·.2))) (hb : F b = some (.tup (k.map kV))) :
    match getD (kvs.map (·.1)) ds k with | some d => ∃ v, DGet H a (.ref b) (some v) ∧ Rdd K F d v | none => DGet H a (.ref b) none := by
  have h := rd_get rv k
  cases e : getD (kvs.map (·.1)) ds k with
  | some d => rw [e] at h; obtain ⟨v, h1, h2⟩ := h; exact ⟨v, .inr ⟨kvs, k, b, ex.rd fa, rfl, ex.tup hb, h1.symm⟩, h2⟩
  | none => rw [e] at h; exact .inr ⟨kvs, k, b, ex.rd fa, rfl, ex.tup hb, (show valV kvs k = none from h).symm⟩
theorem ints_kV {F : Hp} : ∀ {ns : List Int} {vs : List V}, RdL K F (ns.map D.int) vs → vs = (ns.map Sum.inl).map kV := fun {ns vs} h => by
  rw [RdL.ints_inv h, List.map_map]
  rfl
theorem o_ixK {ks : List Key} {ds : List D} {k : Key} (hk : keyD e = some k) (h : getD ks ds k = some d) : OpD K (rIxA K) (.dik ks ds) e d := opd_val fun F H x y ex rx ry => by
  have ey := key_kV hk ry
  unfold Rdd at rx
  obtain ⟨a, kvs, rfl, fa, rfl, ra⟩ := rx
  have g := dget_k ex fa ra ey
  rw [h] at g
  obtain ⟨v, g, r⟩ := g
  exact ⟨v, fun Q q => .inr (.inr (.inr ⟨a, v, rfl, g, q⟩)), r⟩
theorem o_ixKT {ks : List (List Key)} {ds : List D} {ns : List Int} (h : getD ks ds (ns.map Sum.inl) = some d) : OpD K (rIxA K) (.dit ks ds) (.tup (ns.map .int)) d := opd_val fun F H x y ex rx ry => by
  unfold Rdd at rx ry
  obtain ⟨a, kvs, rfl, fa, rfl, ra⟩ := rx
  obtain ⟨b, vs, rfl, fb, rb⟩ := ry
  have g := dget_t ex fa ra (by rw [← ints_kV rb]; exact fb)
  rw [h] at g
  obtain ⟨v, g, r⟩ := g
  exact ⟨v, fun Q q => .inr (.inr (.inr ⟨a, v, rfl, g, q⟩)), r⟩
theorem o_eq {n m : Nat} (hd : Fl n d) (he : Fl m e) (hn : n ≤ 60 := by decide) (hm : m ≤ 60 := by decide) : OpD K (rEqA K) d e (.bl (eqD d e)) := opd_val fun F H x y ex rx ry =>
  ⟨_, fun Q q => .inl ⟨toPy d, toPy e, fl_dp ex hd x rx, fl_dp ex he y ry, fl_shaped hd hn, fl_shaped he hm, q⟩, rdb⟩
theorem o_ne {n m : Nat} (hd : Fl n d) (he : Fl m e) (hn : n ≤ 60 := by decide) (hm : m ≤ 60 := by decide) : OpD K (rNeA K) d e (.bl (!eqD d e)) := opd_val fun F H x y ex rx ry =>
  ⟨_, fun Q q => .inl ⟨toPy d, toPy e, fl_dp ex hd x rx, fl_dp ex he y ry, fl_shaped hd hn, fl_shaped he hm, q⟩, rdb⟩
theorem o_eqi {i j : Int} : OpD K (rEqA K) (.int i) (.int j) (.bl (decide (i = j))) := by
  have := o_eq (K := K) (fl_int 0 i) (fl_int 0 j)
  rw [eqD_int'] at this
  exact this
theorem o_nei {i j : Int} : OpD K (rNeA K) (.int i) (.int j) (.bl (!decide (i = j))) := by
  have := o_ne (K := K) (fl_int 0 i) (fl_int 0 j)
  rw [eqD_int'] at this
  exact this
theorem o_eqs {i j : Str} : OpD K (rEqA K) (.str i) (.str j) (.bl (decide (i = j))) := opd_val fun F H x y ex rx ry => by
  unfold Rdd at rx ry; subst rx; subst ry
  have e : decide (V.str i = V.str j) = decide (i = j) := by rw [Bool.eq_iff_iff]; simp
  exact ⟨.bl (decide (i = j)), fun Q q => .inr ⟨rfl, by rw [e]; exact q⟩, rdb⟩
theorem o_in {n m : Nat} {ds : List D} (hd : Fl n d) (hs : Fl m (.lst ds)) (hn : n ≤ 60 := by decide) (hm : m ≤ 60 := by decide) : OpD K (rInA K) d (.lst ds) (.bl (ds.any fun z => eqD z d)) := opd_val fun F H x y ex rx ry => by
  have e : ((toPys ds).any fun z => PyData.eqv z (toPy d)) = ds.any fun z => eqD z d := by rw [toPys_map, List.any_map]; rfl
  have hp := fl_dp ex hs y ry
  have hsh := fl_shaped hs hm
  unfold toPy at hp hsh
  exact ⟨_, fun Q q => .inl ⟨toPy d, toPys ds, fl_dp ex hd x rx, hp, fl_shaped hd hn, hsh, by rw [e]; exact q⟩, rdb⟩
theorem o_nin {n m : Nat} {ds : List D} (hd : Fl n d) (hs : Fl m (.lst ds)) (hn : n ≤ 60 := by decide) (hm : m ≤ 60 := by decide) : OpD K (rNinA K) d (.lst ds) (.bl (!ds.any fun z => eqD z d)) := opd_val fun F H x y ex rx ry => by
  have e : ((toPys ds).any fun z => PyData.eqv z (toPy d)) = ds.any fun z => eqD z d := by rw [toPys_map, List.any_map]; rfl
  have hp := fl_dp ex hs y ry
  have hsh := fl_shaped hs hm
  unfold toPy at hp hsh
  exact ⟨_, fun Q q => .inl ⟨toPy d, toPys ds, fl_dp ex hd x rx, hp, fl_shaped hd hn, hsh, by rw [e]; exact q⟩, rdb⟩
theorem o_ninS {c : Nat} {z : Str} : OpD K (rNinA K) (.str ⟨#[c]⟩) (.str z) (.bl (!decide (c ∈ z.cps.toList))) := opd_val fun F H x y ex rx ry => by
  unfold Rdd at rx ry; subst rx; subst ry
  exact ⟨_, fun Q q => .inr (.inl ⟨c, z, rfl, rfl, q⟩), rdb⟩
theorem get_has {κ : Type} [DecidableEq κ] : ∀ (ks : List κ) (ds : List D) (k : κ), ks.length = ds.length → (getD ks ds k).isSome = hasD ks k
  | [], [], k, _ => rfl
  | [], _ :: _, k, h => by simp at h
  | _ :: _, [], k, h => by simp at h
  | j :: ks, d :: ds, k, h => by
    have ih := get_has ks ds k (by simpa using h)
    unfold getD hasD at ih ⊢
    rw [List.zip_cons_cons, List.find?_cons, List.any_cons]
    by_cases e : j = k
    · rw [decide_eq_true e]; rfl
    · rw [decide_eq_false e, Bool.false_or]; exact ih
theorem dget_has {F H : Hp} {a : Addr} {kvs : List (Key × V)} {ds : List D} {y : V} {k : Key} (ex : Ext F H) (fa : F a = some (.dK kvs)) (rv : RdL K F ds (kvs.map (·.2))) (hy : y = kV k) : ∃ o, DGet H a y o ∧ o.isSome = hasD (kvs.map (·.1)) k := by
  have g := dget_k ex fa rv hy
  rw [← get_has (kvs.map (·.1)) ds k (by rw [rv.len, List.length_map, List.length_map])]
  cases e : getD (kvs.map (·.1)) ds k with
  | some d => rw [e] at g; obtain ⟨v, g, _⟩ := g; exact ⟨_, g, rfl⟩
  | none => rw [e] at g; exact ⟨_, g, rfl⟩
theorem o_inK {ks : List Key} {ds : List D} {k : Key} (hk : keyD e = some k) : OpD K (rInA K) e (.dik ks ds) (.bl (hasD ks k)) := opd_val fun F H y x ex ry rx => by
  have ey := key_kV hk ry
  unfold Rdd at rx
  obtain ⟨a, kvs, rfl, fa, rfl, ra⟩ := rx
  obtain ⟨o, g, eo⟩ := dget_has ex fa ra ey
  exact ⟨_, fun Q q => .inr (.inr ⟨a, o, rfl, g, by rw [eo]; exact q⟩), rdb⟩
theorem o_ninK {ks : List Key} {ds : List D} {k : Key} (hk : keyD e = some k) : OpD K (rNinA K) e (.dik ks ds) (.bl (!hasD ks k)) := opd_val fun F H y x ex ry rx => by
  have ey := key_kV hk ry
  unfold Rdd at rx
  obtain ⟨a, kvs, rfl, fa, rfl, ra⟩ := rx
  obtain ⟨o, g, eo⟩ := dget_has ex fa ra ey
  exact ⟨_, fun Q q => .inr (.inr ⟨a, o, rfl, g, by rw [eo]; exact q⟩), rdb⟩
def isNon : D → Bool | .non => true | _ => false
theorem non_iff {F : Hp} {v : V} (r : Rdd K F d v) : decide (v = .non) = isNon d := by
  cases d with
  | non => unfold Rdd at r; subst r; rfl
  | bl _ => unfold Rdd at r; subst r; rfl
  | int _ => unfold Rdd at r; subst r; rfl
  | str _ => unfold Rdd at r; subst r; rfl
  | adr _ => unfold Rdd at r; subst r; rfl
  | tup _ => unfold Rdd at r; obtain ⟨_, _, rfl, _⟩ := r; rfl
  | lst _ => unfold Rdd at r; obtain ⟨_, _, rfl, _⟩ := r; rfl
  | dik _ _ => unfold Rdd at r; obtain ⟨_, _, rfl, _⟩ := r; rfl
  | dit _ _ => unfold Rdd at r; obtain ⟨_, _, rfl, _⟩ := r; rfl
  | scr _ => unfold Rdd at r; obtain ⟨_, rfl, _⟩ := r; rfl
  | typ _ => unfold Rdd at r; subst r; rfl
theorem o_is : OpD K rIs d .non (.bl (isNon d)) := opd_val fun F H x y ex rx ry => by
  have e := non_iff rx
  unfold Rdd at ry; subst ry
  exact ⟨_, fun Q q => ⟨rfl, by rw [e]; exact q⟩, rdb⟩
theorem o_isnt : OpD K rIsNot d .non (.bl (!isNon d)) := opd_val fun F H x y ex rx ry => by
  have e := non_iff rx
  unfold Rdd at ry; subst ry
  exact ⟨_, fun Q q => ⟨rfl, by rw [e]; exact q⟩, rdb⟩
end
end Bs
namespace Bs
open PySem L2
/-! ### slices -/
def rSlA (K : PySem.W.Frag) : V → Option Int → Option Int → Hp → VK → Prop := fun x lo hi H Q => rSlL K x lo hi H Q ∨ rSlT K x lo hi H Q ∨ rSlS x lo hi H Q
theorem sl_any {X : Cx} : SlR X (rSlA X.K) := sl_list.or (sl_tup.or sl_str)
def cutD {α : Type} (xs : List α) (lo hi : Option Int) : List α := (xs.drop (HT.sIx xs.length 0 lo)).take (HT.sIx xs.length xs.length hi - HT.sIx xs.length 0 lo)
theorem cutD_map {α β : Type} (f : α → β) (xs : List α) (lo hi : Option Int) : cutD (xs.map f) lo hi = (cutD xs lo hi).map f := by
  unfold cutD; rw [List.length_map, List.map_take, List.map_drop]
theorem cut_nn {α : Type} (xs : List α) (i j : Nat) : cutD xs (some (i : Int)) (some (j : Int)) = (xs.drop i).take (j - i) := by
  unfold cutD
  rw [show HT.sIx xs.length 0 (some (i : Int)) = min i xs.length from HT.sIx_nat xs.length 0 i, show HT.sIx xs.length xs.length (some (j : Int)) = min j xs.length from HT.sIx_nat xs.length xs.length j]
  by_cases hi : i ≤ xs.length
  · rw [Nat.min_eq_left hi]
    by_cases hj : j ≤ xs.length
    · rw [Nat.min_eq_left hj]
    · rw [Nat.min_eq_right (by omega)]
      rw [List.take_of_length_le (l := xs.drop i) (by rw [List.length_drop]; omega), List.take_of_length_le (l := xs.drop i) (by rw [List.length_drop]; omega)]
  · rw [Nat.min_eq_right (by omega : xs.length ≤ i), List.drop_of_length_le (by omega : xs.length ≤ xs.length), List.drop_of_length_le (by omega : xs.length ≤ i)]
    simp
theorem cut_n {α : Type} (xs : List α) (i : Nat) : cutD xs (some (i : Int)) none = xs.drop i := by
  unfold cutD
  rw [show HT.sIx xs.length 0 (some (i : Int)) = min i xs.length from HT.sIx_nat xs.length 0 i, HT.sIx_none]
  by_cases hi : i ≤ xs.length
  · rw [Nat.min_eq_left hi, List.take_of_length_le (by rw [List.length_drop]; omega)]
  · rw [Nat.min_eq_right (by omega : xs.length ≤ i), List.drop_of_length_le (by omega : xs.length ≤ xs.length), List.drop_of_length_le (by omega : xs.length ≤ i)]
    simp
section
variable (K : PySem.W.Frag)
def EvO (to : TO) (ρ : List Cell) (o : Option Int) : Prop := ∀ B pp F H σ, OkE K B pp F H σ ρ → ∀ Q : Option Int → Hp → Prop, (∀ F' H', OkE K B pp F' H' σ ρ → Gro B F F' → Q o H') → to σ H Q
end
section
variable {K : PySem.W.Frag} {ρ : List Cell} {te ta tb tc : TE} {t u : TT} {tl tr : TA} {d e f : D} {P R : D → Prop} {to th : TO} {lo hi : Option Int}
theorem s_none : EvO K tNoPart ρ none := fun B pp F H σ ok Q q => q F H ok (Gro.refl)
theorem s_some {i : Int} (h : EvD K te ρ (.int i)) : EvO K (tPart te) ρ (some i) := fun B pp F H σ ok Q q => h B pp F H σ ok _ fun v d F1 H1 ok1 l1 pd rd => by
  subst pd; unfold Rdd at rd
  exact ⟨i, rd, q F1 H1 ok1 l1⟩
/-- an object of its own is laid -/
theorem OkE.fresh {B : Hp} {pp : Option Addr} {F H : Hp} {σ : L2.St} {p : Addr} {o : HO} (ok : OkE K B pp F H σ ρ) (hp : H p = none) : OkE K B pp F (upd H p o) σ ρ ∧ B p = none ∧ pp ≠ some p ∧ F p = none := by
  have hB : B p = none := ok.bse.base.none hp
  refine ⟨(ok.newB (o := o) hp).base (Le.new hB) fun i d q hc hs => ?_, hB, fun e => ?_, ok.bse.ext.some hp⟩
  · obtain ⟨x, e1, q1, o1, e2, f2, b2, m2⟩ := ok.cell i _ hc
    rw [hs] at e1; cases e1; cases e2
    rw [upd_ne (ne_of_none b2 hB)]
  · obtain ⟨_, _, o1, h1, _⟩ := ok.bse.pool p e
    rw [hp] at h1; cases h1
/-- the heap grows by what nobody sees -/
theorem OkE.more {B : Hp} {pp : Option Addr} {F H : Hp} {σ : L2.St} {p : Addr} {o : HO} (ok : OkE K B pp F H σ ρ) (hp : H p = none) : OkE K B pp F (upd H p o) σ ρ := (ok.fresh hp).1
theorem e_slL {xs : List D} (h : EvD K te ρ (.lst xs)) (h1 : EvO K to ρ lo) (h2 : EvO K th ρ hi) : EvND K (tSl (rSlA K) te to th) ρ (.lst (cutD xs lo hi)) := fun B pp F H σ ok Q q =>
  h B pp F H σ ok _ fun v d F1 H1 ok1 l1 pd rd => h1 B pp F1 H1 σ ok1 _ fun F2 H2 ok2 l2 => h2 B pp F2 H2 σ ok2 _ fun F3 H3 ok3 l3 => by
    subst pd
    have rd := Rdd.mono (l2.trans l3).le _ _ rd
    unfold Rdd at rd
    obtain ⟨a, vs, rfl, fa, ra⟩ := rd
    refine .inl ⟨a, vs, rfl, SqL.of (ok3.bse.ext.lst fa), fun p hp => ?_⟩
    obtain ⟨ok4, hB, hP, hF⟩ := ok3.fresh (o := .lst (cutV vs lo hi)) hp
    refine q p _ _ F3 _ ok4 ((l1.trans l2).trans l3) rfl hB hP hF upd_same ⟨_, rfl, ?_⟩
    unfold cutV cutD
    rw [ra.len]
    exact (ra.drop _).take _
theorem e_slT {xs : List D} (h : EvD K te ρ (.tup xs)) (h1 : EvO K to ρ lo) (h2 : EvO K th ρ hi) (hw : ¬ (HT.sIx xs.length 0 lo = 0 ∧ HT.sIx xs.length xs.length hi = xs.length)) : EvD K (tSl (rSlA K) te to th) ρ (.tup (cutD xs lo hi)) := fun B pp F H σ ok Q q =>
  h B pp F H σ ok _ fun v d F1 H1 ok1 l1 pd rd => h1 B pp F1 H1 σ ok1 _ fun F2 H2 ok2 l2 => h2 B pp F2 H2 σ ok2 _ fun F3 H3 ok3 l3 => by
    subst pd
    have rd := Rdd.mono (l2.trans l3).le _ _ rd
    unfold Rdd at rd
    obtain ⟨a, vs, rfl, fa, ra⟩ := rd
    refine .inr (.inl ⟨a, vs, rfl, ok3.bse.ext.sqt fa, by rw [← ra.len]; exact hw, fun p hp => ?_⟩)
    obtain ⟨ok4, l4⟩ := ok3.laid (o := .tup (cutV vs lo hi)) hp
    refine q _ _ _ _ ok4 (((l1.trans l2).trans l3).trans l4) rfl ?_
    unfold Rdd
    refine ⟨p, _, rfl, upd_same, ?_⟩
    unfold cutV cutD
    rw [ra.len]
    exact RdL.mono l4.le _ _ ((ra.drop _).take _)
theorem e_slS {z : Str} (h : EvD K te ρ (.str z)) (h1 : EvO K to ρ lo) (h2 : EvO K th ρ hi) (hz : z.length ≤ 100000) : EvD K (tSl (rSlA K) te to th) ρ (.str (cutS z lo hi)) := fun B pp F H σ ok Q q =>
  h B pp F H σ ok _ fun v d F1 H1 ok1 l1 pd rd => h1 B pp F1 H1 σ ok1 _ fun F2 H2 ok2 l2 => h2 B pp F2 H2 σ ok2 _ fun F3 H3 ok3 l3 => by
    subst pd
    unfold Rdd at rd
    exact .inr (.inr ⟨z, rd, Nat.le_trans hz (by decide), q _ _ F3 H3 ok3 ((l1.trans l2).trans l3) rfl rds⟩)
/-! ### arguments, displays -/
theorem l_nil : EvLD K tNil ρ [] := fun B pp F H σ ok Q q => q [] [] F H ok (Gro.refl) rfl RdL.nil
theorem gl_cons {P' : D → List D → Prop} (h : Ev K ta ρ P) (hr : ∀ d, P d → EvL K tr ρ (P' d)) : EvL K (tCons ta tr) ρ (fun ds => ∃ d r, ds = d :: r ∧ P d ∧ P' d r) := fun B pp F H σ ok Q q =>
  h B pp F H σ ok _ fun v d F1 H1 ok1 l1 pd rd => hr d pd B pp F1 H1 σ ok1 _ fun vs ds F2 H2 ok2 l2 pds rds => q _ _ F2 H2 ok2 (l1.trans l2) ⟨d, ds, rfl, pd, pds⟩ (RdL.cons (Rdd.mono l2.le _ _ rd) rds)
theorem l_cons {ds : List D} (h : EvD K ta ρ d) (hr : EvLD K tr ρ ds) : EvLD K (tCons ta tr) ρ (d :: ds) := fun B pp F H σ ok Q q =>
  gl_cons h (fun _ _ => hr) B pp F H σ ok Q fun vs ds F' H' ok' l p r => q vs ds F' H' ok' l (by obtain ⟨d, r, rfl, rfl, rfl⟩ := p; rfl) r
theorem EvL.imp {P P' : List D → Prop} (h : EvL K tr ρ P) (k : ∀ d, P d → P' d) : EvL K tr ρ P' := fun B pp F H σ ok Q q => h B pp F H σ ok Q fun v d F' H' o l p r => q v d F' H' o l (k d p) r
theorem g_tup {P : List D → Prop} (h : EvL K tl ρ P) (hl : ∀ ds, P ds → ds.length ≤ 100000) : Ev K (tTup tl) ρ (fun d => ∃ ds, d = .tup ds ∧ P ds) := fun B pp F H σ ok Q q =>
  h B pp F H σ ok _ fun vs ds F1 H1 ok1 l1 pd rd => ⟨by rw [← rd.len]; exact Nat.le_trans (hl ds pd) (by decide), fun p hp => by
    obtain ⟨ok2, l2⟩ := ok1.laid (o := .tup vs) hp
    refine q _ _ _ _ ok2 (l1.trans l2) ⟨ds, rfl, pd⟩ ?_
    unfold Rdd
    exact ⟨p, vs, rfl, upd_same, RdL.mono l2.le _ _ rd⟩⟩
theorem e_tup {ds : List D} (h : EvLD K tl ρ ds) (hl : ds.length ≤ 100000 := by exact Nat.le_of_ble_eq_true rfl) : EvD K (tTup tl) ρ (.tup ds) := (g_tup h fun _ e => e ▸ hl).imp fun d ⟨ds, e1, e2⟩ => by rw [e1, e2]
theorem g_lst {P : List D → Prop} (h : EvL K tl ρ P) (hl : ∀ ds, P ds → ds.length ≤ 100000) : EvN K (tLst tl) ρ (fun d => ∃ ds, d = .lst ds ∧ P ds) := fun B pp F H σ ok Q q =>
  h B pp F H σ ok _ fun vs ds F1 H1 ok1 l1 pd rd => ⟨by rw [← rd.len]; exact Nat.le_trans (hl ds pd) (by decide), fun p hp => by
    obtain ⟨ok2, hB, hP, hF⟩ := ok1.fresh (o := .lst vs) hp
    exact q p _ _ F1 _ ok2 l1 ⟨ds, rfl, pd⟩ hB hP hF upd_same ⟨vs, rfl, rd⟩⟩
theorem e_lst {ds : List D} (h : EvLD K tl ρ ds) (hl : ds.length ≤ 100000 := by exact Nat.le_of_ble_eq_true rfl) : EvND K (tLst tl) ρ (.lst ds) := (g_lst h fun _ e => e ▸ hl).imp fun d ⟨ds, e1, e2⟩ => by rw [e1, e2]
theorem e_lstF {ds : List D} (h : EvLD K tl ρ ds) (hl : ds.length ≤ 100000 := by exact Nat.le_of_ble_eq_true rfl) : EvD K (tLst tl) ρ (.lst ds) := (e_lst h hl).fz
theorem e_newK : EvND K tDNewK ρ (.dik [] []) := fun B pp F H σ ok Q q p hp => by
  obtain ⟨ok2, hB, hP, hF⟩ := ok.fresh (o := .dK []) hp
  exact q p _ _ F _ ok2 (Gro.refl) rfl hB hP hF upd_same ⟨[], rfl, rfl, RdL.nil⟩
theorem e_newT : EvND K tDNewT ρ (.dit [] []) := fun B pp F H σ ok Q q p hp => by
  obtain ⟨ok2, hB, hP, hF⟩ := ok.fresh (o := .dT []) hp
  exact q p _ _ F _ ok2 (Gro.refl) rfl hB hP hF upd_same ⟨[], rfl, rfl, RdL.nil⟩
/-! ### built-in calls -/
theorem g_cb {r : List V → Hp → VK → Prop} {P : List D → Prop} (h : EvL K tl ρ P) (hr : ∀ ds, P ds → CbP K r ds R) : Ev K (tCB r tl) ρ R := fun B pp F H σ ok Q q =>
  h B pp F H σ ok _ fun vs ds F1 H1 ok1 l1 pd rd => hr ds pd B pp F1 H1 σ ρ vs ok1 rd Q fun w f F3 H3 ok3 l3 pf rf => q w f F3 H3 ok3 (l1.trans l3) pf rf
theorem e_cb {r : List V → Hp → VK → Prop} {ds : List D} (h : EvLD K tl ρ ds) (hr : CbD K r ds f) : EvD K (tCB r tl) ρ f := g_cb h (by rintro _ rfl; exact hr)
theorem g_cbN {r : List V → Hp → VK → Prop} {P : List D → Prop} (h : EvL K tl ρ P) (hr : ∀ ds, P ds → CbN K r ds R) : EvN K (tCB r tl) ρ R := fun B pp F H σ ok Q q =>
  h B pp F H σ ok _ fun vs ds F1 H1 ok1 l1 pd rd => hr ds pd B pp F1 H1 σ ρ vs ok1 rd Q fun p o d F3 H3 ok3 l3 pd a b c e m => q p o d F3 H3 ok3 (l1.trans l3) pd a b c e m
theorem e_cbN {r : List V → Hp → VK → Prop} {ds : List D} (h : EvLD K tl ρ ds) (hr : CbND K r ds f) : EvND K (tCB r tl) ρ f := g_cbN h (by rintro _ rfl; exact hr)
theorem rd1 {F : Hp} {xs : List V} (r : RdL K F [d] xs) : ∃ x, xs = [x] ∧ Rdd K F d x := by
  obtain ⟨v, r', rfl, h, t⟩ := r.inv
  rw [t.inv0]; exact ⟨v, rfl, h⟩
theorem rd2 {F : Hp} {xs : List V} (r : RdL K F [d, e] xs) : ∃ x y, xs = [x, y] ∧ Rdd K F d x ∧ Rdd K F e y := by
  obtain ⟨v, r', rfl, h, t⟩ := r.inv
  obtain ⟨y, rfl, h2⟩ := rd1 t
  exact ⟨v, y, rfl, h, h2⟩
theorem c_lenL {ds : List D} : CbD K (rLenA K) [.lst ds] (.int ds.length) := cbd_val fun F H xs ex r => by
  obtain ⟨x, rfl, r0⟩ := rd1 r
  unfold Rdd at r0; obtain ⟨a, vs, rfl, fa, ra⟩ := r0
  exact ⟨.int vs.length, fun Q q => .inl ⟨a, vs, rfl, .inl (SqL.of (ex.lst fa)), q⟩, by rw [ra.len]; exact rdi⟩
theorem c_lenT {ds : List D} : CbD K (rLenA K) [.tup ds] (.int ds.length) := cbd_val fun F H xs ex r => by
  obtain ⟨x, rfl, r0⟩ := rd1 r
  unfold Rdd at r0; obtain ⟨a, vs, rfl, fa, ra⟩ := r0
  exact ⟨.int vs.length, fun Q q => .inl ⟨a, vs, rfl, .inr (ex.sqt fa), q⟩, by rw [ra.len]; exact rdi⟩
theorem c_lenR {ns : List Int} : CbD K (rLenA K) [.scr ns] (.int ns.length) := cbd_val fun F H xs ex r => by
  obtain ⟨x, rfl, r0⟩ := rd1 r
  unfold Rdd at r0; obtain ⟨a, rfl, fa⟩ := r0
  exact ⟨.int (ns.map V.int).length, fun Q q => .inl ⟨a, _, rfl, .inl (ex.sql fa), q⟩, by rw [List.length_map]; exact rdi⟩
theorem c_lenS {z : Str} (h : z.length ≤ 100000) : CbD K (rLenA K) [.str z] (.int z.length) := cbd_val fun F H xs ex r => by
  obtain ⟨x, rfl, r0⟩ := rd1 r
  unfold Rdd at r0; subst r0
  exact ⟨_, fun Q q => .inr (.inl ⟨z, rfl, Nat.le_trans h (by decide), q⟩), rdi⟩
theorem c_lenK {ks : List Key} {ds : List D} : CbD K (rLenA K) [.dik ks ds] (.int ks.length) := cbd_val fun F H xs ex r => by
  obtain ⟨x, rfl, r0⟩ := rd1 r
  unfold Rdd at r0; obtain ⟨a, vs, rfl, fa, rfl, ra⟩ := r0
  exact ⟨.int vs.length, fun Q q => .inr (.inr ⟨a, vs, rfl, ex.rd fa, q⟩), by rw [List.length_map]; exact rdi⟩
theorem c_intI {i : Int} : CbD K rInt [.int i] (.int i) := cbd_val fun F H xs ex r => by
  obtain ⟨x, rfl, r0⟩ := rd1 r
  unfold Rdd at r0; subst r0
  exact ⟨_, fun Q q => .inl ⟨i, rfl, q⟩, rdi⟩
theorem c_intB {b : Bool} : CbD K rInt [.bl b] (.int (if b then 1 else 0)) := cbd_val fun F H xs ex r => by
  obtain ⟨x, rfl, r0⟩ := rd1 r
  unfold Rdd at r0; subst r0
  exact ⟨_, fun Q q => .inr ⟨b, rfl, q⟩, rdi⟩
theorem c_max {i j : Int} : CbD K rMx2 [.int i, .int j] (.int (if j > i then j else i)) := cbd_val fun F H xs ex r => by
  obtain ⟨x, y, rfl, r1, r2⟩ := rd2 r
  unfold Rdd at r1 r2; subst r1; subst r2
  exact ⟨_, fun Q q => ⟨i, j, rfl, q⟩, rdi⟩
theorem c_min {i j : Int} : CbD K rMn2 [.int i, .int j] (.int (if j < i then j else i)) := cbd_val fun F H xs ex r => by
  obtain ⟨x, y, rfl, r1, r2⟩ := rd2 r
  unfold Rdd at r1 r2; subst r1; subst r2
  exact ⟨_, fun Q q => ⟨i, j, rfl, q⟩, rdi⟩
theorem c_sum {ns : List Int} : CbD K (rSum K) [.lst (ns.map .int)] (.int ns.sum) := cbd_val fun F H xs ex r => by
  obtain ⟨x, rfl, r0⟩ := rd1 r
  unfold Rdd at r0; obtain ⟨a, vs, rfl, fa, ra⟩ := r0
  exact ⟨_, fun Q q => ⟨a, ns, rfl, by rw [← ra.ints_inv]; exact SqL.of (ex.lst fa), q⟩, rdi⟩
theorem c_listL {ds : List D} : CbND K (rLst K) [.lst ds] (.lst ds) := fun B pp F H σ ρ xs ok r Q q => by
  obtain ⟨x, rfl, r0⟩ := rd1 r
  unfold Rdd at r0; obtain ⟨a, vs, rfl, fa, ra⟩ := r0
  refine ⟨a, vs, rfl, .inl (SqL.of (ok.bse.ext.lst fa)), fun p hp => ?_⟩
  obtain ⟨ok2, hB, hP, hF⟩ := ok.fresh (o := .lst vs) hp
  exact q p _ _ F _ ok2 (Gro.refl) rfl hB hP hF upd_same ⟨vs, rfl, ra⟩
theorem c_listT {ds : List D} : CbND K (rLst K) [.tup ds] (.lst ds) := fun B pp F H σ ρ xs ok r Q q => by
  obtain ⟨x, rfl, r0⟩ := rd1 r
  unfold Rdd at r0; obtain ⟨a, vs, rfl, fa, ra⟩ := r0
  refine ⟨a, vs, rfl, .inr (ok.bse.ext.sqt fa), fun p hp => ?_⟩
  obtain ⟨ok2, hB, hP, hF⟩ := ok.fresh (o := .lst vs) hp
  exact q p _ _ F _ ok2 (Gro.refl) rfl hB hP hF upd_same ⟨vs, rfl, ra⟩
theorem c_tupL {ds : List D} : CbD K (rTpl K) [.lst ds] (.tup ds) := fun B pp F H σ ρ xs ok r Q q => by
  obtain ⟨x, rfl, r0⟩ := rd1 r
  unfold Rdd at r0; obtain ⟨a, vs, rfl, fa, ra⟩ := r0
  refine ⟨a, vs, rfl, .inl ⟨SqL.of (ok.bse.ext.lst fa), fun p hp => ?_⟩⟩
  obtain ⟨ok4, l4⟩ := ok.laid (o := .tup vs) hp
  exact q _ _ _ _ ok4 l4 rfl (by unfold Rdd; exact ⟨p, vs, rfl, upd_same, RdL.mono l4.le _ _ ra⟩)
theorem c_dictD {ks : List Key} {ds : List D} : CbND K (rDct K) [.dik ks ds] (.dik ks ds) := fun B pp F H σ ρ xs ok r Q q => by
  obtain ⟨x, rfl, r0⟩ := rd1 r
  unfold Rdd at r0; obtain ⟨a, vs, rfl, fa, rfl, ra⟩ := r0
  refine .inr ⟨a, vs, rfl, ok.bse.ext.rd fa, fun p hp => ?_⟩
  obtain ⟨ok2, hB, hP, hF⟩ := ok.fresh (o := .dK vs) hp
  exact q p _ _ F _ ok2 (Gro.refl) rfl hB hP hF upd_same ⟨vs, rfl, rfl, ra⟩
theorem c_srtI {ns : List Int} : CbN K (rSrt K) [.lst (ns.map .int)] (fun d => ∃ ms : List Int, d = .lst (ms.map .int) ∧ ms.Perm ns ∧ ms.Pairwise (· ≤ ·)) := fun B pp F H σ ρ xs ok r Q q => by
  obtain ⟨x, rfl, r0⟩ := rd1 r
  unfold Rdd at r0; obtain ⟨a, vs, rfl, fa, ra⟩ := r0
  refine .inl ⟨a, ns, rfl, by rw [← ra.ints_inv]; exact SqL.of (ok.bse.ext.lst fa), fun ms p h1 h2 hp => ?_⟩
  obtain ⟨ok2, hB, hP, hF⟩ := ok.fresh (o := .lst (ms.map V.int)) hp
  exact q p _ _ F _ ok2 (Gro.refl) ⟨ms, rfl, h1, h2⟩ hB hP hF upd_same ⟨_, rfl, RdL.ints ms⟩
theorem c_srtK {ns : List Int} {ds : List D} (hl : ns.length < 64) : CbN K (rSrt K) [.dik (ns.map Sum.inl) ds] (fun d => ∃ ms : List Int, d = .lst (ms.map .int) ∧ ms.Perm ns ∧ ms.Pairwise (· ≤ ·)) := fun B pp F H σ ρ xs ok r Q q => by
  obtain ⟨x, rfl, r0⟩ := rd1 r
  unfold Rdd at r0; obtain ⟨a, vs, rfl, fa, hk, ra⟩ := r0
  refine .inr (.inl ⟨a, vs, ns, rfl, ok.bse.ext.rd fa, hk, hl, fun ms p h1 h2 hp => ?_⟩)
  obtain ⟨ok2, hB, hP, hF⟩ := ok.fresh (o := .lst (ms.map V.int)) hp
  exact q p _ _ F _ ok2 (Gro.refl) ⟨ms, rfl, h1, h2⟩ hB hP hF upd_same ⟨_, rfl, RdL.ints ms⟩
theorem RdL.perm {F : Hp} {xs ys : List V} (p : ys.Perm xs) : ∀ {ds : List D}, RdL K F ds xs → ∃ es, es.Perm ds ∧ RdL K F es ys := by
  induction p with
  | nil => intro ds r; exact ⟨ds, List.Perm.refl _, r⟩
  | cons x p ih =>
    intro ds r
    cases ds with
    | nil => have := r.inv0; simp at this
    | cons d ds =>
      obtain ⟨v, r', e, h1, h2⟩ := r.inv
      cases e
      obtain ⟨es, p', r2⟩ := ih h2
      exact ⟨d :: es, p'.cons d, RdL.cons h1 r2⟩
  | swap x y l =>
    intro ds r
    cases ds with
    | nil => have := r.inv0; simp at this
    | cons d ds =>
      obtain ⟨v, r', e, h1, h2⟩ := r.inv
      cases e
      cases ds with
      | nil => have := h2.inv0; simp at this
      | cons d' ds =>
        obtain ⟨v', r', e, h1', h2'⟩ := h2.inv
        cases e
        exact ⟨d' :: d :: ds, List.Perm.swap _ _ _, RdL.cons h1' (RdL.cons h1 h2')⟩
  | trans p q ih1 ih2 =>
    intro ds r
    obtain ⟨es, p1, r1⟩ := ih2 r
    obtain ⟨fs, p2, r2⟩ := ih1 r1
    exact ⟨fs, p2.trans p1, r2⟩
theorem c_srtD {ds : List D} {n : Nat} (hn : n ≤ 8) (hf : ∀ x ∈ ds, Fl n x) (ha : PySem.W.AllAlike (ds.map toPy)) (hs : PySem.W.Sortable (ds.map toPy)) : CbN K (rSrt K) [.lst ds] (fun d => ∃ es, d = .lst es ∧ es.Perm ds) := fun B pp F H σ ρ xs ok r Q q => by
  obtain ⟨x, rfl, r0⟩ := rd1 r
  unfold Rdd at r0; obtain ⟨a, vs, rfl, fa, ra⟩ := r0
  refine .inr (.inr ⟨a, vs, ds.map toPy, rfl, SqL.of (ok.bse.ext.lst fa), dpl_of ok.bse.ext hf ra, ha, hs, fun b hb => ?_, fun ys p hy hp => ?_⟩)
  · obtain ⟨d, hd, rfl⟩ := List.mem_map.mp hb
    exact Nat.le_trans (fl_lay (hf d hd)).2 hn
  · obtain ⟨es, pe, re⟩ := ra.perm hy
    obtain ⟨ok2, hB, hP, hF⟩ := ok.fresh (o := .lst ys) hp
    exact q p _ _ F _ ok2 (Gro.refl) ⟨es, rfl, pe⟩ hB hP hF upd_same ⟨_, rfl, re⟩
theorem e_lenSet {ns : List Int} (h : EvD K ta ρ (.lst (ns.map .int))) (hl : ns.length ≤ 4000) : EvD K (tLenSet K ta) ρ (.int (dd ns).length) := fun B pp F H σ ok Q q =>
  h B pp F H σ ok _ fun v d F1 H1 ok1 l1 pd rd => by
    subst pd
    unfold Rdd at rd; obtain ⟨a, vs, rfl, fa, ra⟩ := rd
    exact ⟨a, ns, rfl, .inl (by rw [← ra.ints_inv]; exact SqL.of (ok1.bse.ext.lst fa)), hl, q _ _ F1 H1 ok1 l1 rfl rdi⟩
theorem e_lenSetT {ns : List Int} (h : EvD K ta ρ (.tup (ns.map .int))) (hl : ns.length ≤ 4000) : EvD K (tLenSet K ta) ρ (.int (dd ns).length) := fun B pp F H σ ok Q q =>
  h B pp F H σ ok _ fun v d F1 H1 ok1 l1 pd rd => by
    subst pd
    unfold Rdd at rd; obtain ⟨a, vs, rfl, fa, ra⟩ := rd
    exact ⟨a, ns, rfl, .inr (by rw [← ra.ints_inv]; exact ok1.bse.ext.sqt fa), hl, q _ _ F1 H1 ok1 l1 rfl rdi⟩
theorem e_srtSet {ns : List Int} (h : EvD K ta ρ (.lst (ns.map .int))) (hl : ns.length < 64) : EvN K (tSrtSet K ta) ρ (fun d => ∃ ms : List Int, d = .lst (ms.map .int) ∧ ms.Pairwise (· < ·) ∧ ∀ k, k ∈ ms ↔ k ∈ ns) := fun B pp F H σ ok Q q =>
  h B pp F H σ ok _ fun v d F1 H1 ok1 l1 pd rd => by
    subst pd
    unfold Rdd at rd; obtain ⟨a, vs, rfl, fa, ra⟩ := rd
    refine ⟨a, ns, rfl, .inl (by rw [← ra.ints_inv]; exact SqL.of (ok1.bse.ext.lst fa)), hl, fun ms p h1 h2 b o hb hp => ?_⟩
    obtain ⟨ok2, hB, hP, hF⟩ := (ok1.more (o := o) hb).fresh (o := .lst (ms.map V.int)) hp
    exact q p _ _ F1 _ ok2 l1 ⟨ms, rfl, h1, h2⟩ hB hP hF upd_same ⟨_, rfl, RdL.ints ms⟩
/-! ### tests -/
theorem t_test {b : Bool} (h : EvD K te ρ (.bl b)) : EvB K (tTest te) ρ b := fun B pp F H σ ok Q q => h B pp F H σ ok _ fun v d F1 H1 ok1 l1 pd rd => by
  subst pd; unfold Rdd at rd
  exact ⟨b, rd, q b F1 H1 ok1 l1 rfl⟩
theorem t_B {b : Bool} (h : EvD K te ρ (.bl b)) : EvB K (tB te) ρ b := fun B pp F H σ ok Q q => h B pp F H σ ok _ fun v d F1 H1 ok1 l1 pd rd => by
  subst pd; unfold Rdd at rd
  exact ⟨b, rd, q b F1 H1 ok1 l1 rfl⟩
theorem gt_test {P : D → Prop} {R : Bool → Prop} (h : Ev K te ρ P) (k : ∀ d, P d → ∃ b, d = .bl b ∧ R b) : EvT K (tTest te) ρ R := fun B pp F H σ ok Q q => h B pp F H σ ok _ fun v d F1 H1 ok1 l1 pd rd => by
  obtain ⟨b, rfl, hb⟩ := k d pd
  unfold Rdd at rd
  exact ⟨b, rd, q b F1 H1 ok1 l1 hb⟩
theorem gt_B {P : D → Prop} {R : Bool → Prop} (h : Ev K te ρ P) (k : ∀ d, P d → ∃ b, d = .bl b ∧ R b) : EvT K (tB te) ρ R := fun B pp F H σ ok Q q => h B pp F H σ ok _ fun v d F1 H1 ok1 l1 pd rd => by
  obtain ⟨b, rfl, hb⟩ := k d pd
  unfold Rdd at rd
  exact ⟨b, rd, q b F1 H1 ok1 l1 hb⟩
theorem t_not {b : Bool} (h : EvB K t ρ b) : EvB K (tNot t) ρ (!b) := fun B pp F H σ ok Q q => h B pp F H σ ok _ fun c F1 H1 ok1 l1 pc => by
  subst pc
  exact q _ F1 H1 ok1 l1 rfl
theorem gt_not {R : Bool → Prop} (h : EvT K t ρ R) : EvT K (tNot t) ρ (fun b => R (!b)) := fun B pp F H σ ok Q q => h B pp F H σ ok _ fun c F1 H1 ok1 l1 pc => q _ F1 H1 ok1 l1 (show R (!!c) by rw [Bool.not_not]; exact pc)
theorem gt_and {R S T : Bool → Prop} (h : EvT K t ρ R) (h2 : R true → EvT K u ρ S) (k : ∀ b, S b → T b) (k0 : R false → T false) : EvT K (tAnd t u) ρ T := fun B pp F H σ ok Q q => h B pp F H σ ok _ fun c F1 H1 ok1 l1 pc => by
  cases c with
  | true => exact h2 pc B pp F1 H1 σ ok1 _ fun e F2 H2 ok2 l2 pe => q e F2 H2 ok2 (l1.trans l2) (k e pe)
  | false => exact q false F1 H1 ok1 l1 (k0 pc)
theorem gt_or {R S T : Bool → Prop} (h : EvT K t ρ R) (h2 : R false → EvT K u ρ S) (k : ∀ b, S b → T b) (k0 : R true → T true) : EvT K (tOr t u) ρ T := fun B pp F H σ ok Q q => h B pp F H σ ok _ fun c F1 H1 ok1 l1 pc => by
  cases c with
  | false => exact h2 pc B pp F1 H1 σ ok1 _ fun e F2 H2 ok2 l2 pe => q e F2 H2 ok2 (l1.trans l2) (k e pe)
  | true => exact q true F1 H1 ok1 l1 (k0 pc)
theorem t_and {a b : Bool} (h : EvB K t ρ a) (h2 : a = true → EvB K u ρ b) : EvB K (tAnd t u) ρ (a && b) := by
  cases a with
  | true => exact gt_and h (fun _ => h2 rfl) (fun _ e => e) (fun e => by cases e)
  | false => exact gt_and (S := fun _ => False) h (fun e => by cases e) (fun _ e => e.elim) (fun _ => rfl)
theorem t_or {a b : Bool} (h : EvB K t ρ a) (h2 : a = false → EvB K u ρ b) : EvB K (tOr t u) ρ (a || b) := by
  cases a with
  | false => exact gt_or h (fun _ => h2 rfl) (fun _ e => e) (fun e => by cases e)
  | true => exact gt_or (S := fun _ => False) h (fun e => by cases e) (fun _ e => e.elim) (fun _ => rfl)
theorem e_andV {a b : Bool} (h : EvD K ta ρ (.bl a)) (h2 : a = true → EvD K tb ρ (.bl b)) : EvD K (tAndV ta tb) ρ (.bl (a && b)) := fun B pp F H σ ok Q q => h B pp F H σ ok _ fun v d F1 H1 ok1 l1 pd rd => by
  subst pd; unfold Rdd at rd
  refine ⟨a, rd, ?_⟩
  cases a with
  | true => exact h2 rfl B pp F1 H1 σ ok1 Q fun w f F2 H2 ok2 l2 pf rf => q w f F2 H2 ok2 (l1.trans l2) pf rf
  | false => exact q _ _ F1 H1 ok1 l1 rfl rdb
theorem e_orV {a b : Bool} (h : EvD K ta ρ (.bl a)) (h2 : a = false → EvD K tb ρ (.bl b)) : EvD K (tOrV ta tb) ρ (.bl (a || b)) := fun B pp F H σ ok Q q => h B pp F H σ ok _ fun v d F1 H1 ok1 l1 pd rd => by
  subst pd; unfold Rdd at rd
  refine ⟨a, rd, ?_⟩
  cases a with
  | false => exact h2 rfl B pp F1 H1 σ ok1 Q fun w f F2 H2 ok2 l2 pf rf => q w f F2 H2 ok2 (l1.trans l2) pf rf
  | true => exact q _ _ F1 H1 ok1 l1 rfl rdb
theorem e_notV {a : Bool} (h : EvD K ta ρ (.bl a)) : EvD K (tNotV ta) ρ (.bl (!a)) := fun B pp F H σ ok Q q => h B pp F H σ ok _ fun v d F1 H1 ok1 l1 pd rd => by
  subst pd; unfold Rdd at rd
  exact ⟨a, rd, q _ _ F1 H1 ok1 l1 rfl rdb⟩
/-! ### a def's own object seen as frozen: where the answer keeps nothing of it -/
def Sca : D → Prop
  | .non => True | .bl _ => True | .int _ => True | .str _ => True | .adr _ => True | .typ _ => True | _ => False
theorem sca_rd {F F' : Hp} {v : V} (h : Sca d) (r : Rdd K F d v) : Rdd K F' d v := by
  cases d <;> first | exact h.elim | (unfold Rdd at r ⊢; exact r)
theorem fz_back {B : Hp} {pp : Option Addr} {F H F1 F2 H2 : Hp} {σ : L2.St} {i : Nat} (ok : OkE K B pp F H σ ρ) (hi : ρ[i]? = some (.own d)) (l : Le F F1) (l2 : Le F1 F2) (ok2 : OkE K B pp F2 H2 σ (ρ.set i (.fro d))) : OkE K B pp F H2 σ ρ :=
  ⟨⟨ok2.bse.ext.le (l.trans l2), ok2.bse.base, fun p e => ⟨(ok.bse.pool p e).1, (ok.bse.pool p e).2.1, (ok2.bse.pool p e).2.2⟩⟩, ok.cell, ok.sep⟩
theorem e_sca {i : Nat} (hi : ρ[i]? = some (.own d)) (h : Ev K te (ρ.set i (.fro d)) P) (hs : ∀ e, P e → Sca e) : Ev K te ρ P := fun B pp F H σ ok Q q => by
  obtain ⟨F1, l, ok1⟩ := ok.freeze hi
  exact h B pp F1 H σ ok1 Q fun v e F2 H2 ok2 l2 pe re => q v e F H2 (fz_back ok hi l l2.le ok2) (Gro.refl) pe (sca_rd (hs e pe) re)
theorem t_sca {i : Nat} {R : Bool → Prop} (hi : ρ[i]? = some (.own d)) (h : EvT K t (ρ.set i (.fro d)) R) : EvT K t ρ R := fun B pp F H σ ok Q q => by
  obtain ⟨F1, l, ok1⟩ := ok.freeze hi
  exact h B pp F1 H σ ok1 Q fun b F2 H2 ok2 l2 pe => q b F H2 (fz_back ok hi l l2.le ok2) (Gro.refl) pe
/-- an item of its own list, its own dict -/
theorem e_ownL {i : Nat} {xs : List D} {j : Int} (hi : ρ[i]? = some (.own (.lst xs))) (hb : EvD K tb ρ (.int j)) (ha : atI xs j = some f) : EvD K (tOp (rIxA K) (tVar i) tb) ρ f := fun B pp F H σ ok Q q => by
  obtain ⟨x, e, p, o, rfl, hF, hB, vs, rfl, rv⟩ := ok.cell i _ hi
  refine ⟨.ref p, e, hb B pp F H σ ok _ fun v d F1 H1 ok1 l1 pd rd => ?_⟩
  subst pd; unfold Rdd at rd; subst rd
  obtain ⟨v, ev, re⟩ := atI_map rv ha
  exact .inl ⟨p, vs, j, v, rfl, rfl, SqL.of (ok1.bse.base _ _ hB), ev, q v f F1 H1 ok1 l1 rfl (Rdd.mono l1.le _ _ re)⟩
theorem e_ownK {i : Nat} {ks : List Key} {ds : List D} {k : Key} (hi : ρ[i]? = some (.own (.dik ks ds))) (hb : EvD K tb ρ e) (hk : keyD e = some k) (ha : getD ks ds k = some f) : EvD K (tOp (rIxA K) (tVar i) tb) ρ f := fun B pp F H σ ok Q q => by
  obtain ⟨x, e1, p, o, rfl, hF, hB, kvs, rfl, rfl, rv⟩ := ok.cell i _ hi
  refine ⟨.ref p, e1, hb B pp F H σ ok _ fun v d F1 H1 ok1 l1 pd rd => ?_⟩
  subst pd
  have g := rd_get rv k
  rw [ha] at g
  obtain ⟨v, ev, re⟩ := g
  exact .inr (.inr (.inr ⟨p, v, rfl, .inl ⟨kvs, k, .inl (ok1.bse.base _ _ hB), key_kV hk rd, ev.symm⟩, q v f F1 H1 ok1 l1 rfl (Rdd.mono l1.le _ _ re)⟩))
end
end Bs
namespace Bs
open PySem L2
/-! ### forgotten slots -/
theorem wipe_get : ∀ (vs : List Nat) (σ : L2.St) (i : Nat), (wipe σ vs)[i]? = if i ∈ vs then σ[i]?.map (fun _ => none) else σ[i]?
  | [], σ, i => by unfold wipe; simp
  | v :: vs, σ, i => by
    unfold wipe
    have ih := wipe_get vs σ i
    by_cases h : v = i
    · subst h
      rw [if_pos List.mem_cons_self]
      by_cases hl : v < (wipe σ vs).length
      · rw [List.getElem?_set_self hl]
        rw [wipe_length] at hl
        rw [List.getElem?_eq_getElem hl]; rfl
      · rw [List.getElem?_eq_none (by rw [List.length_set]; omega)]
        rw [wipe_length] at hl
        rw [List.getElem?_eq_none (by omega)]; rfl
    · rw [List.getElem?_set_ne h, ih]
      have : (i ∈ v :: vs) ↔ i ∈ vs := by rw [List.mem_cons]; exact ⟨fun z => z.resolve_left fun e => h e.symm, .inr⟩
      by_cases hi : i ∈ vs
      · rw [if_pos hi, if_pos (this.mpr hi)]
      · rw [if_neg hi, if_neg (fun z => hi (this.mp z))]
theorem wipe_set {vs : List Nat} {σ : L2.St} {j : Nat} {x : Option V} (h : j ∈ vs) : wipe (σ.set j x) vs = wipe σ vs := by
  refine List.ext_getElem? fun i => ?_
  rw [wipe_get, wipe_get]
  by_cases e : j = i
  · subst e
    rw [if_pos h, if_pos h]
    by_cases hl : j < σ.length
    · rw [List.getElem?_set_self hl, List.getElem?_eq_getElem hl]; rfl
    · rw [List.getElem?_eq_none (by rw [List.length_set]; omega), List.getElem?_eq_none (by omega)]
  · rw [List.getElem?_set_ne e]
theorem wipe_wipe {vs : List Nat} {σ : L2.St} : wipe (wipe σ vs) vs = wipe σ vs := by
  refine List.ext_getElem? fun i => ?_
  rw [wipe_get, wipe_get]
  by_cases e : i ∈ vs
  · rw [if_pos e, if_pos e]; cases σ[i]? <;> rfl
  · rw [if_neg e, if_neg e]
def wipeC (ρ : List Cell) : List Nat → List Cell
  | [] => ρ
  | v :: vs => (wipeC ρ vs).set v .any
section
variable {K : PySem.W.Frag} {B : Hp} {pp : Option Addr} {F F' H H' : Hp} {σ : L2.St} {ρ ρ' : List Cell} {p : Addr} {o : HO} {d : D} {g : TG}
theorem OkE.wipe (ok : OkE K B pp F H σ ρ) : ∀ vs, OkE K B pp F H (wipe σ vs) (wipeC ρ vs)
  | [] => ok
  | v :: vs => (OkE.wipe ok vs).setA v none
/-! ### targets -/
/-- an item is stored: the slots vs alone change -/
structure TgE (K : PySem.W.Frag) (g : TG) (vs : List Nat) (ρ : List Cell) (d : D) (ρ' : List Cell) : Prop where
  own : ∀ (j : Nat) (c : D), ρ'[j]? = some (.own c) → j ∉ vs ∧ ρ[j]? = some (.own c)
  run : ∀ B pp F H σ v, OkE K B pp F H σ ρ → Rdd K F d v → ∀ Q : L2.St → Hp → Prop,
    (∀ σ', OkE K B pp F H σ' ρ' → (∀ ws : List Nat, (∀ j ∈ vs, j ∈ ws) → wipe σ' ws = wipe σ ws) → (∀ i : Nat, i ∉ vs → σ'[i]? = σ[i]?) → Q σ' H) → g v σ H Q
structure TgsE (K : PySem.W.Frag) (g : TGs) (vs : List Nat) (ρ : List Cell) (ds : List D) (ρ' : List Cell) : Prop where
  own : ∀ (j : Nat) (c : D), ρ'[j]? = some (.own c) → j ∉ vs ∧ ρ[j]? = some (.own c)
  run : ∀ B pp F H σ us, OkE K B pp F H σ ρ → RdL K F ds us → ∀ Q : L2.St → Hp → Prop,
    (∀ σ', OkE K B pp F H σ' ρ' → (∀ ws : List Nat, (∀ j ∈ vs, j ∈ ws) → wipe σ' ws = wipe σ ws) → (∀ i : Nat, i ∉ vs → σ'[i]? = σ[i]?) → Q σ' H) → g us σ H Q
theorem own_setF {i j : Nat} {c : D} (h : (ρ.set i (.fro d))[j]? = some (.own c)) : j ∉ [i] ∧ ρ[j]? = some (.own c) := by
  by_cases z : i = j
  · subst z
    have hi : i < ρ.length := by
      have := (List.getElem?_eq_some_iff.mp h).1
      simpa using this
    rw [List.getElem?_set_self hi] at h
    cases h
  · rw [List.getElem?_set_ne z] at h
    exact ⟨by simpa using fun e => z e.symm, h⟩
theorem g_name {i : Nat} : TgE K (gName i) [i] ρ d (ρ.set i (.fro d)) := ⟨fun j c h => own_setF h, fun B pp F H σ v ok r Q q =>
  q _ (ok.setF i r) (fun ws h => wipe_set (h i List.mem_cons_self)) fun j hj => List.getElem?_set_ne (by rintro rfl; exact hj List.mem_cons_self)⟩
theorem gs_nil : TgsE K gNil [] ρ [] ρ := ⟨fun j c h => ⟨by simp, h⟩, fun B pp F H σ us ok r Q q => by
  rw [r.inv0]
  exact ⟨rfl, q σ ok (fun _ _ => rfl) fun _ _ => rfl⟩⟩
theorem gs_cons {t : TG} {u : TGs} {vs ws : List Nat} {ds : List D} {ρ'' : List Cell} (h : TgE K t vs ρ d ρ') (k : TgsE K u ws ρ' ds ρ'') : TgsE K (gCons t u) (vs ++ ws) ρ (d :: ds) ρ'' := ⟨fun j c e => by
  obtain ⟨z1, z2⟩ := k.own j c e; obtain ⟨z3, z4⟩ := h.own j c z2
  exact ⟨fun z => (List.mem_append.mp z).elim z3 z1, z4⟩, fun B pp F H σ us ok r Q q => by
  obtain ⟨v, us, rfl, r1, r2⟩ := r.inv
  refine ⟨v, us, rfl, h.run B pp F H σ v ok r1 _ fun σ' ok' hw hs => k.run B pp F H σ' us ok' r2 Q fun σ'' ok'' hw' hs' => q σ'' ok'' (fun xs hx => ?_) fun i hi => ?_⟩
  · rw [hw' xs fun j hj => hx j (List.mem_append.mpr (.inr hj)), hw xs fun j hj => hx j (List.mem_append.mpr (.inl hj))]
  · rw [hs' i fun z => hi (List.mem_append.mpr (.inr z)), hs i fun z => hi (List.mem_append.mpr (.inl z))]⟩
theorem g_tupT {n : Nat} {t : TGs} {vs : List Nat} {ds : List D} (h : TgsE K t vs ρ ds ρ') (hn : ds.length = n) : TgE K (gTup K n t) vs ρ (.tup ds) ρ' := ⟨h.own, fun B pp F H σ v ok r Q q => by
  unfold Rdd at r
  obtain ⟨a, us, rfl, fa, ra⟩ := r
  exact ⟨a, us, rfl, ok.bse.ext.sqt fa, by rw [← ra.len, hn], h.run B pp F H σ us ok ra Q q⟩⟩

/-! ### what is walked -/
/-- the turns give the data ds -/
def Yld (K : PySem.W.Frag) (J : It) (ds : List D) (F B0 : Hp) : Prop := ∀ B pp F' H σ ρ, Le B0 B → Le F F' → OkE K B pp F' H σ ρ → ∀ i : Nat,
  (i < ds.length → J.go i H ∧ ∀ x H', J.yld i H x H' → ∃ F'' d, Gro B F' F'' ∧ OkE K B pp F'' H' σ ρ ∧ ds[i]? = some d ∧ Rdd K F'' d x) ∧ (ds.length ≤ i → J.stop i H)
def ItE (K : PySem.W.Frag) (B0 : Hp) (σ : L2.St) (wi : TI) (ρ : List Cell) (P : List D → Prop) : Prop := ∀ B pp F H, Le B0 B → OkE K B pp F H σ ρ → ∀ R : It → Hp → Prop,
  (∀ J ds F' H', OkE K B pp F' H' σ ρ → Gro B F F' → P ds → Yld K J ds F' B0 → R J H') → wi σ H R
abbrev ItD (K : PySem.W.Frag) (wi : TI) (ρ : List Cell) (ds : List D) : Prop := ∀ B0 σ, ItE K B0 σ wi ρ (fun x => x = ds)
theorem RdL.at {ds : List D} {vs : List V} (r : RdL K F ds vs) {i : Nat} (h : i < ds.length) : ∃ d v, ds[i]? = some d ∧ vs[i]? = some v ∧ Rdd K F d v := by
  obtain ⟨v, e, r⟩ := r.get (List.getElem?_eq_getElem h)
  exact ⟨_, v, List.getElem?_eq_getElem h, e, r⟩
theorem y_list {B0 : Hp} {a : Addr} {ds : List D} {vs : List V} (fa : F a = some (.lst vs)) (rv : RdL K F ds vs) : Yld K (Itl K a) ds F B0 := fun B pp F' H σ ρ _ l ok i => by
  have fa' := l a _ fa
  have ha : SqL K H a vs := SqL.of (ok.bse.ext.lst fa')
  refine ⟨fun hi => ?_, fun hi => ⟨vs, ha, by rw [← rv.len]; exact hi⟩⟩
  obtain ⟨d, v, e1, e2, r⟩ := rv.at hi
  refine ⟨⟨vs, v, ha, e2⟩, fun x H' hy => ?_⟩
  obtain ⟨rfl, hx⟩ := hy
  have := hx vs ha
  rw [e2] at this
  cases this
  exact ⟨F', d, Gro.refl, ok, e1, Rdd.mono l _ _ r⟩
theorem i_list {B0 : Hp} {te : TE} {P : D → Prop} {R : List D → Prop} (h : Ev K te ρ P) (k : ∀ d, P d → ∃ ds, d = .lst ds ∧ R ds) : ItE K B0 σ (iList K te) ρ R := fun B pp F H _ ok Rr q =>
  h B pp F H σ ok _ fun v d F1 H1 ok1 l1 pd rd => by
    obtain ⟨ds, rfl, hR⟩ := k d pd
    unfold Rdd at rd
    obtain ⟨a, vs, rfl, fa, rv⟩ := rd
    exact ⟨a, rfl, ⟨vs, SqL.of (ok1.bse.ext.lst fa)⟩, q _ ds F1 H1 ok1 l1 hR (y_list fa rv)⟩
theorem i_listD {te : TE} {ds : List D} (h : EvD K te ρ (.lst ds)) : ItD K (iList K te) ρ ds := fun B0 σ => i_list h fun d e => ⟨ds, e, rfl⟩
theorem y_range {B0 : Hp} {lo : Int} {n : Nat} : Yld K (Itr lo n) ((List.range n).map fun i => D.int (lo + (i : Nat))) F B0 := fun B pp F' H σ ρ _ l ok i => by
  rw [List.length_map, List.length_range]
  refine ⟨fun hi => ⟨hi, fun x H' hy => ?_⟩, fun hi => hi⟩
  obtain ⟨rfl, rfl⟩ := hy
  exact ⟨F', .int (lo + (i : Nat)), Gro.refl, ok, by rw [List.getElem?_map, List.getElem?_range hi]; rfl, rdi⟩
theorem y_rangeC {B0 : Hp} {lo c : Int} {n : Nat} : Yld K (Itc lo c n) ((List.range n).map fun i => D.int (lo + (i : Nat) * c)) F B0 := fun B pp F' H σ ρ _ l ok i => by
  rw [List.length_map, List.length_range]
  refine ⟨fun hi => ⟨hi, fun x H' hy => ?_⟩, fun hi => hi⟩
  obtain ⟨rfl, rfl⟩ := hy
  exact ⟨F', .int (lo + (i : Nat) * c), Gro.refl, ok, by rw [List.getElem?_map, List.getElem?_range hi]; rfl, rdi⟩
theorem gi_rng1 {B0 : Hp} {ta : TA} {P : List D → Prop} {R : List D → Prop} (h : EvL K ta ρ P) (k : ∀ ds, P ds → ∃ n : Nat, ds = [.int n] ∧ n ≤ 100000 ∧ R ((List.range n).map fun i => D.int (0 + (i : Nat)))) : ItE K B0 σ (iRng1 ta) ρ R := fun B pp F H _ ok Rr q =>
  h B pp F H σ ok _ fun vs ds F1 H1 ok1 l1 pd rd => by
    obtain ⟨n, rfl, hn, hR⟩ := k ds pd
    obtain ⟨x, rfl, r0⟩ := rd1 rd
    unfold Rdd at r0; subst r0
    exact ⟨n, rfl, by omega, by omega, q _ _ F1 H1 ok1 l1 hR y_range⟩
theorem i_rng1 {ta : TA} {n : Nat} (h : EvLD K ta ρ [.int n]) (hn : n ≤ 100000) : ItD K (iRng1 ta) ρ ((List.range n).map fun i => D.int (0 + (i : Nat))) := fun B0 σ => gi_rng1 h fun ds e => ⟨n, e, hn, rfl⟩
theorem i_rng2 {ta : TA} {i j : Int} (h : EvLD K ta ρ [.int i, .int j]) (hi : -100000 ≤ i ∧ i ≤ 100000) (hj : -100000 ≤ j ∧ j ≤ 100000) : ItD K (iRng2 ta) ρ ((List.range (j - i).toNat).map fun k => D.int (i + (k : Nat))) := fun B0 σ B pp F H _ ok Rr q =>
  h B pp F H σ ok _ fun vs ds F1 H1 ok1 l1 pd rd => by
    subst pd
    obtain ⟨x, y, rfl, r1, r2⟩ := rd2 rd
    unfold Rdd at r1 r2; subst r1; subst r2
    exact ⟨i, j, rfl, ⟨by omega, by omega, by omega, by omega⟩, q _ _ F1 H1 ok1 l1 rfl y_range⟩
theorem i_rng3 {ta : TA} {i j c : Int} {n : Nat} (h : EvLD K ta ρ [.int i, .int j, .int c]) (hr : RgC i j c n) : ItD K (iRng3 ta) ρ ((List.range n).map fun k => D.int (i + (k : Nat) * c)) := fun B0 σ B pp F H _ ok Rr q =>
  h B pp F H σ ok _ fun vs ds F1 H1 ok1 l1 pd rd => by
    subst pd
    obtain ⟨x, vs, rfl, r1, r2⟩ := rd.inv
    obtain ⟨y, z, rfl, r3, r4⟩ := rd2 r2
    unfold Rdd at r1 r3 r4; subst r1; subst r3; subst r4
    exact ⟨i, j, c, n, rfl, hr, q _ _ F1 H1 ok1 l1 rfl y_rangeC⟩
theorem y_str {B0 : Hp} {x : Str} : Yld K (Its x) (x.cps.toList.map fun c => D.str ⟨#[c]⟩) F B0 := fun B pp F' H σ ρ _ l ok i => by
  rw [List.length_map, Array.length_toList]
  refine ⟨fun hi => ⟨hi, fun v H' hy => ?_⟩, fun hi => hi⟩
  obtain ⟨rfl, c, hc, rfl⟩ := hy
  exact ⟨F', .str ⟨#[c]⟩, Gro.refl, ok, by rw [List.getElem?_map, Array.getElem?_toList, hc]; rfl, rds⟩
theorem i_str {te : TE} {x : Str} (h : EvD K te ρ (.str x)) : ItD K (iStr te) ρ (x.cps.toList.map fun c => D.str ⟨#[c]⟩) := fun B0 σ B pp F H _ ok Rr q =>
  h B pp F H σ ok _ fun v d F1 H1 ok1 l1 pd rd => by
    subst pd
    unfold Rdd at rd
    exact ⟨x, rd, q _ _ F1 H1 ok1 l1 rfl y_str⟩
def enumD (ds : List D) : List D := ds.mapIdx fun i d => .tup [.int (i : Nat), d]
theorem y_enum {B0 : Hp} {a : Addr} {ds : List D} {vs : List V} (fa : F a = some (.lst vs)) (rv : RdL K F ds vs) : Yld K (Ite K a) (enumD ds) F B0 := fun B pp F' H σ ρ _ l ok i => by
  have fa' := l a _ fa
  have ha : SqL K H a vs := SqL.of (ok.bse.ext.lst fa')
  unfold enumD
  rw [List.length_mapIdx]
  refine ⟨fun hi => ?_, fun hi => ⟨vs, ha, by rw [← rv.len]; exact hi⟩⟩
  obtain ⟨d, v, e1, e2, r⟩ := rv.at hi
  refine ⟨⟨vs, v, ha, e2⟩, fun x H' hy => ?_⟩
  obtain ⟨T, y, rfl, hT, rfl, hx⟩ := hy
  have := hx vs ha
  rw [e2] at this
  cases this
  obtain ⟨ok2, l2⟩ := ok.laid (o := .tup [.int (i : Nat), v]) hT
  refine ⟨_, .tup [.int (i : Nat), d], l2, ok2, by rw [List.getElem?_mapIdx, e1]; rfl, ?_⟩
  unfold Rdd
  exact ⟨T, _, rfl, upd_same, RdL.cons rdi (RdL.cons (Rdd.mono (l.trans l2.le) _ _ r) RdL.nil)⟩
theorem i_enum {ta : TA} {ds : List D} (h : EvLD K ta ρ [.lst ds]) : ItD K (iEnum K ta) ρ (enumD ds) := fun B0 σ B pp F H _ ok Rr q =>
  h B pp F H σ ok _ fun vs es F1 H1 ok1 l1 pd rd => by
    subst pd
    obtain ⟨x, rfl, r0⟩ := rd1 rd
    unfold Rdd at r0
    obtain ⟨a, vs, rfl, fa, rv⟩ := r0
    exact ⟨a, vs, rfl, SqL.of (ok1.bse.ext.lst fa), q _ _ F1 H1 ok1 l1 rfl (y_enum fa rv)⟩
/-- what a dict's keys are -/
def kD : Key → D | .inl i => .int i | .inr s => .str s
theorem kD_rd {F : Hp} (k : Key) : Rdd K F (kD k) (kV k) := by cases k <;> (unfold kD kV Rdd; rfl)
theorem y_keys {B0 : Hp} {a : Addr} {od : Obj} {kvs : List (Key × V)} (hB : B0 a = some (.frz od (.dK kvs))) : Yld K (Itk a od kvs) (kvs.map fun p => kD p.1) F B0 := fun B pp F' H σ ρ lb l ok i => by
  have hH := ok.bse.base _ _ (lb _ _ hB)
  rw [List.length_map]
  refine ⟨fun hi => ⟨⟨hH, hi⟩, fun x H' hy => ?_⟩, fun hi => ⟨hH, hi⟩⟩
  obtain ⟨rfl, k, v, e, rfl⟩ := hy
  exact ⟨F', kD k, Gro.refl, ok, by rw [List.getElem?_map, e]; rfl, kD_rd k⟩
end
end Bs
namespace Bs
open PySem L2
section
variable {K : PySem.W.Frag} {B B' : Hp} {pp : Option Addr} {F F' H H' : Hp} {σ : L2.St} {ρ ρ' : List Cell} {p : Addr} {o : HO} {d : D} {g : TG}
/-- the frame behind a step that knew nothing of it -/
theorem OkE.back (ok : OkE K B pp F H σ ρ) (b : Bse B pp F' H') (l : Gro B F F') : OkE K B pp F' H' σ ρ :=
  ⟨b, fun i c hc => by
    obtain ⟨x, e, q⟩ := ok.cell i c hc
    exact ⟨x, e, q.mono l.le l.nf⟩, ok.sep⟩
/-- what stands already comes under the base -/
theorem OkE.addB (ok : OkE K B pp F H σ ρ) (hB : B p = none) (hP : pp ≠ some p) (hH : H p = some o) : OkE K (upd B p o) pp F H σ ρ := by
  refine ⟨⟨ok.bse.ext, fun a u e => ?_, fun q e => ?_⟩, fun i c hc => ?_, ok.sep⟩
  · by_cases z : a = p
    · subst z; rw [upd_same] at e; cases e; exact hH
    · rw [upd_ne z] at e; exact ok.bse.base _ _ e
  · obtain ⟨h1, h2⟩ := ok.bse.pool q e
    have n : q ≠ p := by rintro rfl; exact hP e
    exact ⟨by rw [upd_ne n]; exact h1, h2⟩
  · obtain ⟨x, e, q⟩ := ok.cell i c hc
    refine ⟨x, e, ?_⟩
    cases c with
    | any => trivial
    | fro d => exact q
    | own d =>
      obtain ⟨r, ob, e1, f, b, m⟩ := q
      have n : r ≠ p := ne_of_none b hB
      exact ⟨r, ob, e1, f, by rw [upd_ne n]; exact b, m⟩
    | pool => exact q
/-! ### comprehensions -/
def EvNB (K : PySem.W.Frag) (B0 : Hp) (σ : L2.St) (te : TE) (ρ : List Cell) (P : D → Prop) : Prop := ∀ B pp F H, Le B0 B → OkE K B pp F H σ ρ → ∀ Q : VK,
  (∀ p o d F' H', OkE K B pp F' H' σ ρ → Gro B F F' → P d → B p = none → pp ≠ some p → F' p = none → H' p = some o → ObjM K F' o d → Q (.ref p) H') → te σ H Q
theorem EvNB.all {te : TE} {P : D → Prop} (h : ∀ B0 σ, EvNB K B0 σ te ρ P) : EvN K te ρ P := fun B pp F H σ ok Q q => h B σ B pp F H (Le.refl B) ok Q q
theorem c_lcB {B0 : Hp} {wi : TI} {tt : TT} {te : TE} {vs : List Nat} {ds : List D} (hi : ItE K B0 σ wi ρ (fun x => x = ds)) (hn : ds.length ≤ 100000) (Iv : Nat → List D → Prop) (h0 : Iv 0 [])
    (hs : ∀ (i : Nat) (d : D) (rs : List D), ds[i]? = some d → Iv i rs → ∃ ρ', TgE K g vs (wipeC ρ vs) d ρ' ∧ EvT K tt ρ' (fun b => if b = true then Ev K te ρ' (fun e => Iv (i + 1) (rs ++ [e])) else Iv (i + 1) rs)) :
    EvNB K B0 σ (tLc wi g tt te vs) ρ (fun r => ∃ rs, r = .lst rs ∧ Iv ds.length rs) := fun B pp F H lb ok Q q =>
  hi B pp F H lb ok _ fun J ds' F1 H1 ok1 l1 e y D hD => by
    subst e
    obtain ⟨ok2, hB, hP, hF⟩ := ok1.fresh (o := .lst []) hD
    refine ⟨fun i m H => m = ds'.length - i ∧ i ≤ ds'.length ∧ ∃ acc rs F', OkE K B pp F' H σ ρ ∧ Gro B F1 F' ∧ H D = some (.lst acc) ∧ F' D = none ∧ RdL K F' rs acc ∧ Iv i rs ∧ acc.length ≤ i,
      ⟨ds'.length, rfl, Nat.zero_le _, [], [], F1, ok2, Gro.refl, upd_same, hF, RdL.nil, h0, Nat.zero_le _⟩, ?_⟩
    rintro i m H2 ⟨rfl, hle, acc, rs, F2, ok3, l3, hD2, hF2, rv, iv, hl⟩
    have ok4 := ok3.addB hB hP hD2
    have hlb : Le B0 (upd B D (.lst acc)) := lb.trans (Le.new hB)
    by_cases hlt : i < ds'.length
    · obtain ⟨hgo, hy⟩ := (y _ pp F2 H2 σ ρ hlb l3.le ok4 i).1 hlt
      refine .inr ⟨hgo, fun H' => ∃ acc rs F', OkE K B pp F' H' σ ρ ∧ Gro B F1 F' ∧ H' D = some (.lst acc) ∧ F' D = none ∧ RdL K F' rs acc ∧ Iv (i + 1) rs ∧ acc.length ≤ i + 1, fun H' z => ⟨ds'.length - (i + 1), by omega, rfl, hlt, z⟩, fun x H' hx => ?_⟩
      obtain ⟨F3, d, l4, ok5, ed, rd⟩ := hy x H' hx
      obtain ⟨ρ', htg, htt⟩ := hs i d rs ed iv
      have hBD : (upd B D (.lst acc)) D ≠ none := by rw [upd_same]; exact Option.some_ne_none _
      refine htg.run _ pp F3 H' (wipe σ vs) x (ok5.wipe vs) rd _ fun σ2 ok6 hw hs2 => ⟨by rw [hw vs fun _ h => h, wipe_wipe], ?_⟩
      refine htt _ pp F3 H' σ2 ok6 _ fun b F4 H4 ok7 l7 hb => ?_
      cases b with
      | true =>
        show te σ2 H4 _
        refine hb _ pp F4 H4 σ2 ok7 _ fun v e F5 H5 ok8 l8 he re => ?_
        have hD5 : H5 D = some (.lst acc) := ok8.bse.base _ _ upd_same
        have hF5 : F5 D = none := l8.nf D hBD (l7.nf D hBD (l4.nf D hBD hF2))
        have lg : Gro B F2 F5 := Gro.base (Le.new hB) ((l4.trans l7).trans l8)
        have bs : Bse B pp F5 (upd H5 D (.lst (acc ++ [v]))) := by
          refine ⟨ok8.bse.ext.put hF5, fun a u e => ?_, fun r e => ?_⟩
          · rw [upd_ne (ne_of_none e hB)]
            exact ok8.bse.base _ _ (Le.new hB _ _ e)
          · obtain ⟨z1, z2, z3⟩ := ok8.bse.pool r e
            have n : r ≠ D := by rintro rfl; exact hP e
            rw [upd_ne n] at z1
            exact ⟨z1, z2, by rw [upd_ne n]; exact z3⟩
        refine ⟨acc, hD5, Nat.lt_of_le_of_lt (Nat.le_trans hl (by omega)) (by decide : 100000 < sizeLine), acc ++ [v], rs ++ [e], F5, ok3.back bs lg, l3.trans lg, upd_same, hF5, (RdL.mono lg.le _ _ rv).snoc re, he, ?_⟩
        rw [List.length_append, List.length_singleton]; omega
      | false =>
        have hD4 : H4 D = some (.lst acc) := ok7.bse.base _ _ upd_same
        have hF4 : F4 D = none := l7.nf D hBD (l4.nf D hBD hF2)
        have lg : Gro B F2 F4 := Gro.base (Le.new hB) (l4.trans l7)
        have bs : Bse B pp F4 H4 := ⟨ok7.bse.ext, (Le.new hB).trans ok7.bse.base, fun r e => by
          obtain ⟨z1, z2⟩ := ok7.bse.pool r e
          exact ⟨(Le.new hB).none z1, z2⟩⟩
        exact ⟨acc, rs, F4, ok3.back bs lg, l3.trans lg, hD4, hF4, RdL.mono lg.le _ _ rv, hb, by omega⟩
    · have e : i = ds'.length := by omega
      subst e
      exact .inl ⟨(y _ pp F2 H2 σ ρ hlb l3.le ok4 _).2 (Nat.le_refl _), q D _ (.lst rs) F2 H2 ok3 (l1.trans l3) ⟨rs, rfl, iv⟩ hB hP hF2 hD2 ⟨acc, rfl, rv⟩⟩
theorem t_yes : EvB K tYes ρ true := fun B pp F H σ ok Q q => q true F H ok Gro.refl rfl
/-- by a test and a value for each item -/
theorem c_lcD {B0 : Hp} {wi : TI} {tt : TT} {te : TE} {vs : List Nat} {α : Type} {xs : List α} {en : α → D} (hi : ItE K B0 σ wi ρ (fun x => x = xs.map en)) (hn : xs.length ≤ 100000) (t : α → Bool) (f : α → D) (ρ' : α → List Cell)
    (hg : ∀ x ∈ xs, TgE K g vs (wipeC ρ vs) (en x) (ρ' x)) (ht : ∀ x ∈ xs, EvB K tt (ρ' x) (t x)) (he : ∀ x ∈ xs, t x = true → EvD K te (ρ' x) (f x)) :
    EvNB K B0 σ (tLc wi g tt te vs) ρ (fun r => r = .lst ((xs.filter t).map f)) := by
  have h := c_lcB (g := g) (tt := tt) (te := te) (vs := vs) hi (by rw [List.length_map]; exact hn) (fun i rs => rs = ((xs.take i).filter t).map f) rfl fun i d rs ed iv => by
    rw [List.getElem?_map] at ed
    obtain ⟨x, ex, rfl⟩ := Option.map_eq_some_iff.mp ed
    have hx : x ∈ xs := List.mem_of_getElem? ex
    refine ⟨ρ' x, hg x hx, (ht x hx).imp fun b hb => ?_⟩
    subst hb
    have e1 : xs.take (i + 1) = xs.take i ++ [x] := by rw [List.take_add_one, ex]; rfl
    cases htx : t x with
    | true =>
      rw [if_pos rfl]
      refine (he x hx htx).imp fun e he => ?_
      rw [iv, he, e1, List.filter_append, List.map_append, List.filter_cons, if_pos htx]
      rfl
    | false =>
      rw [if_neg Bool.false_ne_true, iv, e1, List.filter_append, List.map_append, List.filter_cons, if_neg (by rw [htx]; exact Bool.false_ne_true)]
      simp
  refine fun B pp F H lb ok Q q => h B pp F H lb ok Q fun p o d F' H' a b c => q p o d F' H' a b ?_
  obtain ⟨rs, rfl, hr⟩ := c
  rw [hr, List.length_map, List.take_length]
theorem EvN.to {te : TE} {P : D → Prop} {e : D} (h : EvN K te ρ P) (k : ∀ d, P d → d = e) : EvD K te ρ e := (h.imp k).fz
theorem filter_all {α : Type} (xs : List α) : xs.filter (fun _ => true) = xs := by induction xs <;> simp_all
/-- without a test -/
theorem c_lcM {B0 : Hp} {wi : TI} {te : TE} {vs : List Nat} {α : Type} {xs : List α} {en : α → D} (hi : ItE K B0 σ wi ρ (fun x => x = xs.map en)) (hn : xs.length ≤ 100000) (f : α → D) (ρ' : α → List Cell)
    (hg : ∀ x ∈ xs, TgE K g vs (wipeC ρ vs) (en x) (ρ' x)) (he : ∀ x ∈ xs, EvD K te (ρ' x) (f x)) : EvNB K B0 σ (tLc wi g tYes te vs) ρ (fun r => r = .lst (xs.map f)) := by
  have h := c_lcD (g := g) (tt := tYes) (te := te) (vs := vs) hi hn (fun _ => true) f ρ' hg (fun _ _ => t_yes) fun x hx _ => he x hx
  rw [filter_all] at h
  exact h
/-! over a dict's keys: under a lock, or locked already -/
def tLockOrE (t : TE) : TE := fun σ H Q => t σ H Q ∨ tLockE t σ H Q
theorem pe_lockOr {X : Cx} {e : Expr} {t : TE} (h : PE X e t) : PE X e (tLockOrE t) := ⟨fun pins s σ H Q I q => q.elim (h.run pins s σ H Q I) ((pe_lock h).run pins s σ H Q I)⟩
theorem i_keys {i : Nat} {a : Addr} {od : Obj} {kvs : List (Key × V)} {B0 : Hp} (hs : σ[i]? = some (some (.ref a))) (hB : B0 a = some (.frz od (.dK kvs))) : ItE K B0 σ (iKeys (tVar i)) ρ (fun x => x = kvs.map fun p => kD p.1) := fun B pp F H lb ok R q =>
  ⟨.ref a, hs, a, od, rfl, .inl ⟨kvs, ok.bse.base _ _ (lb _ _ hB), q _ _ F H ok Gro.refl rfl (y_keys hB)⟩⟩
/-- a locked dict under the base -/
theorem OkE.lock {a : Addr} {od : Obj} {u : HO} (ok : OkE K B pp F H σ ρ) (fa : F a = some u) (hu : IsDct u) : OkE K (upd B a (.frz od u)) pp F (upd H a (.frz od u)) σ ρ := by
  refine ⟨⟨fun b v e => ?_, ok.bse.base.upd2, fun q e => ?_⟩, fun i c hc => ?_, ok.sep⟩
  · by_cases z : b = a
    · subst z; rw [fa] at e; cases e; exact .inr ⟨⟨od, upd_same⟩, hu⟩
    · rw [upd_ne z]; exact ok.bse.ext b v e
  · obtain ⟨h1, h2, h3⟩ := ok.bse.pool q e
    have n : q ≠ a := by rintro rfl; rw [h2] at fa; cases fa
    exact ⟨by rw [upd_ne n]; exact h1, h2, by rw [upd_ne n]; exact h3⟩
  · obtain ⟨x, e, q⟩ := ok.cell i c hc
    refine ⟨x, e, ?_⟩
    cases c with
    | any => trivial
    | fro d => exact q
    | own d =>
      obtain ⟨r, ob, e1, f, b, m⟩ := q
      have n : r ≠ a := by rintro rfl; rw [f] at fa; cases fa
      exact ⟨r, ob, e1, f, by rw [upd_ne n]; exact b, m⟩
    | pool => exact q
theorem unlock_bse {a : Addr} {od : Obj} {u : HO} (fa : F a = some u) (l : Le F F') (ha : H a = some u) (bs : Le B H) (b : Bse (upd B a (.frz od u)) pp F' H') : Bse B pp F' (upd H' a u) := by
  refine ⟨fun c v e => ?_, fun c v e => ?_, fun q e => ?_⟩
  · by_cases z : c = a
    · subst z; rw [l _ _ fa] at e; cases e; exact .inl upd_same
    · rw [upd_ne z]; exact b.ext c v e
  · by_cases z : c = a
    · subst z
      have := bs _ _ e
      rw [ha] at this; cases this
      exact upd_same
    · rw [upd_ne z]; exact b.base c v (by rw [upd_ne z]; exact e)
  · obtain ⟨h1, h2, h3⟩ := b.pool q e
    have n : q ≠ a := by rintro rfl; rw [l _ _ fa] at h2; cases h2
    rw [upd_ne n] at h1
    exact ⟨h1, h2, by rw [upd_ne n]; exact h3⟩
theorem unlock_gro {a : Addr} {od : Obj} {u : HO} (fa : F a = some u) (g : Gro (upd B a (.frz od u)) F F') : Gro B F F' := ⟨g.le, fun x h e => by
  have n : x ≠ a := by rintro rfl; rw [fa] at e; cases e
  exact g.nf x (by rw [upd_ne n]; exact h) e⟩
theorem n_lcK {te : TE} {i : Nat} {ks : List Key} {ds : List D} {P : D → Prop} (hi : ρ[i]? = some (.fro (.dik ks ds)))
    (h : ∀ B0 σ, ItE K B0 σ (iKeys (tVar i)) ρ (fun x => x = ks.map kD) → EvNB K B0 σ te ρ P) : EvN K (tLockOrE te) ρ P := fun B pp F H σ ok Q q => by
  obtain ⟨v, es, r⟩ := ok.fro hi
  unfold Rdd at r
  obtain ⟨a, kvs, rfl, fa, rfl, rv⟩ := r
  have hm : (kvs.map (·.1)).map kD = kvs.map fun p => kD p.1 := by rw [List.map_map]; rfl
  have mk : ∀ (B1 : Hp) (od : Obj), B1 a = some (.frz od (.dK kvs)) → EvNB K B1 σ te ρ P := fun B1 od hB => h B1 σ (by rw [hm]; exact i_keys es hB)
  have key : ∀ (H1 : Hp) (od : Obj) (Q : VK), OkE K (upd B a (.frz od (.dK kvs))) pp F H1 σ ρ → (∀ p o d F' H', OkE K (upd B a (.frz od (.dK kvs))) pp F' H' σ ρ → Gro B F F' → P d → B p = none → p ≠ a → pp ≠ some p → F' p = none → H' p = some o → ObjM K F' o d → Q (.ref p) H') → te σ H1 Q := fun H1 od Q ok1 q =>
    mk _ od upd_same _ pp F H1 (Le.refl _) ok1 Q fun p o d F' H' ok' l pd hB hP hF hH m => by
      have n : p ≠ a := by rintro rfl; rw [upd_same] at hB; cases hB
      rw [upd_ne n] at hB
      exact q p o d F' H' ok' (unlock_gro fa l) pd hB n hP hF hH m
  rcases ok.bse.ext a _ fa with ha | ⟨⟨od, ha⟩, _⟩
  · refine .inr ⟨a, .dK kvs, ha, trivial, fun od => ?_⟩
    refine key _ od _ (ok.lock fa (.inl ⟨kvs, rfl⟩)) fun p o d F' H' ok' l pd hB n hP hF hH m => ⟨ok'.bse.base _ _ upd_same, ?_⟩
    exact q p o d F' _ (ok.back (unlock_bse fa l.le ha ok.bse.base ok'.bse) l) l pd hB hP hF (by rw [upd_ne n]; exact hH) m
  · have same : B a = none ∨ B a = some (.frz od (.dK kvs)) := by
      cases e : B a with
      | none => exact .inl rfl
      | some u => have := ok.bse.base _ _ e; rw [ha] at this; exact .inr (congrArg some (Option.some.inj this).symm)
    have ok1 : OkE K (upd B a (.frz od (.dK kvs))) pp F H σ ρ := by
      have := ok.lock (od := od) fa (.inl ⟨kvs, rfl⟩)
      have e : upd H a (.frz od (.dK kvs)) = H := by
        funext b
        by_cases z : b = a
        · subst z; rw [upd_same, ha]
        · rw [upd_ne z]
      rw [e] at this
      exact this
    refine .inl (key H od _ ok1 fun p o d F' H' ok' l pd hB n hP hF hH m => ?_)
    refine q p o d F' H' (ok.back ⟨ok'.bse.ext, fun c v e => ?_, fun r e => ?_⟩ l) l pd hB hP hF hH m
    · by_cases z : c = a
      · subst z
        rcases same with s | s
        · rw [s] at e; cases e
        · rw [s] at e; cases e; exact ok'.bse.base _ _ upd_same
      · exact ok'.bse.base c v (by rw [upd_ne z]; exact e)
    · obtain ⟨h1, h2, h3⟩ := ok'.bse.pool r e
      have n : r ≠ a := by rintro rfl; rw [l.le _ _ fa] at h2; cases h2
      rw [upd_ne n] at h1
      exact ⟨h1, h2, h3⟩
end
/-! ### calls of defs -/
section
variable (K : PySem.W.Frag)
/-- a def's contract: the cells that it is called with, what is true of its answer's cell -/
abbrev Ctr := List Cell → (Cell → Prop) → Prop
/-- nothing of its own stands under the protected base -/
def Free (B : Hp) (σ : L2.St) (ρ : List Cell) : Prop := ∀ (i : Nat) (d : D) (p : Addr), ρ[i]? = some (.own d) → σ[i]? = some (some (.ref p)) → B p = none
def ResV (B : Hp) (pp : Option Addr) (F H : Hp) (v : V) : Cell → Prop
  | .fro d => Rdd K F d v
  | .own d => ∃ p o, v = .ref p ∧ B p = none ∧ pp ≠ some p ∧ F p = none ∧ H p = some o ∧ ObjM K F o d
  | _ => False
def spC (C : Ctr) : Sp := fun vs H Q _ => ∃ B Bp pp F cs P, C cs P ∧ Le B Bp ∧ OkE K Bp pp F H (vs.map some) cs ∧ vs.length = cs.length ∧ Free B (vs.map some) cs ∧
  ∀ v c F' H', Bse B pp F' H' → Gro B F F' → ResV K B pp F' H' v c → P c → Q v H'
end
section
variable {K : PySem.W.Frag} {ρ : List Cell} {ta tr : TA} {d : D}
abbrev EvAD (K : PySem.W.Frag) (ta : TA) (ρ : List Cell) (cs : List Cell) : Prop := EvA K ta ρ (fun x => x = cs)
theorem a_nil : EvAD K tNil ρ [] := fun B pp F H σ ok Q q => q [] [] F H ok Gro.refl rfl .nil
theorem ArgV.mono {pp : Option Addr} {F F' : Hp} {v : V} {c : Cell} (l : Le F F') (h : ArgV K pp F v c) : ArgV K pp F' v c := by
  cases c with
  | fro d => exact Rdd.mono l _ _ h
  | pool => exact h
  | _ => exact h.elim
theorem ga_cons {P : D → Prop} {P' : D → List Cell → Prop} {te : TE} (h : Ev K te ρ P) (hr : ∀ d, P d → EvA K tr ρ (P' d)) : EvA K (tCons te tr) ρ (fun cs => ∃ d r, cs = .fro d :: r ∧ P d ∧ P' d r) := fun B pp F H σ ok Q q =>
  h B pp F H σ ok _ fun v d F1 H1 ok1 l1 pd rd => hr d pd B pp F1 H1 σ ok1 _ fun vs cs F2 H2 ok2 l2 pc rc => q _ _ F2 H2 ok2 (l1.trans l2) ⟨d, cs, rfl, pd, pc⟩ (.cons (Rdd.mono l2.le _ _ rd) rc)
theorem a_cons {te : TE} {cs : List Cell} (h : EvD K te ρ d) (hr : EvAD K tr ρ cs) : EvAD K (tCons te tr) ρ (.fro d :: cs) := fun B pp F H σ ok Q q =>
  ga_cons h (fun _ _ => hr) B pp F H σ ok Q fun vs cs F' H' ok' l p r => q vs cs F' H' ok' l (by obtain ⟨d, r, rfl, rfl, rfl⟩ := p; rfl) r
theorem ga_pool {i : Nat} {P : List Cell → Prop} (hi : ρ[i]? = some .pool) (hr : EvA K tr ρ P) : EvA K (tCons (tVar i) tr) ρ (fun cs => ∃ r, cs = .pool :: r ∧ P r) := fun B pp F H σ ok Q q => by
  obtain ⟨x, e, p, rfl, hp⟩ := ok.cell i _ hi
  exact ⟨.ref p, e, hr B pp F H σ ok _ fun vs cs F2 H2 ok2 l2 pc rc => q _ _ F2 H2 ok2 l2 ⟨cs, rfl, pc⟩ (.cons ⟨p, rfl, hp⟩ rc)⟩
theorem a_pool {i : Nat} {cs : List Cell} (hi : ρ[i]? = some .pool) (hr : EvAD K tr ρ cs) : EvAD K (tCons (tVar i) tr) ρ (.pool :: cs) := fun B pp F H σ ok Q q =>
  ga_pool hi hr B pp F H σ ok Q fun vs cs F' H' ok' l p r => q vs cs F' H' ok' l (by obtain ⟨r, rfl, rfl⟩ := p; rfl) r
theorem EvA.imp {P P' : List Cell → Prop} (h : EvA K tr ρ P) (k : ∀ d, P d → P' d) : EvA K tr ρ P' := fun B pp F H σ ok Q q => h B pp F H σ ok Q fun v d F' H' o l p r => q v d F' H' o l (k d p) r
theorem args_ok {B : Hp} {pp : Option Addr} {F H : Hp} (b : Bse B pp F H) : ∀ {vs : List V} {cs : List Cell}, ArgsV K pp F vs cs → OkE K B pp F H (vs.map some) cs ∧ vs.length = cs.length ∧ Free B (vs.map some) cs := fun {vs cs} h => by
  have key : ∀ {vs : List V} {cs : List Cell}, Paired (fun v c => ArgV K pp F v c) vs cs → vs.length = cs.length ∧ ∀ (i : Nat) (c : Cell), cs[i]? = some c → ∃ v, vs[i]? = some v ∧ ArgV K pp F v c := by
    intro vs cs h
    induction h with
    | nil => exact ⟨rfl, fun i c h => by simp at h⟩
    | cons h _ ih =>
      refine ⟨by rw [List.length_cons, List.length_cons, ih.1], fun i c hc => ?_⟩
      cases i with
      | zero => simp at hc; subst hc; exact ⟨_, rfl, h⟩
      | succ i => exact ih.2 i c (by simpa using hc)
  obtain ⟨h1, h2⟩ := key h
  refine ⟨⟨b, fun i c hc => ?_, fun i j p d d' e1 _ _ _ => ?_⟩, h1, fun i d p e1 _ => ?_⟩
  · obtain ⟨v, e, a⟩ := h2 i c hc
    refine ⟨some v, by rw [List.getElem?_map, e]; rfl, ?_⟩
    cases c with
    | fro d => exact ⟨v, rfl, a⟩
    | pool => obtain ⟨p, rfl, hp⟩ := a; exact ⟨p, rfl, hp⟩
    | _ => exact a.elim
  · obtain ⟨v, _, a⟩ := h2 i _ e1; exact a.elim
  · obtain ⟨v, _, a⟩ := h2 i _ e1; exact a.elim
theorem OkE.fz1 {B : Hp} {pp : Option Addr} {F H : Hp} {σ : L2.St} {p : Addr} {o : HO} (ok : OkE K B pp F H σ ρ) (hB : B p = none) (hP : pp ≠ some p) (hF : F p = none) (hH : H p = some o) (m : ObjM K F o d) : OkE K B pp (upd F p o) H σ ρ ∧ Gro B F (upd F p o) ∧ Rdd K (upd F p o) d (.ref p) := by
  have l : Gro B F (upd F p o) := Gro.new hB hF
  refine ⟨ok.back ⟨fun a u e => ?_, ok.bse.base, fun q z => ?_⟩ l, l, (m.mono l.le).rdd upd_same⟩
  · by_cases z : a = p
    · subst z; rw [upd_same] at e; cases e; exact .inl hH
    · rw [upd_ne z] at e; exact ok.bse.ext a u e
  · obtain ⟨h1, h2⟩ := ok.bse.pool q z
    have n : q ≠ p := by rintro rfl; exact hP z
    exact ⟨h1, by rw [upd_ne n]; exact h2.1, h2.2⟩
/-- a call whose answer is frozen data, or an object of its own that is frozen at once -/
theorem g_call {C : Ctr} {E : XK} {P : List Cell → Prop} {R : D → Prop} (h : EvA K ta ρ P) (hc : ∀ cs, P cs → C cs (fun c => ∃ d, (c = .fro d ∨ c = .own d) ∧ R d)) : Ev K (tCall (spC K C) [] E ta) ρ R := fun B pp F H σ ok Q q =>
  h B pp F H σ ok _ fun vs cs F1 H1 ok1 l1 pc ra => by
    obtain ⟨a1, a2, a3⟩ := args_ok ok1.bse ra
    show spC K C (vs ++ []) H1 Q E
    rw [List.append_nil]
    refine ⟨B, B, pp, F1, cs, _, hc cs pc, Le.refl B, a1, a2, a3, fun v c F' H' b g rv pr => ?_⟩
    obtain ⟨d, e, hR⟩ := pr
    have ok2 := ok1.back b g
    rcases e with rfl | rfl
    · exact q v d F' H' ok2 (l1.trans g) hR rv
    · obtain ⟨p, o, rfl, hB, hP, hF, hH, m⟩ := rv
      obtain ⟨ok3, l3, r3⟩ := ok2.fz1 hB hP hF hH m
      exact q _ d _ H' ok3 ((l1.trans g).trans l3) hR r3
theorem gn_call {C : Ctr} {E : XK} {P : List Cell → Prop} {R : D → Prop} (h : EvA K ta ρ P) (hc : ∀ cs, P cs → C cs (fun c => ∃ d, c = .own d ∧ R d)) : EvN K (tCall (spC K C) [] E ta) ρ R := fun B pp F H σ ok Q q =>
  h B pp F H σ ok _ fun vs cs F1 H1 ok1 l1 pc ra => by
    obtain ⟨a1, a2, a3⟩ := args_ok ok1.bse ra
    show spC K C (vs ++ []) H1 Q E
    rw [List.append_nil]
    refine ⟨B, B, pp, F1, cs, _, hc cs pc, Le.refl B, a1, a2, a3, fun v c F' H' b g rv pr => ?_⟩
    obtain ⟨d, rfl, hR⟩ := pr
    obtain ⟨p, o, rfl, hB, hP, hF, hH, m⟩ := rv
    exact q p o d F' H' (ok1.back b g) (l1.trans g) hR hB hP hF hH m
/-! ### statements -/
structure EndsD where
  nx : List Cell → Prop
  rt : Cell → Prop
  bk : List Cell → Prop
  ct : List Cell → Prop
/-- a state between two statements: B is protected, Bp holds what the def owns besides -/
structure OkS (K : PySem.W.Frag) (B : Hp) (pp : Option Addr) (F H : Hp) (σ : L2.St) (ρ : List Cell) : Prop where
  ex : ∃ Bp, Le B Bp ∧ OkE K Bp pp F H σ ρ
  free : Free B σ ρ
structure Exits (K : PySem.W.Frag) (B : Hp) (pp : Option Addr) (F : Hp) (E : EndsD) (D : Ends) : Prop where
  nx : ∀ F' H' σ' ρ', OkS K B pp F' H' σ' ρ' → Gro B F F' → E.nx ρ' → D.nx σ' H'
  rt : ∀ F' H' v c, Bse B pp F' H' → Gro B F F' → ResV K B pp F' H' v c → E.rt c → D.rt v H'
  bk : ∀ F' H' σ' ρ', OkS K B pp F' H' σ' ρ' → Gro B F F' → E.bk ρ' → D.bk σ' H'
  ct : ∀ F' H' σ' ρ', OkS K B pp F' H' σ' ρ' → Gro B F F' → E.ct ρ' → D.ct σ' H'
def Dos (K : PySem.W.Frag) (ts : TS) (ρ : List Cell) (E : EndsD) : Prop := ∀ B pp F H σ D, OkS K B pp F H σ ρ → Exits K B pp F E D → ts D σ H
end
section
variable {K : PySem.W.Frag} {B : Hp} {pp : Option Addr} {F F' H H' : Hp} {σ : L2.St} {ρ ρ' : List Cell} {p : Addr} {o : HO} {d e : D} {g : TG} {E : EndsD} {DD : Ends} {ts tu : TS} {te ta tb : TE} {t : TT} {i : Nat}
theorem Exits.mono (x : Exits K B pp F E DD) (l : Gro B F F') : Exits K B pp F' E DD :=
  ⟨fun F2 H2 σ2 ρ2 a b => x.nx F2 H2 σ2 ρ2 a (l.trans b), fun F2 H2 v c a b => x.rt F2 H2 v c a (l.trans b), fun F2 H2 σ2 ρ2 a b => x.bk F2 H2 σ2 ρ2 a (l.trans b), fun F2 H2 σ2 ρ2 a b => x.ct F2 H2 σ2 ρ2 a (l.trans b)⟩
theorem d_seq (h : Dos K ts ρ { E with nx := fun ρ' => Dos K tu ρ' E }) : Dos K (tSeq ts tu) ρ E := fun B pp F H σ DD ok x =>
  h B pp F H σ _ ok ⟨fun F2 H2 σ2 ρ2 a b c => c B pp F2 H2 σ2 DD a (x.mono b), x.rt, x.bk, x.ct⟩
theorem d_next (h : E.nx ρ) : Dos K tNext ρ E := fun B pp F H σ DD ok x => x.nx F H σ ρ ok Gro.refl h
theorem d_break (h : E.bk ρ) : Dos K tBreak ρ E := fun B pp F H σ DD ok x => x.bk F H σ ρ ok Gro.refl h
theorem d_cont (h : E.ct ρ) : Dos K tCont ρ E := fun B pp F H σ DD ok x => x.ct F H σ ρ ok Gro.refl h
/-- behind an expression -/
theorem OkS.behind (ok : OkS K B pp F H σ ρ) {Bp : Hp} (l : Le B Bp) (ok' : OkE K Bp pp F' H' σ ρ) : OkS K B pp F' H' σ ρ := ⟨⟨Bp, l, ok'⟩, ok.free⟩
theorem free_set {B : Hp} {c : Cell} {x : Option V} (h : Free B σ ρ) (hc : ∀ d p, c = .own d → x = some (.ref p) → B p = none) (hl : ρ.length ≤ σ.length) : Free B (σ.set i x) (ρ.set i c) := fun j d p h1 h2 => by
  by_cases z : i = j
  · subst z
    have hi : i < ρ.length := by
      have := (List.getElem?_eq_some_iff.mp h1).1
      simpa using this
    rw [List.getElem?_set_self hi] at h1
    rw [List.getElem?_set_self (by omega)] at h2
    exact hc d p (Option.some.inj h1) (Option.some.inj h2)
  · rw [List.getElem?_set_ne z] at h1 h2
    exact h j d p h1 h2
theorem gd_set {P : D → Prop} (h : Ev K te ρ P) (k : ∀ d, P d → E.nx (ρ.set i (.fro d))) : Dos K (tAsg te (gName i)) ρ E := fun B pp F H σ DD ok x => by
  obtain ⟨Bp, l, ok1⟩ := ok.ex
  refine h Bp pp F H σ ok1 _ fun v d F1 H1 ok2 l2 pd rd => ?_
  exact x.nx F1 H1 _ _ ⟨⟨Bp, l, ok2.setF i rd⟩, free_set ok.free (fun _ _ z => nomatch z) ok2.len⟩ (Gro.base l l2) (k d pd)
theorem d_set (h : EvD K te ρ d) (k : E.nx (ρ.set i (.fro d))) : Dos K (tAsg te (gName i)) ρ E := gd_set h (by rintro _ rfl; exact k)
theorem gd_setN {P : D → Prop} (h : EvN K te ρ P) (k : ∀ d, P d → E.nx (ρ.set i (.own d))) : Dos K (tAsg te (gName i)) ρ E := fun B pp F H σ DD ok x => by
  obtain ⟨Bp, l, ok1⟩ := ok.ex
  refine h Bp pp F H σ ok1 _ fun p o d F1 H1 ok2 l2 pd hB hP hF hH m => ?_
  refine x.nx F1 H1 _ _ ⟨⟨upd Bp p o, l.trans (Le.new hB), ok2.setO i hB hP hF hH m⟩, free_set ok.free (fun d' q _ z => ?_) ok2.len⟩ (Gro.base l l2) (k d pd)
  cases z
  exact l.none hB
theorem d_setN (h : EvND K te ρ d) (k : E.nx (ρ.set i (.own d))) : Dos K (tAsg te (gName i)) ρ E := gd_setN h (by rintro _ rfl; exact k)
/-- targets of any form -/
theorem gd_asg {vs : List Nat} {P : D → Prop} (h : Ev K te ρ P) (k : ∀ d, P d → ∃ ρ', TgE K g vs ρ d ρ' ∧ E.nx ρ') : Dos K (tAsg te g) ρ E := fun B pp F H σ DD ok x => by
  obtain ⟨Bp, l, ok1⟩ := ok.ex
  refine h Bp pp F H σ ok1 _ fun v d F1 H1 ok2 l2 pd rd => ?_
  obtain ⟨ρ', tg, hE⟩ := k d pd
  refine tg.run Bp pp F1 H1 σ v ok2 rd _ fun σ' ok3 _ hs => x.nx F1 H1 _ _ ⟨⟨Bp, l, ok3⟩, fun j c p h1 h2 => ?_⟩ (Gro.base l l2) hE
  obtain ⟨z1, z2⟩ := tg.own j c h1
  rw [hs j z1] at h2
  exact ok.free j c p z2 h2
theorem d_asg {vs : List Nat} (h : EvD K te ρ d) (tg : TgE K g vs ρ d ρ') (k : E.nx ρ') : Dos K (tAsg te g) ρ E := gd_asg h fun d' e => by rw [e]; exact ⟨ρ', tg, k⟩
theorem gd_if {R : Bool → Prop} (h : EvT K t ρ R) (h1 : R true → Dos K ts ρ E) (h2 : R false → Dos K tu ρ E) : Dos K (tIfS t ts tu) ρ E := fun B pp F H σ DD ok x => by
  obtain ⟨Bp, l, ok1⟩ := ok.ex
  refine h Bp pp F H σ ok1 _ fun b F1 H1 ok2 l2 pb => ?_
  cases b with
  | true => exact h1 pb B pp F1 H1 σ DD (ok.behind l ok2) (x.mono (Gro.base l l2))
  | false => exact h2 pb B pp F1 H1 σ DD (ok.behind l ok2) (x.mono (Gro.base l l2))
theorem d_if {b : Bool} (h : EvB K t ρ b) (h1 : b = true → Dos K ts ρ E) (h2 : b = false → Dos K tu ρ E) : Dos K (tIfS t ts tu) ρ E := gd_if h (fun e => h1 e.symm) (fun e => h2 e.symm)
theorem gd_ret {P : D → Prop} (h : Ev K te ρ P) (k : ∀ d, P d → E.rt (.fro d)) : Dos K (tRet te) ρ E := fun B pp F H σ DD ok x => by
  obtain ⟨Bp, l, ok1⟩ := ok.ex
  refine h Bp pp F H σ ok1 _ fun v d F1 H1 ok2 l2 pd rd => ?_
  exact x.rt F1 H1 v (.fro d) ⟨ok2.bse.ext, l.trans ok2.bse.base, fun p e => ⟨l.none (ok2.bse.pool p e).1, (ok2.bse.pool p e).2⟩⟩ (Gro.base l l2) rd (k d pd)
theorem d_ret (h : EvD K te ρ d) (k : E.rt (.fro d)) : Dos K (tRet te) ρ E := gd_ret h (by rintro _ rfl; exact k)
theorem gd_retN {P : D → Prop} (h : EvN K te ρ P) (k : ∀ d, P d → E.rt (.own d)) : Dos K (tRet te) ρ E := fun B pp F H σ DD ok x => by
  obtain ⟨Bp, l, ok1⟩ := ok.ex
  refine h Bp pp F H σ ok1 _ fun p o d F1 H1 ok2 l2 pd hB hP hF hH m => ?_
  exact x.rt F1 H1 _ (.own d) ⟨ok2.bse.ext, l.trans ok2.bse.base, fun p e => ⟨l.none (ok2.bse.pool p e).1, (ok2.bse.pool p e).2⟩⟩ (Gro.base l l2) ⟨p, o, rfl, l.none hB, hP, hF, hH, m⟩ (k d pd)
/-- a def's own object is handed back -/
theorem d_retO (h : ρ[i]? = some (.own d)) (k : E.rt (.own d)) : Dos K (tRet (tVar i)) ρ E := fun B pp F H σ DD ok x => by
  obtain ⟨Bp, l, ok1⟩ := ok.ex
  obtain ⟨y, e, p, o, rfl, hF, hB, m⟩ := ok1.cell i _ h
  have hB' := ok.free i d p h e
  refine ⟨.ref p, e, x.rt F H _ (.own d) ⟨ok1.bse.ext, l.trans ok1.bse.base, fun p e => ⟨l.none (ok1.bse.pool p e).1, (ok1.bse.pool p e).2⟩⟩ Gro.refl ⟨p, o, rfl, hB', fun z => ?_, hF, ok1.bse.base _ _ hB, m⟩ k⟩
  have := (ok1.bse.pool p z).1
  rw [hB] at this; cases this
theorem d_retNone (k : E.rt (.fro .non)) : Dos K tRetN ρ E := fun B pp F H σ DD ok x => by
  obtain ⟨Bp, l, ok1⟩ := ok.ex
  exact x.rt F H _ (.fro .non) ⟨ok1.bse.ext, l.trans ok1.bse.base, fun p e => ⟨l.none (ok1.bse.pool p e).1, (ok1.bse.pool p e).2⟩⟩ Gro.refl (rdn (K := K) (F := F)) k
theorem gd_drop {P : D → Prop} (h : Ev K te ρ P) (k : E.nx ρ) : Dos K (tDrop te) ρ E := fun B pp F H σ DD ok x => by
  obtain ⟨Bp, l, ok1⟩ := ok.ex
  refine h Bp pp F H σ ok1 _ fun v d F1 H1 ok2 l2 pd rd => ?_
  exact x.nx F1 H1 σ ρ (ok.behind l ok2) (Gro.base l l2) k
/-- what the def owns is frozen -/
theorem OkS.freeze (ok : OkS K B pp F H σ ρ) (h : ρ[i]? = some (.own d)) : ∃ F1, Gro B F F1 ∧ OkS K B pp F1 H σ (ρ.set i (.fro d)) := by
  obtain ⟨Bp, l, ok1⟩ := ok.ex
  obtain ⟨p, o, e, f, ok2⟩ := ok1.freezeX h
  refine ⟨_, Gro.new (ok.free i d p h e) f, ⟨⟨Bp, l, ok2⟩, fun j c q h1 h2 => ?_⟩⟩
  by_cases z : i = j
  · subst z
    rw [List.getElem?_set_self (List.getElem?_eq_some_iff.mp h).1] at h1
    cases h1
  · rw [List.getElem?_set_ne z] at h1
    exact ok.free j c q h1 h2
theorem d_freeze (h : ρ[i]? = some (.own d)) (k : Dos K ts (ρ.set i (.fro d)) E) : Dos K ts ρ E := fun B pp F H σ DD ok x => by
  obtain ⟨F1, l, ok1⟩ := ok.freeze h
  exact k B pp F1 H σ DD ok1 (x.mono l)
/-- a slot is forgotten -/
theorem OkS.forget (ok : OkS K B pp F H σ ρ) (i : Nat) : OkS K B pp F H σ (ρ.set i .any) := by
  obtain ⟨Bp, l, ok1⟩ := ok.ex
  have hs : ∀ (j : Nat) (c : Cell), (ρ.set i Cell.any)[j]? = some c → c = .any ∨ ρ[j]? = some c := fun j c h => by
    by_cases z : i = j
    · subst z
      have hi : i < ρ.length := by
        have := (List.getElem?_eq_some_iff.mp h).1
        simpa using this
      rw [List.getElem?_set_self hi] at h
      exact .inl (Option.some.inj h).symm
    · rw [List.getElem?_set_ne z] at h; exact .inr h
  refine ⟨⟨Bp, l, ok1.bse, fun j c hc => ?_, fun j k q d1 d2 h1 h2 h3 h4 => ?_⟩, fun j c q h1 h2 => ?_⟩
  · rcases hs j c hc with rfl | h
    · have hj : j < ρ.length := by
        have := (List.getElem?_eq_some_iff.mp hc).1
        simpa using this
      have := ok1.len
      exact ⟨σ[j]'(by omega), List.getElem?_eq_getElem (by omega), trivial⟩
    · exact ok1.cell j c h
  · rcases hs j _ h1 with z | z
    · cases z
    · rcases hs k _ h2 with y | y
      · cases y
      · exact ok1.sep j k q d1 d2 z y h3 h4
  · rcases hs j _ h1 with z | z
    · cases z
    · exact ok.free j c q z h2
theorem d_forget (i : Nat) (k : Dos K ts (ρ.set i .any) E) : Dos K ts ρ E := fun B pp F H σ DD ok x => k B pp F H σ DD (ok.forget i) x
theorem d_imp {E' : EndsD} (h : Dos K ts ρ E') (k1 : ∀ r, E'.nx r → E.nx r) (k2 : ∀ r, E'.rt r → E.rt r) (k3 : ∀ r, E'.bk r → E.bk r) (k4 : ∀ r, E'.ct r → E.ct r) : Dos K ts ρ E := fun B pp F H σ DD ok x =>
  h B pp F H σ DD ok ⟨fun F' H' σ' ρ' a b c => x.nx F' H' σ' ρ' a b (k1 _ c), fun F' H' v c a b r z => x.rt F' H' v c a b r (k2 _ z), fun F' H' σ' ρ' a b c => x.bk F' H' σ' ρ' a b (k3 _ c), fun F' H' σ' ρ' a b c => x.ct F' H' σ' ρ' a b (k4 _ c)⟩
/-! ### stores -/
/-- xs.append(e) -/
theorem OkS.put {Bp : Hp} {d' : D} (lb : Le B Bp) (ok : OkE K Bp pp F H σ ρ) (fr : Free B σ ρ) (h : ρ[i]? = some (.own d)) (hp : σ[i]? = some (some (.ref p))) (m : ObjM K F o d') : OkS K B pp F (upd H p o) σ (ρ.set i (.own d')) := by
  obtain ⟨x, e, q, u, ex, hF, hB, m0⟩ := ok.cell i _ h
  rw [hp] at e; cases e; cases ex
  have hBp : B p = none := fr i d p h hp
  have hi := (List.getElem?_eq_some_iff.mp h).1
  have hs : ∀ (j : Nat) (c : Cell), i ≠ j → (ρ.set i (.own d'))[j]? = some c → ρ[j]? = some c := fun j c z h => by
    rw [List.getElem?_set_ne z] at h; exact h
  refine ⟨⟨upd Bp p o, fun a v e => ?_, ⟨ok.bse.ext.put hF, ok.bse.base.upd2, fun r e => ?_⟩, fun j c hc => ?_, fun j k r d1 d2 h1 h2 h3 h4 => ?_⟩, fun j c r h1 h2 => ?_⟩
  · rw [upd_ne (ne_of_none e hBp)]; exact lb a v e
  · obtain ⟨z1, z2, z3⟩ := ok.bse.pool r e
    have n : r ≠ p := by rintro rfl; rw [hB] at z1; cases z1
    exact ⟨by rw [upd_ne n]; exact z1, z2, by rw [upd_ne n]; exact z3⟩
  · by_cases z : i = j
    · subst z
      rw [List.getElem?_set_self hi] at hc
      cases hc
      exact ⟨_, hp, p, o, rfl, hF, upd_same, m⟩
    · have hc' := hs j c z hc
      obtain ⟨x, e1, y⟩ := ok.cell j c hc'
      refine ⟨x, e1, ?_⟩
      cases c with
      | any => trivial
      | fro d => exact y
      | own d2 =>
        obtain ⟨r, ob, e2, f2, b2, m2⟩ := y
        have n : r ≠ p := by rintro rfl; subst e2; exact z (ok.sep i j _ _ _ h hc' hp e1)
        exact ⟨r, ob, e2, f2, by rw [upd_ne n]; exact b2, m2⟩
      | pool => exact y
  · by_cases zj : i = j
    · by_cases zk : i = k
      · rw [← zj, ← zk]
      · subst zj
        exact ok.sep i k r _ _ h (hs k _ zk h2) h3 h4
    · by_cases zk : i = k
      · subst zk
        exact ok.sep j i r _ _ (hs j _ zj h1) h h3 h4
      · exact ok.sep j k r _ _ (hs j _ zj h1) (hs k _ zk h2) h3 h4
  · by_cases z : i = j
    · subst z
      rw [hp] at h2; cases h2
      exact hBp
    · exact fr j c r (hs j _ z h1) h2
theorem gd_app {xs : List D} {P : D → Prop} (h : ρ[i]? = some (.own (.lst xs))) (he : Ev K te ρ P) (hl : xs.length < 100000) (k : ∀ d, P d → E.nx (ρ.set i (.own (.lst (xs ++ [d]))))) : Dos K (tDrop (tBM K "list" rAppend (tVar i) (tCons te tNil))) ρ E := fun B pp F H σ DD ok x => by
  obtain ⟨Bp, l, ok1⟩ := ok.ex
  obtain ⟨y, e, p, o, rfl, hF, hB, vs, rfl, rv⟩ := ok1.cell i _ h
  refine ⟨.ref p, e, .inl ⟨rfl, vs, SqL.of (ok1.bse.base _ _ hB)⟩, he Bp pp F H σ ok1 _ fun v d F1 H1 ok2 l2 pd rd => ?_⟩
  obtain ⟨y, e', q, o, eq, hF', hB', m'⟩ := ok2.cell i _ h
  rw [e] at e'; cases e'; cases eq
  refine ⟨p, vs, v, rfl, rfl, ok2.bse.base _ _ hB, by rw [← rv.len]; exact Nat.lt_of_lt_of_le hl (by decide), ?_⟩
  exact x.nx F1 _ σ _ (OkS.put (d' := .lst (xs ++ [d])) l ok2 ok.free h e ⟨_, rfl, (RdL.mono l2.le _ _ rv).snoc rd⟩) (Gro.base l l2) (k d pd)
theorem d_app {xs : List D} (h : ρ[i]? = some (.own (.lst xs))) (he : EvD K te ρ d) (hl : xs.length < 100000) (k : E.nx (ρ.set i (.own (.lst (xs ++ [d]))))) : Dos K (tDrop (tBM K "list" rAppend (tVar i) (tCons te tNil))) ρ E := gd_app h he hl (by rintro _ rfl; exact k)
/-- xs[j] = e, xs a list of its own -/
theorem d_setL {xs : List D} {j : Nat} (h : ρ[i]? = some (.own (.lst xs))) (he : Ev K te ρ (fun x => x = d)) (hj : EvD K tb ρ (.int (j : Nat))) (hl : j < xs.length) (k : E.nx (ρ.set i (.own (.lst (xs.set j d))))) : Dos K (tAsg te (gSub (tVar i) tb rSetL)) ρ E := fun B pp F H σ DD ok x => by
  obtain ⟨Bp, l, ok1⟩ := ok.ex
  refine he Bp pp F H σ ok1 _ fun v d1 F1 H1 ok2 l2 pd rd => ?_
  subst pd
  obtain ⟨y, e, p, o, rfl, hF, hB, vs, rfl, rv⟩ := ok2.cell i _ h
  refine ⟨.ref p, e, hj Bp pp F1 H1 σ ok2 _ fun u d2 F2 H2 ok3 l3 pu ru => ?_⟩
  subst pu; unfold Rdd at ru; subst ru
  have lv := rv.len
  refine ⟨p, vs, j, j, rfl, rfl, ok3.bse.base _ _ hB, ?_, ?_⟩
  · unfold ixN; rw [if_pos (by omega), if_pos (by omega)]; simp
  · exact x.nx F2 _ σ _ (OkS.put (d' := .lst (xs.set j d1)) l ok3 ok.free h e ⟨_, rfl, RdL.set (Rdd.mono l3.le _ _ rd) j (RdL.mono l3.le _ _ rv)⟩) (Gro.base l (l2.trans l3)) k
/-- d[k] = e, d a dict of its own -/
theorem gd_putK {ks : List Key} {ds : List D} {key : Key} {P : D → Prop} (h : ρ[i]? = some (.own (.dik ks ds))) (he : Ev K te ρ P) (hj : EvD K tb ρ e) (hk : keyD e = some key) (hl : ks.length < 100000)
    (k : ∀ d, P d → E.nx (ρ.set i (.own (.dik (putKs ks key) (putDs ks ds key d))))) : Dos K (sDPut (tVar i) tb te) ρ E := fun B pp F H σ DD ok x => by
  obtain ⟨Bp, l, ok1⟩ := ok.ex
  refine he Bp pp F H σ ok1 _ fun v d1 F1 H1 ok2 l2 pd rd => ?_
  obtain ⟨y, e1, p, o, rfl, hF, hB, kvs, rfl, rfl, rv⟩ := ok2.cell i _ h
  refine ⟨.ref p, e1, hj Bp pp F1 H1 σ ok2 _ fun u d2 F2 H2 ok3 l3 pu ru => ?_⟩
  subst pu
  obtain ⟨z1, z2⟩ := rd_put (Rdd.mono l3.le _ _ rd) (RdL.mono l3.le _ _ rv) key
  refine ⟨p, _, rfl, .inl ⟨kvs, key, ok3.bse.base _ _ hB, key_kV hk ru, ?_, rfl⟩, x.nx F2 _ σ _ (OkS.put (d' := .dik (putKs (kvs.map (·.1)) key) (putDs (kvs.map (·.1)) ds key d1)) l ok3 ok.free h e1 ⟨_, rfl, z1, z2⟩) (Gro.base l (l2.trans l3)) (k d1 pd)⟩
  rw [List.length_map] at hl
  exact Nat.lt_of_lt_of_le hl (by decide)
theorem d_putK {ks : List Key} {ds : List D} {key : Key} (h : ρ[i]? = some (.own (.dik ks ds))) (he : EvD K te ρ d) (hj : EvD K tb ρ e) (hk : keyD e = some key) (hl : ks.length < 100000)
    (k : E.nx (ρ.set i (.own (.dik (putKs ks key) (putDs ks ds key d))))) : Dos K (sDPut (tVar i) tb te) ρ E := gd_putK h he hj hk hl (by rintro _ rfl; exact k)
theorem d_putT {ks : List (List Key)} {ds : List D} {ns : List Int} (h : ρ[i]? = some (.own (.dit ks ds))) (he : EvD K te ρ d) (hj : EvD K tb ρ (.tup (ns.map .int))) (hl : ks.length < 100000)
    (k : E.nx (ρ.set i (.own (.dit (putKs ks (ns.map Sum.inl)) (putDs ks ds (ns.map Sum.inl) d))))) : Dos K (sDPut (tVar i) tb te) ρ E := fun B pp F H σ DD ok x => by
  obtain ⟨Bp, l, ok1⟩ := ok.ex
  refine he Bp pp F H σ ok1 _ fun v d1 F1 H1 ok2 l2 pd rd => ?_
  subst pd
  obtain ⟨y, e1, p, o, rfl, hF, hB, kvs, rfl, rfl, rv⟩ := ok2.cell i _ h
  refine ⟨.ref p, e1, hj Bp pp F1 H1 σ ok2 _ fun u d2 F2 H2 ok3 l3 pu ru => ?_⟩
  subst pu
  obtain ⟨z1, z2⟩ := rd_put (Rdd.mono l3.le _ _ rd) (RdL.mono l3.le _ _ rv) (ns.map Sum.inl)
  unfold Rdd at ru
  obtain ⟨b, vs, rfl, fb, rb⟩ := ru
  refine ⟨p, _, rfl, .inr ⟨kvs, ns.map Sum.inl, b, ok3.bse.base _ _ hB, rfl, by rw [← ints_kV rb]; exact ok3.bse.ext.tup fb, ?_, rfl⟩, x.nx F2 _ σ _ (OkS.put (d' := .dit (putKs (kvs.map (·.1)) (ns.map Sum.inl)) (putDs (kvs.map (·.1)) ds (ns.map Sum.inl) d1)) l ok3 ok.free h e1 ⟨_, rfl, z1, z2⟩) (Gro.base l (l2.trans l3)) k⟩
  rw [List.length_map] at hl
  exact Nat.lt_of_lt_of_le hl (by decide)
end
end Bs
namespace Bs
open PySem L2
section
variable {K : PySem.W.Frag} {B : Hp} {pp : Option Addr} {F F' H H' : Hp} {σ : L2.St} {ρ ρ' : List Cell} {p : Addr} {o : HO} {d e : D} {g : TG} {E : EndsD} {DD : Ends} {ts tu tb : TS} {te ta : TE} {t : TT} {i : Nat} {wi : TI}
/-! ### loops -/
/-- a for's turns -/
structure Turns (K : PySem.W.Frag) (g : TG) (tb : TS) (ρ : List Cell) (E : EndsD) (ds : List D) (Iv : Nat → List Cell → Prop) : Prop where
  st : Iv 0 ρ
  tn : ∀ (i : Nat) (d : D) (ρ' : List Cell), ds[i]? = some d → Iv i ρ' → ∃ vs ρ'', TgE K g vs ρ' d ρ'' ∧ Dos K tb ρ'' { E with nx := Iv (i + 1), ct := Iv (i + 1), bk := E.nx }
  dn : ∀ ρ', Iv ds.length ρ' → E.nx ρ'
theorem for_core {P : List D → Prop} (hi : ItE K B σ wi ρ P) (hb : ∀ ds, P ds → ∃ Iv, Turns K g tb ρ E ds Iv) (ok : OkS K B pp F H σ ρ) (x : Exits K B pp F E DD) : tFor wi g tb DD σ H := by
  obtain ⟨Bp, l, ok1⟩ := ok.ex
  refine hi Bp pp F H l ok1 _ fun J ds F1 H1 ok2 l2 pd y => ?_
  obtain ⟨Iv, T⟩ := hb ds pd
  refine ⟨fun i m σ' H' => m = ds.length - i ∧ i ≤ ds.length ∧ ∃ F' ρ', OkS K B pp F' H' σ' ρ' ∧ Gro B F F' ∧ Le F1 F' ∧ Iv i ρ', ⟨ds.length, rfl, Nat.zero_le _, F1, ρ, ok.behind l ok2, Gro.base l l2, Le.refl F1, T.st⟩, ?_⟩
  rintro i m σ' H' ⟨rfl, hle, F2, ρ2, ok3, l3, l4, iv⟩
  obtain ⟨Bq, lq, ok4⟩ := ok3.ex
  by_cases hlt : i < ds.length
  · obtain ⟨hgo, hy⟩ := (y Bq pp F2 H' σ' ρ2 lq l4 ok4 i).1 hlt
    refine .inr ⟨hgo, fun σ' H' => ∃ F' ρ', OkS K B pp F' H' σ' ρ' ∧ Gro B F F' ∧ Le F1 F' ∧ Iv (i + 1) ρ', fun σ' H' z => ⟨ds.length - (i + 1), by omega, rfl, hlt, z⟩, fun v H2 hv => ?_⟩
    obtain ⟨F3, d, l5, ok5, ed, rd⟩ := hy v H2 hv
    obtain ⟨vs, ρ'', tg, hbody⟩ := T.tn i d ρ2 ed iv
    refine tg.run Bq pp F3 H2 σ' v ok5 rd _ fun σ2 ok6 _ hs => ?_
    have ok7 : OkS K B pp F3 H2 σ2 ρ'' := ⟨⟨Bq, lq, ok6⟩, fun j c r h1 h2 => by
      obtain ⟨z1, z2⟩ := tg.own j c h1
      rw [hs j z1] at h2
      exact ok3.free j c r z2 h2⟩
    have lg : Gro B F F3 := l3.trans (Gro.base lq l5)
    refine hbody B pp F3 H2 σ2 _ ok7 ⟨fun F4 H4 σ4 ρ4 a b c => ⟨F4, ρ4, a, lg.trans b, (l4.trans l5.le).trans b.le, c⟩, fun F4 H4 w c a b r z => x.rt F4 H4 w c a (lg.trans b) r z, fun F4 H4 σ4 ρ4 a b c => x.nx F4 H4 σ4 ρ4 a (lg.trans b) c, fun F4 H4 σ4 ρ4 a b c => ⟨F4, ρ4, a, lg.trans b, (l4.trans l5.le).trans b.le, c⟩⟩
  · have e : i = ds.length := by omega
    subst e
    exact .inl ⟨(y Bq pp F2 H' σ' ρ2 lq l4 ok4 _).2 (Nat.le_refl _), x.nx F2 H' σ' ρ2 ok3 l3 (T.dn ρ2 iv)⟩
theorem gd_for {P : List D → Prop} (hi : ∀ B0 σ, ItE K B0 σ wi ρ P) (hb : ∀ ds, P ds → ∃ Iv, Turns K g tb ρ E ds Iv) : Dos K (tFor wi g tb) ρ E := fun B pp F H σ DD ok x => for_core (hi B σ) hb ok x
theorem d_for {ds : List D} (hi : ItD K wi ρ ds) (Iv : Nat → List Cell → Prop) (T : Turns K g tb ρ E ds Iv) : Dos K (tFor wi g tb) ρ E := gd_for hi (by rintro _ rfl; exact ⟨Iv, T⟩)
/-- over a dict's keys -/
def tLockOr (t : TS) : TS := fun D σ H => t D σ H ∨ tLock t D σ H
theorem ps_lockOr {X : Cx} {st : Stmt} {t : TS} (h : PS X st t) : PS X st (tLockOr t) := ⟨fun pins s σ H D I q => q.elim (h.run pins s σ H D I) ((ps_lock h).run pins s σ H D I)⟩
theorem OkS.unlock {a : Addr} {od : Obj} {u : HO} (fa : F a = some u) (l : Le F F') (ha : H a = some u) (bs : Le B H) (ok : OkS K (upd B a (.frz od u)) pp F' H' σ ρ) : OkS K B pp F' (upd H' a u) σ ρ := by
  obtain ⟨Bp, lb, ok1⟩ := ok.ex
  have ho : ∀ (i : Nat) (d : D) (q : Addr), ρ[i]? = some (.own d) → σ[i]? = some (some (.ref q)) → q ≠ a := fun i d q h1 h2 z => by
    subst z
    obtain ⟨y, e, r, ob, e2, f, b, m⟩ := ok1.cell i _ h1
    rw [h2] at e; cases e; cases e2
    rw [l _ _ fa] at f; cases f
  have lbb : ∀ c v, B c = some v → c ≠ a → Bp c = some v := fun c v e n => lb c v (by rw [upd_ne n]; exact e)
  have hpool : ∀ q, pp = some q → q ≠ a := fun q e z => by
    subst z
    have := (ok1.bse.pool q e).2.1
    rw [l _ _ fa] at this; cases this
  refine ⟨⟨fun b => if b = a then B a else Bp b, fun c v e => ?_, ⟨fun c v e => ?_, fun c v e => ?_, fun q e => ?_⟩, fun j c hc => ?_, ok1.sep⟩, fun j c q h1 h2 => ?_⟩
  · show (if c = a then B a else Bp c) = some v
    by_cases z : c = a
    · rw [if_pos z, ← z]; exact e
    · rw [if_neg z]; exact lbb c v e z
  · by_cases z : c = a
    · subst z; rw [l _ _ fa] at e; cases e; exact .inl upd_same
    · rw [upd_ne z]; exact ok1.bse.ext c v e
  · have e' : (if c = a then B a else Bp c) = some v := e
    by_cases z : c = a
    · rw [if_pos z] at e'
      have := bs _ _ e'
      rw [ha] at this; cases this
      rw [z]; exact upd_same
    · rw [if_neg z] at e'
      rw [upd_ne z]; exact ok1.bse.base c v e'
  · obtain ⟨h1, h2, h3⟩ := ok1.bse.pool q e
    have n := hpool q e
    exact ⟨(if_neg n).trans h1, h2, by rw [upd_ne n]; exact h3⟩
  · obtain ⟨y, e, z⟩ := ok1.cell j c hc
    refine ⟨y, e, ?_⟩
    cases c with
    | any => trivial
    | fro d => exact z
    | own d =>
      obtain ⟨r, ob, e2, f, b, m⟩ := z
      exact ⟨r, ob, e2, f, (if_neg (ho j d r hc (by rw [e, e2]))).trans b, m⟩
    | pool => exact z
  · have := ok.free j c q h1 h2
    rw [upd_ne (ho j c q h1 h2)] at this
    exact this
theorem OkS.lock {a : Addr} {od : Obj} {u : HO} (ok : OkS K B pp F H σ ρ) (fa : F a = some u) (hu : IsDct u) : OkS K (upd B a (.frz od u)) pp F (upd H a (.frz od u)) σ ρ := by
  obtain ⟨Bp, lb, ok1⟩ := ok.ex
  refine ⟨⟨upd Bp a (.frz od u), lb.upd2, ok1.lock fa hu⟩, fun j c q h1 h2 => ?_⟩
  obtain ⟨y, e, r, ob, e2, f, b, m⟩ := ok1.cell j _ h1
  rw [h2] at e; cases e; cases e2
  have n : q ≠ a := by rintro rfl; rw [f] at fa; cases fa
  rw [upd_ne n]
  exact ok.free j c q h1 h2
theorem d_forK {ks : List Key} {ds : List D} {j : Nat} (hj : ρ[j]? = some (.fro (.dik ks ds))) (Iv : Nat → List Cell → Prop) (T : Turns K g tb ρ E (ks.map kD) Iv) : Dos K (tLockOr (tFor (iKeys (tVar j)) g tb)) ρ E := fun B pp F H σ DD ok x => by
  obtain ⟨Bp, lb, ok1⟩ := ok.ex
  obtain ⟨v, es, r⟩ := ok1.fro hj
  unfold Rdd at r
  obtain ⟨a, kvs, rfl, fa, rfl, rv⟩ := r
  have hm : (kvs.map (·.1)).map kD = kvs.map fun p => kD p.1 := by rw [List.map_map]; rfl
  rw [hm] at T
  have go : ∀ (od : Obj) (H1 : Hp) (D1 : Ends), OkS K (upd B a (.frz od (.dK kvs))) pp F H1 σ ρ → Exits K (upd B a (.frz od (.dK kvs))) pp F E D1 → tFor (iKeys (tVar j)) g tb D1 σ H1 := fun od H1 D1 ok' x' =>
    for_core (i_keys es upd_same) (by rintro _ rfl; exact ⟨Iv, T⟩) ok' x'
  have bs : Le B H := lb.trans ok1.bse.base
  rcases ok1.bse.ext a _ fa with ha | ⟨⟨od, ha⟩, _⟩
  · refine .inr ⟨a, .dK kvs, ha, trivial, fun od => ?_⟩
    refine go od _ _ (ok.lock fa (.inl ⟨kvs, rfl⟩)) ⟨fun F2 H2 σ2 ρ2 a b c => ⟨?_, ?_⟩, fun F2 H2 w c a' b r z => ⟨?_, ?_⟩, fun F2 H2 σ2 ρ2 a b c => ⟨?_, ?_⟩, fun F2 H2 σ2 ρ2 a b c => ⟨?_, ?_⟩⟩
    · obtain ⟨Bq, q1, q2⟩ := a.ex; exact q2.bse.base _ _ (q1 _ _ upd_same)
    · exact x.nx F2 _ σ2 ρ2 (OkS.unlock fa b.le ha bs a) (unlock_gro fa b) c
    · exact a'.base _ _ upd_same
    · refine x.rt F2 _ w c (unlock_bse fa b.le ha bs a') (unlock_gro fa b) ?_ z
      cases c with
      | fro d => exact r
      | own d =>
        obtain ⟨q, ob, rfl, hB, hP, hF, hH, m⟩ := r
        have n : q ≠ a := by rintro rfl; rw [upd_same] at hB; cases hB
        rw [upd_ne n] at hB
        exact ⟨q, ob, rfl, hB, hP, hF, by rw [upd_ne n]; exact hH, m⟩
      | _ => exact r.elim
    · obtain ⟨Bq, q1, q2⟩ := a.ex; exact q2.bse.base _ _ (q1 _ _ upd_same)
    · exact x.bk F2 _ σ2 ρ2 (OkS.unlock fa b.le ha bs a) (unlock_gro fa b) c
    · obtain ⟨Bq, q1, q2⟩ := a.ex; exact q2.bse.base _ _ (q1 _ _ upd_same)
    · exact x.ct F2 _ σ2 ρ2 (OkS.unlock fa b.le ha bs a) (unlock_gro fa b) c
  · have same : ∀ u, B a = some u → u = .frz od (.dK kvs) := fun u e => by
      have := bs _ _ e; rw [ha] at this; exact (Option.some.inj this).symm
    have le1 : Le B (upd B a (.frz od (.dK kvs))) := fun c v e => by
      by_cases z : c = a
      · subst z; rw [same v e]; exact upd_same
      · rw [upd_ne z]; exact e
    have down : ∀ F2 H2 σ2 ρ2, OkS K (upd B a (.frz od (.dK kvs))) pp F2 H2 σ2 ρ2 → OkS K B pp F2 H2 σ2 ρ2 := fun F2 H2 σ2 ρ2 ok' => by
      obtain ⟨Bq, q1, q2⟩ := ok'.ex
      exact ⟨⟨Bq, le1.trans q1, q2⟩, fun j c q h1 h2 => le1.none (ok'.free j c q h1 h2)⟩
    have ok' : OkS K (upd B a (.frz od (.dK kvs))) pp F H σ ρ := by
      have := ok.lock (od := od) fa (.inl ⟨kvs, rfl⟩)
      have e : upd H a (.frz od (.dK kvs)) = H := by
        funext b
        by_cases z : b = a
        · subst z; rw [upd_same, ha]
        · rw [upd_ne z]
      rw [e] at this
      exact this
    refine .inl (go od H DD ok' ⟨fun F2 H2 σ2 ρ2 a b c => x.nx F2 H2 σ2 ρ2 (down _ _ _ _ a) (Gro.base le1 b) c, fun F2 H2 w c a b r z => x.rt F2 H2 w c ⟨a.ext, le1.trans a.base, fun q e => ⟨le1.none (a.pool q e).1, (a.pool q e).2⟩⟩ (Gro.base le1 b) ?_ z, fun F2 H2 σ2 ρ2 a b c => x.bk F2 H2 σ2 ρ2 (down _ _ _ _ a) (Gro.base le1 b) c, fun F2 H2 σ2 ρ2 a b c => x.ct F2 H2 σ2 ρ2 (down _ _ _ _ a) (Gro.base le1 b) c⟩)
    cases c with
    | fro d => exact r
    | own d =>
      obtain ⟨q, ob, rfl, hB, h⟩ := r
      exact ⟨q, ob, rfl, le1.none hB, h⟩
    | _ => exact r.elim
theorem d_while (W : Nat → List Cell → Prop) (m0 : Nat) (h0 : W m0 ρ)
    (hs : ∀ m ρ', W m ρ' → ∃ R, EvT K t ρ' R ∧ (R true → Dos K tb ρ' { E with nx := fun r => ∃ m', m' < m ∧ W m' r, ct := fun r => ∃ m', m' < m ∧ W m' r, bk := E.nx }) ∧ (R false → E.nx ρ')) : Dos K (tWhile t tb) ρ E := fun B pp F H σ DD ok x =>
  ⟨fun m σ' H' => ∃ F' ρ', OkS K B pp F' H' σ' ρ' ∧ Gro B F F' ∧ W m ρ', ⟨m0, F, ρ, ok, Gro.refl, h0⟩, fun m σ' H' ⟨F1, ρ1, ok1, l1, hw⟩ => by
    obtain ⟨R, ht, hT, hF⟩ := hs m ρ1 hw
    obtain ⟨Bp, lb, ok2⟩ := ok1.ex
    refine ht Bp pp F1 H' σ' ok2 _ fun b F2 H2 ok3 l3 hb => ?_
    have ok4 := ok1.behind lb ok3
    have l4 : Gro B F F2 := l1.trans (Gro.base lb l3)
    cases b with
    | true =>
      refine ⟨fun σ' H' => ∃ m', m' < m ∧ ∃ F' ρ', OkS K B pp F' H' σ' ρ' ∧ Gro B F F' ∧ W m' ρ', fun σ' H' z => z, hT hb B pp F2 H2 σ' _ ok4 ⟨fun F4 H4 σ4 ρ4 a b c => ?_, fun F4 H4 w c a b r z => x.rt F4 H4 w c a (l4.trans b) r z, fun F4 H4 σ4 ρ4 a b c => x.nx F4 H4 σ4 ρ4 a (l4.trans b) c, fun F4 H4 σ4 ρ4 a b c => ?_⟩⟩
      · obtain ⟨m', hm, hw'⟩ := c; exact ⟨m', hm, F4, ρ4, a, l4.trans b, hw'⟩
      · obtain ⟨m', hm, hw'⟩ := c; exact ⟨m', hm, F4, ρ4, a, l4.trans b, hw'⟩
    | false => exact x.nx F2 H2 σ' ρ1 ok4 l4 (hF hb)⟩
/-! ### a def -/
def endsOf (P : Cell → Prop) : EndsD := ⟨fun _ => P (.fro .non), P, fun _ => False, fun _ => False⟩
end
section
variable {P : Program} {w : World} {K : PySem.W.Frag} {mg : Str → Option Value} {base : Heap}
theorem fn_c {x qual : Str} {st : Stmt} {f : Addr} {fd : FuncData} {N ps : List Str} {k n : Nat} {C : Ctr} (F : Fun K x qual st f fd) (S : FnScope N ps (defScope st)) (hn : N.length = ps.length + n) (hlen : ∀ cs P, C cs P → cs.length = ps.length)
    (hb : ∀ (cdv : Value) (A : Around) (outer : List Env) (s : Shared) (H : Hp) (E : XK), Room k (A.deeper (PyProof.Rows.envOfC qual (defScope st) s.heap.objs.size f cdv)) →
      ∃ t, PSs (cxOf CX0 P w K mg base N qual (defScope st) f cdv A outer s H E).nox (defBody st) t ∧ ∀ cs R, C cs R → Dos K t (cs ++ List.replicate n .any) (endsOf R)) : FnOk P w K mg base CX0 (k + 1) f fd ps (spC K C) := by
  refine F.ok S (fun vs H Q E h => ?_) fun cdv A outer s H vs Q E hr h => ?_
  · obtain ⟨B, Bp, pp, F, cs, R, hC, _, _, hl, _⟩ := h
    rw [hl, hlen cs R hC]
  · obtain ⟨t, ht, hd⟩ := hb cdv A outer s H E hr
    obtain ⟨B, Bp, pp, F, cs, R, hC, lb, ok, hl, fr, q⟩ := h
    refine ⟨t, ht, ?_⟩
    have hcl := hlen cs R hC
    have hst : L2.start N vs = vs.map some ++ List.replicate n none := by unfold L2.start; rw [hl, hcl, hn, Nat.add_sub_cancel_left]
    have at_ : ∀ (i : Nat) (c : Cell), (cs ++ List.replicate n Cell.any)[i]? = some c → (i < cs.length ∧ cs[i]? = some c ∧ (L2.start N vs)[i]? = (vs.map some)[i]?) ∨ (c = .any ∧ ∃ x, (L2.start N vs)[i]? = some x) := fun i c hc => by
      rw [hst]
      by_cases hi : i < cs.length
      · rw [List.getElem?_append_left hi] at hc
        exact .inl ⟨hi, hc, List.getElem?_append_left (by rw [List.length_map, hl]; exact hi)⟩
      · rw [List.getElem?_append_right (by omega), List.getElem?_replicate] at hc
        split at hc
        · rename_i hlt
          refine .inr ⟨(Option.some.inj hc).symm, none, ?_⟩
          rw [List.getElem?_append_right (by rw [List.length_map, hl]; omega), List.getElem?_replicate, List.length_map, hl, if_pos hlt]
        · cases hc
    refine hd cs R hC B pp F H _ _ ⟨⟨Bp, lb, ok.bse, fun i c hc => ?_, fun i j p d d' h1 h2 h3 h4 => ?_⟩, fun i d p h1 h2 => ?_⟩ ⟨fun F' H' σ' ρ' a b c => ?_, fun F' H' v c a b r z => q v c F' H' a b r z, fun _ _ _ _ _ _ z => z.elim, fun _ _ _ _ _ _ z => z.elim⟩
    · rcases at_ i c hc with ⟨_, h1, h2⟩ | ⟨rfl, x, h⟩
      · obtain ⟨x, e, y⟩ := ok.cell i c h1
        exact ⟨x, h2.trans e, y⟩
      · exact ⟨x, h, trivial⟩
    · rcases at_ i _ h1 with ⟨_, z1, z2⟩ | ⟨z, _⟩
      · rcases at_ j _ h2 with ⟨_, y1, y2⟩ | ⟨y, _⟩
        · exact ok.sep i j p d d' z1 y1 (z2 ▸ h3) (y2 ▸ h4)
        · cases y
      · cases z
    · rcases at_ i _ h1 with ⟨_, z1, z2⟩ | ⟨z, _⟩
      · exact fr i d p z1 (z2 ▸ h2)
      · cases z
    · obtain ⟨Bq, l1, ok1⟩ := a.ex
      exact q .non (.fro .non) F' H' ⟨ok1.bse.ext, l1.trans ok1.bse.base, fun p e => ⟨l1.none (ok1.bse.pool p e).1, (ok1.bse.pool p e).2⟩⟩ b (rdn (K := K) (F := F')) c
/-- a def of the text that keeps its contract -/
def OkDef (P : Program) (w : World) (K : PySem.W.Frag) (mg : Str → Option Value) (base : Heap) (k : Nat) (x : Str) (ps : List Str) (C : Ctr) : Prop :=
  ∃ f fd, mg x = some (.ref f) ∧ PySem.W.keepIn K (.ref f) = true ∧ Binds K fd ps [] ∧ FnOk P w K mg base CX0 k f fd ps (spC K C)
/-- where a def of the text stands -/
def Def (K : PySem.W.Frag) (mg : Str → Option Value) (x : Str) (st : Stmt) (ps : List Str) : Prop := ∃ f fd, Fun K x x st f fd ∧ mg x = some (.ref f) ∧ Binds K fd ps []
theorem ok_def {x : Str} {st : Stmt} {N ps : List Str} {k n : Nat} {C : Ctr} (T : Def K mg x st ps) (S : FnScope N ps (defScope st)) (hn : N.length = ps.length + n) (hlen : ∀ cs P, C cs P → cs.length = ps.length)
    (hb : ∀ (f : Addr) (cdv : Value) (A : Around) (outer : List Env) (s : Shared) (H : Hp) (E : XK), Room k (A.deeper (PyProof.Rows.envOfC x (defScope st) s.heap.objs.size f cdv)) →
      (A.deeper (PyProof.Rows.envOfC x (defScope st) s.heap.objs.size f cdv)).units + 1 < cLine → (A.deeper (PyProof.Rows.envOfC x (defScope st) s.heap.objs.size f cdv)).units + 65 < cLine →
      ∃ t, PSs (cxOf CX0 P w K mg base N x (defScope st) f cdv A outer s H E).nox (defBody st) t ∧ ∀ cs R, C cs R → Dos K t (cs ++ List.replicate n .any) (endsOf R)) : OkDef P w K mg base (k + 1) x ps C := by
  obtain ⟨f, fd, F, hm, hb'⟩ := T
  exact ⟨f, fd, hm, F.kp, hb', fn_c F S hn hlen fun cdv A outer s H E hr => hb f cdv A outer s H E hr (hu_of hr) (by have := hr.un; omega)⟩
end
section
variable {X : Cx} {x : Str} {ps : List Str} {C : Ctr} {e : Expr} {es : List Expr} {t : TA} {p pos : Pos} {j k : Nat}
theorem pe_fn (h : OkDef X.prog X.w X.K X.mg X.base k x ps C) (hr : Room j X.A) (hg : Gl X x) (ha : PA X (e :: es) t) (hk : k ≤ j := by decide) (hdb : (x == ("__debug__" : Str)) = false := by decide) (he : starEach (e :: es) X.env = (false, eval e X.env) :: starEach es X.env := by rfl)
    (hpl : (backTo pos (starEach es X.env)).any (·.1) = false := by rfl) : PE X (.Call (.Name x p) (e :: es) [] pos) (tCall (spC X.K C) [] E0 t) := by
  obtain ⟨f, fd, hm, kp, b, F⟩ := h
  exact pe_call F (hr.mono hk) hg hm kp b .nil pass0 ha hdb he hpl
end
end Bs
/-! The rules again, the written part by its own name. -/
namespace Bs
open PySem L2
section
variable {X : Cx} (K : PySem.W.Frag)
theorem op_addK (h : X.K = K) : OpR X (binaryOp .Add) (rAddA K) := by subst h; exact op_addA
theorem op_eqK (hu : X.A.units + 64 < cLine) (h : X.K = K) : OpR X (compareOp .Eq) (rEqA K) := by subst h; exact op_eqA hu
theorem op_neK (hu : X.A.units + 64 < cLine) (h : X.K = K) : OpR X (compareOp .NotEq) (rNeA K) := by subst h; exact op_neA hu
theorem op_inA' (hu : X.A.units + 65 < cLine) (h : X.K = K) : OpR X (compareOp .In) (rInA K) := by subst h; exact op_inA hu
theorem op_ninA' (hu : X.A.units + 65 < cLine) (h : X.K = K) : OpR X (compareOp .NotIn) (rNinA K) := by subst h; exact op_ninA hu
theorem ix_anyK (hu : X.A.units + 1 < cLine) (h : X.K = K) : IxR X (rIxA K) := by subst h; exact ix_any hu
theorem sl_anyK (h : X.K = K) : SlR X (rSlA K) := by subst h; exact sl_any
theorem call_lenAK (h : X.K = K) : CallR X (.builtin "len") (rLenA K) := by subst h; exact call_lenA
theorem call_lstK (h : X.K = K) : CallR X (.type "list") (rLst K) := by subst h; exact call_lst
theorem call_tplK (h : X.K = K) : CallR X (.type "tuple") (rTpl K) := by subst h; exact call_tpl
theorem call_dctK (hc : X.calm = true) (h : X.K = K) : CallR X (.type "dict") (rDct K) := by subst h; exact call_dct hc
theorem call_srtK (hc : X.calm = true) (hu : X.A.units + 64 < cLine) (h : X.K = K) : CallR X (.builtin "sorted") (rSrt K) := by subst h; exact call_srt hc hu
theorem cr_sumK (hc : X.calm = true) (h : X.K = K) : CallR X (.builtin "sum") (rSum K) := by subst h; exact cr_sum hc
theorem call_isiK' (h : X.K = K) : CallR X (.builtin "isinstance") (rIsi K) := by subst h; exact call_isi
theorem pi_listK {tg l : Expr} {tl : TE} (h : X.K = K) (hl : PE X l tl) : PI X tg l (iList K tl) := by subst h; exact pi_list hl
theorem pi_enumK {e : Expr} {ta : TA} {p pos tpos : Pos} {elts : List Expr} {kk : Nat} (h : X.K = K) (hg : Gl X "enumerate") (hm : X.mg "enumerate" = none) (ha : PA X [e] ta) (hs : starEach [e] X.env = [(false, eval e X.env)] := by rfl) :
    PI X (.Tuple elts kk tpos) (.Call (.Name "enumerate" p) [e] [] pos) (iEnum K ta) := by subst h; exact pi_enum hg hm ha hs
theorem pg_tupK {es : List Expr} {k : Nat} {t : TGs} {n : Nat} {pos : Pos} (h : X.K = K) (hc : X.calm = true) (ht : PGs X es t) (hn : (assignEach es X.env).length = n := by rfl) (hst : (assignEach es X.env).findIdx? (·.1) = none := by rfl) : PG X (.Tuple es k pos) (gTup K n t) := by
  subst h; exact pg_tup hc ht hn hst
theorem pe_lenSetK {a : Expr} {ta : TE} {p p2 q pos : Pos} (h : X.K = K) (hg : Gl X "len") (hm : X.mg "len" = none) (hg2 : Gl X "set") (hm2 : X.mg "set" = none) (ha : PE X a ta) (hc : X.calm = true := by rfl)
    (na : starEach [a] X.env = (false, eval a X.env) :: starEach [] X.env := by rfl) : PE X (.Call (.Name "len" p) [.Call (.Name "set" p2) [a] [] q] [] pos) (tLenSet K ta) := by subst h; exact pe_lenSet hg hm hg2 hm2 ha hc na
theorem pe_srtSetK {a : Expr} {ta : TE} {p p2 q pos : Pos} (h : X.K = K) (hg : Gl X "sorted") (hm : X.mg "sorted" = none) (hg2 : Gl X "set") (hm2 : X.mg "set" = none) (ha : PE X a ta) (hc : X.calm = true := by rfl)
    (na : starEach [a] X.env = (false, eval a X.env) :: starEach [] X.env := by rfl) : PE X (.Call (.Name "sorted" p) [.Call (.Name "set" p2) [a] [] q] [] pos) (tSrtSet K ta) := by subst h; exact pe_srtSet hg hm hg2 hm2 ha hc na
/-! methods of lists -/
variable {o e : Expr} {es : List Expr} {to : TE} {t : TA} {apos cpos : Pos}
theorem pe_app (h : X.K = K) (ho : PE X o to) (ha : PA X [e] t) (hbase : attributeBase o "append" X.env (eval o X.env) = eval o X.env := by rfl)
    (hfew : ((backTo cpos (starEach [e] X.env)).all (fun x => !x.1) && (backToKw cpos (keywordEach [] X.env)).all (fun x => x.1.isSome) && decide (([e] : List Expr).length + ([] : List Keyword).length + (if ([] : List Keyword).isEmpty then 0 else 1) < 30)) = true := by rfl)
    (hline : (apos.endLine == cpos.line) = true := by rfl) (hs : starEach [e] X.env = (false, eval e X.env) :: starEach [] X.env := by rfl) (hplain : (backTo cpos (starEach [] X.env)).any (·.1) = false := by rfl) :
    PE X (.Call (.Attribute o "append" apos) [e] [] cpos) (tBM K "list" rAppend to t) := by
  subst h; exact pe_bm PySem.F.plainAttrs_list PySem.F.slot_list_append PySem.F.type_list_append mt_append ho ha hbase hfew hline hs hplain
theorem pe_idx (h : X.K = K) (ho : PE X o to) (ha : PA X [e] t) (hbase : attributeBase o "index" X.env (eval o X.env) = eval o X.env := by rfl)
    (hfew : ((backTo cpos (starEach [e] X.env)).all (fun x => !x.1) && (backToKw cpos (keywordEach [] X.env)).all (fun x => x.1.isSome) && decide (([e] : List Expr).length + ([] : List Keyword).length + (if ([] : List Keyword).isEmpty then 0 else 1) < 30)) = true := by rfl)
    (hline : (apos.endLine == cpos.line) = true := by rfl) (hs : starEach [e] X.env = (false, eval e X.env) :: starEach [] X.env := by rfl) (hplain : (backTo cpos (starEach [] X.env)).any (·.1) = false := by rfl) :
    PE X (.Call (.Attribute o "index" apos) [e] [] cpos) (tBM K "list" (rIndex K) to t) := by
  subst h; exact pe_bm PySem.F.plainAttrs_list PySem.F.slot_list_index PySem.F.type_list_index mt_index ho ha hbase hfew hline hs hplain
def rIns : V → List V → Hp → VK → Prop := fun x vs H Q => ∃ (l : Addr) (xs : List V) (i : Int) (y : V), x = .ref l ∧ vs = [.int i, y] ∧ H l = some (.lst xs) ∧ xs.length < sizeLine ∧ 0 ≤ i ∧ i < 2 ^ 63 ∧ Q .non (upd H l (.lst (xs.take i.toNat ++ [y] ++ xs.drop i.toNat)))
theorem pe_ins {e2 : Expr} (h : X.K = K) (ho : PE X o to) (ha : PA X [e, e2] t) (hbase : attributeBase o "insert" X.env (eval o X.env) = eval o X.env := by rfl)
    (hfew : ((backTo cpos (starEach [e, e2] X.env)).all (fun x => !x.1) && (backToKw cpos (keywordEach [] X.env)).all (fun x => x.1.isSome) && decide (([e, e2] : List Expr).length + ([] : List Keyword).length + (if ([] : List Keyword).isEmpty then 0 else 1) < 30)) = true := by rfl)
    (hline : (apos.endLine == cpos.line) = true := by rfl) (hs : starEach [e, e2] X.env = (false, eval e X.env) :: starEach [e2] X.env := by rfl) (hplain : (backTo cpos (starEach [e2] X.env)).any (·.1) = false := by rfl) :
    PE X (.Call (.Attribute o "insert" apos) [e, e2] [] cpos) (tBM K "list" rIns to t) := by
  subst h; exact pe_bm PySem.F.plainAttrs_list PySem.F.slot_list_insert PySem.F.type_list_insert mt_insert ho ha hbase hfew hline hs hplain
def rJoin (K : PySem.W.Frag) : V → List V → Hp → VK → Prop := fun x xs H Q => ∃ a p, ∃ ys : List Str, x = .str a ∧ xs = [.ref p] ∧ (SqL K H p (ys.map V.str) ∨ SqT K H p (ys.map V.str)) ∧ (ys.map (·.length)).sum + ys.length * a.length ≤ 16777216 ∧ Q (.str (Txt.join a ys)) H
theorem pe_joinK {te : TE} {pos : Pos} (h : X.K = K) (ho : PE X o to) (he : PE X e te) (hs : starEach [e] X.env = [(false, eval e X.env)] := by rfl) (hbase : attributeBase o "join" X.env (eval o X.env) = eval o X.env := by rfl) (hline : (apos.endLine == pos.line) = true := by rfl) :
    PE X (.Call (.Attribute o "join" apos) [e] [] pos) (tM1 (rJoin K) to te) := by subst h; exact pe_join ho he hs hbase hline
theorem pe_fnK {P : Program} {w : World} {mg : Str → Option Value} {base : Heap} {x : Str} {ps : List Str} {C : Ctr} {p pos : Pos} {j k : Nat} (D : OkDef P w K mg base k x ps C) (hP : X.prog = P) (hw : X.w = w) (h : X.K = K) (hM : X.mg = mg) (hB : X.base = base) (hr : Room j X.A) (hg : Gl X x) (ha : PA X (e :: es) t) (hk : k ≤ j := by decide) (hdb : (x == ("__debug__" : Str)) = false := by decide) (he : starEach (e :: es) X.env = (false, eval e X.env) :: starEach es X.env := by rfl)
    (hpl : (backTo pos (starEach es X.env)).any (·.1) = false := by rfl) : PE X (.Call (.Name x p) (e :: es) [] pos) (tCall (spC K C) [] E0 t) := by
  subst hP hw h hM hB; exact pe_fn D hr hg ha hk hdb he hpl
end
end Bs
/-! The plain side: what the defs reckon, over lists of whole numbers. -/
namespace Bs
theorem nt_t {b : Bool} (h : (!b) = true) : b = false := by cases b <;> simp_all
theorem nt_f {b : Bool} (h : (!b) = false) : b = true := by cases b <;> simp_all
abbrev Row := List Int
def g (r : List Int) (i : Nat) : Int := r.getD i 0
/-- the signs of a field, the greatest part first -/
def bitc (n : Int) (k : Nat) : Nat := if n / 2 ^ (11 - k) % 2 = 1 then 49 else 48
def bits (n : Int) : List Nat := (List.range 12).map (bitc n)
def nin (cs : List Nat) : Int := cs.foldl (fun a c => 2 * a + if c = 49 then 1 else 0) 0
theorem nin_bits {n : Int} (h0 : 0 ≤ n) (h1 : n < 4096) : nin (bits n) = n := by
  have key : ∀ m, m ≤ 12 → nin ((List.range m).map (bitc n)) = n / 2 ^ (12 - m) := by
    intro m
    induction m with
    | zero =>
      intro _
      show (0 : Int) = n / 4096
      omega
    | succ m ih =>
      intro hm
      have ih := ih (by omega)
      unfold nin at ih ⊢
      rw [List.range_succ, List.map_append, List.foldl_append, ih]
      show 2 * (n / 2 ^ (12 - m)) + (if bitc n m = 49 then 1 else 0) = n / 2 ^ (12 - (m + 1))
      have e : 12 - m = (11 - m) + 1 := by omega
      have e2 : 12 - (m + 1) = 11 - m := by omega
      have e3 : n / 2 ^ (12 - m) = n / 2 ^ (11 - m) / 2 := by
        rw [e, Int.pow_succ]
        rw [Int.ediv_ediv_of_nonneg (by exact Int.pow_nonneg (by decide))]
      rw [e3, e2]
      unfold bitc
      generalize n / 2 ^ (11 - m) = q
      by_cases hq : q % 2 = 1
      · rw [if_pos hq, if_pos rfl]; omega
      · rw [if_neg hq, if_neg (by decide)]; omega
  have h := key 12 (Nat.le_refl _)
  rw [show 12 - 12 = 0 from rfl] at h
  rw [show bits n = (List.range 12).map (bitc n) from rfl, h]
  simp
theorem bits_len (n : Int) : (bits n).length = 12 := by unfold bits; simp
theorem bits_mem {n : Int} {c : Nat} (h : c ∈ bits n) : c = 48 ∨ c = 49 := by
  unfold bits at h
  obtain ⟨k, _, rfl⟩ := List.mem_map.mp h
  unfold bitc
  split <;> simp
theorem flat_bits_len (row : Row) : (row.flatMap bits).length = 12 * row.length := by
  induction row with
  | nil => rfl
  | cons n r ih => rw [List.flatMap_cons, List.length_append, bits_len, ih, List.length_cons]; omega
theorem flat_bits_cut : ∀ (row : Row) (k : Nat), k < row.length → ((row.flatMap bits).drop (12 * k)).take 12 = bits (g row k)
  | [], k, h => by simp at h
  | n :: r, 0, _ => by
    rw [List.flatMap_cons]
    show List.take 12 (bits n ++ _) = bits n
    rw [List.take_append_of_le_length (by rw [bits_len]; omega), List.take_of_length_le (by rw [bits_len]; omega)]
  | n :: r, k + 1, h => by
    have ih := flat_bits_cut r k (by simpa using h)
    rw [List.flatMap_cons, List.drop_append]
    have e : 12 * (k + 1) - (bits n).length = 12 * k := by rw [bits_len]; omega
    rw [e, List.drop_of_length_le (by rw [bits_len]; omega), List.nil_append, ih]
    rfl
theorem flat_bits_mem {row : Row} {c : Nat} (h : c ∈ row.flatMap bits) : c = 48 ∨ c = 49 := by
  obtain ⟨n, _, hc⟩ := List.mem_flatMap.mp h
  exact bits_mem hc
/-- fields from 0 to 4095 -/
def RowOk (r : Row) : Prop := ∀ x ∈ r, 0 ≤ x ∧ x < 4096
theorem g_get {r : Row} {k : Nat} (h : k < r.length) : r[k]? = some (g r k) := by
  unfold g
  rw [List.getD_eq_getElem?_getD, List.getElem?_eq_getElem h]
  rfl
theorem g_of {r : Row} {k : Nat} {x : Int} (h : r[k]? = some x) : g r k = x := by
  unfold g
  rw [List.getD_eq_getElem?_getD, h]
  rfl
theorem rowok_g {r : Row} (h : RowOk r) (k : Nat) : 0 ≤ g r k ∧ g r k < 4096 := by
  by_cases hk : k < r.length
  · exact h _ (List.mem_of_getElem? (g_get hk))
  · unfold g
    rw [List.getD_eq_getElem?_getD, List.getElem?_eq_none (by omega)]
    exact ⟨by decide, by decide⟩
theorem map_g (r : Row) : (List.range r.length).map (g r) = r := by
  refine List.ext_getElem? fun i => ?_
  rw [List.getElem?_map]
  by_cases h : i < r.length
  · rw [List.getElem?_range h, g_get h]; rfl
  · rw [List.getElem?_eq_none (by simpa using h), List.getElem?_eq_none (by omega)]; rfl
/-! ### what a place says -/
def guB (name : Int) (own : Row) (bs : List Row) : Bool :=
  if (!decide (g own 0 = name) || !(bs.filter fun r => !decide (g r 1 = g own 1)).isEmpty) = true then false
  else if g own 1 = name then decide (g own 2 = 0) && decide (g own 3 = name)
  else decide (0 < g own 2) && !(bs.filter fun r => decide (g r 0 = g own 3) && decide (g r 2 = g own 2 - 1)).isEmpty
def belowL (name : Int) (own : Row) (bs : List Row) : List Row := bs.filter fun r => decide (g r 3 = name) && decide (g r 2 = g own 2 + 1)
def thr (row : Row) : List Row := (List.range ((row.length - 7 + 2) / 3)).map fun k => (row.drop (7 + 3 * k)).take 3
/-- the threes of a neighbour that are of this place, their labels -/
def backs (name : Int) (e : Row) : List Row := ((thr e).filter fun t => decide (g t 0 = name)).map (·.drop 1)
def trB (name : Int) (ts es : List Row) : Bool :=
  decide (ts.map (g · 0) = es.map (g · 0)) && decide ((es.map (g · 0)).Nodup) && (List.range es.length).all fun k => decide (backs name (es.getD k []) = [(ts.getD ((k + 1) % ts.length) []).drop 1])
def leadL (name : Int) (ts : List Row) : Int := if ts.isEmpty = true then 1 else ((ts.filter fun t => decide (t.drop 1 = [name, g t 0])).length : Int)
def sumOf (part : Nat) (rs : List Row) : Int := (rs.map (g · (4 + part))).sum
def headsL (name : Int) (own : Row) (es : List Row) : List Int := [1, (es.length : Int), leadL name (thr own)]
def sumsB (name : Int) (own : Row) (es : List Row) : Bool := (List.range 3).all fun p => decide (g own (4 + p) = g (headsL name own es) p + sumOf p (belowL name own es))
def sayB (name : Int) (own : Row) (es : List Row) : Bool :=
  guB name own es && (trB name (thr own) es && (sumsB name own es && (!decide (g own 1 = name) || decide (2 * g own 4 + 2 * g own 6 = g own 5 + 4))))
theorem thr_len {row : Row} {m : Nat} (h : row.length = 7 + 3 * m) : (thr row).length = m := by
  unfold thr; rw [List.length_map, List.length_range, h]; omega
theorem thr_3 {row : Row} {m : Nat} (h : row.length = 7 + 3 * m) {t : Row} (ht : t ∈ thr row) : t.length = 3 := by
  unfold thr at ht
  obtain ⟨k, hk, rfl⟩ := List.mem_map.mp ht
  have := List.mem_range.mp hk
  rw [List.length_take, List.length_drop]; omega
theorem thr_get {row : Row} {m k : Nat} (h : row.length = 7 + 3 * m) (hk : k < m) : (thr row)[k]? = some [g row (7 + 3 * k), g row (7 + 3 * k + 1), g row (7 + 3 * k + 2)] := by
  unfold thr
  rw [List.getElem?_map, List.getElem?_range (by omega)]
  show some _ = some _
  congr 1
  refine List.ext_getElem? fun i => ?_
  rw [List.getElem?_take]
  by_cases hi : i < 3
  · rw [if_pos hi, List.getElem?_drop, g_get (by omega)]
    have : i = 0 ∨ i = 1 ∨ i = 2 := by omega
    rcases this with rfl | rfl | rfl <;> rfl
  · rw [if_neg hi, List.getElem?_eq_none (by simp; omega)]
end Bs
namespace Bs
open PySem L2
def topS (i : Nat) : Stmt := PySem.Challenge.pw_besidesay_k56_whole_no_marks_make_balls.main.body.getD i (.Pass ⟨0, 0, 0, 0⟩)
abbrev st_is_mark : Stmt := topS 6
abbrev N_is_mark : List Str := ["thing", "sign"]
theorem sc_is_mark : FnScope N_is_mark ["thing"] (defScope st_is_mark) := ⟨rfl, rfl, rfl, by decide +kernel, rfl, by decide +kernel, by decide +kernel⟩

abbrev st_number_in : Stmt := topS 7
abbrev N_number_in : List Str := ["field", "found", "sign"]
theorem sc_number_in : FnScope N_number_in ["field"] (defScope st_number_in) := ⟨rfl, rfl, rfl, by decide +kernel, rfl, by decide +kernel, by decide +kernel⟩

abbrev st_fields_of : Stmt := topS 8
abbrev N_fields_of : List Str := ["thing", "at"]
theorem sc_fields_of : FnScope N_fields_of ["thing"] (defScope st_fields_of) := ⟨rfl, rfl, rfl, by decide +kernel, rfl, by decide +kernel, by decide +kernel⟩

abbrev st_fields_beside : Stmt := topS 10
abbrev N_fields_beside : List Str := ["view", "least", "own", "ends", "price", "told", "mark", "fields"]
theorem sc_fields_beside : FnScope N_fields_beside ["view", "least"] (defScope st_fields_beside) := ⟨rfl, rfl, rfl, by decide +kernel, rfl, by decide +kernel, by decide +kernel⟩

abbrev st_goes_up : Stmt := topS 11
abbrev N_goes_up : List Str := ["name", "own", "ends", "end"]
theorem sc_goes_up : FnScope N_goes_up ["name", "own", "ends"] (defScope st_goes_up) := ⟨rfl, rfl, rfl, by decide +kernel, rfl, by decide +kernel, by decide +kernel⟩

abbrev st_below : Stmt := topS 12
abbrev N_below : List Str := ["name", "own", "ends", "end"]
theorem sc_below : FnScope N_below ["name", "own", "ends"] (defScope st_below) := ⟨rfl, rfl, rfl, by decide +kernel, rfl, by decide +kernel, by decide +kernel⟩

abbrev st_threes_of : Stmt := topS 16
abbrev N_threes_of : List Str := ["fields", "at"]
theorem sc_threes_of : FnScope N_threes_of ["fields"] (defScope st_threes_of) := ⟨rfl, rfl, rfl, by decide +kernel, rfl, by decide +kernel, by decide +kernel⟩

abbrev st_are_threes_right : Stmt := topS 17
abbrev N_are_threes_right : List Str := ["name", "threes", "ends", "number", "end", "back", "three"]
theorem sc_are_threes_right : FnScope N_are_threes_right ["name", "threes", "ends"] (defScope st_are_threes_right) := ⟨rfl, rfl, rfl, by decide +kernel, rfl, by decide +kernel, by decide +kernel⟩

abbrev st_leaders_among : Stmt := topS 18
abbrev N_leaders_among : List Str := ["name", "threes", "three"]
theorem sc_leaders_among : FnScope N_leaders_among ["name", "threes"] (defScope st_leaders_among) := ⟨rfl, rfl, rfl, by decide +kernel, rfl, by decide +kernel, by decide +kernel⟩

abbrev st_says_ball : Stmt := topS 19
abbrev N_says_ball : List Str := ["view", "found", "name", "own", "ends", "threes", "under", "heads", "part", "fields", "end"]
theorem sc_says_ball : FnScope N_says_ball ["view"] (defScope st_says_ball) := ⟨rfl, rfl, rfl, by decide +kernel, rfl, by decide +kernel, by decide +kernel⟩

abbrev st_says : Stmt := topS 51
abbrev N_says : List Str := ["saying", "view", "plain"]
theorem sc_says : FnScope N_says ["saying", "view"] (defScope st_says) := ⟨rfl, rfl, rfl, by decide +kernel, rfl, by decide +kernel, by decide +kernel⟩

abbrev st_look_at_marks : Stmt := topS 53
abbrev N_look_at_marks : List Str := ["web", "thing", "name"]
theorem sc_look_at_marks : FnScope N_look_at_marks ["web", "thing"] (defScope st_look_at_marks) := ⟨rfl, rfl, rfl, by decide +kernel, rfl, by decide +kernel, by decide +kernel⟩

abbrev st_sight_of : Stmt := topS 54
abbrev N_sight_of : List Str := ["thing"]
theorem sc_sight_of : FnScope N_sight_of ["thing"] (defScope st_sight_of) := ⟨rfl, rfl, rfl, by decide +kernel, rfl, by decide +kernel, by decide +kernel⟩

abbrev st_view_of : Stmt := topS 55
abbrev N_view_of : List Str := ["web", "marks", "name", "badge", "ends", "beside", "other", "price", "told"]
theorem sc_view_of : FnScope N_view_of ["web", "marks", "name"] (defScope st_view_of) := ⟨rfl, rfl, rfl, by decide +kernel, rfl, by decide +kernel, by decide +kernel⟩

abbrev st_names_of : Stmt := topS 57
abbrev N_names_of : List Str := ["web"]
theorem sc_names_of : FnScope N_names_of ["web"] (defScope st_names_of) := ⟨rfl, rfl, rfl, by decide +kernel, rfl, by decide +kernel, by decide +kernel⟩

abbrev st_first_no : Stmt := topS 59
abbrev N_first_no : List Str := ["web", "saying", "marks", "name"]
theorem sc_first_no : FnScope N_first_no ["web", "saying", "marks"] (defScope st_first_no) := ⟨rfl, rfl, rfl, by decide +kernel, rfl, by decide +kernel, by decide +kernel⟩

abbrev st_law_cell_at : Stmt := topS 61
abbrev N_law_cell_at : List Str := ["_law_script", "_law_k"]
theorem sc_law_cell_at : FnScope N_law_cell_at ["_law_script", "_law_k"] (defScope st_law_cell_at) := ⟨rfl, rfl, rfl, by decide +kernel, rfl, by decide +kernel, by decide +kernel⟩

abbrev st_law_pool : Stmt := topS 62
abbrev N_law_pool : List Str := ["_law_script", "_law_k", "_law_cell", "_law_seed"]
theorem sc_law_pool : FnScope N_law_pool ["_law_script", "_law_k"] (defScope st_law_pool) := ⟨rfl, rfl, rfl, by decide +kernel, rfl, by decide +kernel, by decide +kernel⟩

abbrev st_law_take : Stmt := topS 63
abbrev N_law_take : List Str := ["_law_pool_here", "_law_many", "_law_found"]
theorem sc_law_take : FnScope N_law_take ["_law_pool_here", "_law_many"] (defScope st_law_take) := ⟨rfl, rfl, rfl, by decide +kernel, rfl, by decide +kernel, by decide +kernel⟩

abbrev st_law_names : Stmt := topS 64
abbrev N_law_names : List Str := ["_law_pool_here", "_law_many", "_law_start", "_law_step", "_law_k"]
theorem sc_law_names : FnScope N_law_names ["_law_pool_here", "_law_many"] (defScope st_law_names) := ⟨rfl, rfl, rfl, by decide +kernel, rfl, by decide +kernel, by decide +kernel⟩

abbrev st_law_link : Stmt := topS 65
abbrev N_law_link : List Str := ["_law_ends", "_law_pool_here", "_law_one", "_law_other", "_law_told_here", "_law_price"]
theorem sc_law_link : FnScope N_law_link ["_law_ends", "_law_pool_here", "_law_one", "_law_other", "_law_told_here"] (defScope st_law_link) := ⟨rfl, rfl, rfl, by decide +kernel, rfl, by decide +kernel, by decide +kernel⟩

abbrev st_law_told : Stmt := topS 66
abbrev N_law_told : List Str := ["_law_pool_here", "_law_way", "_law_amid", "_law_drawn_here"]
theorem sc_law_told : FnScope N_law_told ["_law_pool_here", "_law_way", "_law_amid"] (defScope st_law_told) := ⟨rfl, rfl, rfl, by decide +kernel, rfl, by decide +kernel, by decide +kernel⟩

abbrev st_law_web : Stmt := topS 67
abbrev N_law_web : List Str := ["_law_pool_here", "_law_most", "_law_more", "_law_many", "_law_way", "_law_names_here", "_law_ends", "_law_k", "_law_other", "_law_one", "_law_full", "_law_first", "_law_badges", "_law_found", "_law_name", "_law_badge", "_law_end"]
theorem sc_law_web : FnScope N_law_web ["_law_pool_here", "_law_most", "_law_more"] (defScope st_law_web) := ⟨rfl, rfl, rfl, by decide +kernel, rfl, by decide +kernel, by decide +kernel⟩

abbrev st_law_copy : Stmt := topS 68
abbrev N_law_copy : List Str := ["_law_web_here", "_law_name"]
theorem sc_law_copy : FnScope N_law_copy ["_law_web_here"] (defScope st_law_copy) := ⟨rfl, rfl, rfl, by decide +kernel, rfl, by decide +kernel, by decide +kernel⟩

abbrev st_law_ties : Stmt := topS 69
abbrev N_law_ties : List Str := ["_law_web_here", "_law_found", "_law_name", "_law_other", "_law_price", "_law_told_here"]
theorem sc_law_ties : FnScope N_law_ties ["_law_web_here"] (defScope st_law_ties) := ⟨rfl, rfl, rfl, by decide +kernel, rfl, by decide +kernel, by decide +kernel⟩

abbrev st_law_pairs : Stmt := topS 70
abbrev N_law_pairs : List Str := ["_law_web_here", "_law_found", "_law_name", "_law_end", "_law_other"]
theorem sc_law_pairs : FnScope N_law_pairs ["_law_web_here"] (defScope st_law_pairs) := ⟨rfl, rfl, rfl, by decide +kernel, rfl, by decide +kernel, by decide +kernel⟩

abbrev st_law_behind : Stmt := topS 71
abbrev N_law_behind : List Str := ["_law_web_here", "_law_pair", "_law_order", "_law_at", "_law_end"]
theorem sc_law_behind : FnScope N_law_behind ["_law_web_here", "_law_pair"] (defScope st_law_behind) := ⟨rfl, rfl, rfl, by decide +kernel, rfl, by decide +kernel, by decide +kernel⟩

abbrev st_law_faces : Stmt := topS 72
abbrev N_law_faces : List Str := ["_law_web_here", "_law_left", "_law_found", "_law_face", "_law_pair"]
theorem sc_law_faces : FnScope N_law_faces ["_law_web_here"] (defScope st_law_faces) := ⟨rfl, rfl, rfl, by decide +kernel, rfl, by decide +kernel, by decide +kernel⟩

abbrev st_law_mark : Stmt := topS 73
abbrev N_law_mark : List Str := ["_law_numbers", "_law_found", "_law_number", "_law_k"]
theorem sc_law_mark : FnScope N_law_mark ["_law_numbers"] (defScope st_law_mark) := ⟨rfl, rfl, rfl, by decide +kernel, rfl, by decide +kernel, by decide +kernel⟩

abbrev st_law_grown : Stmt := topS 74
abbrev N_law_grown : List Str := ["_law_web_here", "_law_root", "_law_found", "_law_row", "_law_turn", "_law_name", "_law_end"]
theorem sc_law_grown : FnScope N_law_grown ["_law_web_here", "_law_root"] (defScope st_law_grown) := ⟨rfl, rfl, rfl, by decide +kernel, rfl, by decide +kernel, by decide +kernel⟩

abbrev st_law_tie : Stmt := topS 75
abbrev N_law_tie : List Str := ["_law_web_here", "_law_one", "_law_other", "_law_name", "_law_price", "_law_told_here"]
theorem sc_law_tie : FnScope N_law_tie ["_law_web_here", "_law_one", "_law_other"] (defScope st_law_tie) := ⟨rfl, rfl, rfl, by decide +kernel, rfl, by decide +kernel, by decide +kernel⟩

abbrev st_law_can : Stmt := topS 76
abbrev N_law_can : List Str := ["_law_web_here", "_law_four", "_law_a", "_law_b", "_law_c", "_law_d"]
theorem sc_law_can : FnScope N_law_can ["_law_web_here", "_law_four"] (defScope st_law_can) := ⟨rfl, rfl, rfl, by decide +kernel, rfl, by decide +kernel, by decide +kernel⟩

abbrev st_law_crossed : Stmt := topS 77
abbrev N_law_crossed : List Str := ["_law_web_here", "_law_four", "_law_a", "_law_b", "_law_c", "_law_d", "_law_turned", "_law_found", "_law_name", "_law_ends", "_law_end"]
theorem sc_law_crossed : FnScope N_law_crossed ["_law_web_here", "_law_four"] (defScope st_law_crossed) := ⟨rfl, rfl, rfl, by decide +kernel, rfl, by decide +kernel, by decide +kernel⟩

abbrev st_law_both_ways : Stmt := topS 78
abbrev N_law_both_ways : List Str := ["_law_web_here", "_law_found", "_law_name", "_law_end", "_law_other"]
theorem sc_law_both_ways : FnScope N_law_both_ways ["_law_web_here"] (defScope st_law_both_ways) := ⟨rfl, rfl, rfl, by decide +kernel, rfl, by decide +kernel, by decide +kernel⟩

abbrev st_law_parts_of : Stmt := topS 79
abbrev N_law_parts_of : List Str := ["_law_web_here", "_law_left", "_law_found", "_law_row", "_law_turn", "_law_name", "_law_end"]
theorem sc_law_parts_of : FnScope N_law_parts_of ["_law_web_here"] (defScope st_law_parts_of) := ⟨rfl, rfl, rfl, by decide +kernel, rfl, by decide +kernel, by decide +kernel⟩

abbrev st_law_labels : Stmt := topS 80
abbrev N_law_labels : List Str := ["_law_web_here", "_law_way", "_law_faces_here", "_law_labels_here", "_law_number", "_law_face", "_law_k", "_law_pair"]
theorem sc_law_labels : FnScope N_law_labels ["_law_web_here", "_law_way"] (defScope st_law_labels) := ⟨rfl, rfl, rfl, by decide +kernel, rfl, by decide +kernel, by decide +kernel⟩

abbrev st_law_root_parts : Stmt := topS 81
abbrev N_law_root_parts : List Str := ["_law_web_here", "_law_first", "_law_second", "_law_one", "_law_other", "_law_found", "_law_name"]
theorem sc_law_root_parts : FnScope N_law_root_parts ["_law_web_here", "_law_first", "_law_second"] (defScope st_law_root_parts) := ⟨rfl, rfl, rfl, by decide +kernel, rfl, by decide +kernel, by decide +kernel⟩

abbrev st_law_sums_of : Stmt := topS 82
abbrev N_law_sums_of : List Str := ["_law_way", "_law_numbers", "_law_found", "_law_far", "_law_name"]
theorem sc_law_sums_of : FnScope N_law_sums_of ["_law_way", "_law_numbers"] (defScope st_law_sums_of) := ⟨rfl, rfl, rfl, by decide +kernel, rfl, by decide +kernel, by decide +kernel⟩

abbrev st_law_rows : Stmt := topS 83
abbrev N_law_rows : List Str := ["_law_web_here", "_law_drawn_here", "_law_plan", "_law_names_here", "_law_first", "_law_second", "_law_way", "_law_labels_here", "_law_heads", "_law_name", "_law_own", "_law_ends", "_law_lacks", "_law_sums", "_law_rows_here", "_law_top", "_law_end", "_law_one"]
theorem sc_law_rows : FnScope N_law_rows ["_law_web_here", "_law_drawn_here", "_law_plan"] (defScope st_law_rows) := ⟨rfl, rfl, rfl, by decide +kernel, rfl, by decide +kernel, by decide +kernel⟩

abbrev st_law_spoilt : Stmt := topS 84
abbrev N_law_spoilt : List Str := ["_law_rows_here", "_law_pool_here", "_law_names_here", "_law_turn", "_law_name", "_law_row", "_law_at", "_law_other", "_law_some"]
theorem sc_law_spoilt : FnScope N_law_spoilt ["_law_rows_here", "_law_pool_here"] (defScope st_law_spoilt) := ⟨rfl, rfl, rfl, by decide +kernel, rfl, by decide +kernel, by decide +kernel⟩

abbrev st_law_digits : Stmt := topS 85
abbrev N_law_digits : List Str := ["_law_web_here", "_law_pool_here", "_law_rows_here", "_law_name", "_law_k"]
theorem sc_law_digits : FnScope N_law_digits ["_law_web_here", "_law_pool_here"] (defScope st_law_digits) := ⟨rfl, rfl, rfl, by decide +kernel, rfl, by decide +kernel, by decide +kernel⟩

abbrev st_law_threes : Stmt := topS 86
abbrev N_law_threes : List Str := ["_law_fields", "_law_at"]
theorem sc_law_threes : FnScope N_law_threes ["_law_fields"] (defScope st_law_threes) := ⟨rfl, rfl, rfl, by decide +kernel, rfl, by decide +kernel, by decide +kernel⟩

abbrev st_law_goes_up : Stmt := topS 87
abbrev N_law_goes_up : List Str := ["_law_name", "_law_own", "_law_beside", "_law_ups", "_law_row"]
theorem sc_law_goes_up : FnScope N_law_goes_up ["_law_name", "_law_own", "_law_beside"] (defScope st_law_goes_up) := ⟨rfl, rfl, rfl, by decide +kernel, rfl, by decide +kernel, by decide +kernel⟩

abbrev st_law_follow : Stmt := topS 88
abbrev N_law_follow : List Str := ["_law_name", "_law_threes_here", "_law_beside", "_law_names_here", "_law_k", "_law_told_here", "_law_row", "_law_three"]
theorem sc_law_follow : FnScope N_law_follow ["_law_name", "_law_threes_here", "_law_beside"] (defScope st_law_follow) := ⟨rfl, rfl, rfl, by decide +kernel, rfl, by decide +kernel, by decide +kernel⟩

abbrev st_law_says : Stmt := topS 89
abbrev N_law_says : List Str := ["_law_web_here", "_law_name", "_law_rows_here", "_law_own", "_law_beside", "_law_threes_here", "_law_under", "_law_heads", "_law_due", "_law_part", "_law_end", "_law_row", "_law_three"]
theorem sc_law_says : FnScope N_law_says ["_law_web_here", "_law_name", "_law_rows_here"] (defScope st_law_says) := ⟨rfl, rfl, rfl, by decide +kernel, rfl, by decide +kernel, by decide +kernel⟩

abbrev st_law_is_flat : Stmt := topS 90
abbrev N_law_is_flat : List Str := ["_law_web_here"]
theorem sc_law_is_flat : FnScope N_law_is_flat ["_law_web_here"] (defScope st_law_is_flat) := ⟨rfl, rfl, rfl, by decide +kernel, rfl, by decide +kernel, by decide +kernel⟩

abbrev st_law_right : Stmt := topS 91
abbrev N_law_right : List Str := ["_law_web_here", "_law_rows_here", "_law_marks", "_law_handed", "_law_no", "_law_name"]
theorem sc_law_right : FnScope N_law_right ["_law_web_here", "_law_rows_here"] (defScope st_law_right) := ⟨rfl, rfl, rfl, by decide +kernel, rfl, by decide +kernel, by decide +kernel⟩

abbrev st_law_crossed_right : Stmt := topS 92
abbrev N_law_crossed_right : List Str := ["_law_web_here", "_law_rows_here", "_law_pool_here", "_law_ties_here", "_law_turn", "_law_four", "_law_later", "_law_names_here", "_law_name"]
theorem sc_law_crossed_right : FnScope N_law_crossed_right ["_law_web_here", "_law_rows_here", "_law_pool_here"] (defScope st_law_crossed_right) := ⟨rfl, rfl, rfl, by decide +kernel, rfl, by decide +kernel, by decide +kernel⟩

abbrev st_law_drawn : Stmt := topS 93
abbrev N_law_drawn : List Str := ["_law_web_here", "_law_pool_here", "_law_name", "_law_ends", "_law_found"]
theorem sc_law_drawn : FnScope N_law_drawn ["_law_web_here", "_law_pool_here"] (defScope st_law_drawn) := ⟨rfl, rfl, rfl, by decide +kernel, rfl, by decide +kernel, by decide +kernel⟩

abbrev st_law : Stmt := topS 94
abbrev N_law : List Str := ["_law_script", "_law_k", "_law_pool_here", "_law_web_here", "_law_turn", "_law_drawn_here", "_law_plan", "_law_rows_here", "_law_plain", "_law_no", "_law_many", "_law_name"]
theorem sc_law : FnScope N_law ["_law_script"] (defScope st_law) := ⟨rfl, rfl, rfl, by decide +kernel, rfl, by decide +kernel, by decide +kernel⟩

/-- the names that are the language's own -/
structure Blt (mg : Str → Option Value) : Prop where
  len : mg "len" = none
  sum : mg "sum" = none
  sorted : mg "sorted" = none
  max : mg "max" = none
  min : mg "min" = none
  isinstance : mg "isinstance" = none
  dict : mg "dict" = none
  list : mg "list" = none
  tuple : mg "tuple" = none
  set : mg "set" = none
  int : mg "int" = none
  str : mg "str" = none
  bool : mg "bool" = none
  range : mg "range" = none
  enumerate : mg "enumerate" = none
  c_LONGEST : ∃ t, mg "LONGEST" = some (.int 9000 t)
  c_WIDE : ∃ t, mg "WIDE" = some (.int 12 t)
  c_HEAD : ∃ t, mg "HEAD" = some (.int 7 t)
end Bs
namespace Bs
open PySem L2
/-! ### ranges by steps -/
theorem rg3_size {a b c : Nat} (hc : 0 < c) : Builtin.Range.rangeSize (a : Int) (b : Int) (c : Int) = (((b - a + (c - 1)) / c : Nat) : Int) := by
  unfold Builtin.Range.rangeSize
  rw [if_pos (by omega)]
  by_cases h : a < b
  · rw [if_pos (by omega)]
    have e : (b - a + (c - 1)) / c = (b - a - 1) / c + 1 := by
      rw [show b - a + (c - 1) = (b - a - 1) + c by omega, Nat.add_div_right _ hc]
    rw [e]
    have e2 : (b : Int) - a - 1 = ((b - a - 1 : Nat) : Int) := by omega
    rw [e2]
    rfl
  · rw [if_neg (by omega)]
    rw [show b - a + (c - 1) = c - 1 by omega, Nat.div_eq_of_lt (by omega)]
    rfl
theorem fitsL {x : Int} (h : -1000000 ≤ x ∧ x ≤ 1000000) : Builtin.Range.rangeFitsLong x = true := by
  unfold Builtin.Range.rangeFitsLong
  simp
  omega
theorem rg3 {a b c : Nat} (hc : 0 < c) (h3 : c ≤ 1000) (ha : a ≤ 100000) (hb : b ≤ 100000) : RgC (a : Int) (b : Int) (c : Int) ((b - a + (c - 1)) / c) := by
  refine ⟨by omega, by omega, ?_, rg3_size hc⟩
  have hn : (b - a + (c - 1)) / c ≤ b - a + (c - 1) := Nat.div_le_self _ _
  unfold Builtin.Range.small
  rw [rg3_size hc]
  generalize (b - a + (c - 1)) / c = n at hn
  rw [fitsL (by omega), fitsL (by omega), fitsL (by omega), fitsL (by omega), if_pos (by omega), fitsL (by omega)]
  simp
/-! ### dicts as lists of pairs -/
section
variable {κ κ' α β : Type} [DecidableEq κ] [DecidableEq κ']
def lk (m : List (κ × α)) (k : κ) : Option α := (m.find? fun p => decide (p.1 = k)).map (·.2)
def pt (m : List (κ × α)) (k : κ) (v : α) : List (κ × α) := if (m.any fun p => decide (p.1 = k)) = true then m.map (fun p => if p.1 = k then (p.1, v) else p) else m ++ [(k, v)]
theorem lk_cons_pos {p : κ × α} {m : List (κ × α)} {k : κ} (h : p.1 = k) : lk (p :: m) k = some p.2 := by simp [lk, List.find?_cons, h]
theorem lk_cons_neg {p : κ × α} {m : List (κ × α)} {k : κ} (h : ¬ p.1 = k) : lk (p :: m) k = lk m k := by simp [lk, List.find?_cons, h]
theorem lk_some {m : List (κ × α)} {k : κ} {v : α} (h : lk m k = some v) : (k, v) ∈ m := by
  induction m with
  | nil => cases h
  | cons p m ih =>
    by_cases e : p.1 = k
    · rw [lk_cons_pos e] at h
      cases h
      rw [← e]; exact List.mem_cons_self
    · rw [lk_cons_neg e] at h
      exact List.mem_cons_of_mem _ (ih h)
theorem lk_none {m : List (κ × α)} {k : κ} : lk m k = none ↔ k ∉ m.map (·.1) := by
  induction m with
  | nil => simp [lk]
  | cons p m ih =>
    by_cases e : p.1 = k
    · rw [lk_cons_pos e]; simp [e]
    · rw [lk_cons_neg e, ih, List.map_cons, List.mem_cons, not_or]
      exact ⟨fun h => ⟨fun z => e z.symm, h⟩, fun h => h.2⟩
theorem lk_isSome {m : List (κ × α)} {k : κ} : (lk m k).isSome = true ↔ k ∈ m.map (·.1) := by
  have h := lk_none (m := m) (k := k)
  cases e : lk m k with
  | none => simp [h.mp e]
  | some v =>
    simp only [Option.isSome_some, true_iff]
    refine Decidable.byContradiction fun z => ?_
    rw [h.mpr z] at e; cases e
theorem lk_mem {m : List (κ × α)} {k : κ} {v : α} (nd : (m.map (·.1)).Nodup) (h : (k, v) ∈ m) : lk m k = some v := by
  induction m with
  | nil => cases h
  | cons p m ih =>
    rw [List.map_cons, List.nodup_cons] at nd
    rcases List.mem_cons.mp h with rfl | h
    · exact lk_cons_pos rfl
    · have e : ¬ p.1 = k := fun z => nd.1 (z ▸ List.mem_map.mpr ⟨_, h, rfl⟩)
      rw [lk_cons_neg e]; exact ih nd.2 h
theorem any_keys (m : List (κ × α)) (k : κ) : (m.any fun p => decide (p.1 = k)) = decide (k ∈ m.map (·.1)) := by
  rw [Bool.eq_iff_iff]
  simp only [List.any_eq_true, decide_eq_true_eq, List.mem_map]
theorem pt_keys (m : List (κ × α)) (k : κ) (v : α) : (pt m k v).map (·.1) = if k ∈ m.map (·.1) then m.map (·.1) else m.map (·.1) ++ [k] := by
  unfold pt
  rw [any_keys]
  by_cases h : k ∈ m.map (·.1)
  · rw [decide_eq_true h, if_pos rfl, if_pos h, List.map_map]
    refine List.map_congr_left fun p _ => ?_
    show (if p.1 = k then (p.1, v) else p).1 = p.1
    split <;> rfl
  · rw [decide_eq_false h, if_neg Bool.false_ne_true, if_neg h, List.map_append]; rfl
theorem lk_pt (m : List (κ × α)) (k : κ) (v : α) (j : κ) : lk (pt m k v) j = if j = k then some v else lk m j := by
  unfold pt
  rw [any_keys]
  by_cases h : k ∈ m.map (·.1)
  · rw [decide_eq_true h, if_pos rfl]
    induction m with
    | nil => simp at h
    | cons p m ih =>
      by_cases e : p.1 = k
      · by_cases ej : j = k
        · rw [List.map_cons, lk_cons_pos (by rw [if_pos e]; exact e.trans ej.symm), if_pos ej, if_pos e]
        · rw [List.map_cons, lk_cons_neg (by rw [if_pos e]; exact fun z => ej (z.symm.trans e)), lk_cons_neg (fun z => ej (z.symm.trans e)), if_neg ej]
          by_cases hm : k ∈ m.map (·.1)
          · rw [ih hm, if_neg ej]
          · have : m.map (fun p => if p.1 = k then (p.1, v) else p) = m := by
              conv => rhs; rw [← List.map_id m]
              refine List.map_congr_left fun p hp => ?_
              rw [if_neg (fun z : p.1 = k => hm (z ▸ List.mem_map.mpr ⟨p, hp, rfl⟩))]; rfl
            rw [this]
      · have hm : k ∈ m.map (·.1) := by
          rcases List.mem_cons.mp h with z | z
          · exact absurd z.symm e
          · exact z
        by_cases ej : p.1 = j
        · rw [List.map_cons, if_neg e, lk_cons_pos ej, lk_cons_pos ej, if_neg (fun z => e (ej.trans z))]
        · rw [List.map_cons, if_neg e, lk_cons_neg ej, lk_cons_neg ej, ih hm]
  · rw [decide_eq_false h, if_neg Bool.false_ne_true]
    induction m with
    | nil =>
      by_cases ej : j = k
      · rw [if_pos ej]; exact lk_cons_pos ej.symm
      · rw [if_neg ej]; exact lk_cons_neg fun z => ej z.symm
    | cons p m ih =>
      rw [List.map_cons, List.mem_cons, not_or] at h
      by_cases ej : p.1 = j
      · rw [List.cons_append, lk_cons_pos ej, lk_cons_pos ej, if_neg (fun z => h.1 (z.symm.trans ej.symm))]
      · rw [List.cons_append, lk_cons_neg ej, lk_cons_neg ej, ih h.2]
/-! as data -/
variable {f : κ → κ'} {e : α → D}
theorem has_map (hf : ∀ a b, f a = f b → a = b) (m : List (κ × α)) (k : κ) : hasD (m.map fun p => f p.1) (f k) = decide (k ∈ m.map (·.1)) := by
  rw [← any_keys]
  unfold hasD
  rw [List.any_map]
  congr 1
  funext p
  show decide (f p.1 = f k) = decide (p.1 = k)
  rw [Bool.eq_iff_iff]
  simp only [decide_eq_true_eq]
  exact ⟨hf _ _, fun z => by rw [z]⟩
theorem get_map (hf : ∀ a b, f a = f b → a = b) (m : List (κ × α)) (k : κ) : getD (m.map fun p => f p.1) (m.map fun p => e p.2) (f k) = (lk m k).map e := by
  induction m with
  | nil => rfl
  | cons p m ih =>
    unfold getD at ih ⊢
    rw [List.map_cons, List.map_cons, List.zip_cons_cons, List.find?_cons]
    by_cases h : p.1 = k
    · rw [decide_eq_true (by rw [h] : f p.1 = f k), lk_cons_pos h]; rfl
    · rw [decide_eq_false (fun z => h (hf _ _ z)), lk_cons_neg h]; exact ih
theorem putKs_map (hf : ∀ a b, f a = f b → a = b) (m : List (κ × α)) (k : κ) (v : α) : putKs (m.map fun p => f p.1) (f k) = (pt m k v).map fun p => f p.1 := by
  unfold putKs pt
  rw [has_map hf, any_keys]
  by_cases h : k ∈ m.map (·.1)
  · rw [decide_eq_true h, if_pos rfl, if_pos rfl, List.map_map]
    refine List.map_congr_left fun p _ => ?_
    show f p.1 = f (if p.1 = k then (p.1, v) else p).1
    split <;> rfl
  · rw [decide_eq_false h, if_neg Bool.false_ne_true, if_neg Bool.false_ne_true, List.map_append]; rfl
theorem putDs_map (hf : ∀ a b, f a = f b → a = b) (m : List (κ × α)) (k : κ) (v : α) : putDs (m.map fun p => f p.1) (m.map fun p => e p.2) (f k) (e v) = (pt m k v).map fun p => e p.2 := by
  unfold putDs pt
  rw [has_map hf, any_keys]
  by_cases h : k ∈ m.map (·.1)
  · rw [decide_eq_true h, if_pos rfl, if_pos rfl, List.map_map, List.zip_map', List.map_map]
    refine List.map_congr_left fun p _ => ?_
    show (if f p.1 = f k then e v else e p.2) = e (if p.1 = k then (p.1, v) else p).2
    by_cases z : p.1 = k
    · rw [if_pos (by rw [z]), if_pos z]
    · rw [if_neg (fun y => z (hf _ _ y)), if_neg z]
  · rw [decide_eq_false h, if_neg Bool.false_ne_true, if_neg Bool.false_ne_true, List.map_append]; rfl
end
theorem inl_inj (a b : Int) (h : (Sum.inl a : Key) = Sum.inl b) : a = b := Sum.inl.inj h
/-- a dict of whole-number keys -/
abbrev dM {α : Type} (e : α → D) (m : List (Int × α)) : D := .dik (m.map fun p => Sum.inl p.1) (m.map fun p => e p.2)
theorem keys_kD {α : Type} (m : List (Int × α)) : (m.map fun p => (Sum.inl p.1 : Key)).map kD = m.map fun p => D.int p.1 := by rw [List.map_map]; rfl
section
variable {K : PySem.W.Frag} {ρ : List Cell} {te ta tb : TE} {d : D} {i : Nat} {α : Type} {en : α → D}
theorem o_ixM {m : List (Int × α)} {k : Int} {v : α} (h : lk m k = some v) : OpD K (rIxA K) (dM en m) (.int k) (en v) := o_ixK (k := .inl k) rfl (by rw [get_map inl_inj, h]; rfl)
theorem o_inM {m : List (Int × α)} {k : Int} : OpD K (rInA K) (.int k) (dM en m) (.bl (decide (k ∈ m.map (·.1)))) := by
  have h := o_inK (K := K) (e := .int k) (ks := m.map fun p => Sum.inl p.1) (ds := m.map fun p => en p.2) (k := .inl k) rfl
  rw [has_map inl_inj] at h; exact h
theorem o_ninM {m : List (Int × α)} {k : Int} : OpD K (rNinA K) (.int k) (dM en m) (.bl (!decide (k ∈ m.map (·.1)))) := by
  have h := o_ninK (K := K) (e := .int k) (ks := m.map fun p => Sum.inl p.1) (ds := m.map fun p => en p.2) (k := .inl k) rfl
  rw [has_map inl_inj] at h; exact h
theorem e_ownM {m : List (Int × α)} {k : Int} {v : α} (hi : ρ[i]? = some (.own (dM en m))) (hb : EvD K tb ρ (.int k)) (h : lk m k = some v) : EvD K (tOp (rIxA K) (tVar i) tb) ρ (en v) :=
  e_ownK hi hb (k := .inl k) rfl (by rw [get_map inl_inj, h]; rfl)
theorem d_putM {m : List (Int × α)} {k : Int} {v : α} {E : EndsD} (h : ρ[i]? = some (.own (dM en m))) (he : EvD K te ρ (en v)) (hj : EvD K tb ρ (.int k)) (hl : m.length < 100000) (kk : E.nx (ρ.set i (.own (dM en (pt m k v))))) : Dos K (sDPut (tVar i) tb te) ρ E :=
  d_putK (key := .inl k) h he hj rfl (by rw [List.length_map]; exact hl) (by rw [putKs_map inl_inj m k v, putDs_map inl_inj]; exact kk)
theorem gd_putM {m : List (Int × α)} {k : Int} {P : D → Prop} {E : EndsD} (h : ρ[i]? = some (.own (dM en m))) (he : Ev K te ρ P) (hj : EvD K tb ρ (.int k)) (hl : m.length < 100000) (kk : ∀ d, P d → ∃ v, d = en v ∧ E.nx (ρ.set i (.own (dM en (pt m k v))))) : Dos K (sDPut (tVar i) tb te) ρ E :=
  gd_putK (key := .inl k) h he hj rfl (by rw [List.length_map]; exact hl) fun d pd => by
    obtain ⟨v, rfl, h⟩ := kk d pd
    rw [putKs_map inl_inj m k v, putDs_map inl_inj]; exact h
/-! ### the pool -/
theorem e_pool {c : Int} (hi : ρ[i]? = some .pool) (hc : c = 0 ∨ c = 1) : Ev K (tOp (rIxA K) (tVar i) (tC (.int c))) ρ (fun d => ∃ n : Int, d = .int n ∧ (c = 1 → 0 ≤ n ∧ n < 2147483647)) := fun B pp F H σ ok Q q => by
  obtain ⟨x, e, p, rfl, hp⟩ := ok.cell i _ hi
  obtain ⟨_, _, o, hH, a, s, rfl, h0, h1⟩ := ok.bse.pool p hp
  refine ⟨.ref p, e, .inl ⟨p, [.int a, .int s], c, .int (if c = 0 then a else s), rfl, rfl, SqL.of hH, ?_, q _ (.int (if c = 0 then a else s)) F H ok Gro.refl ⟨_, rfl, fun z => ?_⟩ rdi⟩⟩
  · rcases hc with rfl | rfl <;> rfl
  · subst z; exact ⟨h0, h1⟩
theorem OkE.pool {B : Hp} {pp : Option Addr} {F H : Hp} {σ : L2.St} {p : Addr} {o : HO} (ok : OkE K B pp F H σ ρ) (hp : pp = some p) (ho : PoolO o) : OkE K B pp F (upd H p o) σ ρ := by
  obtain ⟨hB, hF, _⟩ := ok.bse.pool p hp
  refine ok.back ⟨ok.bse.ext.put hF, fun a u e => ?_, fun q e => ?_⟩ Gro.refl
  · rw [upd_ne (ne_of_none e hB)]; exact ok.bse.base _ _ e
  · rw [hp] at e; cases e
    exact ⟨hB, hF, o, upd_same, ho⟩
theorem d_poolSet {c : Int} {P : D → Prop} {E : EndsD} (hi : ρ[i]? = some .pool) (hc : c = 0 ∨ c = 1) (he : Ev K te ρ P) (hP : ∀ d, P d → ∃ n : Int, d = .int n ∧ (c = 1 → 0 ≤ n ∧ n < 2147483647)) (k : E.nx ρ) : Dos K (tAsg te (gSub (tVar i) (tC (.int c)) rSetL)) ρ E := fun B pp F H σ DD ok x => by
  obtain ⟨Bp, l, ok1⟩ := ok.ex
  refine he Bp pp F H σ ok1 _ fun v d F1 H1 ok2 l2 pd rd => ?_
  obtain ⟨n, rfl, hn⟩ := hP d pd
  unfold Rdd at rd; subst rd
  obtain ⟨y, e, p, rfl, hp⟩ := ok2.cell i _ hi
  obtain ⟨hB, hF, o, hH, a, s, rfl, h0, h1⟩ := ok2.bse.pool p hp
  refine ⟨.ref p, e, p, [.int a, .int s], c, c.toNat, rfl, rfl, hH, ?_, ?_⟩
  · rcases hc with rfl | rfl <;> rfl
  · refine x.nx F1 _ σ ρ ⟨⟨Bp, l, ok2.pool hp ?_⟩, ok.free⟩ (Gro.base l l2) k
    rcases hc with rfl | rfl
    · exact ⟨n, s, rfl, h0, h1⟩
    · exact ⟨a, n, rfl, hn rfl⟩
end
end Bs
namespace Bs
open PySem L2
section
variable {K : PySem.W.Frag} {ρ : List Cell} {te ta tb : TE} {tl : TA} {d : D} {i : Nat} {C : Ctr} {E : XK} {cs : List Cell}
theorem e_callF (h : EvAD K tl ρ cs) (hc : ∀ P : Cell → Prop, P (.fro d) → C cs P) : EvD K (tCall (spC K C) [] E tl) ρ d := g_call h fun _ e => e ▸ hc _ ⟨d, .inl rfl, rfl⟩
theorem e_callO (h : EvAD K tl ρ cs) (hc : ∀ P : Cell → Prop, P (.own d) → C cs P) : EvD K (tCall (spC K C) [] E tl) ρ d := g_call h fun _ e => e ▸ hc _ ⟨d, .inr rfl, rfl⟩
theorem n_callO (h : EvAD K tl ρ cs) (hc : ∀ P : Cell → Prop, P (.own d) → C cs P) : EvND K (tCall (spC K C) [] E tl) ρ d := gn_call h fun _ e => e ▸ hc _ ⟨d, rfl, rfl⟩
/-- isinstance -/
theorem c_isi {n : String} {t : Value} {b : Bool} (ht : ∀ F H x, Ext F H → Rdd K F d x → TyX K H x t) (hk : PySem.W.kitOne K t (.type n) = some b) : CbD K (rIsi K) [d, .typ n] (.bl b) := cbd_val fun F H xs ex r => by
  obtain ⟨x, y, rfl, r1, r2⟩ := rd2 r
  have hx := ht F H x ex r1
  unfold Rdd at r2; subst r2
  exact ⟨.bl b, fun Q q => ⟨x, .ty n, t, .type n, b, rfl, .ty n, hx, hk, q⟩, rdb⟩
theorem c_isiS {s : Str} {n : String} {b : Bool} (hk : kitB "str" n = some b) : CbD K (rIsi K) [.str s, .typ n] (.bl b) := c_isi (fun F H x _ r => by unfold Rdd at r; subst r; exact .base (.str s)) (kit_ty hk)
theorem c_isiI {j : Int} {n : String} {b : Bool} (hk : kitB "int" n = some b) : CbD K (rIsi K) [.int j, .typ n] (.bl b) := c_isi (fun F H x _ r => by unfold Rdd at r; subst r; exact .base (.int j)) (kit_ty hk)
theorem c_isiD {ks : List Key} {ds : List D} {n : String} {b : Bool} (hk : kitB "dict" n = some b) : CbD K (rIsi K) [.dik ks ds, .typ n] (.bl b) := c_isi (fun F H x ex r => by
  unfold Rdd at r
  obtain ⟨a, kvs, rfl, fa, _⟩ := r
  rcases ex a _ fa with h | ⟨⟨o, h⟩, _⟩
  · exact .base (.dK h)
  · exact .fDict h) (kit_ty hk)
theorem e_ty {n : String} : EvD K (tC (.ty n)) ρ (.typ n) := e_c fun F => by unfold Rdd; rfl
theorem atD {α : Type} {xs : List α} {z : Int} {j : Nat} {v : α} (e : z = (j : Int)) (h : xs[j]? = some v) : atI xs z = some v := by
  rw [e]; exact atI_nat h
/-- a field of a row -/
theorem at_row {row : Row} {j : Nat} {c : Int} (hc : c = (j : Int)) (h : j < row.length) : atI (row.map D.int) c = some (.int (g row j)) := atD hc (by rw [List.getElem?_map, g_get h]; rfl)
theorem e_row (j : Nat) {row : Row} {c : Int} (hc : c = (j : Int)) (hi : ρ[i]? = some (.fro (.lst (row.map .int)))) (h : j < row.length) : EvD K (tOp (rIxA K) (tVar i) (tC (.int c))) ρ (.int (g row j)) := e_op (e_v hi) e_i (o_ixL (at_row hc h))
/-- an item of a written tuple, a written list -/
theorem e_tat (j : Nat) {ds : List D} {c : Int} (hc : c = (j : Int)) (hi : ρ[i]? = some (.fro (.tup ds))) (h : ds[j]? = some d) : EvD K (tOp (rIxA K) (tVar i) (tC (.int c))) ρ d := e_op (e_v hi) e_i (o_ixT (atD hc h))
theorem e_lat (j : Nat) {ds : List D} {c : Int} (hc : c = (j : Int)) (hi : ρ[i]? = some (.fro (.lst ds))) (h : ds[j]? = some d) : EvD K (tOp (rIxA K) (tVar i) (tC (.int c))) ρ d := e_op (e_v hi) e_i (o_ixL (atD hc h))
end
theorem rng_get {n i : Nat} {α : Type} {f : Nat → α} {d : α} (h : ((List.range n).map f)[i]? = some d) : i < n ∧ d = f i := by
  rw [List.getElem?_map] at h
  by_cases hi : i < n
  · rw [List.getElem?_range hi] at h
    exact ⟨hi, (Option.some.inj h).symm⟩
  · rw [List.getElem?_eq_none (by rw [List.length_range]; omega)] at h
    cases h
theorem map_get {α β : Type} {xs : List α} {f : α → β} {i : Nat} {d : β} (h : (xs.map f)[i]? = some d) : ∃ x, xs[i]? = some x ∧ x ∈ xs ∧ d = f x := by
  rw [List.getElem?_map] at h
  obtain ⟨x, e, rfl⟩ := Option.map_eq_some_iff.mp h
  exact ⟨x, e, List.mem_of_getElem? e, rfl⟩
abbrev dI (row : Row) : D := .lst (row.map .int)
theorem dI_map {α : Type} (f : α → Int) (xs : List α) : D.lst (xs.map fun r => D.int (f r)) = dI (xs.map f) := by
  show D.lst _ = D.lst ((xs.map f).map D.int)
  rw [List.map_map]; rfl
abbrev dLL (rows : List Row) : D := .lst (rows.map dI)
theorem fl_dI (row : Row) : Fl 1 (dI row) := fl_ints row
theorem fl_dLL (rows : List Row) : Fl 2 (dLL rows) := fl_map fl_dI rows
/-- a mark -/
def mk (row : Row) : Str := ⟨(row.flatMap bits).toArray⟩
theorem mk_len (row : Row) : (mk row).length = 12 * row.length := by
  show (row.flatMap bits).toArray.size = _
  rw [List.size_toArray, flat_bits_len]
theorem mk_list (row : Row) : (mk row).cps.toList = row.flatMap bits := rfl
end Bs
namespace Bs
open PySem L2
/-! ### a call of a def that an expression gives -/
def tCallV (K : PySem.W.Frag) (f : Addr) (C : Ctr) (tf : TE) (t : TA) : TE := fun σ H Q => tf σ H fun x H1 => x = .ref f ∧ t σ H1 fun vs H2 => spC K C (vs ++ []) H2 Q E0
theorem pe_callV {X : Cx} {P : Program} {w : World} (K : PySem.W.Frag) {mg : Str → Option Value} {base : Heap} {C : Ctr} {fe e : Expr} {es : List Expr} {tf : TE} {t : TA} {pos : Pos} {j k : Nat} {f : Addr} {fd : FuncData} {ps : List Str} (hP : X.prog = P) (hw : X.w = w) (h : X.K = K) (hM : X.mg = mg) (hB : X.base = base)
    (hf : PE X fe tf) (F : FnOk P w K mg base CX0 k f fd ps (spC K C)) (kp : PySem.W.keepIn K (.ref f) = true) (b : Binds K fd ps []) (hr : Room j X.A) (ha : PA X (e :: es) t) (hk : k ≤ j := by decide)
    (he : starEach (e :: es) X.env = (false, eval e X.env) :: starEach es X.env := by rfl) (hpl : (backTo pos (starEach es X.env)).any (·.1) = false := by rfl)
    (hc : eval (.Call fe (e :: es) [] pos) X.env = (do callWith pos (← eval fe X.env) [] (backTo pos (starEach (e :: es) X.env)) (backToKw pos (keywordEach [] X.env))) := by rfl) : PE X (.Call fe (e :: es) [] pos) (tCallV K f C tf t) := by
  subst hP hw h hM hB
  refine ⟨fun pins s σ H Q I q => ?_⟩
  refine PyProof.Rows.Call_ (PySem.wpAny_mono (hf.run pins s σ H _ I q) (fun v s1 z => ?_) fun _ _ z => z) hc
  obtain ⟨x, H1, I1, r1, rfl, q1⟩ := z
  cases (show v = Value.ref f from r1)
  refine PySem.W.callWith_K (h₀ := X.base) I1.ok.mod.kin kp (PySem.wpAny_mono (ha.run pos pins s1 σ H1 _ I1 q1) (fun us s2 z => ?_) fun _ _ z => z) he hpl
  obtain ⟨vs, H2, I2, r, q2⟩ := z
  exact ⟨I2.kIn, run_fn F (hr.mono hk) b .nil pass0 I2 r q2⟩
section
variable {K : PySem.W.Frag} {ρ : List Cell} {te tf ta tb tk tv : TE} {tl : TA} {d : D} {i : Nat} {C : Ctr} {cs : List Cell}
theorem e_callV {f : Addr} (hf : EvD K tf ρ (.adr f)) (h : EvAD K tl ρ cs) (hc : ∀ P : Cell → Prop, P (.fro d) → C cs P) : EvD K (tCallV K f C tf tl) ρ d := fun B pp F H σ ok Q q =>
  hf B pp F H σ ok _ fun v e F1 H1 ok1 l1 pe re => by
    subst pe
    unfold Rdd at re
    exact ⟨re, e_callF (E := E0) h hc B pp F1 H1 σ ok1 Q fun v d F' H' ok' l pd rd => q v d F' H' ok' (l1.trans l) pd rd⟩
/-! ### displays of dicts -/
def EvPs (K : PySem.W.Frag) (trs : List (TE × TE)) (ρ : List Cell) (kds : List (Key × D)) : Prop := ∀ B pp F H σ, OkE K B pp F H σ ρ → ∀ Q : List (V × V) → Hp → Prop,
  (∀ (kvs : List (Key × V)) F' H', OkE K B pp F' H' σ ρ → Gro B F F' → kvs.map (·.1) = kds.map (·.1) → RdL K F' (kds.map (·.2)) (kvs.map (·.2)) → Q (kvs.map fun kv => (kV kv.1, kv.2)) H') → tPairs trs σ H Q
theorem ps_nil : EvPs K [] ρ [] := fun B pp F H σ ok Q q => q [] F H ok Gro.refl rfl RdL.nil
theorem ps_cons {trs : List (TE × TE)} {kds : List (Key × D)} {e : D} {k : Key} (hk : EvD K tk ρ e) (he : keyD e = some k) (hv : EvD K tv ρ d) (hr : EvPs K trs ρ kds) : EvPs K ((tk, tv) :: trs) ρ ((k, d) :: kds) := fun B pp F H σ ok Q q =>
  hk B pp F H σ ok _ fun x e' F1 H1 ok1 l1 pe re => hv B pp F1 H1 σ ok1 _ fun y d' F2 H2 ok2 l2 pd rd => hr B pp F2 H2 σ ok2 _ fun kvs F3 H3 ok3 l3 h1 h2 => by
    subst pe; subst pd
    have ex := key_kV he re
    have := q ((k, y) :: kvs) F3 H3 ok3 ((l1.trans l2).trans l3) (by rw [List.map_cons, List.map_cons, h1]) (RdL.cons (Rdd.mono l3.le _ _ rd) h2)
    rw [ex]
    exact this
theorem merge_nd : ∀ (more kvs : List (Key × V)), ((kvs ++ more).map (·.1)).Nodup → mergeK kvs more = kvs ++ more
  | [], kvs, _ => by rw [List.append_nil]; rfl
  | p :: more, kvs, h => by
    have e : putK kvs p.1 p.2 = kvs ++ [p] := by
      have hn : p.1 ∉ kvs.map (·.1) := fun hm => by
        rw [List.map_append, List.map_cons] at h
        exact (List.nodup_append.mp h).2.2 _ hm _ List.mem_cons_self rfl
      unfold putK
      rw [if_neg]
      intro ha
      rw [List.any_eq_true] at ha
      obtain ⟨q, hq, e⟩ := ha
      exact hn (List.mem_map.mpr ⟨q, hq, of_decide_eq_true e⟩)
    show mergeK (putK kvs p.1 p.2) more = _
    rw [e, merge_nd more (kvs ++ [p]) (by rw [List.append_assoc]; exact h), List.append_assoc]
    rfl
theorem e_disp {trs : List (TE × TE)} {kds : List (Key × D)} (h : EvPs K trs ρ kds) (hl : kds.length ≤ 15) (nd : (kds.map (·.1)).Nodup) : EvND K (tDisp trs) ρ (.dik (kds.map (·.1)) (kds.map (·.2))) := fun B pp F H σ ok Q q p hp => by
  obtain ⟨ok1, hB, hP, hF⟩ := ok.fresh (o := .dK []) hp
  have ok2 := ok1.addB hB hP upd_same
  refine h _ pp F _ σ ok2 _ fun kvs F1 H1 ok3 l3 h1 h2 => ?_
  have hp1 : H1 p = some (.dK []) := ok3.bse.base _ _ upd_same
  have hF1 : F1 p = none := l3.nf p (by rw [upd_same]; exact Option.some_ne_none _) hF
  have lg : Gro B F F1 := Gro.base (Le.new hB) l3
  refine ⟨hp1, kvs, rfl, by have := congrArg List.length h1; rw [List.length_map, List.length_map] at this; omega, ?_⟩
  rw [merge_nd kvs [] (by rw [List.nil_append, h1]; exact nd), List.nil_append]
  have bs : Bse B pp F1 (upd H1 p (.dK kvs)) := by
    refine ⟨ok3.bse.ext.put hF1, fun a u e => ?_, fun r e => ?_⟩
    · rw [upd_ne (ne_of_none e hB)]
      exact ok3.bse.base _ _ (Le.new hB _ _ e)
    · obtain ⟨z1, z2, z3⟩ := ok3.bse.pool r e
      have n : r ≠ p := by rintro rfl; exact hP e
      rw [upd_ne n] at z1
      exact ⟨z1, z2, by rw [upd_ne n]; exact z3⟩
  exact q p _ _ F1 _ (ok.back bs lg) lg rfl hB hP hF1 upd_same ⟨kvs, rfl, h1, h2⟩
end
end Bs
namespace Bs
open PySem L2
/-! ### the one sorted list -/
def srt (ns : List Int) : List Int := ns.mergeSort (fun a b => decide (a ≤ b))
theorem srt_perm (ns : List Int) : (srt ns).Perm ns := List.mergeSort_perm _ _
theorem srt_pw (ns : List Int) : (srt ns).Pairwise (· ≤ ·) := by
  have h := List.pairwise_mergeSort (le := fun a b : Int => decide (a ≤ b)) (fun a b c h1 h2 => by simp only [decide_eq_true_eq] at *; omega) (fun a b => by simp only [Bool.or_eq_true, decide_eq_true_eq]; omega) ns
  exact h.imp fun h => of_decide_eq_true h
theorem srt_uniq {ms ns : List Int} (h1 : ms.Perm ns) (h2 : ms.Pairwise (· ≤ ·)) : ms = srt ns :=
  List.Perm.eq_of_pairwise (le := fun a b : Int => a ≤ b) (fun a b _ _ h h' => by omega) h2 (srt_pw ns) (h1.trans (srt_perm ns).symm)
/-! ### webs as data -/
abbrev Nd := Int × Int × Bool
abbrev Pl := Int × List Nd
abbrev Web := List (Int × Pl)
def eD (e : Nd) : D := .tup [.int e.1, .int e.2.1, .bl e.2.2]
def pD (p : Pl) : D := .tup [.int p.1, .lst (p.2.map eD)]
abbrev wD (W : Web) : D := dM pD W
section
variable {K : PySem.W.Frag} {ρ : List Cell} {te ta tb tk tv : TE} {tl : TA} {d : D} {i : Nat}
theorem c_srtM {α : Type} {en : α → D} {m : List (Int × α)} (hl : m.length < 64) : CbND K (rSrt K) [dM en m] (.lst ((srt (m.map (·.1))).map .int)) := fun B pp F H σ ρ xs ok r Q q => by
  have h := c_srtK (K := K) (ns := m.map (·.1)) (ds := m.map fun p => en p.2) (by rw [List.length_map]; exact hl)
  rw [List.map_map] at h
  refine h B pp F H σ ρ xs ok r Q fun p o d F' H' a b c => q p o d F' H' a b ?_
  obtain ⟨ms, rfl, h1, h2⟩ := c
  rw [srt_uniq h1 h2]
theorem c_srtL {ns : List Int} : CbND K (rSrt K) [.lst (ns.map .int)] (.lst ((srt ns).map .int)) := fun B pp F H σ ρ xs ok r Q q =>
  c_srtI B pp F H σ ρ xs ok r Q fun p o d F' H' a b c => q p o d F' H' a b (by obtain ⟨ms, rfl, h1, h2⟩ := c; rw [srt_uniq h1 h2])
theorem c_lenM {α : Type} {en : α → D} {m : List (Int × α)} : CbD K (rLenA K) [dM en m] (.int m.length) := by
  have h := c_lenK (K := K) (ks := m.map fun p => (Sum.inl p.1 : Key)) (ds := m.map fun p => en p.2)
  rw [List.length_map] at h; exact h
end
theorem lk_map {α β : Type} (h : Int → α → β) (m : List (Int × α)) (k : Int) : lk (m.map fun p => (p.1, h p.1 p.2)) k = (lk m k).map (h k) := by
  induction m with
  | nil => rfl
  | cons p m ih =>
    by_cases e : p.1 = k
    · rw [List.map_cons, lk_cons_pos (p := (p.1, h p.1 p.2)) e, lk_cons_pos (p := p) e]; subst e; rfl
    · rw [List.map_cons, lk_cons_neg (p := (p.1, h p.1 p.2)) e, lk_cons_neg (p := p) e, ih]
end Bs
namespace Bs
open PySem L2
section
variable {P : Program} {w : World} {K : PySem.W.Frag} {mg : Str → Option Value} {base : Heap}
def ctIsMark : Ctr := fun cs R => ∃ s : Str, cs = [.fro (.str s)] ∧ s.length ≤ 9000 ∧ (∀ c ∈ s.cps.toList, c = 48 ∨ c = 49) ∧ R (.fro (.bl true))
theorem ok_is_mark (Z : Blt mg) (T : Def K mg "is_mark" st_is_mark ["thing"]) : OkDef P w K mg base 1 "is_mark" ["thing"] ctIsMark := by
  refine ok_def (k := 0) (n := 1) T sc_is_mark rfl (by rintro cs P ⟨s, rfl, _⟩; rfl) fun f cdv A outer s H E hr hu1 hu => ?_
  obtain ⟨tL, h_LONGEST⟩ := Z.c_LONGEST
  refine ⟨_, (pss_cons (ps_if (PW.pt (pw_or (pt_not (pt_val (pe_callB (call_isiK' K rfl) (by rfl) Z.isinstance (by decide +kernel) (pa_cons (pv 0) (pa_cons (pe_bltn (v := .ty "str") (by rfl) Z.str (by decide +kernel) rfl) pa_nil))))) (pw_or1 (pt_cmpR op_gt (pe_callB (call_lenAK K rfl) (by rfl) Z.len (by decide +kernel) (pa_cons (pv 0) pa_nil)) (pe_glob (v := .int 9000) rfl h_LONGEST ⟨_, rfl⟩) (nomark _))))) (pss_one (ps_ret pe_bl)) pss_nil)
      (pss_cons (ps_for PassesOwn.never rfl (pi_str (pv 0)) (pg_name (i := 1) sc_is_mark.nd rfl (by first | exact Or.inl rfl | exact Or.inr rfl)) (pss_one (ps_if (pt_cmpR (op_ninA' K hu rfl) (pv 1) pe_str (by rfl)) (pss_one (ps_ret pe_bl)) pss_nil)))
      (pss_one (ps_ret pe_bl)))), ?_⟩
  rintro cs R ⟨s, rfl, hl, hc, hR⟩
  refine d_seq (d_if (b := false) ((t_or (t_not (t_B (e_cb (l_cons (e_v rfl) (l_cons e_ty l_nil)) (c_isiS (b := true) (by decide +kernel))))) fun _ => t_test (e_op (e_cb (l_cons (e_v rfl) l_nil) (c_lenS (by omega))) e_i o_gt)).to ?_) (fun e => nomatch e) fun _ => d_next ?_)
  · rw [decide_eq_false (by omega)]; rfl
  refine d_seq (d_for (i_str (e_v rfl)) (fun _ ρ => ∃ x, ρ = [.fro (.str s), x]) ⟨⟨_, rfl⟩, ?_, ?_⟩)
  · rintro i d ρ hd ⟨x, rfl⟩
    rw [List.getElem?_map] at hd
    obtain ⟨c, hc1, rfl⟩ := Option.map_eq_some_iff.mp hd
    have hcm := hc c (List.mem_of_getElem? hc1)
    refine ⟨_, _, g_name, d_if (b := false) ((t_test (e_op (e_v rfl) e_s o_ninS)).to ?_) (fun e => nomatch e) fun _ => d_next ⟨_, rfl⟩⟩
    rcases hcm with rfl | rfl <;> rfl
  · rintro ρ ⟨x, rfl⟩
    exact d_ret e_b hR
def ctNumber : Ctr := fun cs R => ∃ s : Str, cs = [.fro (.str s)] ∧ R (.fro (.int (nin s.cps.toList)))
theorem nin_snoc (l : List Nat) (c : Nat) : nin (l ++ [c]) = 2 * nin l + (if c = 49 then 1 else 0) := by unfold nin; rw [List.foldl_append]; rfl
theorem str1 (c : Nat) : decide ((⟨#[c]⟩ : Str) = ("1" : Str)) = decide (c = 49) := by
  rw [Bool.eq_iff_iff]
  simp only [decide_eq_true_eq]
  refine ⟨fun h => ?_, fun h => by subst h; rfl⟩
  have h2 : (⟨#[c]⟩ : Str).cps.toList = ("1" : Str).cps.toList := by rw [h]
  have h3 : [c] = [49] := h2
  exact (List.cons.inj h3).1
theorem ok_number_in (Z : Blt mg) (T : Def K mg "number_in" st_number_in ["field"]) : OkDef P w K mg base 1 "number_in" ["field"] ctNumber := by
  refine ok_def (k := 0) (n := 2) T sc_number_in rfl (by rintro cs P ⟨s, rfl, _⟩; rfl) fun f cdv A outer s H E hr hu1 hu => ?_
  refine ⟨_, (pss_cons (ps_set (i := 1) sc_number_in.nd rfl (by first | exact Or.inl rfl | exact Or.inr rfl) pe_int)
      (pss_cons (ps_for PassesOwn.never rfl (pi_str (pv 0)) (pg_name (i := 2) sc_number_in.nd rfl (by first | exact Or.inl rfl | exact Or.inr rfl)) (pss_one (ps_set (i := 1) sc_number_in.nd rfl (by first | exact Or.inl rfl | exact Or.inr rfl) (pe_op (op_addK K rfl) (pe_op op_mul pe_int (pv 1)) (pe_callTy call_int (by rfl) Z.int (by decide +kernel) (pa_cons (pe_cmpR (op_eqK K hr.units rfl) (pv 2) pe_str (nomark _)) pa_nil))))))
      (pss_one (ps_ret (pv 1))))), ?_⟩
  rintro cs R ⟨s, rfl, hR⟩
  refine d_seq (d_set e_i ?_)
  refine d_seq (d_for (i_str (e_v rfl)) (fun i ρ => ∃ x, ρ = [.fro (.str s), .fro (.int (nin (s.cps.toList.take i))), x]) ⟨⟨_, rfl⟩, ?_, ?_⟩)
  · rintro i d ρ hd ⟨x, rfl⟩
    rw [List.getElem?_map] at hd
    obtain ⟨c, hc1, rfl⟩ := Option.map_eq_some_iff.mp hd
    refine ⟨_, _, g_name, d_set (e_op (e_op e_i (e_v rfl) (o_mul (.inl (by decide)))) (e_cb (l_cons (e_op (e_v rfl) e_s o_eqs) l_nil) c_intB) o_add) ⟨.fro (.str ⟨#[c]⟩), ?_⟩⟩
    rw [List.take_add_one, hc1]
    show [_, _, _] = [_, _, _]
    rw [Option.toList_some, nin_snoc, str1]
    simp only [decide_eq_true_eq]
  · rintro ρ ⟨x, rfl⟩
    rw [List.take_of_length_le (by simp)]
    exact d_ret (e_v rfl) hR
theorem cutS_list (z : Str) (lo hi : Option Int) : (cutS z lo hi).cps.toList = cutD z.cps.toList lo hi := by
  unfold cutS cutD
  show List.take _ _ = _
  rw [Array.length_toList]; rfl
def ctFields : Ctr := fun cs R => ∃ row : Row, cs = [.fro (.str (mk row))] ∧ RowOk row ∧ row.length ≤ 700 ∧ R (.own (dI row))
theorem ok_fields_of (Z : Blt mg) (T : Def K mg "fields_of" st_fields_of ["thing"]) (D_is_mark : OkDef P w K mg base 1 "is_mark" ["thing"] ctIsMark) (D_number_in : OkDef P w K mg base 1 "number_in" ["field"] ctNumber) :
    OkDef P w K mg base 2 "fields_of" ["thing"] ctFields := by
  refine ok_def (k := 1) (n := 1) T sc_fields_of rfl (by rintro cs P ⟨s, rfl, _⟩; rfl) fun f cdv A outer s H E hr hu1 hu => ?_
  obtain ⟨tW, h_WIDE⟩ := Z.c_WIDE
  refine ⟨_, (pss_cons (ps_if (PW.pt (pw_or (pt_not (pt_val (pe_fnK K D_is_mark rfl rfl rfl rfl rfl hr (by rfl) (pa_cons (pv 0) pa_nil)))) (pw_or1 (pt_cmpR (op_neK K hr.units rfl) (pe_op op_modN (pe_callB (call_lenAK K rfl) (by rfl) Z.len (by decide +kernel) (pa_cons (pv 0) pa_nil)) (pe_glob (v := .int 12) rfl h_WIDE ⟨_, rfl⟩)) pe_int (nomark _))))) (pss_one (ps_ret pe_non)) pss_nil)
      (pss_one (ps_ret (pe_lc (own := [("at", 1)]) (g := (gName 1)) (tt := tYes) rfl sc_fields_of.nd (pi_range3 (by rfl) Z.range (pa_cons pe_int (pa_cons (pe_callB (call_lenAK K rfl) (by rfl) Z.len (by decide +kernel) (pa_cons (pv 0) pa_nil)) (pa_cons (pe_glob (v := .int 12) rfl h_WIDE ⟨_, rfl⟩) pa_nil)))) (blkOk_by (N := N_fields_of) (sc := defScope st_fields_of) (by decide +kernel)) (fun _ _ _ _ _ => (pg_name (i := 1) sc_fields_of.nd rfl (by first | exact Or.inl rfl | exact Or.inr rfl))) (fun _ _ _ _ _ => pts_nil) (fun _ _ _ _ _ => (pe_fnK K D_number_in rfl rfl rfl rfl rfl hr (by rfl) (pa_cons (pe_slice (sl_anyK K rfl) (pv 0) (po_some (pv 1)) (po_some (pe_op (op_addK K rfl) (pv 1) (pe_glob (v := .int 12) rfl h_WIDE ⟨_, rfl⟩)))) pa_nil))))))), ?_⟩
  rintro cs R ⟨row, rfl, hok, hl, hR⟩
  have hml := mk_len row
  refine d_seq (d_if (b := false) ((t_or (t_not (t_B (e_callF (a_cons (e_v rfl) a_nil) fun P h => ⟨mk row, rfl, by omega, fun c hc => flat_bits_mem hc, h⟩))) fun _ => t_test (e_op (e_op (e_cb (l_cons (e_v rfl) l_nil) (c_lenS (z := mk row) (by omega))) e_i (o_mod (by decide))) e_i o_nei)).to ?_) (fun e => nomatch e) fun _ => d_next ?_)
  · rw [hml]
    have e : ((12 * row.length : Nat) : Int).fmod 12 = 0 := by
      rw [Int.fmod_eq_emod_of_nonneg _ (by decide)]; omega
    rw [e]; rfl
  · refine gd_retN (EvNB.all fun B0 σ => c_lcM (xs := List.range row.length) (en := fun k => .int (0 + (k : Nat) * 12)) ?_ ?_ (fun k => .int (g row k)) (fun k => [.fro (.str (mk row)), .fro (.int (0 + (k : Nat) * 12))]) (fun k _ => g_name) fun k hk => ?_) ?_
    · have hr3 : RgC (0 : Int) ((mk row).length : Nat) 12 row.length := by
        have h := rg3 (a := 0) (b := 12 * row.length) (c := 12) (by decide) (by decide) (by decide) (by omega)
        rw [show (12 * row.length - 0 + (12 - 1)) / 12 = row.length by omega] at h
        rw [hml]; exact h
      exact i_rng3 (l_cons e_i (l_cons (e_cb (l_cons (e_v rfl) l_nil) (c_lenS (z := mk row) (by omega))) (l_cons e_i l_nil))) hr3 B0 σ
    · rw [List.length_range]; omega
    · have hk := List.mem_range.mp hk
      refine e_callF (a_cons (e_slS (e_v rfl) (s_some (e_v rfl)) (s_some (e_op (e_v rfl) e_i o_add)) (by omega)) a_nil) fun P h => ⟨_, rfl, ?_⟩
      have e := cut_nn (row.flatMap bits) (12 * k) (12 * k + 12)
      rw [Nat.add_sub_cancel_left, flat_bits_cut row k hk] at e
      have e1 : ((12 * k : Nat) : Int) = 0 + (k : Nat) * 12 := by omega
      have e2 : ((12 * k + 12 : Nat) : Int) = 0 + (k : Nat) * 12 + 12 := by omega
      rw [e1, e2] at e
      rw [cutS_list, mk_list, e, nin_bits (rowok_g hok k).1 (rowok_g hok k).2]
      exact h
    · rintro d rfl
      have e : (List.range row.length).map (fun k => D.int (g row k)) = row.map D.int := by
        conv => rhs; rw [← map_g row]
        rw [List.map_map]; rfl
      rw [e]; exact hR
end
end Bs
namespace Bs
open PySem L2
abbrev Bes := Int × Bool × Row
def bD (b : Bes) : D := .tup [.int b.1, .bl b.2.1, .str (mk b.2.2)]
def vD (name badge : Int) (row : Row) (bs : List Bes) : D := .tup [.int name, .int badge, .str (mk row), .lst (bs.map bD)]
def ROk (r : Row) : Prop := RowOk r ∧ r.length ≤ 700
section
variable {P : Program} {w : World} {K : PySem.W.Frag} {mg : Str → Option Value} {base : Heap}
def ctBeside : Ctr := fun cs R => ∃ (name badge : Int) (row : Row) (bs : List Bes) (least : Int), cs = [.fro (vD name badge row bs), .fro (.int least)] ∧ ROk row ∧ (∀ b ∈ bs, ROk b.2.2) ∧ bs.length ≤ 1000 ∧ least ≤ (row.length : Int) ∧ (∀ b ∈ bs, least ≤ (b.2.2.length : Int)) ∧
  R (.fro (.tup [dI row, dLL (bs.map fun b => b.2.2)]))
theorem ok_fields_beside (Z : Blt mg) (T : Def K mg "fields_beside" st_fields_beside ["view", "least"]) (D_fields_of : OkDef P w K mg base 2 "fields_of" ["thing"] ctFields) :
    OkDef P w K mg base 3 "fields_beside" ["view", "least"] ctBeside := by
  refine ok_def (k := 2) (n := 6) T sc_fields_beside rfl (by rintro cs P ⟨_, _, _, _, _, rfl, _⟩; rfl) fun f cdv A outer s H E hr hu1 hu => ?_
  refine ⟨_, (pss_cons (ps_set (i := 2) sc_fields_beside.nd rfl (by first | exact Or.inl rfl | exact Or.inr rfl) (pe_fnK K D_fields_of rfl rfl rfl rfl rfl hr (by rfl) (pa_cons (pe_ix (ix_anyK K hu1 rfl) (pv 0) pe_int (fun _ _ => rfl)) pa_nil)))
      (pss_cons (ps_if (PW.pt (pw_or (pt_cmpR op_is (pv 2) pe_non (nomark _)) (pw_or1 (pt_cmpR op_lt (pe_callB (call_lenAK K rfl) (by rfl) Z.len (by decide +kernel) (pa_cons (pv 2) pa_nil)) (pv 1) (nomark _))))) (pss_one (ps_ret pe_non)) pss_nil)
      (pss_cons (ps_set (i := 3) sc_fields_beside.nd rfl (by first | exact Or.inl rfl | exact Or.inr rfl) (pe_lst pa_nil))
      (pss_cons (ps_for PassesOwn.never rfl (pi_listK K rfl (pe_ix (ix_anyK K hu1 rfl) (pv 0) pe_int (fun _ _ => rfl))) (pg_tupK K rfl rfl (pgs_cons (pg_name (i := 4) sc_fields_beside.nd rfl (by first | exact Or.inl rfl | exact Or.inr rfl)) (pgs_cons (pg_name (i := 5) sc_fields_beside.nd rfl (by first | exact Or.inl rfl | exact Or.inr rfl)) (pgs_cons (pg_name (i := 6) sc_fields_beside.nd rfl (by first | exact Or.inl rfl | exact Or.inr rfl)) pgs_nil)))) (pss_cons (ps_set (i := 7) sc_fields_beside.nd rfl (by first | exact Or.inl rfl | exact Or.inr rfl) (pe_fnK K D_fields_of rfl rfl rfl rfl rfl hr (by rfl) (pa_cons (pv 6) pa_nil)))
      (pss_cons (ps_if (PW.pt (pw_or (pt_cmpR op_is (pv 7) pe_non (nomark _)) (pw_or1 (pt_cmpR op_lt (pe_callB (call_lenAK K rfl) (by rfl) Z.len (by decide +kernel) (pa_cons (pv 7) pa_nil)) (pv 1) (nomark _))))) (pss_one (ps_ret pe_non)) pss_nil)
      (pss_one (ps_expr (pe_app K rfl (pv 3) (pa_cons (pv 7) pa_nil)))))))
      (pss_one (ps_ret (pe_tup (pa_cons (pv 2) (pa_cons (pv 3) pa_nil))))))))), ?_⟩
  rintro cs R ⟨name, badge, row, bs, least, rfl, h1, h2, hl, h3, h4, hR⟩
  refine d_seq (d_set (e_callO (a_cons (e_tat 2 rfl rfl rfl) a_nil) fun P h => ⟨row, rfl, h1.1, h1.2, h⟩) ?_)
  refine d_seq (d_if (b := false) ((t_or (t_test (e_op (e_v rfl) e_n o_is)) fun _ => t_test (e_op (e_cb (l_cons (e_v rfl) l_nil) c_lenL) (e_v rfl) o_lt)).to ?_) (fun e => nomatch e) fun _ => d_next ?_)
  · rw [List.length_map, decide_eq_false (by omega)]; rfl
  refine d_seq (d_setN (e_lst l_nil) ?_)
  refine d_seq (d_for (i_listD (e_tat 3 rfl rfl rfl)) (fun i ρ => ∃ x4 x5 x6 x7, ρ = [.fro (vD name badge row bs), .fro (.int least), .fro (dI row), .own (.lst (((bs.take i).map fun b => b.2.2).map dI)), x4, x5, x6, x7]) ⟨⟨_, _, _, _, rfl⟩, ?_, ?_⟩)
  · rintro i d ρ hd ⟨x4, x5, x6, x7, rfl⟩
    rw [List.getElem?_map] at hd
    obtain ⟨b, hb, rfl⟩ := Option.map_eq_some_iff.mp hd
    have hm := List.mem_of_getElem? hb
    refine ⟨_, _, g_tupT (gs_cons g_name (gs_cons g_name (gs_cons g_name gs_nil))) rfl, ?_⟩
    refine d_seq (d_set (e_callO (a_cons (e_v rfl) a_nil) fun P h => ⟨b.2.2, rfl, (h2 b hm).1, (h2 b hm).2, h⟩) ?_)
    refine d_seq (d_if (b := false) ((t_or (t_test (e_op (e_v rfl) e_n o_is)) fun _ => t_test (e_op (e_cb (l_cons (e_v rfl) l_nil) c_lenL) (e_v rfl) o_lt)).to ?_) (fun e => nomatch e) fun _ => d_next ?_)
    · have := h4 b hm
      rw [List.length_map, decide_eq_false (by omega)]; rfl
    · refine d_app (xs := (((bs.take i).map fun b => b.2.2).map dI)) rfl (e_v rfl) ?_ ⟨.fro (.int b.1), .fro (.bl b.2.1), .fro (.str (mk b.2.2)), .fro (dI b.2.2), ?_⟩
      · rw [List.length_map, List.length_map, List.length_take]; omega
      · rw [List.take_add_one, hb, List.map_append, List.map_append]
        rfl
  · rintro ρ ⟨x4, x5, x6, x7, rfl⟩
    refine d_freeze (i := 3) rfl (d_ret (e_tup (l_cons (e_v rfl) (l_cons (e_v rfl) l_nil))) ?_)
    rw [List.length_map, List.take_length]
    exact hR
end
end Bs
namespace Bs
open PySem L2
theorem len_emp {α β : Type} (f : α → β) (xs : List α) : (xs.map f).isEmpty = xs.isEmpty := by cases xs <;> rfl
def tD (t : Row) : D := .tup (t.map .int)
theorem fl_tD (t : Row) : Fl 1 (tD t) := fl_tints t
section
variable {P : Program} {w : World} {K : PySem.W.Frag} {mg : Str → Option Value} {base : Heap}
def ctGoes : Ctr := fun cs R => ∃ (name : Int) (own : Row) (bs : List Row), cs = [.fro (.int name), .fro (dI own), .fro (dLL bs)] ∧ 4 ≤ own.length ∧ (∀ b ∈ bs, 4 ≤ b.length) ∧ bs.length ≤ 1000 ∧ R (.fro (.bl (guB name own bs)))
theorem ok_goes_up (Z : Blt mg) (T : Def K mg "goes_up" st_goes_up ["name", "own", "ends"]) : OkDef P w K mg base 1 "goes_up" ["name", "own", "ends"] ctGoes := by
  refine ok_def (k := 0) (n := 1) T sc_goes_up rfl (by rintro cs P ⟨_, _, _, rfl, _⟩; rfl) fun f cdv A outer s H E hr hu1 hu => ?_
  refine ⟨_, (pss_cons (ps_if (PW.pt (pw_or (pt_cmpR (op_neK K hr.units rfl) (pe_ix (ix_anyK K hu1 rfl) (pv 1) pe_int (fun _ _ => rfl)) (pv 0) (nomark _)) (pw_or1 (pt_cmpR (op_neK K hr.units rfl) (pe_lc (own := [("end", 3)]) (g := (gName 3)) rfl sc_goes_up.nd (pi_listK K rfl (pv 2)) (blkOk_by (N := N_goes_up) (sc := defScope st_goes_up) (by decide +kernel)) (fun _ _ _ _ _ => (pg_name (i := 3) sc_goes_up.nd rfl (by first | exact Or.inl rfl | exact Or.inr rfl))) (fun _ _ _ _ _ => (pts_one (pt_cmpR (op_neK K hr.units rfl) (pe_ix (ix_anyK K hu1 rfl) (pv 3) pe_int (fun _ _ => rfl)) (pe_ix (ix_anyK K hu1 rfl) (pv 1) pe_int (fun _ _ => rfl)) (nomark _)))) (fun _ _ _ _ _ => (pv 3))) (pe_lst pa_nil) (nomark _))))) (pss_one (ps_ret pe_bl)) pss_nil)
      (pss_cons (ps_if (pt_cmpR (op_eqK K hr.units rfl) (pe_ix (ix_anyK K hu1 rfl) (pv 1) pe_int (fun _ _ => rfl)) (pv 0) (nomark _)) (pss_one (ps_ret (pe_and (pe_cmpR (op_eqK K hr.units rfl) (pe_ix (ix_anyK K hu1 rfl) (pv 1) pe_int (fun _ _ => rfl)) pe_int (nomark _)) (pe_one (pe_cmpR (op_eqK K hr.units rfl) (pe_ix (ix_anyK K hu1 rfl) (pv 1) pe_int (fun _ _ => rfl)) (pv 0) (nomark _)))))) pss_nil)
      (pss_one (ps_ret (pe_and (pe_cmpR op_gt (pe_ix (ix_anyK K hu1 rfl) (pv 1) pe_int (fun _ _ => rfl)) pe_int (nomark _)) (pe_one (pe_cmpR (op_neK K hr.units rfl) (pe_lc (own := [("end", 3)]) (g := (gName 3)) rfl sc_goes_up.nd (pi_listK K rfl (pv 2)) (blkOk_by (N := N_goes_up) (sc := defScope st_goes_up) (by decide +kernel)) (fun _ _ _ _ _ => (pg_name (i := 3) sc_goes_up.nd rfl (by first | exact Or.inl rfl | exact Or.inr rfl))) (fun _ _ _ _ _ => (pts_one (PW.pt (pw_and (pt_cmpR (op_eqK K hr.units rfl) (pe_ix (ix_anyK K hu1 rfl) (pv 3) pe_int (fun _ _ => rfl)) (pe_ix (ix_anyK K hu1 rfl) (pv 1) pe_int (fun _ _ => rfl)) (nomark _)) (pw_and1 (pt_cmpR (op_eqK K hr.units rfl) (pe_ix (ix_anyK K hu1 rfl) (pv 3) pe_int (fun _ _ => rfl)) (pe_op op_sub (pe_ix (ix_anyK K hu1 rfl) (pv 1) pe_int (fun _ _ => rfl)) pe_int) (nomark _))))))) (fun _ _ _ _ _ => (pv 3))) (pe_lst pa_nil) (nomark _)))))))), ?_⟩
  rintro cs R ⟨name, own, bs, rfl, h1, h2, hl, hR⟩
  unfold guB at hR
  refine d_seq (d_if (b := !decide (g own 0 = name) || !(bs.filter fun r => !decide (g r 1 = g own 1)).isEmpty) ((t_or (t_test (e_op (e_row 0 rfl rfl (by omega)) (e_v rfl) o_nei)) fun _ => t_test (e_op
      (EvNB.all fun B0 σ => c_lcD (xs := bs) (en := dI) (i_listD (e_v rfl) B0 σ) (by omega) (fun r => !decide (g r 1 = g own 1)) dI (fun r => [.fro (.int name), .fro (dI own), .fro (dLL bs), .fro (dI r)]) (fun r _ => g_name)
        (fun r hr => t_test (e_op (e_row 1 rfl rfl (by have := h2 r hr; omega)) (e_row 1 rfl rfl (by omega)) o_nei)) fun r _ _ => e_v rfl).fz (e_lstF l_nil) (o_ne (fl_map fl_dI _) (fl_nil 0)))).to ?_) (fun hb => d_ret e_b ?_) fun hb => d_next ?_)
  · rw [eqD_lnil, len_emp]
  · rw [if_pos hb] at hR; exact hR
  rw [if_neg (by rw [hb]; exact Bool.false_ne_true)] at hR
  refine d_seq (d_if (t_test (e_op (e_row 1 rfl rfl (by omega)) (e_v rfl) o_eqi)) (fun hb => ?_) fun hb => d_next ?_)
  · rw [if_pos (of_decide_eq_true hb)] at hR
    exact d_ret (e_andV (e_op (e_row 2 rfl rfl (by omega)) e_i o_eqi) fun _ => e_op (e_row 3 rfl rfl (by omega)) (e_v rfl) o_eqi) hR
  · rw [if_neg (of_decide_eq_false hb)] at hR
    refine d_ret (e_andV (e_op (e_row 2 rfl rfl (by omega)) e_i o_gt) fun _ => e_op
      (EvNB.all fun B0 σ => c_lcD (xs := bs) (en := dI) (i_listD (e_v rfl) B0 σ) (by omega) (fun r => decide (g r 0 = g own 3) && decide (g r 2 = g own 2 - 1)) dI (fun r => [.fro (.int name), .fro (dI own), .fro (dLL bs), .fro (dI r)]) (fun r _ => g_name)
        (fun r hr => t_and (t_test (e_op (e_row 0 rfl rfl (by have := h2 r hr; omega)) (e_row 3 rfl rfl (by omega)) o_eqi)) fun _ => t_test (e_op (e_row 2 rfl rfl (by have := h2 r hr; omega)) (e_op (e_row 2 rfl rfl (by omega)) e_i o_sub) o_eqi)) fun r _ _ => e_v rfl).fz (e_lstF l_nil) (o_ne (fl_map fl_dI _) (fl_nil 0))) ?_
    rw [eqD_lnil, len_emp]
    exact hR
def ctBelow : Ctr := fun cs R => ∃ (name : Int) (own : Row) (bs : List Row), cs = [.fro (.int name), .fro (dI own), .fro (dLL bs)] ∧ 4 ≤ own.length ∧ (∀ b ∈ bs, 4 ≤ b.length) ∧ bs.length ≤ 1000 ∧ R (.own (dLL (belowL name own bs)))
theorem ok_below (Z : Blt mg) (T : Def K mg "below" st_below ["name", "own", "ends"]) : OkDef P w K mg base 1 "below" ["name", "own", "ends"] ctBelow := by
  refine ok_def (k := 0) (n := 1) T sc_below rfl (by rintro cs P ⟨_, _, _, rfl, _⟩; rfl) fun f cdv A outer s H E hr hu1 hu => ?_
  refine ⟨_, (pss_one (ps_ret (pe_lc (own := [("end", 3)]) (g := (gName 3)) rfl sc_below.nd (pi_listK K rfl (pv 2)) (blkOk_by (N := N_below) (sc := defScope st_below) (by decide +kernel)) (fun _ _ _ _ _ => (pg_name (i := 3) sc_below.nd rfl (by first | exact Or.inl rfl | exact Or.inr rfl))) (fun _ _ _ _ _ => (pts_one (PW.pt (pw_and (pt_cmpR (op_eqK K hr.units rfl) (pe_ix (ix_anyK K hu1 rfl) (pv 3) pe_int (fun _ _ => rfl)) (pv 0) (nomark _)) (pw_and1 (pt_cmpR (op_eqK K hr.units rfl) (pe_ix (ix_anyK K hu1 rfl) (pv 3) pe_int (fun _ _ => rfl)) (pe_op (op_addK K rfl) (pe_ix (ix_anyK K hu1 rfl) (pv 1) pe_int (fun _ _ => rfl)) pe_int) (nomark _))))))) (fun _ _ _ _ _ => (pv 3))))), ?_⟩
  rintro cs R ⟨name, own, bs, rfl, h1, h2, hl, hR⟩
  refine gd_retN (EvNB.all fun B0 σ => c_lcD (xs := bs) (en := dI) (i_listD (e_v rfl) B0 σ) (by omega) (fun r => decide (g r 3 = name) && decide (g r 2 = g own 2 + 1)) dI (fun r => [.fro (.int name), .fro (dI own), .fro (dLL bs), .fro (dI r)]) (fun r _ => g_name)
        (fun r hr => t_and (t_test (e_op (e_row 3 rfl rfl (by have := h2 r hr; omega)) (e_v rfl) o_eqi)) fun _ => t_test (e_op (e_row 2 rfl rfl (by have := h2 r hr; omega)) (e_op (e_row 2 rfl rfl (by omega)) e_i o_add) o_eqi)) fun r _ _ => e_v rfl) ?_
  rintro d rfl
  exact hR
theorem thr_cut (row : Row) : thr row = (List.range ((row.length - 7 + 2) / 3)).map fun k => cutD row (some (7 + (k : Nat) * 3)) (some (7 + (k : Nat) * 3 + 3)) := by
  unfold thr
  refine List.map_congr_left fun k _ => ?_
  have h := cut_nn row (7 + k * 3) (7 + k * 3 + 3)
  rw [Nat.add_sub_cancel_left] at h
  have e1 : ((7 + k * 3 : Nat) : Int) = 7 + (k : Nat) * 3 := by omega
  have e2 : ((7 + k * 3 + 3 : Nat) : Int) = 7 + (k : Nat) * 3 + 3 := by omega
  rw [e1, e2] at h
  rw [h, Nat.mul_comm]
def ctThreesOf : Ctr := fun cs R => ∃ row : Row, cs = [.fro (dI row)] ∧ row.length ≤ 1000 ∧ R (.own (.lst ((thr row).map tD)))
theorem ok_threes_of (Z : Blt mg) (T : Def K mg "threes_of" st_threes_of ["fields"]) : OkDef P w K mg base 1 "threes_of" ["fields"] ctThreesOf := by
  refine ok_def (k := 0) (n := 1) T sc_threes_of rfl (by rintro cs P ⟨row, rfl, _⟩; rfl) fun f cdv A outer s H E hr hu1 hu => ?_
  obtain ⟨tH, h_HEAD⟩ := Z.c_HEAD
  refine ⟨_, (pss_one (ps_ret (pe_lc (own := [("at", 1)]) (g := (gName 1)) (tt := tYes) rfl sc_threes_of.nd (pi_range3 (by rfl) Z.range (pa_cons (pe_glob (v := .int 7) rfl h_HEAD ⟨_, rfl⟩) (pa_cons (pe_callB (call_lenAK K rfl) (by rfl) Z.len (by decide +kernel) (pa_cons (pv 0) pa_nil)) (pa_cons pe_int pa_nil)))) (blkOk_by (N := N_threes_of) (sc := defScope st_threes_of) (by decide +kernel)) (fun _ _ _ _ _ => (pg_name (i := 1) sc_threes_of.nd rfl (by first | exact Or.inl rfl | exact Or.inr rfl))) (fun _ _ _ _ _ => pts_nil) (fun _ _ _ _ _ => (pe_callTy (call_tplK K rfl) (by rfl) Z.tuple (by decide +kernel) (pa_cons (pe_slice (sl_anyK K rfl) (pv 0) (po_some (pv 1)) (po_some (pe_op (op_addK K rfl) (pv 1) pe_int))) pa_nil)))))), ?_⟩
  rintro cs R ⟨row, rfl, hl, hR⟩
  refine gd_retN (EvNB.all fun B0 σ => c_lcM (xs := List.range ((row.length - 7 + 2) / 3)) (en := fun k => .int (7 + (k : Nat) * 3)) (i_rng3 (l_cons e_i (l_cons (e_cb (l_cons (e_v rfl) l_nil) c_lenL) (l_cons e_i l_nil))) ?_ B0 σ) ?_ (fun k => .tup (cutD (row.map D.int) (some (7 + (k : Nat) * 3)) (some (7 + (k : Nat) * 3 + 3)))) (fun k => [.fro (dI row), .fro (.int (7 + (k : Nat) * 3))]) (fun k _ => g_name) fun k _ => e_cb (l_cons (e_slL (e_v rfl) (s_some (e_v rfl)) (s_some (e_op (e_v rfl) e_i o_add))).fz l_nil) c_tupL) ?_
  · rw [List.length_map]
    exact rg3 (a := 7) (c := 3) (by decide) (by decide) (by decide) (by omega)
  · rw [List.length_range]; omega
  · rintro d rfl
    have e2 : (List.range ((row.length - 7 + 2) / 3)).map (fun k => D.tup (cutD (row.map D.int) (some (7 + (k : Nat) * 3)) (some (7 + (k : Nat) * 3 + 3)))) = (thr row).map tD := by
      rw [thr_cut, List.map_map]
      refine List.map_congr_left fun k _ => ?_
      show D.tup _ = D.tup _
      rw [cutD_map]
    rw [e2]
    exact hR
def ctLeaders : Ctr := fun cs R => ∃ (name : Int) (ts : List Row), cs = [.fro (.int name), .fro (.lst (ts.map tD))] ∧ (∀ t ∈ ts, t.length = 3) ∧ ts.length ≤ 1000 ∧ R (.fro (.int (leadL name ts)))
theorem ok_leaders_among (Z : Blt mg) (T : Def K mg "leaders_among" st_leaders_among ["name", "threes"]) : OkDef P w K mg base 1 "leaders_among" ["name", "threes"] ctLeaders := by
  refine ok_def (k := 0) (n := 1) T sc_leaders_among rfl (by rintro cs P ⟨_, _, rfl, _⟩; rfl) fun f cdv A outer s H E hr hu1 hu => ?_
  refine ⟨_, (pss_cons (ps_if (pt_cmpR (op_eqK K hr.units rfl) (pv 1) (pe_lst pa_nil) (nomark _)) (pss_one (ps_ret pe_int)) pss_nil)
      (pss_one (ps_ret (pe_callB (call_lenAK K rfl) (by rfl) Z.len (by decide +kernel) (pa_cons (pe_lc (own := [("three", 2)]) (g := (gName 2)) rfl sc_leaders_among.nd (pi_listK K rfl (pv 1)) (blkOk_by (N := N_leaders_among) (sc := defScope st_leaders_among) (by decide +kernel)) (fun _ _ _ _ _ => (pg_name (i := 2) sc_leaders_among.nd rfl (by first | exact Or.inl rfl | exact Or.inr rfl))) (fun _ _ _ _ _ => (pts_one (pt_cmpR (op_eqK K hr.units rfl) (pe_slice (sl_anyK K rfl) (pv 2) (po_some pe_int) po_none) (pe_tup (pa_cons (pv 0) (pa_cons (pe_ix (ix_anyK K hu1 rfl) (pv 2) pe_int (fun _ _ => rfl)) pa_nil))) (nomark _)))) (fun _ _ _ _ _ => (pv 2))) pa_nil))))), ?_⟩
  rintro cs R ⟨name, ts, rfl, h3, hl, hR⟩
  unfold leadL at hR
  refine d_seq (d_if (b := ts.isEmpty) ((t_test (e_op (e_v rfl) (e_lstF l_nil) (o_eq (fl_map fl_tD _) (fl_nil 0)))).to ?_) (fun hb => d_ret e_i ?_) fun hb => d_next ?_)
  · rw [eqD_lnil, len_emp]
  · rw [if_pos hb] at hR; exact hR
  rw [if_neg (by rw [hb]; exact Bool.false_ne_true)] at hR
  refine d_ret (e_cb (l_cons (EvNB.all fun B0 σ => c_lcD (xs := ts) (en := tD) (i_listD (e_v rfl) B0 σ) (by omega) (fun t => decide (t.drop 1 = [name, g t 0])) tD (fun t => [.fro (.int name), .fro (.lst (ts.map tD)), .fro (tD t)]) (fun r _ => g_name)
        (fun t ht => (t_test (e_op (e_slT (e_v rfl) (s_some e_i) s_none (by rw [List.length_map, h3 t ht]; decide)) (e_tup (l_cons (e_v rfl) (l_cons (e_op (e_v rfl) e_i (o_ixT (at_row (j := 0) rfl (by rw [h3 t ht]; decide)))) l_nil))) (o_eq (fl_tup fun x hx => by
          rw [cutD_map] at hx; obtain ⟨i, _, rfl⟩ := List.mem_map.mp hx; exact fl_int 0 i) (fl_tints [name, g t 0])))).to ?_) fun r _ _ => e_v rfl).fz l_nil) c_lenL) ?_
  · have e := cut_n t 1
    rw [cutD_map, show ((1 : Nat) : Int) = 1 from rfl] at *
    rw [e]
    exact eqD_tints (t.drop 1) [name, g t 0]
  · rw [List.length_map]; exact hR
end
end Bs
namespace Bs
open PySem L2
theorem dd_lt {ns : List Int} : decide (((dd ns).length : Int) < (ns.length : Int)) = !decide ns.Nodup := by
  have h1 := dd_len ns
  by_cases h : ns.Nodup
  · rw [decide_eq_true h, decide_eq_false]; rfl
    rw [dd_id h]; omega
  · rw [decide_eq_false h, decide_eq_true]; rfl
    have : (dd ns).length ≠ ns.length := fun e => h (dd_all e)
    omega
theorem enum_get {ds : List D} {i : Nat} {d : D} (h : (enumD ds)[i]? = some d) : ∃ e, ds[i]? = some e ∧ d = .tup [.int (i : Nat), e] := by
  unfold enumD at h
  rw [List.getElem?_mapIdx] at h
  obtain ⟨e, h1, h2⟩ := Option.map_eq_some_iff.mp h
  exact ⟨e, h1, h2.symm⟩
theorem fmod_nat {a b : Nat} : ((a : Int)).fmod (b : Int) = ((a % b : Nat) : Int) := by
  rw [Int.fmod_eq_emod_of_nonneg _ (by omega)]; rfl
theorem getD_get {α : Type} {l : List α} {i : Nat} {d x : α} (h : l[i]? = some x) : l.getD i d = x := by
  rw [List.getD_eq_getElem?_getD, h]; rfl
section
variable {P : Program} {w : World} {K : PySem.W.Frag} {mg : Str → Option Value} {base : Heap}
def ctThreesRight : Ctr := fun cs R => ∃ (name : Int) (ts es : List Row), cs = [.fro (.int name), .fro (.lst (ts.map tD)), .fro (dLL es)] ∧ (∀ t ∈ ts, t.length = 3) ∧ (∀ e ∈ es, ∃ m, e.length = 7 + 3 * m ∧ m ≤ 200) ∧ ts.length ≤ 200 ∧ es.length ≤ 200 ∧ R (.fro (.bl (trB name ts es)))
theorem ok_are_threes_right (Z : Blt mg) (T : Def K mg "are_threes_right" st_are_threes_right ["name", "threes", "ends"]) (D_threes_of : OkDef P w K mg base 1 "threes_of" ["fields"] ctThreesOf) :
    OkDef P w K mg base 2 "are_threes_right" ["name", "threes", "ends"] ctThreesRight := by
  refine ok_def (k := 1) (n := 4) T sc_are_threes_right rfl (by rintro cs P ⟨_, _, _, rfl, _⟩; rfl) fun f cdv A outer s H E hr hu1 hu => ?_
  refine ⟨_, (pss_cons (ps_if (PW.pt (pw_or (pt_cmpR (op_neK K hr.units rfl) (pe_lc (own := [("three", 6)]) (g := (gName 6)) (tt := tYes) rfl sc_are_threes_right.nd (pi_listK K rfl (pv 1)) (blkOk_by (N := N_are_threes_right) (sc := defScope st_are_threes_right) (by decide +kernel)) (fun _ _ _ _ _ => (pg_name (i := 6) sc_are_threes_right.nd rfl (by first | exact Or.inl rfl | exact Or.inr rfl))) (fun _ _ _ _ _ => pts_nil) (fun _ _ _ _ _ => (pe_ix (ix_anyK K hu1 rfl) (pv 6) pe_int (fun _ _ => rfl)))) (pe_lc (own := [("end", 4)]) (g := (gName 4)) (tt := tYes) rfl sc_are_threes_right.nd (pi_listK K rfl (pv 2)) (blkOk_by (N := N_are_threes_right) (sc := defScope st_are_threes_right) (by decide +kernel)) (fun _ _ _ _ _ => (pg_name (i := 4) sc_are_threes_right.nd rfl (by first | exact Or.inl rfl | exact Or.inr rfl))) (fun _ _ _ _ _ => pts_nil) (fun _ _ _ _ _ => (pe_ix (ix_anyK K hu1 rfl) (pv 4) pe_int (fun _ _ => rfl)))) (nomark _)) (pw_or1 (pt_cmpR op_lt (pe_lenSetK K rfl (by rfl) Z.len (by rfl) Z.set (pe_lc (own := [("end", 4)]) (g := (gName 4)) (tt := tYes) rfl sc_are_threes_right.nd (pi_listK K rfl (pv 2)) (blkOk_by (N := N_are_threes_right) (sc := defScope st_are_threes_right) (by decide +kernel)) (fun _ _ _ _ _ => (pg_name (i := 4) sc_are_threes_right.nd rfl (by first | exact Or.inl rfl | exact Or.inr rfl))) (fun _ _ _ _ _ => pts_nil) (fun _ _ _ _ _ => (pe_ix (ix_anyK K hu1 rfl) (pv 4) pe_int (fun _ _ => rfl))))) (pe_callB (call_lenAK K rfl) (by rfl) Z.len (by decide +kernel) (pa_cons (pv 2) pa_nil)) (nomark _))))) (pss_one (ps_ret pe_bl)) pss_nil)
      (pss_cons (ps_for PassesOwn.never rfl (pi_enumK K rfl (by rfl) Z.enumerate (pa_cons (pv 2) pa_nil)) (pg_tupK K rfl rfl (pgs_cons (pg_name (i := 3) sc_are_threes_right.nd rfl (by first | exact Or.inl rfl | exact Or.inr rfl)) (pgs_cons (pg_name (i := 4) sc_are_threes_right.nd rfl (by first | exact Or.inl rfl | exact Or.inr rfl)) pgs_nil))) (pss_cons (ps_setLc (i := 5) (own := [("three", 6)]) (g := (gName 6)) rfl sc_are_threes_right.nd rfl rfl (sw_true rfl rfl rfl (by decide +kernel)) (pi_listK K rfl (pe_fnK K D_threes_of rfl rfl rfl rfl rfl hr (by rfl) (pa_cons (pv 4) pa_nil))) (blkOk_by (N := N_are_threes_right) (sc := defScope st_are_threes_right) (by decide +kernel)) (fun _ _ _ _ _ => (pg_name (i := 6) sc_are_threes_right.nd rfl (by first | exact Or.inl rfl | exact Or.inr rfl))) (fun _ _ _ _ _ => (pts_one (pt_cmpR (op_eqK K hr.units rfl) (pe_ix (ix_anyK K hu1 rfl) (pv 6) pe_int (fun _ _ => rfl)) (pv 0) (nomark _)))) (fun _ _ _ _ _ => (pv 6)))
      (pss_one (ps_if (PW.pt (pw_or (pt_cmpR (op_neK K hr.units rfl) (pe_callB (call_lenAK K rfl) (by rfl) Z.len (by decide +kernel) (pa_cons (pv 5) pa_nil)) pe_int (nomark _)) (pw_or1 (pt_cmpR (op_neK K hr.units rfl) (pe_slice (sl_anyK K rfl) (pe_ix (ix_anyK K hu1 rfl) (pv 5) pe_int (fun _ _ => rfl)) (po_some pe_int) po_none) (pe_slice (sl_anyK K rfl) (pe_ix (ix_anyK K hu1 rfl) (pv 1) (pe_op op_modN (pe_op (op_addK K rfl) (pv 3) pe_int) (pe_callB (call_lenAK K rfl) (by rfl) Z.len (by decide +kernel) (pa_cons (pv 1) pa_nil))) (fun _ _ => rfl)) (po_some pe_int) po_none) (nomark _))))) (pss_one (ps_ret pe_bl)) pss_nil))))
      (pss_one (ps_ret pe_bl)))), ?_⟩
  rintro cs R ⟨name, ts, es, rfl, h3, hm, hl1, hl2, hR⟩
  have key : ∀ (ρ' : List Cell) (j : Nat), True := fun _ _ => trivial
  refine d_seq (d_if (b := !(decide (ts.map (g · 0) = es.map (g · 0)) && decide ((es.map (g · 0)).Nodup))) ((t_or (t_test (e_op
      (EvNB.all fun B0 σ => c_lcM (xs := ts) (en := tD) (i_listD (e_v rfl) B0 σ) (by omega) (fun t => .int (g t 0)) (fun t => [.fro (.int name), .fro (.lst (ts.map tD)), .fro (dLL es), .any, .any, .any, .fro (tD t)]) (fun r _ => g_name) fun t ht => e_op (e_v rfl) e_i (o_ixT (at_row (j := 0) rfl (by rw [h3 t ht]; decide)))).fz
      (EvNB.all fun B0 σ => c_lcM (xs := es) (en := dI) (i_listD (e_v rfl) B0 σ) (by omega) (fun t => .int (g t 0)) (fun t => [.fro (.int name), .fro (.lst (ts.map tD)), .fro (dLL es), .any, .fro (dI t), .any, .any]) (fun r _ => g_name) fun t ht => e_row 0 rfl rfl (by obtain ⟨m, e, _⟩ := hm t ht; omega)).fz
      (o_ne (fl_map (n := 0) (fun t => fl_int 0 _) _) (fl_map (n := 0) (fun t => fl_int 0 _) _)))) fun _ => t_test (e_op (e_lenSet (ns := es.map (g · 0)) (EvN.to (EvNB.all fun B0 σ => c_lcM (xs := es) (en := dI) (i_listD (e_v rfl) B0 σ) (by omega) (fun t => .int (g t 0)) (fun t => [.fro (.int name), .fro (.lst (ts.map tD)), .fro (dLL es), .any, .fro (dI t), .any, .any]) (fun r _ => g_name) fun t ht => e_row 0 rfl rfl (by obtain ⟨m, e, _⟩ := hm t ht; omega)) (by rintro _ rfl; rw [List.map_map]; rfl)) (by rw [List.length_map]; omega)) (e_cb (l_cons (e_v rfl) l_nil) c_lenL) o_lt)).to ?_) (fun hb => d_ret e_b ?_) fun hb => d_next ?_)
  · have e1 : eqD (D.lst (ts.map fun t => .int (g t 0))) (D.lst (es.map fun t => .int (g t 0))) = decide (ts.map (g · 0) = es.map (g · 0)) := by
      have := eqD_ints (ts.map (g · 0)) (es.map (g · 0))
      rw [List.map_map, List.map_map] at this
      exact this
    have e2 := dd_lt (ns := es.map (g · 0))
    rw [List.length_map] at e2
    rw [e1, List.length_map, e2, Bool.not_and]
  · have : trB name ts es = false := by
      unfold trB
      rw [nt_t hb]
      rfl
    rw [this] at hR; exact hR
  have hA : (decide (ts.map (g · 0) = es.map (g · 0)) && decide ((es.map (g · 0)).Nodup)) = true := nt_f hb
  have hle : ts.length = es.length := by
    rw [Bool.and_eq_true, decide_eq_true_eq] at hA
    have := congrArg List.length hA.1
    rw [List.length_map, List.length_map] at this
    exact this
  have hT : trB name ts es = (List.range es.length).all fun k => decide (backs name (es.getD k []) = [(ts.getD ((k + 1) % ts.length) []).drop 1]) := by
    unfold trB; rw [hA]; rfl
  rw [hT] at hR
  refine d_seq (d_for (i_enum (l_cons (e_v rfl) l_nil)) (fun i ρ => (∀ k, k < i → backs name (es.getD k []) = [(ts.getD ((k + 1) % ts.length) []).drop 1]) ∧ ∃ x3 x4 x5, ρ = [.fro (.int name), .fro (.lst (ts.map tD)), .fro (dLL es), x3, x4, x5, .any]) ⟨⟨fun k hk => absurd hk (Nat.not_lt_zero k), _, _, _, rfl⟩, ?_, ?_⟩)
  · rintro i d ρ hd ⟨hall, x3, x4, x5, rfl⟩
    obtain ⟨e, he, rfl⟩ := enum_get hd
    rw [List.getElem?_map] at he
    obtain ⟨r, hr0, rfl⟩ := Option.map_eq_some_iff.mp he
    have hmem := List.mem_of_getElem? hr0
    have hi : i < es.length := (List.getElem?_eq_some_iff.mp hr0).1
    obtain ⟨m, hlen, hm2⟩ := hm r hmem
    have hpos : 0 < ts.length := by omega
    have hj : (i + 1) % ts.length < ts.length := Nat.mod_lt _ hpos
    have hg : es.getD i [] = r := getD_get hr0
    refine ⟨_, _, g_tupT (gs_cons g_name (gs_cons g_name gs_nil)) rfl, ?_⟩
    refine d_seq (gd_setN (P := fun x => x = .lst (((thr r).filter fun t => decide (g t 0 = name)).map tD)) (EvNB.all fun B0 σ => c_lcD (xs := thr r) (en := tD) (i_listD (e_callO (a_cons (e_v rfl) a_nil) fun P h => ⟨r, rfl, by omega, h⟩) B0 σ) (by rw [thr_len hlen]; omega) (fun t => decide (g t 0 = name)) tD (fun t => [.fro (.int name), .fro (.lst (ts.map tD)), .fro (dLL es), .fro (.int (i : Nat)), .fro (dI r), x5, .fro (tD t)]) (fun r _ => g_name)
        (fun t ht => t_test (e_op (e_op (e_v rfl) e_i (o_ixT (at_row (j := 0) rfl (by rw [thr_3 hlen ht]; decide)))) (e_v rfl) o_eqi)) fun t _ _ => e_v rfl) ?_)
    rintro _ rfl
    refine d_freeze (i := 5) rfl ?_
    generalize hbk : (thr r).filter (fun t => decide (g t 0 = name)) = bk
    have hb3 : ∀ t ∈ bk, t.length = 3 := fun t ht => by rw [← hbk] at ht; exact thr_3 hlen (List.mem_filter.mp ht).1
    have hbb : backs name (es.getD i []) = bk.map (·.drop 1) := by rw [hg, ← hbk]; rfl
    have htj : ts[(i + 1) % ts.length]? = some (ts.getD ((i + 1) % ts.length) []) := by
      rw [List.getD_eq_getElem?_getD, List.getElem?_eq_getElem hj]; rfl
    have ht3 := h3 _ (List.mem_of_getElem? htj)
    refine d_if (b := !decide (backs name (es.getD i []) = [(ts.getD ((i + 1) % ts.length) []).drop 1])) ?_ (fun hb => d_ret e_b ?_) fun hb => d_next ⟨fun k hk => ?_, _, _, _, rfl⟩
    · refine (t_or (b := match bk with | b :: _ => !decide (b.drop 1 = (ts.getD ((i + 1) % ts.length) []).drop 1) | [] => false) (t_test (e_op (e_cb (l_cons (e_v rfl) l_nil) c_lenL) e_i o_nei)) fun h1 => ?_).to ?_
      · rw [List.length_map] at h1
        have h1 : bk.length = 1 := by
          have := of_decide_eq_true (by simpa using h1 : decide ((bk.length : Int) = 1) = true)
          omega
        match bk, h1, hb3 with
        | [b], _, hb3 =>
          refine (t_test (e_op (e_slT (e_lat 0 rfl rfl rfl) (s_some e_i) s_none (by rw [List.length_map, hb3 b List.mem_cons_self]; decide)) (e_slT (e_op (e_v rfl) (e_op (e_op (e_v rfl) e_i o_add) (e_cb (l_cons (e_v rfl) l_nil) c_lenL) (o_mod ?_)) (o_ixL (d := tD (ts.getD ((i + 1) % ts.length) [])) ?_)) (s_some e_i) s_none (by rw [List.length_map, ht3]; decide)) (o_ne (n := 1) (m := 1) ?_ ?_))).to ?_
          · rw [List.length_map]; omega
          · rw [List.length_map]
            refine atD (j := (i + 1) % ts.length) ?_ (by rw [List.getElem?_map, htj]; rfl)
            have := fmod_nat (a := i + 1) (b := ts.length)
            rw [← this]; rfl
          · rw [cutD_map]; exact fl_tints _
          · rw [cutD_map]; exact fl_tints _
          · rw [cutD_map, cutD_map, eqD_tints]
            have e1 := cut_n b 1
            have e2 := cut_n (ts.getD ((i + 1) % ts.length) []) 1
            rw [show ((1 : Nat) : Int) = 1 from rfl] at e1 e2
            rw [e1, e2]
      · rw [hbb, List.length_map]
        match bk with
        | [] => simp
        | [b] => simp
        | b :: c :: r => simp; omega
    · have : ((List.range es.length).all fun k => decide (backs name (es.getD k []) = [(ts.getD ((k + 1) % ts.length) []).drop 1])) = false := by
        rw [List.all_eq_false]
        exact ⟨i, List.mem_range.mpr hi, by simpa using hb⟩
      rw [this] at hR; exact hR
    · rcases Nat.lt_succ_iff_lt_or_eq.mp hk with h | rfl
      · exact hall k h
      · simpa using hb
  · rintro ρ ⟨hall, x3, x4, x5, rfl⟩
    refine d_ret e_b ?_
    unfold enumD at hall
    rw [List.length_mapIdx, List.length_map] at hall
    have : ((List.range es.length).all fun k => decide (backs name (es.getD k []) = [(ts.getD ((k + 1) % ts.length) []).drop 1])) = true := by
      rw [List.all_eq_true]
      exact fun k hk => decide_eq_true (hall k (List.mem_range.mp hk))
    rw [this] at hR; exact hR
end
end Bs
namespace Bs
open PySem L2
section
variable {P : Program} {w : World} {K : PySem.W.Frag} {mg : Str → Option Value} {base : Heap}
/-- a row of a place with so many ends -/
def Row3 (r : Row) (m : Nat) : Prop := RowOk r ∧ r.length = 7 + 3 * m ∧ m ≤ 200
def ctBall : Ctr := fun cs R => ∃ (name badge : Int) (row : Row) (bs : List Bes), cs = [.fro (vD name badge row bs)] ∧ Row3 row bs.length ∧ (∀ b ∈ bs, ∃ m, Row3 b.2.2 m) ∧ R (.fro (.bl (sayB name row (bs.map fun b => b.2.2))))
theorem belowL_len (name : Int) (own : Row) (es : List Row) : (belowL name own es).length ≤ es.length := List.length_filter_le _ _
theorem belowL_mem {name : Int} {own r : Row} {es : List Row} (h : r ∈ belowL name own es) : r ∈ es := (List.mem_filter.mp h).1
theorem ok_says_ball (Z : Blt mg) (T : Def K mg "says_ball" st_says_ball ["view"]) (D_fields_beside : OkDef P w K mg base 3 "fields_beside" ["view", "least"] ctBeside) (D_threes_of : OkDef P w K mg base 1 "threes_of" ["fields"] ctThreesOf)
    (D_goes_up : OkDef P w K mg base 1 "goes_up" ["name", "own", "ends"] ctGoes) (D_are_threes_right : OkDef P w K mg base 2 "are_threes_right" ["name", "threes", "ends"] ctThreesRight) (D_below : OkDef P w K mg base 1 "below" ["name", "own", "ends"] ctBelow)
    (D_leaders_among : OkDef P w K mg base 1 "leaders_among" ["name", "threes"] ctLeaders) : OkDef P w K mg base 4 "says_ball" ["view"] ctBall := by
  refine ok_def (k := 3) (n := 10) T sc_says_ball rfl (by rintro cs P ⟨_, _, _, _, rfl, _⟩; rfl) fun f cdv A outer s H E hr hu1 hu => ?_
  obtain ⟨tH, h_HEAD⟩ := Z.c_HEAD
  refine ⟨_, (pss_cons (ps_set (i := 1) sc_says_ball.nd rfl (by first | exact Or.inl rfl | exact Or.inr rfl) (pe_fnK K D_fields_beside rfl rfl rfl rfl rfl hr (by rfl) (pa_cons (pv 0) (pa_cons (pe_glob (v := .int 7) rfl h_HEAD ⟨_, rfl⟩) pa_nil))))
      (pss_cons (ps_if (PW.pt (pw_or (pt_cmpR op_is (pv 1) pe_non (nomark _)) (pw_or1 (pt_cmpR (op_neK K hr.units rfl) (pe_lc (own := [("fields", 9)]) (g := (gName 9)) rfl sc_says_ball.nd (pi_listK K rfl (pe_op (op_addK K rfl) (pe_lst (pa_cons (pe_ix (ix_anyK K hu1 rfl) (pv 1) pe_int (fun _ _ => rfl)) pa_nil)) (pe_ix (ix_anyK K hu1 rfl) (pv 1) pe_int (fun _ _ => rfl)))) (blkOk_by (N := N_says_ball) (sc := defScope st_says_ball) (by decide +kernel)) (fun _ _ _ _ _ => (pg_name (i := 9) sc_says_ball.nd rfl (by first | exact Or.inl rfl | exact Or.inr rfl))) (fun _ _ _ _ _ => (pts_one (pt_cmpR (op_neK K hr.units rfl) (pe_op op_modN (pe_op op_sub (pe_callB (call_lenAK K rfl) (by rfl) Z.len (by decide +kernel) (pa_cons (pv 9) pa_nil)) (pe_glob (v := .int 7) rfl h_HEAD ⟨_, rfl⟩)) pe_int) pe_int (nomark _)))) (fun _ _ _ _ _ => (pv 9))) (pe_lst pa_nil) (nomark _))))) (pss_one (ps_ret pe_bl)) pss_nil)
      (pss_cons (ps_set (i := 2) sc_says_ball.nd rfl (by first | exact Or.inl rfl | exact Or.inr rfl) (pe_ix (ix_anyK K hu1 rfl) (pv 0) pe_int (fun _ _ => rfl)))
      (pss_cons (ps_asg (pv 1) (pg_tupK K rfl rfl (pgs_cons (pg_name (i := 3) sc_says_ball.nd rfl (by first | exact Or.inl rfl | exact Or.inr rfl)) (pgs_cons (pg_name (i := 4) sc_says_ball.nd rfl (by first | exact Or.inl rfl | exact Or.inr rfl)) pgs_nil))))
      (pss_cons (ps_set (i := 5) sc_says_ball.nd rfl (by first | exact Or.inl rfl | exact Or.inr rfl) (pe_fnK K D_threes_of rfl rfl rfl rfl rfl hr (by rfl) (pa_cons (pv 3) pa_nil)))
      (pss_cons (ps_if (PW.pt (pw_or (pt_cmpR (op_neK K hr.units rfl) (pe_callB (call_lenAK K rfl) (by rfl) Z.len (by decide +kernel) (pa_cons (pv 5) pa_nil)) (pe_callB (call_lenAK K rfl) (by rfl) Z.len (by decide +kernel) (pa_cons (pv 4) pa_nil)) (nomark _)) (pw_or (pt_not (pt_val (pe_fnK K D_goes_up rfl rfl rfl rfl rfl hr (by rfl) (pa_cons (pv 2) (pa_cons (pv 3) (pa_cons (pv 4) pa_nil)))))) (pw_or1 (pt_not (pt_val (pe_fnK K D_are_threes_right rfl rfl rfl rfl rfl hr (by rfl) (pa_cons (pv 2) (pa_cons (pv 5) (pa_cons (pv 4) pa_nil)))))))))) (pss_one (ps_ret pe_bl)) pss_nil)
      (pss_cons (ps_set (i := 6) sc_says_ball.nd rfl (by first | exact Or.inl rfl | exact Or.inr rfl) (pe_fnK K D_below rfl rfl rfl rfl rfl hr (by rfl) (pa_cons (pv 2) (pa_cons (pv 3) (pa_cons (pv 4) pa_nil)))))
      (pss_cons (ps_set (i := 7) sc_says_ball.nd rfl (by first | exact Or.inl rfl | exact Or.inr rfl) (pe_lst (pa_cons pe_int (pa_cons (pe_callB (call_lenAK K rfl) (by rfl) Z.len (by decide +kernel) (pa_cons (pv 4) pa_nil)) (pa_cons (pe_fnK K D_leaders_among rfl rfl rfl rfl rfl hr (by rfl) (pa_cons (pv 2) (pa_cons (pv 5) pa_nil))) pa_nil)))))
      (pss_cons (ps_for PassesOwn.never rfl (pi_range1 (by rfl) Z.range (pa_cons pe_int pa_nil)) (pg_name (i := 8) sc_says_ball.nd rfl (by first | exact Or.inl rfl | exact Or.inr rfl)) (pss_one (ps_if (pt_cmpR (op_neK K hr.units rfl) (pe_ix (ix_anyK K hu1 rfl) (pv 3) (pe_op (op_addK K rfl) pe_int (pv 8)) (fun _ _ => rfl)) (pe_op (op_addK K rfl) (pe_ix (ix_anyK K hu1 rfl) (pv 7) (pv 8) (fun _ _ => rfl)) (pe_callB (cr_sumK K rfl rfl) (by rfl) Z.sum (by decide +kernel) (pa_cons (pe_lc (own := [("end", 10)]) (g := (gName 10)) (tt := tYes) rfl sc_says_ball.nd (pi_listK K rfl (pv 6)) (blkOk_by (N := N_says_ball) (sc := defScope st_says_ball) (by decide +kernel)) (fun _ _ _ _ _ => (pg_name (i := 10) sc_says_ball.nd rfl (by first | exact Or.inl rfl | exact Or.inr rfl))) (fun _ _ _ _ _ => pts_nil) (fun _ _ _ _ _ => (pe_ix (ix_anyK K hu1 rfl) (pv 10) (pe_op (op_addK K rfl) pe_int (pv 8)) (fun _ _ => rfl)))) pa_nil))) (nomark _)) (pss_one (ps_ret pe_bl)) pss_nil)))
      (pss_one (ps_ret (pe_or (pe_cmpR (op_neK K hr.units rfl) (pe_ix (ix_anyK K hu1 rfl) (pv 3) pe_int (fun _ _ => rfl)) (pv 2) (nomark _)) (pe_one (pe_cmpR (op_eqK K hr.units rfl) (pe_op (op_addK K rfl) (pe_op op_mul pe_int (pe_ix (ix_anyK K hu1 rfl) (pv 3) pe_int (fun _ _ => rfl))) (pe_op op_mul pe_int (pe_ix (ix_anyK K hu1 rfl) (pv 3) pe_int (fun _ _ => rfl)))) (pe_op (op_addK K rfl) (pe_ix (ix_anyK K hu1 rfl) (pv 3) pe_int (fun _ _ => rfl)) pe_int) (nomark _))))))))))))))), ?_⟩
  rintro cs R ⟨name, badge, row, bs, rfl, ⟨ho, hlr, hm⟩, hb, hR⟩
  have hbl : ∀ b ∈ bs, 7 ≤ b.2.2.length ∧ b.2.2.length ≤ 700 ∧ RowOk b.2.2 := fun b h => by obtain ⟨m, h1, h2, h3⟩ := hb b h; exact ⟨by omega, by omega, h1⟩
  refine d_seq (d_set (e_callF (a_cons (e_v rfl) (a_cons e_i a_nil)) fun P h => ⟨name, badge, row, bs, 7, rfl, ⟨ho, by omega⟩, fun b hb => ⟨(hbl b hb).2.2, (hbl b hb).2.1⟩, by omega, by omega, fun b hb => by have := (hbl b hb).1; omega, h⟩) ?_)
  generalize hes : bs.map (fun b => b.2.2) = es at *
  have hesl : es.length = bs.length := by rw [← hes, List.length_map]
  have he : ∀ r ∈ es, ∃ m, r.length = 7 + 3 * m ∧ m ≤ 200 := fun r hr => by
    rw [← hes] at hr
    obtain ⟨b, hb', rfl⟩ := List.mem_map.mp hr
    obtain ⟨m, _, h2, h3⟩ := hb b hb'
    exact ⟨m, h2, h3⟩
  refine d_seq (d_if (b := false) ((t_or (t_test (e_op (e_v rfl) e_n o_is)) fun _ => t_test (e_op (EvNB.all fun B0 σ => c_lcD (xs := row :: es) (en := dI) (i_listD (e_op (e_lstF (l_cons (e_tat 0 rfl rfl rfl) l_nil)) (e_tat 1 rfl rfl rfl) (o_addL ?_)) B0 σ) ?_ (fun _ => false) dI (fun r => [.fro (vD name badge row bs), .fro (.tup [dI row, dLL es]), .any, .any, .any, .any, .any, .any, .any, .fro (dI r), .any]) (fun r _ => g_name)
      (fun r hr => (t_test (e_op (e_op (e_op (e_cb (l_cons (e_v rfl) l_nil) c_lenL) e_i o_sub) e_i (o_mod (by decide))) e_i o_nei)).to ?_) fun r _ _ => e_v rfl).fz (e_lstF l_nil) (o_ne (fl_map fl_dI _) (fl_nil 0)))).to ?_) (fun e => nomatch e) fun _ => d_next ?_)
  · rw [List.length_map]; simp; omega
  · rw [List.length_cons]; omega
  · have hx : ∃ m, r.length = 7 + 3 * m := by
      rcases List.mem_cons.mp hr with rfl | hr
      · exact ⟨_, hlr⟩
      · obtain ⟨m, h, _⟩ := he r hr; exact ⟨m, h⟩
    obtain ⟨m, hx⟩ := hx
    rw [List.length_map, hx]
    have e : (((7 + 3 * m : Nat) : Int) - 7).fmod 3 = 0 := by
      rw [Int.fmod_eq_emod_of_nonneg _ (by decide)]; omega
    rw [e]; rfl
  · rw [eqD_lnil, len_emp]
    have : (row :: es).filter (fun _ => false) = [] := List.filter_eq_nil_iff.mpr fun _ _ => by simp
    rw [this]; rfl
  refine d_seq (d_set (e_tat 0 rfl rfl rfl) ?_)
  refine d_seq (d_asg (e_v rfl) (g_tupT (gs_cons g_name (gs_cons g_name gs_nil)) rfl) ?_)
  refine d_seq (d_set (e_callO (a_cons (e_v rfl) a_nil) fun P h => ⟨row, rfl, by omega, h⟩) ?_)
  have htl := thr_len hlr
  refine d_seq (d_if (b := !(guB name row es && trB name (thr row) es)) ((t_or (t_test (e_op (e_cb (l_cons (e_v rfl) l_nil) c_lenL) (e_cb (l_cons (e_v rfl) l_nil) c_lenL) o_nei)) fun _ =>
      t_or (t_not (t_B (e_callF (a_cons (e_v rfl) (a_cons (e_v rfl) (a_cons (e_v rfl) a_nil))) fun P h => ⟨name, row, es, rfl, by omega, fun b hb => by obtain ⟨m, h, _⟩ := he b hb; omega, by omega, h⟩))) fun _ =>
      t_not (t_B (e_callF (a_cons (e_v rfl) (a_cons (e_v rfl) (a_cons (e_v rfl) a_nil))) fun P h => ⟨name, thr row, es, rfl, fun t ht => thr_3 hlr ht, he, by omega, by omega, h⟩))).to ?_) (fun hb => d_ret e_b ?_) fun hb => d_next ?_)
  · rw [List.length_map, List.length_map, htl, hesl, decide_eq_true rfl, Bool.not_and]; rfl
  · have : sayB name row es = false := by unfold sayB; rw [← Bool.and_assoc, nt_t hb]; rfl
    rw [this] at hR; exact hR
  have hAB := nt_f hb
  refine d_seq (d_set (e_callO (a_cons (e_v rfl) (a_cons (e_v rfl) (a_cons (e_v rfl) a_nil))) fun P h => ⟨name, row, es, rfl, by omega, fun b hb => by obtain ⟨m, h, _⟩ := he b hb; omega, by omega, h⟩) ?_)
  refine d_seq (d_set (d := dI (headsL name row es)) (EvD.to (e_lstF (l_cons e_i (l_cons (e_cb (l_cons (e_v rfl) l_nil) c_lenL) (l_cons (e_callF (a_cons (e_v rfl) (a_cons (e_v rfl) a_nil)) fun P h => ⟨name, thr row, rfl, fun t ht => thr_3 hlr ht, by omega, h⟩) l_nil)))) ?_) ?_)
  · rw [List.length_map]; rfl
  have hbl2 := belowL_len name row es
  have h2 : sayB name row es = (sumsB name row es && (!decide (g row 1 = name) || decide (2 * g row 4 + 2 * g row 6 = g row 5 + 4))) := by
    unfold sayB; rw [← Bool.and_assoc, hAB, Bool.true_and]
  rw [h2] at hR
  refine d_seq (d_for (i_rng1 (n := 3) (l_cons e_i l_nil) (by decide)) (fun i ρ => (∀ p, p < i → g row (4 + p) = g (headsL name row es) p + sumOf p (belowL name row es)) ∧ ∃ x8, ρ = [.fro (vD name badge row bs), .fro (.tup [dI row, dLL es]), .fro (.int name), .fro (dI row), .fro (dLL es), .fro (.lst ((thr row).map tD)), .fro (dLL (belowL name row es)), .fro (dI (headsL name row es)), x8, .any, .any]) ⟨⟨fun p hp => absurd hp (Nat.not_lt_zero p), _, rfl⟩, ?_, ?_⟩)
  · rintro i d ρ hd ⟨hall, x8, rfl⟩
    obtain ⟨hi, rfl⟩ := rng_get hd
    refine ⟨_, _, g_name, d_if (b := !decide (g row (4 + i) = g (headsL name row es) i + sumOf i (belowL name row es))) (t_test (e_op (e_op (e_v rfl) (e_op e_i (e_v rfl) o_add) (o_ixL (at_row (j := 4 + i) (by omega) (by omega)))) (e_op (e_op (e_v rfl) (e_v rfl) (o_ixL (at_row (j := i) (by omega) (by show i < 3; omega))))
        (e_cb (l_cons (EvN.to (e := dI ((belowL name row es).map (g · (4 + i)))) (EvNB.all fun B0 σ => c_lcM (xs := belowL name row es) (en := dI) (i_listD (e_v rfl) B0 σ) (by omega) (fun r => .int (g r (4 + i))) (fun r => [.fro (vD name badge row bs), .fro (.tup [dI row, dLL es]), .fro (.int name), .fro (dI row), .fro (dLL es), .fro (.lst ((thr row).map tD)), .fro (dLL (belowL name row es)), .fro (dI (headsL name row es)), .fro (.int (0 + (i : Nat))), .any, .fro (dI r)]) (fun r _ => g_name)
          fun r hr => e_op (e_v rfl) (e_op e_i (e_v rfl) o_add) (o_ixL (at_row (j := 4 + i) (by omega) (by obtain ⟨m, h, _⟩ := he r (belowL_mem hr); omega)))) (by rintro _ rfl; exact dI_map _ _)) l_nil) c_sum) o_add) o_nei)) (fun hb => d_ret e_b ?_) fun hb => d_next ⟨fun p hp => ?_, _, rfl⟩⟩
    · have : sumsB name row es = false := by
        unfold sumsB
        rw [List.all_eq_false]
        exact ⟨i, List.mem_range.mpr hi, by rw [nt_t hb]; simp⟩
      rw [this] at hR; exact hR
    · rcases Nat.lt_succ_iff_lt_or_eq.mp hp with h | rfl
      · exact hall p h
      · exact of_decide_eq_true (nt_f hb)
  · rintro ρ ⟨hall, x8, rfl⟩
    have : sumsB name row es = true := by
      unfold sumsB
      rw [List.all_eq_true]
      exact fun p hp => decide_eq_true (hall p (by rw [List.length_map, List.length_range]; exact List.mem_range.mp hp))
    rw [this, Bool.true_and] at hR
    exact d_ret (e_orV (e_op (e_row 1 rfl rfl (by omega)) (e_v rfl) o_nei) fun _ => e_op (e_op (e_op e_i (e_row 4 rfl rfl (by omega)) (o_mul (.inl (by decide)))) (e_op e_i (e_row 6 rfl rfl (by omega)) (o_mul (.inl (by decide)))) o_add) (e_op (e_row 5 rfl rfl (by omega)) e_i o_add) o_eqi) hR
end
end Bs
namespace Bs
open PySem L2
section
variable {P : Program} {w : World} {K : PySem.W.Frag} {mg : Str → Option Value} {base : Heap}
theorem put_get : ∀ (ks : List Key) (ds : List D) (k : Key) (d : D), ks.length = ds.length → getD (putKs ks k) (putDs ks ds k d) k = some d
  | [], [], k, d, _ => by simp [putKs, putDs, hasD, getD]
  | [], _ :: _, _, _, h => by simp at h
  | _ :: _, [], _, _, h => by simp at h
  | j :: ks, e :: ds, k, d, h => by
    have ih := put_get ks ds k d (by simpa using h)
    by_cases z : j = k
    · subst z; simp [putKs, putDs, hasD, getD]
    · unfold putKs putDs hasD getD at ih ⊢
      by_cases hh : (ks.any fun j => decide (j = k)) = true
      · rw [if_pos hh, if_pos hh] at ih
        have h2 : ((j :: ks).any fun j => decide (j = k)) = true := by rw [List.any_cons, hh, Bool.or_true]
        rw [if_pos h2, if_pos h2]
        simpa [z] using ih
      · rw [if_neg hh, if_neg hh] at ih
        have h2 : ¬ ((j :: ks).any fun j => decide (j = k)) = true := by rw [List.any_cons, decide_eq_false z, Bool.false_or]; exact hh
        rw [if_neg h2, if_neg h2]
        simpa [z] using ih
theorem put_len (ks : List Key) (ds : List D) (k : Key) (d : D) (h : ks.length = ds.length) : (putKs ks k).length = (putDs ks ds k d).length := by
  unfold putKs putDs
  split
  · simp [h]
  · simp [h]
theorem put_len_le (ks : List Key) (k : Key) : (putKs ks k).length ≤ ks.length + 1 := by
  unfold putKs
  split <;> simp
def ctSays : Ctr := fun cs R => ∃ (name badge : Int) (row : Row) (bs : List Bes), cs = [.fro (.tup [.str "ball"]), .fro (vD name badge row bs)] ∧ Row3 row bs.length ∧ (∀ b ∈ bs, ∃ m, Row3 b.2.2 m) ∧ R (.fro (.bl (sayB name row (bs.map fun b => b.2.2))))
theorem ok_says (Z : Blt mg) (T : Def K mg "says" st_says ["saying", "view"]) (D_says_ball : OkDef P w K mg base 4 "says_ball" ["view"] ctBall)
    (z1 : ∃ a, mg "says_tree" = some (.ref a)) (z2 : ∃ a, mg "says_near" = some (.ref a)) (z3 : ∃ a, mg "says_bare" = some (.ref a)) (z4 : ∃ a, mg "says_sides" = some (.ref a)) (z5 : ∃ a, mg "says_odd" = some (.ref a)) (z6 : ∃ a, mg "says_pairing" = some (.ref a)) (z7 : ∃ a, mg "says_cheapest" = some (.ref a)) (z8 : ∃ a, mg "says_round" = some (.ref a)) :
    OkDef P w K mg base 5 "says" ["saying", "view"] ctSays := by
  refine ok_def (k := 4) (n := 1) T sc_says rfl (by rintro cs P ⟨_, _, _, _, rfl, _⟩; rfl) fun f cdv A outer s H E hr hu1 hu => ?_
  obtain ⟨a_says_tree, h_says_tree⟩ := z1
  obtain ⟨a_says_near, h_says_near⟩ := z2
  obtain ⟨a_says_bare, h_says_bare⟩ := z3
  obtain ⟨a_says_sides, h_says_sides⟩ := z4
  obtain ⟨a_says_odd, h_says_odd⟩ := z5
  obtain ⟨a_says_pairing, h_says_pairing⟩ := z6
  obtain ⟨a_says_cheapest, h_says_cheapest⟩ := z7
  obtain ⟨a_says_round, h_says_round⟩ := z8
  obtain ⟨a_says_ball, fd_b, h_says_ball, kp_b, b_b, F_b⟩ := D_says_ball
  refine ⟨_, (pss_cons (ps_if (pt_cmpR (op_eqK K hr.units rfl) (pe_ix (ix_anyK K hu1 rfl) (pv 0) pe_int (fun _ _ => rfl)) pe_str (nomark _)) (pss_one ps_never) pss_nil)
      (pss_cons (ps_if (pt_cmpR (op_eqK K hr.units rfl) (pe_ix (ix_anyK K hu1 rfl) (pv 0) pe_int (fun _ _ => rfl)) pe_str (nomark _)) (pss_one ps_never) pss_nil)
      (pss_cons (ps_if (pt_cmpR (op_eqK K hr.units rfl) (pe_ix (ix_anyK K hu1 rfl) (pv 0) pe_int (fun _ _ => rfl)) pe_str (nomark _)) (pss_one ps_never) pss_nil)
      (pss_cons (ps_set (i := 2) sc_says.nd rfl (by first | exact Or.inl rfl | exact Or.inr rfl) (pe_disp (pps_cons pe_str (pe_glob (v := .ref a_says_tree) rfl h_says_tree rfl) (pps_cons pe_str (pe_glob (v := .ref a_says_near) rfl h_says_near rfl) (pps_cons pe_str (pe_glob (v := .ref a_says_bare) rfl h_says_bare rfl) (pps_cons pe_str (pe_glob (v := .ref a_says_sides) rfl h_says_sides rfl) (pps_cons pe_str (pe_glob (v := .ref a_says_odd) rfl h_says_odd rfl) pps_nil))))) (by rfl) (by rfl) (fun z => by cases z) (by decide)))
      (pss_cons (ps_dput hu1 (pv 2) pe_str (pe_glob (v := .ref a_says_pairing) rfl h_says_pairing rfl) rfl)
      (pss_cons (ps_dput hu1 (pv 2) pe_str (pe_glob (v := .ref a_says_cheapest) rfl h_says_cheapest rfl) rfl)
      (pss_cons (ps_dput hu1 (pv 2) pe_str (pe_glob (v := .ref a_says_round) rfl h_says_round rfl) rfl)
      (pss_cons (ps_dput hu1 (pv 2) pe_str (pe_glob (v := .ref a_says_ball) rfl h_says_ball rfl) rfl)
      (pss_one (ps_ret (pe_callV K rfl rfl rfl rfl rfl (pe_ix (ix_anyK K hu1 rfl) (pv 2) (pe_ix (ix_anyK K hu1 rfl) (pv 0) pe_int (fun _ _ => rfl)) (fun _ _ => rfl)) F_b kp_b b_b hr (pa_cons (pv 1) pa_nil)))))))))))), ?_⟩
  rintro cs R ⟨name, badge, row, bs, rfl, h1, h2, hR⟩
  refine d_seq (d_if (b := false) ((t_test (e_op (e_tat 0 rfl rfl rfl) e_s o_eqs)).to (by decide +kernel)) (fun e => nomatch e) fun _ => d_next ?_)
  refine d_seq (d_if (b := false) ((t_test (e_op (e_tat 0 rfl rfl rfl) e_s o_eqs)).to (by decide +kernel)) (fun e => nomatch e) fun _ => d_next ?_)
  refine d_seq (d_if (b := false) ((t_test (e_op (e_tat 0 rfl rfl rfl) e_s o_eqs)).to (by decide +kernel)) (fun e => nomatch e) fun _ => d_next ?_)
  refine d_seq (d_setN (e_disp (ps_cons e_s rfl e_a (ps_cons e_s rfl e_a (ps_cons e_s rfl e_a (ps_cons e_s rfl e_a (ps_cons e_s rfl e_a ps_nil))))) (by exact Nat.le_of_ble_eq_true rfl) (by show ([.inr "tree", .inr "near", .inr "bare", .inr "sides", .inr "odd"] : List Key).Nodup; decide +kernel)) ?_)
  have l0 : ∀ (ks : List Key), ks.length < 100 → ks.length < 100000 := fun ks h => by omega
  have l1 : ∀ (ks : List Key) (k : Key) (n : Nat), ks.length < n → (putKs ks k).length < n + 1 := fun ks k n h => by have := put_len_le ks k; omega
  refine d_seq (d_putK (key := .inr "pairing") rfl e_a e_s rfl (l0 _ (by exact Nat.lt_of_sub_pos (by exact Nat.le_of_ble_eq_true rfl))) ?_)
  refine d_seq (d_putK (key := .inr "cheapest") rfl e_a e_s rfl (l0 _ (l1 _ _ _ (by exact Nat.le_of_ble_eq_true rfl))) ?_)
  refine d_seq (d_putK (key := .inr "round") rfl e_a e_s rfl (l0 _ (l1 _ _ _ (l1 _ _ _ (by exact Nat.le_of_ble_eq_true rfl)))) ?_)
  refine d_seq (d_putK (key := .inr "ball") rfl e_a e_s rfl (l0 _ (l1 _ _ _ (l1 _ _ _ (l1 _ _ _ (by exact Nat.le_of_ble_eq_true rfl))))) ?_)
  refine d_ret (e_callV (e_ownK (k := .inr "ball") rfl (e_tat 0 rfl rfl rfl) rfl ?_) (a_cons (e_v rfl) a_nil) fun P h => ⟨name, badge, row, bs, rfl, h1, h2, h⟩) hR
  exact put_get _ _ _ _ (put_len _ _ _ _ (put_len _ _ _ _ (put_len _ _ _ _ rfl)))
def keysOf {α : Type} (m : List (Int × α)) : List Int := m.map (·.1)
def ctLook : Ctr := fun cs R => ∃ (W : Web) (M : List (Int × Str)), cs = [.fro (wD W), .fro (dM D.str M)] ∧ M.length = W.length ∧ (∀ k ∈ W.map (·.1), k ∈ M.map (·.1)) ∧ R (.fro .non)
theorem ok_look_at_marks (Z : Blt mg) (T : Def K mg "look_at_marks" st_look_at_marks ["web", "thing"]) : OkDef P w K mg base 1 "look_at_marks" ["web", "thing"] ctLook := by
  refine ok_def (k := 0) (n := 1) T sc_look_at_marks rfl (by rintro cs P ⟨_, _, rfl, _⟩; rfl) fun f cdv A outer s H E hr hu1 hu => ?_
  refine ⟨_, (pss_cons (ps_if (PW.pt (pw_or (pt_not (pt_val (pe_callB (call_isiK' K rfl) (by rfl) Z.isinstance (by decide +kernel) (pa_cons (pv 1) (pa_cons (pe_bltn (v := .ty "dict") (by rfl) Z.dict (by decide +kernel) rfl) pa_nil))))) (pw_or1 (pt_cmpR (op_neK K hr.units rfl) (pe_callB (call_lenAK K rfl) (by rfl) Z.len (by decide +kernel) (pa_cons (pv 1) pa_nil)) (pe_callB (call_lenAK K rfl) (by rfl) Z.len (by decide +kernel) (pa_cons (pv 0) pa_nil)) (nomark _))))) (pss_one ps_never) pss_nil)
      (pss_cons (ps_lockOr (ps_for PassesOwn.never rfl (pi_keys (pv 0)) (pg_name (i := 2) sc_look_at_marks.nd rfl (by first | exact Or.inl rfl | exact Or.inr rfl)) (pss_one (ps_if (pt_cmpR (op_ninA' K hu rfl) (pv 2) (pv 1) (by rfl)) (pss_one ps_never) pss_nil))))
      (pss_one (ps_lockOr (ps_for PassesOwn.never rfl (pi_keys (pv 1)) (pg_name (i := 2) sc_look_at_marks.nd rfl (by first | exact Or.inl rfl | exact Or.inr rfl)) (pss_one (ps_if (pt_val (pe_callB (call_isiK' K rfl) (by rfl) Z.isinstance (by decide +kernel) (pa_cons (pv 2) (pa_cons (pe_bltn (v := .ty "bool") (by rfl) Z.bool (by decide +kernel) rfl) pa_nil)))) (pss_one ps_never) pss_nil))))))), ?_⟩
  rintro cs R ⟨W, M, rfl, h1, h2, hR⟩
  refine d_seq (d_if (b := false) ((t_or (t_not (t_B (e_cb (l_cons (e_v rfl) (l_cons e_ty l_nil)) (c_isiD (b := true) (by decide +kernel))))) fun _ => t_test (e_op (e_cb (l_cons (e_v rfl) l_nil) c_lenM) (e_cb (l_cons (e_v rfl) l_nil) c_lenM) o_nei)).to ?_) (fun e => nomatch e) fun _ => d_next ?_)
  · rw [h1, decide_eq_true rfl]; rfl
  refine d_seq (d_forK (j := 0) rfl (fun _ ρ => ∃ x, ρ = [.fro (wD W), .fro (dM D.str M), x]) ⟨⟨_, rfl⟩, ?_, ?_⟩)
  · rintro i d ρ hd ⟨x, rfl⟩
    rw [keys_kD] at hd
    obtain ⟨p, _, hp, rfl⟩ := map_get hd
    refine ⟨_, _, g_name, d_if (b := false) ((t_test (e_op (e_v rfl) (e_v rfl) o_ninM)).to ?_) (fun e => nomatch e) fun _ => d_next ⟨_, rfl⟩⟩
    rw [decide_eq_true (h2 _ (List.mem_map.mpr ⟨p, hp, rfl⟩))]; rfl
  · rintro ρ ⟨x, rfl⟩
    refine d_forK (j := 1) rfl (fun _ ρ => ∃ x, ρ = [.fro (wD W), .fro (dM D.str M), x]) ⟨⟨_, rfl⟩, ?_, ?_⟩
    · rintro i d ρ hd ⟨x, rfl⟩
      rw [keys_kD] at hd
      obtain ⟨p, _, hp, rfl⟩ := map_get hd
      exact ⟨_, _, g_name, d_if (b := false) (t_B (e_cb (l_cons (e_v rfl) (l_cons e_ty l_nil)) (c_isiI (b := false) (by decide +kernel)))) (fun e => nomatch e) fun _ => d_next ⟨_, rfl⟩⟩
    · rintro ρ ⟨x, rfl⟩
      exact hR
def ctSight : Ctr := fun cs R => ∃ s : Str, cs = [.fro (.str s)] ∧ s.length ≤ 9000 ∧ (∀ c ∈ s.cps.toList, c = 48 ∨ c = 49) ∧ R (.fro (.str s))
theorem ok_sight_of (Z : Blt mg) (T : Def K mg "sight_of" st_sight_of ["thing"]) (D_is_mark : OkDef P w K mg base 1 "is_mark" ["thing"] ctIsMark) : OkDef P w K mg base 2 "sight_of" ["thing"] ctSight := by
  refine ok_def (k := 1) (n := 0) T sc_sight_of rfl (by rintro cs P ⟨s, rfl, _⟩; rfl) fun f cdv A outer s H E hr hu1 hu => ?_
  refine ⟨_, (pss_cons (ps_if (pt_val (pe_fnK K D_is_mark rfl rfl rfl rfl rfl hr (by rfl) (pa_cons (pv 0) pa_nil))) (pss_one (ps_ret (pv 0))) pss_nil)
      (pss_one (ps_ret pe_non))), ?_⟩
  rintro cs R ⟨s, rfl, hl, hc, hR⟩
  exact d_seq (d_if (b := true) (t_B (e_callF (a_cons (e_v rfl) a_nil) fun P h => ⟨s, rfl, hl, hc, h⟩)) (fun _ => d_ret (e_v rfl) hR) fun e => nomatch e)
/-- the marks by rows, in the web's order -/
def marksOf (row : Int → Row) (W : Web) : List (Int × Str) := W.map fun p => (p.1, mk (row p.1))
theorem marks_lk (row : Int → Row) (W : Web) {k : Int} (h : k ∈ W.map (·.1)) : lk (marksOf row W) k = some (mk (row k)) := by
  unfold marksOf
  rw [lk_map (fun k _ => mk (row k))]
  have := lk_isSome.mpr h
  cases e : lk W k with
  | none => rw [e] at this; cases this
  | some v => rfl
def ctView : Ctr := fun cs R => ∃ (W : Web) (row : Int → Row) (n : Int) (p : Pl), cs = [.fro (wD W), .fro (dM D.str (marksOf row W)), .fro (.int n)] ∧ lk W n = some p ∧ (∀ e ∈ p.2, e.1 ∈ W.map (·.1)) ∧ (∀ k ∈ W.map (·.1), (row k).length ≤ 700) ∧ p.2.length ≤ 1000 ∧
  R (.fro (vD n p.1 (row n) (p.2.map fun e => (e.2.1, e.2.2, row e.1))))
theorem ok_view_of (Z : Blt mg) (T : Def K mg "view_of" st_view_of ["web", "marks", "name"]) (D_look_at_marks : OkDef P w K mg base 1 "look_at_marks" ["web", "thing"] ctLook) (D_sight_of : OkDef P w K mg base 2 "sight_of" ["thing"] ctSight) :
    OkDef P w K mg base 3 "view_of" ["web", "marks", "name"] ctView := by
  refine ok_def (k := 2) (n := 6) T sc_view_of rfl (by rintro cs P ⟨_, _, _, _, rfl, _⟩; rfl) fun f cdv A outer s H E hr hu1 hu => ?_
  refine ⟨_, (pss_cons (ps_expr (pe_fnK K D_look_at_marks rfl rfl rfl rfl rfl hr (by rfl) (pa_cons (pv 0) (pa_cons (pv 1) pa_nil))))
      (pss_cons (ps_asg (pe_ix (ix_anyK K hu1 rfl) (pv 0) (pv 2) (fun _ _ => rfl)) (pg_tupK K rfl rfl (pgs_cons (pg_name (i := 3) sc_view_of.nd rfl (by first | exact Or.inl rfl | exact Or.inr rfl)) (pgs_cons (pg_name (i := 4) sc_view_of.nd rfl (by first | exact Or.inl rfl | exact Or.inr rfl)) pgs_nil))))
      (pss_cons (ps_setLc (i := 5) (own := [("other", 6), ("price", 7), ("told", 8)]) (g := (gTup K 3 (gCons (gName 6) (gCons (gName 7) (gCons (gName 8) gNil))))) (tt := tYes) rfl sc_view_of.nd rfl rfl (sw_true rfl rfl rfl (by decide +kernel)) (pi_listK K rfl (pv 4)) (blkOk_by (N := N_view_of) (sc := defScope st_view_of) (by decide +kernel)) (fun _ _ _ _ _ => (pg_tupK K rfl rfl (pgs_cons (pg_name (i := 6) sc_view_of.nd rfl (by first | exact Or.inl rfl | exact Or.inr rfl)) (pgs_cons (pg_name (i := 7) sc_view_of.nd rfl (by first | exact Or.inl rfl | exact Or.inr rfl)) (pgs_cons (pg_name (i := 8) sc_view_of.nd rfl (by first | exact Or.inl rfl | exact Or.inr rfl)) pgs_nil))))) (fun _ _ _ _ _ => pts_nil) (fun _ _ _ _ _ => (pe_tup (pa_cons (pv 7) (pa_cons (pv 8) (pa_cons (pe_fnK K D_sight_of rfl rfl rfl rfl rfl hr (by rfl) (pa_cons (pe_ix (ix_anyK K hu1 rfl) (pv 1) (pv 6) (fun _ _ => rfl)) pa_nil)) pa_nil))))))
      (pss_one (ps_ret (pe_tup (pa_cons (pv 2) (pa_cons (pv 3) (pa_cons (pe_fnK K D_sight_of rfl rfl rfl rfl rfl hr (by rfl) (pa_cons (pe_ix (ix_anyK K hu1 rfl) (pv 1) (pv 2) (fun _ _ => rfl)) pa_nil)) (pa_cons (pv 5) pa_nil)))))))))), ?_⟩
  rintro cs R ⟨W, row, n, p, rfl, h1, h2, h3, hl, hR⟩
  have hn : n ∈ W.map (·.1) := lk_isSome.mp (by rw [h1]; rfl)
  have sgt : ∀ k ∈ W.map (·.1), ∀ Pp : Cell → Prop, Pp (.fro (.str (mk (row k)))) → ctSight [.fro (.str (mk (row k)))] Pp := fun k hk Pp h => ⟨_, rfl, by rw [mk_len]; have := h3 k hk; omega, fun c hc => flat_bits_mem hc, h⟩
  refine d_seq (gd_drop (e_callF (a_cons (e_v rfl) (a_cons (e_v rfl) a_nil)) fun P h => ⟨W, marksOf row W, rfl, by unfold marksOf; rw [List.length_map], fun k hk => by unfold marksOf; rw [List.map_map]; exact hk, h⟩) ?_)
  refine d_seq (d_asg (e_op (e_v rfl) (e_v rfl) (o_ixM h1)) (g_tupT (gs_cons g_name (gs_cons g_name gs_nil)) rfl) ?_)
  refine d_seq (gd_setN (P := fun x => x = .lst (p.2.map fun e => bD (e.2.1, e.2.2, row e.1))) (EvNB.all fun B0 σ => c_lcM (xs := p.2) (en := eD) (i_listD (e_v rfl) B0 σ) (by omega) (fun e => bD (e.2.1, e.2.2, row e.1)) (fun e => [.fro (wD W), .fro (dM D.str (marksOf row W)), .fro (.int n), .fro (.int p.1), .fro (.lst (p.2.map eD)), .any, .fro (.int e.1), .fro (.int e.2.1), .fro (.bl e.2.2)]) (fun e _ => g_tupT (gs_cons g_name (gs_cons g_name (gs_cons g_name gs_nil))) rfl)
    fun e he => e_tup (l_cons (e_v rfl) (l_cons (e_v rfl) (l_cons (e_callF (a_cons (e_op (e_v rfl) (e_v rfl) (o_ixM (marks_lk row W (h2 e he)))) a_nil) (sgt _ (h2 e he))) l_nil)))) ?_)
  rintro _ rfl
  refine d_freeze (i := 5) rfl (d_ret (e_tup (l_cons (e_v rfl) (l_cons (e_v rfl) (l_cons (e_callF (a_cons (e_op (e_v rfl) (e_v rfl) (o_ixM (marks_lk row W hn))) a_nil) (sgt _ hn)) (l_cons (e_v rfl) l_nil))))) ?_)
  unfold vD at hR
  rw [List.map_map] at hR
  exact hR
def ctNames : Ctr := fun cs R => ∃ (W : Web), cs = [.fro (wD W)] ∧ W.length < 64 ∧ R (.own (dI (srt (W.map (·.1)))))
theorem ok_names_of (Z : Blt mg) (T : Def K mg "names_of" st_names_of ["web"]) : OkDef P w K mg base 1 "names_of" ["web"] ctNames := by
  refine ok_def (k := 0) (n := 0) T sc_names_of rfl (by rintro cs P ⟨s, rfl, _⟩; rfl) fun f cdv A outer s H E hr hu1 hu => ?_
  refine ⟨_, (pss_one (ps_ret (pe_callB (call_srtK K rfl hr.units rfl) (by rfl) Z.sorted (by decide +kernel) (pa_cons (pv 0) pa_nil)))), ?_⟩
  rintro cs R ⟨W, rfl, hl, hR⟩
  refine gd_retN (e_cbN (l_cons (e_v rfl) l_nil) (c_srtM hl)) ?_
  rintro _ rfl
  exact hR
/-- what stands at a place -/
def endsAt (W : Web) (n : Int) : List Nd := match lk W n with | some p => p.2 | none => []
def sayN (W : Web) (row : Int → Row) (n : Int) : Bool := sayB n (row n) ((endsAt W n).map fun e => row e.1)
def noD : Option Int → D | some n => .int n | none => .non
def firstNo (W : Web) (row : Int → Row) : Option Int := (srt (W.map (·.1))).find? fun n => !sayN W row n
/-- rows for a web -/
structure RowsFit (W : Web) (row : Int → Row) : Prop where
  ends : ∀ n p, lk W n = some p → ∀ e ∈ p.2, e.1 ∈ W.map (·.1)
  fit : ∀ n p, lk W n = some p → Row3 (row n) p.2.length
  len : W.length < 64
def ctFirstNo : Ctr := fun cs R => ∃ (W : Web) (row : Int → Row), cs = [.fro (wD W), .fro (.tup [.str "ball"]), .fro (dM D.str (marksOf row W))] ∧ RowsFit W row ∧ R (.fro (noD (firstNo W row)))
theorem ok_first_no (Z : Blt mg) (T : Def K mg "first_no" st_first_no ["web", "saying", "marks"]) (D_look_at_marks : OkDef P w K mg base 1 "look_at_marks" ["web", "thing"] ctLook) (D_names_of : OkDef P w K mg base 1 "names_of" ["web"] ctNames)
    (D_says : OkDef P w K mg base 5 "says" ["saying", "view"] ctSays) (D_view_of : OkDef P w K mg base 3 "view_of" ["web", "marks", "name"] ctView) : OkDef P w K mg base 6 "first_no" ["web", "saying", "marks"] ctFirstNo := by
  refine ok_def (k := 5) (n := 1) T sc_first_no rfl (by rintro cs P ⟨_, _, rfl, _⟩; rfl) fun f cdv A outer s H E hr hu1 hu => ?_
  refine ⟨_, (pss_cons (ps_expr (pe_fnK K D_look_at_marks rfl rfl rfl rfl rfl hr (by rfl) (pa_cons (pv 0) (pa_cons (pv 2) pa_nil))))
      (pss_cons (ps_for PassesOwn.never rfl (pi_listK K rfl (pe_fnK K D_names_of rfl rfl rfl rfl rfl hr (by rfl) (pa_cons (pv 0) pa_nil))) (pg_name (i := 3) sc_first_no.nd rfl (by first | exact Or.inl rfl | exact Or.inr rfl)) (pss_one (ps_if (pt_not (pt_val (pe_fnK K D_says rfl rfl rfl rfl rfl hr (by rfl) (pa_cons (pv 1) (pa_cons (pe_fnK K D_view_of rfl rfl rfl rfl rfl hr (by rfl) (pa_cons (pv 0) (pa_cons (pv 2) (pa_cons (pv 3) pa_nil)))) pa_nil))))) (pss_one (ps_ret (pv 3))) pss_nil)))
      (pss_one (ps_ret pe_non)))), ?_⟩
  rintro cs R ⟨W, row, rfl, hf, hR⟩
  refine d_seq (gd_drop (e_callF (a_cons (e_v rfl) (a_cons (e_v rfl) a_nil)) fun P h => ⟨W, marksOf row W, rfl, by unfold marksOf; rw [List.length_map], fun k hk => by unfold marksOf; rw [List.map_map]; exact hk, h⟩) ?_)
  have hsome : ∀ k ∈ W.map (·.1), ∃ p, lk W k = some p := fun k hk => Option.isSome_iff_exists.mp (lk_isSome.mpr hk)
  refine d_seq (d_for (i_listD (e_callO (a_cons (e_v rfl) a_nil) fun P h => ⟨W, rfl, hf.len, h⟩)) (fun i ρ => (∀ k, k < i → ∀ n, (srt (W.map (·.1)))[k]? = some n → sayN W row n = true) ∧ ∃ x, ρ = [.fro (wD W), .fro (.tup [.str "ball"]), .fro (dM D.str (marksOf row W)), x]) ⟨⟨fun k hk => absurd hk (Nat.not_lt_zero k), _, rfl⟩, ?_, ?_⟩)
  · rintro i d ρ hd ⟨hall, x, rfl⟩
    obtain ⟨n, hn, hmem, rfl⟩ := map_get hd
    have hk : n ∈ W.map (·.1) := (srt_perm _).mem_iff.mp hmem
    obtain ⟨p, hp⟩ := hsome n hk
    have hpl : p.2.length ≤ 200 := (hf.fit n p hp).2.2
    have hends : endsAt W n = p.2 := by unfold endsAt; rw [hp]
    have hlen : ∀ k ∈ W.map (·.1), (row k).length ≤ 700 := fun k hk => by
      obtain ⟨q, hq⟩ := hsome k hk
      obtain ⟨_, h2, h3⟩ := hf.fit k q hq
      omega
    refine ⟨_, _, g_name, d_if (b := !sayN W row n) (t_not (t_B (e_callF (d := .bl (sayN W row n)) (a_cons (e_v rfl) (a_cons (e_callF (a_cons (e_v rfl) (a_cons (e_v rfl) (a_cons (e_v rfl) a_nil))) fun P h => ⟨W, row, n, p, rfl, hp, hf.ends n p hp, hlen, by omega, h⟩) a_nil)) fun P h => ⟨n, p.1, row n, _, rfl, by rw [List.length_map]; exact hf.fit n p hp, fun b hb => ?_, ?_⟩))) (fun hb => d_ret (e_v rfl) ?_) fun hb => d_next ⟨fun k hk' m hm => ?_, _, rfl⟩⟩
    · obtain ⟨e, he, rfl⟩ := List.mem_map.mp hb
      obtain ⟨q, hq⟩ := hsome e.1 (hf.ends n p hp e he)
      exact ⟨_, hf.fit e.1 q hq⟩
    · unfold sayN at h
      rw [hends] at h
      rw [List.map_map]
      exact h
    · have : firstNo W row = some n := by
        unfold firstNo
        rw [List.find?_eq_some_iff_getElem]
        obtain ⟨hi, e⟩ := List.getElem?_eq_some_iff.mp hn
        refine ⟨hb, i, hi, e, fun j hj => ?_⟩
        rw [hall j hj _ (List.getElem?_eq_getElem (by omega))]; rfl
      rw [this] at hR; exact hR
    · rcases Nat.lt_succ_iff_lt_or_eq.mp hk' with h | rfl
      · exact hall k h m hm
      · rw [hn] at hm; cases hm; exact nt_f hb
  · rintro ρ ⟨hall, x, rfl⟩
    have : firstNo W row = none := by
      unfold firstNo
      rw [List.find?_eq_none]
      intro n hn
      obtain ⟨k, hk, e⟩ := List.getElem_of_mem hn
      rw [hall k (by rw [List.length_map]; exact hk) n (by rw [List.getElem?_eq_getElem hk, e])]
      exact Bool.false_ne_true
    rw [this] at hR
    exact d_ret e_n hR
end
end Bs
namespace Bs
open PySem L2
section
variable {K : PySem.W.Frag} {ρ : List Cell} {ts tu : TS} {E : EndsD}
theorem d_cut (I : List Cell → Prop) (h : Dos K ts ρ { E with nx := I }) (k : ∀ r, I r → Dos K tu r E) : Dos K (tSeq ts tu) ρ E := d_seq (d_imp h k (fun _ h => h) (fun _ h => h) (fun _ h => h))
end
theorem op_of {K : PySem.W.Frag} {r : R2} {d e f : D} {R : D → Prop} (h : OpD K r d e f) (k : R f) : OpP K r d e R := fun B pp F H σ ρ x y ok rx ry Q q => h B pp F H σ ρ x y ok rx ry Q fun v f' F' H' o l p r => q v f' F' H' o l (p ▸ k) r
theorem fm_lt (a : Int) {b : Int} (hb : 0 < b) : 0 ≤ a.fmod b ∧ a.fmod b < b := by
  rw [Int.fmod_eq_emod_of_nonneg a (by omega)]
  exact ⟨Int.emod_nonneg _ (by omega), Int.emod_lt_of_pos _ hb⟩
section
variable {P : Program} {w : World} {K : PySem.W.Frag} {mg : Str → Option Value} {base : Heap}
def ctCellAt : Ctr := fun cs R => ∃ (ns : List Int) (k : Int), cs = [.fro (.scr ns), .fro (.int k)] ∧ 0 ≤ k ∧ ∀ z : Int, R (.fro (.int z))
theorem ok_cell_at (Z : Blt mg) (T : Def K mg "_law_cell_at" st_law_cell_at ["_law_script", "_law_k"]) : OkDef P w K mg base 1 "_law_cell_at" ["_law_script", "_law_k"] ctCellAt := by
  refine ok_def (k := 0) (n := 0) T sc_law_cell_at rfl (by rintro cs P ⟨_, _, rfl, _⟩; rfl) fun f cdv A outer s H E hr hu1 hu => ?_
  refine ⟨_, (pss_cons (ps_if (pt_cmpR op_lt (pv 1) (pe_callB (call_lenAK K rfl) (by rfl) Z.len (by decide +kernel) (pa_cons (pv 0) pa_nil)) (nomark _)) (pss_one (ps_ret (pe_ix (ix_anyK K hu1 rfl) (pv 0) (pv 1) (fun _ _ => rfl)))) pss_nil)
      (pss_one (ps_ret pe_int))), ?_⟩
  rintro cs R ⟨ns, k, rfl, h0, hR⟩
  refine d_seq (d_if (t_test (e_op (e_v rfl) (e_cb (l_cons (e_v rfl) l_nil) c_lenR) o_lt)) (fun e => ?_) fun e => d_next (d_ret e_i (hR 0)))
  have hk := of_decide_eq_true e
  have hx : ns[k.toNat]? = some (ns[k.toNat]'(by omega)) := List.getElem?_eq_getElem (by omega)
  exact d_ret (e_op (e_v rfl) (e_v rfl) (o_ixR (atD (j := k.toNat) (by omega) hx))) (hR _)
def ctPool : Ctr := fun cs R => ∃ (ns : List Int) (k : Int), cs = [.fro (.scr ns), .fro (.int k)] ∧ 0 ≤ k ∧ k ≤ 1 ∧ ∀ c s : Int, 0 ≤ s → s < 2147483647 → R (.own (.lst [.int c, .int s]))
theorem ok_pool (Z : Blt mg) (T : Def K mg "_law_pool" st_law_pool ["_law_script", "_law_k"]) (D_law_cell_at : OkDef P w K mg base 1 "_law_cell_at" ["_law_script", "_law_k"] ctCellAt) : OkDef P w K mg base 2 "_law_pool" ["_law_script", "_law_k"] ctPool := by
  refine ok_def (k := 1) (n := 2) T sc_law_pool rfl (by rintro cs P ⟨_, _, rfl, _⟩; rfl) fun f cdv A outer s H E hr hu1 hu => ?_
  refine ⟨_, (pss_cons (ps_set (i := 2) sc_law_pool.nd rfl (by first | exact Or.inl rfl | exact Or.inr rfl) (pe_fnK K D_law_cell_at rfl rfl rfl rfl rfl hr (by rfl) (pa_cons (pv 0) (pa_cons (pv 1) pa_nil))))
      (pss_cons (ps_set (i := 3) sc_law_pool.nd rfl (by first | exact Or.inl rfl | exact Or.inr rfl) (pe_op op_modN (pe_op op_mul (pe_op (op_addK K rfl) (pe_op (op_addK K rfl) (pe_op op_modN (pv 2) pe_int) (pe_op op_mul (pe_op op_mul pe_int (pv 1)) (pv 1))) pe_int) pe_int) pe_int))
      (pss_cons (ps_if (pt_cmpR op_lt (pv 2) (pe_op op_pow pe_int pe_int) (nomark _)) (pss_one (ps_set (i := 2) sc_law_pool.nd rfl (by first | exact Or.inl rfl | exact Or.inr rfl) pe_int)) pss_nil)
      (pss_one (ps_ret (pe_lst (pa_cons (pv 2) (pa_cons (pe_op op_modN (pe_op op_mul (pv 3) (pv 3)) pe_int) pa_nil)))))))), ?_⟩
  rintro cs R ⟨ns, k, rfl, h0, h1, hR⟩
  refine d_seq (gd_set (P := fun d => ∃ z : Int, d = .int z) (g_call (a_cons (e_v rfl) (a_cons (e_v rfl) a_nil)) fun cs e => e ▸ ⟨ns, k, rfl, h0, fun z => ⟨_, .inl rfl, z, rfl⟩⟩) ?_)
  rintro _ ⟨z, rfl⟩
  refine d_seq (d_set (e_op (e_op (e_op (e_op (e_op (e_v rfl) e_i (o_mod (by decide))) (e_op (e_op e_i (e_v rfl) (o_mul (.inl (by decide)))) (e_v rfl) (o_mul (.inr (by omega)))) o_add) e_i o_add) e_i (o_mul (.inr (by decide)))) e_i (o_mod (by decide))) ?_)
  have hs := fm_lt ((z.fmod 2147483629 + 7919 * k * k + 1) * 48271) (b := 2147483647) (by decide)
  generalize ((z.fmod 2147483629 + 7919 * k * k + 1) * 48271).fmod 2147483647 = sd at hs
  refine d_cut (fun ρ => ∃ c : Int, ρ = [.fro (.scr ns), .fro (.int k), .fro (.int c), .fro (.int sd)]) (d_if (t_test (e_op (e_v rfl) (e_op e_i e_i (o_pow ⟨by decide, by decide, by decide⟩)) o_lt)) (fun e => d_set e_i ⟨_, rfl⟩) fun e => d_next ⟨_, rfl⟩) ?_
  rintro _ ⟨c, rfl⟩
  have hb := fm_lt (sd * sd) (b := 2147483629) (by decide)
  exact gd_retN (e_lst (l_cons (e_v rfl) (l_cons (e_op (e_op (e_v rfl) (e_v rfl) (o_mul (.inl (by omega)))) e_i (o_mod (by decide))) l_nil))) (by rintro _ rfl; exact hR _ _ hb.1 (by omega))
def ctTake : Ctr := fun cs R => ∃ m : Int, cs = [.pool, .fro (.int m)] ∧ 1 ≤ m ∧ m ≤ 100000 ∧ ∀ r : Int, 0 ≤ r → r < m → R (.fro (.int r))
theorem ok_take (Z : Blt mg) (T : Def K mg "_law_take" st_law_take ["_law_pool_here", "_law_many"]) : OkDef P w K mg base 1 "_law_take" ["_law_pool_here", "_law_many"] ctTake := by
  refine ok_def (k := 0) (n := 1) T sc_law_take rfl (by rintro cs P ⟨_, rfl, _⟩; rfl) fun f cdv A outer s H E hr hu1 hu => ?_
  refine ⟨_, (pss_cons (ps_if (pt_cmpR op_gt (pe_ix (ix_anyK K hu1 rfl) (pv 0) pe_int (fun _ _ => rfl)) pe_int (nomark _)) (pss_cons (ps_set (i := 2) sc_law_take.nd rfl (by first | exact Or.inl rfl | exact Or.inr rfl) (pe_op op_modN (pe_ix (ix_anyK K hu1 rfl) (pv 0) pe_int (fun _ _ => rfl)) (pv 1)))
      (pss_cons (ps_asg (pe_op op_fdivN (pe_ix (ix_anyK K hu1 rfl) (pv 0) pe_int (fun _ _ => rfl)) (pv 1)) (pg_sub (pv 0) pe_int set_list))
      (pss_one (ps_ret (pv 2))))) pss_nil)
      (pss_cons (ps_asg (pe_op op_modN (pe_op (op_addK K rfl) (pe_op op_mul (pe_ix (ix_anyK K hu1 rfl) (pv 0) pe_int (fun _ _ => rfl)) pe_int) pe_int) pe_int) (pg_sub (pv 0) pe_int set_list))
      (pss_one (ps_ret (pe_op op_modN (pe_op op_fdivN (pe_op op_modN (pe_op op_mul (pe_ix (ix_anyK K hu1 rfl) (pv 0) pe_int (fun _ _ => rfl)) (pe_ix (ix_anyK K hu1 rfl) (pv 0) pe_int (fun _ _ => rfl))) pe_int) pe_int) (pv 1)))))), ?_⟩
  rintro cs R ⟨m, rfl, h1, h2, hR⟩
  have p0 : ∀ (x : Cell), Ev K (tOp (rIxA K) (tVar 0) (tC (.int 0))) [.pool, .fro (.int m), x] (fun d => ∃ n : Int, d = .int n) := fun x => (e_pool rfl (.inl rfl)).imp fun d ⟨n, e, _⟩ => ⟨n, e⟩
  have p1 : ∀ (x : Cell), Ev K (tOp (rIxA K) (tVar 0) (tC (.int 1))) [.pool, .fro (.int m), x] (fun d => ∃ n : Int, d = .int n ∧ 0 ≤ n ∧ n < 2147483647) := fun x => (e_pool rfl (.inr rfl)).imp fun d ⟨n, e, h⟩ => ⟨n, e, h rfl⟩
  refine d_seq (gd_if (R := fun _ => True) (gt_test (g_op (R := fun d => ∃ b, d = .bl b) (p0 _) (fun _ _ => e_i) (by rintro _ _ ⟨n, rfl⟩ rfl; exact op_of o_gt ⟨_, rfl⟩)) fun d ⟨b, e⟩ => ⟨b, e, trivial⟩) (fun _ => ?_) fun _ => d_next ?_)
  · refine d_seq (gd_set (P := fun d => ∃ r : Int, d = .int r ∧ 0 ≤ r ∧ r < m) (g_op (p0 _) (fun _ _ => e_v rfl) (by rintro _ _ ⟨n, rfl⟩ rfl; exact op_of (o_mod (by omega)) ⟨_, rfl, fm_lt _ (by omega)⟩)) ?_)
    rintro _ ⟨r, rfl, hr⟩
    refine d_seq (d_poolSet (c := 0) (P := fun d => ∃ n : Int, d = .int n) rfl (.inl rfl) (g_op (p0 _) (fun _ _ => e_v rfl) (by rintro _ _ ⟨n, rfl⟩ rfl; exact op_of (o_div ⟨by omega, by omega⟩) ⟨_, rfl⟩)) (fun d ⟨n, e⟩ => ⟨n, e, fun z => absurd z (by decide)⟩) ?_)
    exact d_ret (e_v rfl) (hR _ hr.1 hr.2)
  · refine d_seq (d_poolSet (c := 1) (P := fun d => ∃ n : Int, d = .int n ∧ 0 ≤ n ∧ n < 2147483647) rfl (.inr rfl) (g_op (P' := fun _ d => d = .int 2147483647) (P := fun d => ∃ n : Int, d = .int n) (g_op (P := fun d => ∃ n : Int, d = .int n) (P' := fun _ d => d = .int 11) (g_op (p1 _) (fun _ _ => e_i) (by rintro _ _ ⟨n, rfl, hn⟩ rfl; exact op_of (o_mul (.inr (by decide))) ⟨_, rfl⟩)) (fun _ _ => e_i) (by rintro _ _ ⟨n, rfl⟩ rfl; exact op_of o_add ⟨_, rfl⟩)) (fun _ _ => e_i) (by rintro _ _ ⟨n, rfl⟩ rfl; exact op_of (o_mod (by decide)) ⟨_, rfl, fm_lt _ (by decide)⟩)) (fun d ⟨n, e, h⟩ => ⟨n, e, fun _ => h⟩) ?_)
    refine gd_ret (P := fun d => ∃ r : Int, d = .int r ∧ 0 ≤ r ∧ r < m) (g_op (P := fun d => ∃ n : Int, d = .int n) (g_op (P := fun d => ∃ n : Int, d = .int n) (P' := fun _ d => d = .int 64) (g_op (P := fun d => ∃ n : Int, d = .int n) (P' := fun _ d => d = .int 2147483629) (g_op (p1 _) (fun _ _ => p1 _) (by rintro _ _ ⟨n, rfl, hn⟩ ⟨k, rfl, hk⟩; exact op_of (o_mul (.inr (by omega))) ⟨_, rfl⟩)) (fun _ _ => e_i) (by rintro _ _ ⟨n, rfl⟩ rfl; exact op_of (o_mod (by decide)) ⟨_, rfl⟩)) (fun _ _ => e_i) (by rintro _ _ ⟨n, rfl⟩ rfl; exact op_of (o_div ⟨by decide, by decide⟩) ⟨_, rfl⟩)) (fun _ _ => e_v rfl) (by rintro _ _ ⟨n, rfl⟩ rfl; exact op_of (o_mod (by omega)) ⟨_, rfl, fm_lt _ (by omega)⟩)) ?_
    rintro _ ⟨r, rfl, hr⟩
    exact hR _ hr.1 hr.2
abbrev Tk (m : Int) : D → Prop := fun d => ∃ r : Int, d = .int r ∧ 0 ≤ r ∧ r < m
theorem e_take {i : Nat} {tm : TE} {ρ : List Cell} {m : Int} (hi : ρ[i]? = some .pool) (h : EvD K tm ρ (.int m)) (h1 : 1 ≤ m) (h2 : m ≤ 100000) : Ev K (tCall (spC K ctTake) [] E0 (tCons (tVar i) (tCons tm tNil))) ρ (Tk m) :=
  g_call (a_pool hi (a_cons h a_nil)) fun cs e => e ▸ ⟨m, rfl, h1, h2, fun r a b => ⟨_, .inl rfl, r, rfl, a, b⟩⟩
/-- names: distinct, from 0 to 4095 -/
def ctNamesL : Ctr := fun cs R => ∃ m : Int, cs = [.pool, .fro (.int m)] ∧ 1 ≤ m ∧ m ≤ 8 ∧ ∀ ns : List Int, (ns.length : Int) = m → ns.Nodup → (∀ n ∈ ns, 0 ≤ n ∧ n < 4096) → R (.own (dI ns))
theorem names_nd {a b : Int} {n : Nat} (hn : n ≤ 4096) : ((List.range n).map fun k => (a + (1 + 2 * b) * ((k : Nat) : Int)).fmod 4096).Nodup := by
  rw [List.Nodup, List.pairwise_map]
  refine List.Pairwise.imp_of_mem (fun {i j} hi hj h e => ?_) List.nodup_range
  have hi := List.mem_range.mp hi
  have hj := List.mem_range.mp hj
  rw [Int.fmod_eq_emod_of_nonneg _ (by decide), Int.fmod_eq_emod_of_nonneg _ (by decide)] at e
  have h1 : (4096 : Int) ∣ (1 + 2 * b) * ((i : Int) - j) := by
    have := Int.emod_emod_of_dvd
    have h2 := Int.sub_emod (a + (1 + 2 * b) * (i : Int)) (a + (1 + 2 * b) * (j : Int)) 4096
    rw [e, Int.sub_self, Int.zero_emod] at h2
    have h3 : a + (1 + 2 * b) * (i : Int) - (a + (1 + 2 * b) * (j : Int)) = (1 + 2 * b) * ((i : Int) - j) := by rw [Int.mul_sub]; omega
    rw [h3] at h2
    exact Int.dvd_of_emod_eq_zero h2
  have key : ∀ t : Nat, ∀ z : Int, (2 ^ t : Int) ∣ (1 + 2 * b) * z → (2 ^ t : Int) ∣ z := by
    intro t
    induction t with
    | zero => intro z _; exact Int.one_dvd z
    | succ t ih =>
      intro z hz
      have hz2 : (2 : Int) ∣ z := by
        obtain ⟨c, hc⟩ := hz
        have : (1 + 2 * b) * z = z + 2 * (b * z) := by rw [Int.add_mul, Int.one_mul, Int.mul_assoc]
        rw [this, Int.pow_succ] at hc
        generalize b * z = bz at hc
        have h2 : (2 ^ t * 2 : Int) * c = 2 * (2 ^ t * c) := by rw [Int.mul_comm ((2 : Int) ^ t) 2, Int.mul_assoc]
        rw [h2] at hc
        generalize (2 : Int) ^ t * c = pc at hc
        omega
      obtain ⟨y, rfl⟩ := hz2
      have : (2 ^ t : Int) ∣ (1 + 2 * b) * y := by
        obtain ⟨c, hc⟩ := hz
        refine ⟨c, ?_⟩
        rw [Int.pow_succ] at hc
        have e1 : (1 + 2 * b) * (2 * y) = 2 * ((1 + 2 * b) * y) := by rw [← Int.mul_assoc, Int.mul_comm _ 2, Int.mul_assoc]
        have e2 : (2 ^ t * 2 : Int) * c = 2 * (2 ^ t * c) := by rw [Int.mul_comm ((2 : Int) ^ t) 2, Int.mul_assoc]
        rw [e1, e2] at hc
        omega
      obtain ⟨c, hc⟩ := ih y this
      exact ⟨c, by rw [hc, Int.pow_succ, Int.mul_comm ((2 : Int) ^ t) 2, Int.mul_assoc]⟩
  have h2 := key 12 _ (by exact h1)
  obtain ⟨c, hc⟩ := h2
  have : (2 : Int) ^ 12 = 4096 := by decide
  rw [this] at hc
  omega
theorem ok_names (Z : Blt mg) (T : Def K mg "_law_names" st_law_names ["_law_pool_here", "_law_many"]) (D_law_take : OkDef P w K mg base 1 "_law_take" ["_law_pool_here", "_law_many"] ctTake) : OkDef P w K mg base 2 "_law_names" ["_law_pool_here", "_law_many"] ctNamesL := by
  refine ok_def (k := 1) (n := 3) T sc_law_names rfl (by rintro cs P ⟨_, rfl, _⟩; rfl) fun f cdv A outer s H E hr hu1 hu => ?_
  refine ⟨_, (pss_cons (ps_set (i := 2) sc_law_names.nd rfl (by first | exact Or.inl rfl | exact Or.inr rfl) (pe_fnK K D_law_take rfl rfl rfl rfl rfl hr (by rfl) (pa_cons (pv 0) (pa_cons pe_int pa_nil))))
      (pss_cons (ps_set (i := 3) sc_law_names.nd rfl (by first | exact Or.inl rfl | exact Or.inr rfl) (pe_op (op_addK K rfl) pe_int (pe_op op_mul pe_int (pe_fnK K D_law_take rfl rfl rfl rfl rfl hr (by rfl) (pa_cons (pv 0) (pa_cons pe_int pa_nil))))))
      (pss_one (ps_ret (pe_lc (own := [("_law_k", 4)]) (g := (gName 4)) (tt := tYes) rfl sc_law_names.nd (pi_range1 (by rfl) Z.range (pa_cons (pv 1) pa_nil)) (blkOk_by (N := N_law_names) (sc := defScope st_law_names) (by decide +kernel)) (fun _ _ _ _ _ => (pg_name (i := 4) sc_law_names.nd rfl (by first | exact Or.inl rfl | exact Or.inr rfl))) (fun _ _ _ _ _ => pts_nil) (fun _ _ _ _ _ => (pe_op op_modN (pe_op (op_addK K rfl) (pv 2) (pe_op op_mul (pv 3) (pv 4))) pe_int))))))), ?_⟩
  rintro cs R ⟨m, rfl, h1, h2, hR⟩
  refine d_seq (gd_set (e_take rfl e_i (by decide) (by decide)) ?_)
  rintro _ ⟨a, rfl, ha, ha2⟩
  refine d_seq (gd_set (P := fun d => ∃ b : Int, d = .int (1 + 2 * b) ∧ 0 ≤ b ∧ b < 2048) (g_op (P' := fun _ d => ∃ b : Int, d = .int (2 * b) ∧ 0 ≤ b ∧ b < 2048) e_i (fun _ _ => g_op (P' := fun _ => Tk 2048) e_i (fun _ _ => e_take rfl e_i (by decide) (by decide)) (by rintro _ _ rfl ⟨b, rfl, hb⟩; exact op_of (o_mul (.inl (by decide))) ⟨b, rfl, hb⟩)) (by rintro _ _ rfl ⟨b, rfl, hb⟩; exact op_of o_add ⟨b, rfl, hb⟩)) ?_)
  rintro _ ⟨b, rfl, hb, hb2⟩
  have hm : m = ((m.toNat : Nat) : Int) := by omega
  refine gd_retN (P := fun d => d = .lst ((List.range m.toNat).map fun k => D.int ((a + (1 + 2 * b) * ((k : Nat) : Int)).fmod 4096))) (EvNB.all fun B0 σ => c_lcM (xs := List.range m.toNat) (en := fun i => D.int (0 + (i : Nat))) (i_rng1 (n := m.toNat) (l_cons ((e_v rfl).to (by rw [← hm])) l_nil) (by omega) B0 σ) (by rw [List.length_range]; omega) (fun k => D.int ((a + (1 + 2 * b) * ((k : Nat) : Int)).fmod 4096)) (fun k => [.pool, .fro (.int m), .fro (.int a), .fro (.int (1 + 2 * b)), .fro (.int (0 + (k : Nat)))]) (fun k _ => g_name)
    fun k _ => by
      have := e_op (K := K) (e_op (e_v (ρ := [.pool, .fro (.int m), .fro (.int a), .fro (.int (1 + 2 * b)), .fro (.int (0 + (k : Nat)))]) (i := 2) rfl) (e_op (e_v (i := 3) rfl) (e_v (i := 4) rfl) (o_mul (.inl (by omega)))) o_add) (e_i (i := 4096)) (o_mod (by decide))
      exact this.to (by rw [Int.zero_add])) ?_
  rintro _ rfl
  have e : (List.range m.toNat).map (fun k => D.int ((a + (1 + 2 * b) * ((k : Nat) : Int)).fmod 4096)) = ((List.range m.toNat).map fun k => (a + (1 + 2 * b) * ((k : Nat) : Int)).fmod 4096).map D.int := by rw [List.map_map]; rfl
  rw [e]
  refine hR _ (by rw [List.length_map, List.length_range]; omega) (names_nd (by omega)) fun n hn => ?_
  obtain ⟨k, _, rfl⟩ := List.mem_map.mp hn
  exact fm_lt _ (by decide)
def ctTold : Ctr := fun cs R => ∃ (w : Int) (b : Bool), cs = [.pool, .fro (.int w), .fro (.bl b)] ∧ 0 ≤ w ∧ w < 4 ∧ ∀ c : Bool, R (.fro (.bl c))
theorem ok_told (Z : Blt mg) (T : Def K mg "_law_told" st_law_told ["_law_pool_here", "_law_way", "_law_amid"]) (D_law_take : OkDef P w K mg base 1 "_law_take" ["_law_pool_here", "_law_many"] ctTake) : OkDef P w K mg base 2 "_law_told" ["_law_pool_here", "_law_way", "_law_amid"] ctTold := by
  refine ok_def (k := 1) (n := 1) T sc_law_told rfl (by rintro cs P ⟨_, _, rfl, _⟩; rfl) fun f cdv A outer s H E hr hu1 hu => ?_
  refine ⟨_, (pss_cons (ps_set (i := 3) sc_law_told.nd rfl (by first | exact Or.inl rfl | exact Or.inr rfl) (pe_cmpR (op_eqK K hr.units rfl) (pe_fnK K D_law_take rfl rfl rfl rfl rfl hr (by rfl) (pa_cons (pv 0) (pa_cons pe_int pa_nil))) pe_int (nomark _)))
      (pss_one (ps_ret (pe_ix (ix_anyK K hu1 rfl) (pe_lst (pa_cons (pv 2) (pa_cons pe_bl (pa_cons pe_bl (pa_cons (pv 3) pa_nil))))) (pv 1) (fun _ _ => rfl))))), ?_⟩
  rintro cs R ⟨w, b, rfl, h0, h1, hR⟩
  refine d_seq (gd_set (P := fun d => ∃ b : Bool, d = .bl b) (g_op (e_take rfl e_i (by decide) (by decide)) (fun _ _ => e_i) (by rintro _ _ ⟨b, rfl, _⟩ rfl; exact op_of o_eqi ⟨_, rfl⟩)) ?_)
  rintro _ ⟨c, rfl⟩
  have hw : w = 0 ∨ w = 1 ∨ w = 2 ∨ w = 3 := by omega
  rcases hw with rfl | rfl | rfl | rfl
  · exact d_ret (e_op (e_lstF (l_cons (e_v rfl) (l_cons e_b (l_cons e_b (l_cons (e_v rfl) l_nil))))) (e_v rfl) (o_ixL (atD (j := 0) rfl rfl))) (hR _)
  · exact d_ret (e_op (e_lstF (l_cons (e_v rfl) (l_cons e_b (l_cons e_b (l_cons (e_v rfl) l_nil))))) (e_v rfl) (o_ixL (atD (j := 1) rfl rfl))) (hR _)
  · exact d_ret (e_op (e_lstF (l_cons (e_v rfl) (l_cons e_b (l_cons e_b (l_cons (e_v rfl) l_nil))))) (e_v rfl) (o_ixL (atD (j := 2) rfl rfl))) (hR _)
  · exact d_ret (e_op (e_lstF (l_cons (e_v rfl) (l_cons e_b (l_cons e_b (l_cons (e_v rfl) l_nil))))) (e_v rfl) (o_ixL (atD (j := 3) rfl rfl))) (hR _)
end
end Bs
namespace Bs
open PySem L2
section
variable {K : PySem.W.Frag} {ρ : List Cell} {te ta tb tx ty : TE} {d d0 : D} {i : Nat} {α : Type} {en : α → D} {E : EndsD}
/-! ### dict of a list of pairs -/
theorem pairs_in {F H : Hp} (ex : Ext F H) : ∀ {m : List (Int × α)} {vs : List V}, RdL K F (m.map fun p => D.tup [.int p.1, en p.2]) vs →
    ∃ (ps : List Addr) (kvs : List (Key × V)), vs = ps.map V.ref ∧ Paired (fun p kv => SqT K H p [kV kv.1, kv.2]) ps kvs ∧ kvs.map (·.1) = m.map (fun p => Sum.inl p.1) ∧ RdL K F (m.map fun p => en p.2) (kvs.map (·.2))
  | [], vs, h => ⟨[], [], h.inv0, .nil, rfl, RdL.nil⟩
  | p :: m, vs, h => by
    obtain ⟨v, r, rfl, h1, h2⟩ := RdL.inv h
    obtain ⟨ps, kvs, rfl, k1, k2, k3⟩ := pairs_in ex h2
    unfold Rdd at h1
    obtain ⟨a, us, rfl, fa, ru⟩ := h1
    obtain ⟨u1, r1, rfl, ru1, ru⟩ := ru.inv
    obtain ⟨u2, r2, rfl, ru2, ru⟩ := ru.inv
    cases ru.inv0
    unfold Rdd at ru1; subst ru1
    exact ⟨a :: ps, (.inl p.1, u2) :: kvs, rfl, .cons (ex.sqt fa) k1, by rw [List.map_cons, List.map_cons, k2], RdL.cons ru2 k3⟩
theorem c_dictL {m : List (Int × α)} (nd : (m.map (·.1)).Nodup) : CbND K (rDct K) [.lst (m.map fun p => D.tup [.int p.1, en p.2])] (dM en m) := fun B pp F H σ ρ xs ok r Q q => by
  obtain ⟨x, rfl, r0⟩ := rd1 r
  unfold Rdd at r0; obtain ⟨a, vs, rfl, fa, ra⟩ := r0
  obtain ⟨ps, kvs, rfl, k1, k2, k3⟩ := pairs_in ok.bse.ext ra
  refine .inl ⟨a, ps, kvs, rfl, SqL.of (ok.bse.ext.lst fa), k1, fun p hp => ?_⟩
  have e : mergeK [] kvs = kvs := by
    rw [merge_nd kvs [] (by
      rw [List.nil_append, k2]
      have : (m.map fun p => (Sum.inl p.1 : Key)) = (m.map (·.1)).map Sum.inl := by rw [List.map_map]; rfl
      rw [this]
      exact List.Pairwise.map _ (fun a b h z => h (Sum.inl.inj z)) nd), List.nil_append]
  rw [e]
  obtain ⟨ok2, hB, hP, hF⟩ := ok.fresh (o := .dK kvs) hp
  exact q p _ _ F _ ok2 (Gro.refl) rfl hB hP hF upd_same ⟨kvs, rfl, k2, k3⟩
/-! ### methods -/
theorem e_idx {ns : List Int} {n : Int} (hi : ρ[i]? = some (.fro (.lst (ns.map .int)))) (he : EvD K te ρ (.int n)) (hn : n ∈ ns) : EvD K (tBM K "list" (rIndex K) (tVar i) (tCons te tNil)) ρ (.int ((ns.idxOf n : Nat))) := fun B pp F H σ ok Q q => by
  obtain ⟨x, e, r⟩ := ok.fro hi
  unfold Rdd at r; obtain ⟨a, vs, rfl, fa, ra⟩ := r
  refine ⟨.ref a, e, .inl ⟨rfl, vs, SqL.of (ok.bse.ext.lst fa)⟩, he B pp F H σ ok _ fun v d F1 H1 ok1 l1 pd rd => ?_⟩
  subst pd; unfold Rdd at rd; subst rd
  have hv := ra.ints_inv
  subst hv
  have hlt : ns.idxOf n < ns.length := List.idxOf_lt_length_of_mem hn
  refine ⟨a, ns.map V.int, .int n, ns.idxOf n, .int n, rfl, rfl, SqL.of (ok1.bse.ext.lst (l1.le _ _ fa)), rfl, ?_, ?_, ?_, ?_, ?_⟩
  · rw [List.all_map]; exact List.all_eq_true.mpr fun _ _ => rfl
  · rw [List.getElem?_map, List.getElem?_eq_getElem hlt, List.getElem_idxOf]; rfl
  · show (n == n) = true
    exact beq_self_eq_true n
  · intro m z' hm hz
    rw [List.getElem?_map] at hz
    obtain ⟨y, hy, rfl⟩ := Option.map_eq_some_iff.mp hz
    show (y == n) = false
    have hml : m < ns.length := by omega
    have := List.not_of_lt_findIdx (p := (· == n)) (xs := ns) (i := m) hm
    rw [List.getElem?_eq_getElem hml] at hy
    cases hy
    exact this
  · exact q _ _ _ _ ok1 l1 rfl rdi
theorem e_join {ys : List Str} {a : Str} (he : EvD K te ρ (.lst (ys.map .str))) (hl : (ys.map (·.length)).sum + ys.length * a.length ≤ 16777216) : EvD K (tM1 (rJoin K) (tC (.str a)) te) ρ (.str (Txt.join a ys)) := fun B pp F H σ ok Q q => by
  refine ⟨⟨a, rfl⟩, he B pp F H σ ok _ fun v d F1 H1 ok1 l1 pd rd => ?_⟩
  subst pd; unfold Rdd at rd
  obtain ⟨p, vs, rfl, fa, ra⟩ := rd
  have hv := ra.strs_inv
  subst hv
  exact ⟨a, p, ys, rfl, rfl, .inl (SqL.of (ok1.bse.ext.lst fa)), hl, q _ _ _ _ ok1 l1 rfl (by unfold Rdd; rfl)⟩
theorem e_get2K {ks : List Key} {ds : List D} {e : D} {k : Key} (hi : ρ[i]? = some (.fro (.dik ks ds))) (hk : EvD K ty ρ e) (he : keyD e = some k) (hx : EvD K tx ρ d0) : EvD K (tDGet2 (tVar i) ty tx) ρ ((getD ks ds k).getD d0) := fun B pp F H σ ok Q q => by
  obtain ⟨x, es, r⟩ := ok.fro hi
  unfold Rdd at r; obtain ⟨a, kvs, rfl, fa, rfl, ra⟩ := r
  refine ⟨.ref a, es, a, rfl, .inl ⟨kvs, ok.bse.ext.rd fa⟩, hk B pp F H σ ok _ fun v d F1 H1 ok1 l1 pd rd => hx B pp F1 H1 σ ok1 _ fun v2 d2 F2 H2 ok2 l2 pd2 rd2 => ?_⟩
  subst pd
  have ey := key_kV he rd
  have g := dget_k ok2.bse.ext ((l1.trans l2).le _ _ fa) (RdL.mono (l1.trans l2).le _ _ ra) ey
  cases hg : getD (kvs.map (·.1)) ds k with
  | none =>
    rw [hg] at g
    exact ⟨none, g, q _ _ _ _ ok2 (l1.trans l2) (by rw [hg]; exact pd2) rd2⟩
  | some dd =>
    rw [hg] at g
    obtain ⟨u, g, ru⟩ := g
    exact ⟨some u, g, q u dd _ _ ok2 (l1.trans l2) (by rw [hg]; rfl) ru⟩
theorem e_get2M {m : List (Int × α)} {k : Int} (hi : ρ[i]? = some (.fro (dM en m))) (hk : EvD K ty ρ (.int k)) (hx : EvD K tx ρ d0) : EvD K (tDGet2 (tVar i) ty tx) ρ (((lk m k).map en).getD d0) := by
  have h := e_get2K (k := .inl k) hi hk rfl hx
  rw [get_map inl_inj] at h; exact h
theorem e_get2T {ks : List (List Key)} {ds : List D} {ns : List Int} (hi : ρ[i]? = some (.fro (.dit ks ds))) (hk : EvD K ty ρ (.tup (ns.map .int))) (hx : EvD K tx ρ d0) : EvD K (tDGet2 (tVar i) ty tx) ρ ((getD ks ds (ns.map Sum.inl)).getD d0) := fun B pp F H σ ok Q q => by
  obtain ⟨x, es, r⟩ := ok.fro hi
  unfold Rdd at r; obtain ⟨a, kvs, rfl, fa, rfl, ra⟩ := r
  refine ⟨.ref a, es, a, rfl, .inr ⟨kvs, ok.bse.ext.rd fa⟩, hk B pp F H σ ok _ fun v d F1 H1 ok1 l1 pd rd => hx B pp F1 H1 σ ok1 _ fun v2 d2 F2 H2 ok2 l2 pd2 rd2 => ?_⟩
  subst pd
  unfold Rdd at rd
  obtain ⟨b, vs, rfl, fb, rb⟩ := rd
  have g := dget_t ok2.bse.ext ((l1.trans l2).le _ _ fa) (RdL.mono (l1.trans l2).le _ _ ra) (k := ns.map Sum.inl) (b := b) (by rw [← ints_kV rb]; exact l2.le _ _ fb)
  cases hg : getD (kvs.map (·.1)) ds (ns.map Sum.inl) with
  | none =>
    rw [hg] at g
    exact ⟨none, g, q _ _ _ _ ok2 (l1.trans l2) (by rw [hg]; exact pd2) rd2⟩
  | some dd =>
    rw [hg] at g
    obtain ⟨u, g, ru⟩ := g
    exact ⟨some u, g, q u dd _ _ ok2 (l1.trans l2) (by rw [hg]; rfl) ru⟩
/-! ### a walk of a dict in a stored comprehension -/
theorem d_lockOr {te : TE} (h : Dos K (tAsg (tLockOrE te) (gName i)) ρ E) : Dos K (tLockOr (tAsg te (gName i))) ρ E := fun B pp F H σ DD ok x => by
  rcases h B pp F H σ DD ok x with h | ⟨d, u, hd, hm, h⟩
  · exact .inl h
  · refine .inr ⟨d, u, hd, hm, fun od => ?_⟩
    exact h od
end
end Bs
namespace Bs
open PySem L2
/-! ### what stands at a place -/
def orderOf (W : Web) (n : Int) : List Int := (endsAt W n).map (·.1)
/-- all the pairs, in order -/
def pairsOf (W : Web) : List (Int × Int) := (srt (W.map (·.1))).flatMap fun n => (srt (orderOf W n)).map fun o => (n, o)
def prD (p : Int × Int) : D := .tup [.int p.1, .int p.2]
/-- a web that fits: few places, few ends -/
structure Fit (W : Web) : Prop where
  nd : (W.map (·.1)).Nodup
  len : W.length < 64
  deg : ∀ n, (endsAt W n).length ≤ 200
theorem endsAt_lk {W : Web} {n : Int} {p : Pl} (h : lk W n = some p) : endsAt W n = p.2 := by unfold endsAt; rw [h]
theorem lk_keys {W : Web} {n : Int} (h : n ∈ W.map (·.1)) : ∃ p, lk W n = some p := Option.isSome_iff_exists.mp (lk_isSome.mpr h)
theorem srt_mem {ns : List Int} {k : Int} : k ∈ srt ns ↔ k ∈ ns := (srt_perm ns).mem_iff
theorem srt_len (ns : List Int) : (srt ns).length = ns.length := (srt_perm ns).length_eq
theorem wipeC_len (ρ : List Cell) : ∀ vs : List Nat, (wipeC ρ vs).length = ρ.length
  | [] => rfl
  | v :: vs => by unfold wipeC; rw [List.length_set, wipeC_len ρ vs]
theorem order_len {W : Web} (hf : Fit W) (n : Int) : (orderOf W n).length ≤ 200 := by unfold orderOf; rw [List.length_map]; exact hf.deg n
section
variable {K : PySem.W.Frag} {ρ : List Cell} {te tn tl : TE} {d : D} {i j : Nat} {W : Web} {n : Int}
theorem e_ends (hi : ρ[i]? = some (.fro (wD W))) (hn : EvD K tn ρ (.int n)) (hk : n ∈ W.map (·.1)) : EvD K (tOp (rIxA K) (tOp (rIxA K) (tVar i) tn) (tC (.int 1))) ρ (.lst ((endsAt W n).map eD)) := by
  obtain ⟨p, hp⟩ := lk_keys hk
  rw [endsAt_lk hp]
  exact e_op (e_op (e_v hi) hn (o_ixM hp)) e_i (o_ixT (atD (j := 1) rfl rfl))
theorem n_order {es : List Nd} (h : EvD K tl ρ (.lst (es.map eD))) (hj : j < ρ.length) (hl : es.length ≤ 100000) : EvND K (tLc (iList K tl) (gName j) tYes (tOp (rIxA K) (tVar j) (tC (.int 0))) [j]) ρ (.lst ((es.map (·.1)).map .int)) := by
  rw [List.map_map]
  exact EvNB.all fun B0 σ => c_lcM (xs := es) (en := eD) (i_listD h B0 σ) hl (fun e => .int e.1) (fun e => (wipeC ρ [j]).set j (.fro (eD e))) (fun e _ => g_name) fun e _ => e_tat 0 rfl (List.getElem?_set_self (by rw [wipeC_len]; exact hj)) rfl
end
section
variable {P : Program} {w : World} {K : PySem.W.Frag} {mg : Str → Option Value} {base : Heap}
def ctCopy : Ctr := fun cs R => ∃ (W : Web), cs = [.fro (wD W)] ∧ Fit W ∧ R (.own (wD W))
theorem ok_copy (Z : Blt mg) (T : Def K mg "_law_copy" st_law_copy ["_law_web_here"]) : OkDef P w K mg base 1 "_law_copy" ["_law_web_here"] ctCopy := by
  refine ok_def (k := 0) (n := 1) T sc_law_copy rfl (by rintro cs P ⟨_, rfl, _⟩; rfl) fun f cdv A outer s H E hr hu1 hu => ?_
  refine ⟨_, (pss_one (ps_ret (pe_callTy (call_dctK K rfl rfl) (by rfl) Z.dict (by decide +kernel) (pa_cons (pe_lockOr (pe_lc (own := [("_law_name", 1)]) (g := (gName 1)) (tt := tYes) rfl sc_law_copy.nd (pi_keys (pv 0)) (blkOk_by (N := N_law_copy) (sc := defScope st_law_copy) (by decide +kernel)) (fun _ _ _ _ _ => (pg_name (i := 1) sc_law_copy.nd rfl (by first | exact Or.inl rfl | exact Or.inr rfl))) (fun _ _ _ _ _ => pts_nil) (fun _ _ _ _ _ => (pe_tup (pa_cons (pv 1) (pa_cons (pe_tup (pa_cons (pe_ix (ix_anyK K hu1 rfl) (pe_ix (ix_anyK K hu1 rfl) (pv 0) (pv 1) (fun _ _ => rfl)) pe_int (fun _ _ => rfl)) (pa_cons (pe_callTy (call_lstK K rfl) (by rfl) Z.list (by decide +kernel) (pa_cons (pe_ix (ix_anyK K hu1 rfl) (pe_ix (ix_anyK K hu1 rfl) (pv 0) (pv 1) (fun _ _ => rfl)) pe_int (fun _ _ => rfl)) pa_nil)) pa_nil))) pa_nil)))))) pa_nil)))), ?_⟩
  rintro cs R ⟨W, rfl, hf, hR⟩
  refine gd_retN (e_cbN (ds := [.lst (W.map fun p => .tup [.int p.1, pD p.2])]) (l_cons (EvN.fz (n_lcK rfl fun B0 σ hi => c_lcM (xs := W) (en := fun p => .int p.1) (ρ := [.fro (wD W), .any]) (by rw [keys_kD] at hi; exact hi) (by have := hf.len; omega) (fun p => .tup [.int p.1, pD p.2]) (fun p => [.fro (wD W), .fro (.int p.1)]) (fun p _ => g_name) fun p hp => ?_)) l_nil) (c_dictL hf.nd)) (by rintro _ rfl; exact hR)
  have hl : lk W p.1 = some p.2 := lk_mem hf.nd hp
  refine e_tup (l_cons (e_v rfl) (l_cons (e_tup (l_cons (e_op (e_op (e_v rfl) (e_v rfl) (o_ixM hl)) e_i (o_ixT (atD (j := 0) rfl rfl))) (l_cons (EvN.fz (e_cbN (l_cons (e_op (e_op (e_v rfl) (e_v rfl) (o_ixM hl)) e_i (o_ixT (atD (j := 1) rfl rfl))) l_nil) c_listL)) l_nil))) l_nil))
/-- the ties: how many -/
def tiesL (W : Web) : List (Int × Nd) := (srt (W.map (·.1))).flatMap fun n => ((endsAt W n).filter fun e => decide (n < e.1)).map fun e => (n, e)
def tiD (t : Int × Nd) : D := .tup [.int t.1, .int t.2.1, .int t.2.2.1, .bl t.2.2.2]
def ctTies : Ctr := fun cs R => ∃ (W : Web), cs = [.fro (wD W)] ∧ Fit W ∧ ∀ es : List D, es.length = (tiesL W).length → R (.own (.lst es))
theorem ok_ties (Z : Blt mg) (T : Def K mg "_law_ties" st_law_ties ["_law_web_here"]) : OkDef P w K mg base 1 "_law_ties" ["_law_web_here"] ctTies := by
  refine ok_def (k := 0) (n := 5) T sc_law_ties rfl (by rintro cs P ⟨_, rfl, _⟩; rfl) fun f cdv A outer s H E hr hu1 hu => ?_
  refine ⟨_, (pss_cons (ps_set (i := 1) sc_law_ties.nd rfl (by first | exact Or.inl rfl | exact Or.inr rfl) (pe_lst pa_nil))
      (pss_cons (ps_for PassesOwn.never rfl (pi_listK K rfl (pe_callB (call_srtK K rfl hr.units rfl) (by rfl) Z.sorted (by decide +kernel) (pa_cons (pv 0) pa_nil))) (pg_name (i := 2) sc_law_ties.nd rfl (by first | exact Or.inl rfl | exact Or.inr rfl)) (pss_one (ps_for PassesOwn.never rfl (pi_listK K rfl (pe_ix (ix_anyK K hu1 rfl) (pe_ix (ix_anyK K hu1 rfl) (pv 0) (pv 2) (fun _ _ => rfl)) pe_int (fun _ _ => rfl))) (pg_tupK K rfl rfl (pgs_cons (pg_name (i := 3) sc_law_ties.nd rfl (by first | exact Or.inl rfl | exact Or.inr rfl)) (pgs_cons (pg_name (i := 4) sc_law_ties.nd rfl (by first | exact Or.inl rfl | exact Or.inr rfl)) (pgs_cons (pg_name (i := 5) sc_law_ties.nd rfl (by first | exact Or.inl rfl | exact Or.inr rfl)) pgs_nil)))) (pss_one (ps_if (pt_cmpR op_lt (pv 2) (pv 3) (nomark _)) (pss_one (ps_expr (pe_app K rfl (pv 1) (pa_cons (pe_tup (pa_cons (pv 2) (pa_cons (pv 3) (pa_cons (pv 4) (pa_cons (pv 5) pa_nil))))) pa_nil)))) pss_nil)))))
      (pss_one (ps_ret (pe_callB (call_srtK K rfl hr.units rfl) (by rfl) Z.sorted (by decide +kernel) (pa_cons (pv 1) pa_nil)))))), ?_⟩
  rintro cs R ⟨W, rfl, hf, hR⟩
  have hlen := hf.len
  have fm : ∀ (ns : List Int), ns.length ≤ 64 → (ns.flatMap fun n => ((endsAt W n).filter fun e => decide (n < e.1)).map fun e => (n, e)).length ≤ 200 * ns.length := by
    intro ns
    induction ns with
    | nil => intro _; simp
    | cons n ns ih =>
      intro h
      rw [List.flatMap_cons, List.length_append, List.length_map]
      have h1 := List.length_filter_le (fun e : Nd => decide (n < e.1)) (endsAt W n)
      have h2 := hf.deg n
      have h3 := ih (by rw [List.length_cons] at h; omega)
      rw [List.length_cons]; omega
  refine d_seq (d_setN (e_lst l_nil) ?_)
  refine d_seq (d_for (i_listD (e_cbN (l_cons (e_v rfl) l_nil) (c_srtM hlen)).fz) (fun i ρ => ∃ x2 x3 x4 x5, ρ = [.fro (wD W), .own (.lst ((((srt (W.map (·.1))).take i).flatMap fun n => ((endsAt W n).filter fun e => decide (n < e.1)).map fun e => (n, e)).map tiD)), x2, x3, x4, x5]) ⟨⟨_, _, _, _, rfl⟩, ?_, ?_⟩)
  · rintro i d ρ hd ⟨x2, x3, x4, x5, rfl⟩
    obtain ⟨n, hn, hm, rfl⟩ := map_get hd
    have hk : n ∈ W.map (·.1) := srt_mem.mp hm
    have hl : (((srt (W.map (·.1))).take i).flatMap fun n => ((endsAt W n).filter fun e => decide (n < e.1)).map fun e => (n, e)).length ≤ 200 * 64 := by
      have h1 : ((srt (W.map (·.1))).take i).length ≤ 64 := by rw [List.length_take, srt_len, List.length_map]; omega
      have := fm _ h1
      omega
    rw [List.take_add_one, hn, Option.toList_some, List.flatMap_append, List.flatMap_cons, List.flatMap_nil, List.append_nil]
    generalize ((srt (W.map (·.1))).take i).flatMap (fun n => ((endsAt W n).filter fun e => decide (n < e.1)).map fun e => (n, e)) = acc at hl
    refine ⟨_, _, g_name, d_for (i_listD (e_ends rfl (e_v rfl) hk)) (fun i ρ => ∃ x3 x4 x5, ρ = [.fro (wD W), .own (.lst ((acc ++ (((endsAt W n).take i).filter fun e => decide (n < e.1)).map fun e => (n, e)).map tiD)), .fro (.int n), x3, x4, x5]) ⟨⟨_, _, _, by rw [List.take_zero, List.filter_nil, List.map_nil, List.append_nil]; rfl⟩, ?_, ?_⟩⟩
    · rintro k d ρ hd ⟨x3, x4, x5, rfl⟩
      rw [List.getElem?_map] at hd
      obtain ⟨e, he, rfl⟩ := Option.map_eq_some_iff.mp hd
      refine ⟨_, _, g_tupT (gs_cons g_name (gs_cons g_name (gs_cons g_name gs_nil))) rfl, ?_⟩
      refine d_if (t_test (e_op (e_v rfl) (e_v rfl) o_lt)) (fun hb => ?_) fun hb => d_next ⟨.fro (.int e.1), .fro (.int e.2.1), .fro (.bl e.2.2), ?_⟩
      · refine d_app rfl (e_tup (l_cons (e_v rfl) (l_cons (e_v rfl) (l_cons (e_v rfl) (l_cons (e_v rfl) l_nil))))) ?_ ⟨.fro (.int e.1), .fro (.int e.2.1), .fro (.bl e.2.2), ?_⟩
        · rw [List.length_map, List.length_append, List.length_map]
          have h1 := List.length_filter_le (fun e : Nd => decide (n < e.1)) ((endsAt W n).take k)
          have h2 := hf.deg n
          rw [List.length_take] at h1
          omega
        · rw [List.take_add_one, he, Option.toList_some, List.filter_append, List.filter_cons, hb, if_pos rfl, List.filter_nil]
          simp only [List.map_append, List.map_cons, List.map_nil, List.append_assoc]
          rfl
      · rw [List.take_add_one, he, Option.toList_some, List.filter_append, List.filter_cons, hb, if_neg Bool.false_ne_true, List.filter_nil, List.append_nil]
        rfl
    · rintro ρ ⟨x3, x4, x5, rfl⟩
      rw [List.length_map, List.take_length]
      exact ⟨_, _, _, _, rfl⟩
  · rintro ρ ⟨x2, x3, x4, x5, rfl⟩
    rw [List.length_map, List.take_length]
    have hs : ∀ ts : List (Int × Nd), CbN K (rSrt K) [.lst (ts.map tiD)] (fun d => ∃ es, d = .lst es ∧ es.Perm (ts.map tiD)) := fun ts => by
      refine c_srtD (n := 2) (by decide) ?_ ?_ ?_
      · intro x hx
        obtain ⟨t, _, rfl⟩ := List.mem_map.mp hx
        exact fl_tup (n := 1) fun x hx => by
          simp only [List.mem_cons, List.not_mem_nil, or_false] at hx
          rcases hx with rfl | rfl | rfl | rfl
          · exact .int _ _
          · exact .int _ _
          · exact .int _ _
          · exact .bl _ _
      · intro x hx y hy
        obtain ⟨_, h1, rfl⟩ := List.mem_map.mp hx
        obtain ⟨_, h2, rfl⟩ := List.mem_map.mp hy
        obtain ⟨t, _, rfl⟩ := List.mem_map.mp h1
        obtain ⟨u, _, rfl⟩ := List.mem_map.mp h2
        rfl
      · refine .inl fun x hx => ?_
        obtain ⟨_, h1, rfl⟩ := List.mem_map.mp hx
        obtain ⟨t, _, rfl⟩ := List.mem_map.mp h1
        exact ⟨_, _, rfl⟩
    refine d_freeze (i := 1) rfl (gd_retN (g_cbN (P := fun x => x = _) (l_cons (e_v rfl) l_nil) (by rintro _ rfl; exact hs _)) ?_)
    rintro _ ⟨es, rfl, hp⟩
    exact hR es (by rw [hp.length_eq, List.length_map]; rfl)
def ctPairs : Ctr := fun cs R => ∃ (W : Web), cs = [.fro (wD W)] ∧ Fit W ∧ R (.fro (.lst ((pairsOf W).map prD)))
theorem pairs_len {W : Web} (hf : Fit W) (ns : List Int) (h : ns.length ≤ 64) : (ns.flatMap fun n => (srt (orderOf W n)).map fun o => (n, o)).length ≤ 200 * ns.length := by
  induction ns with
  | nil => simp
  | cons n ns ih =>
    rw [List.flatMap_cons, List.length_append, List.length_map, srt_len]
    have h2 := order_len hf n
    have h3 := ih (by rw [List.length_cons] at h; omega)
    rw [List.length_cons]; omega
theorem prs_map (n : Int) (os : List Int) : (os.map fun o => (n, o)).map prD = os.map fun o => .tup [.int n, .int o] := by rw [List.map_map]; rfl
theorem ok_pairs (Z : Blt mg) (T : Def K mg "_law_pairs" st_law_pairs ["_law_web_here"]) : OkDef P w K mg base 1 "_law_pairs" ["_law_web_here"] ctPairs := by
  refine ok_def (k := 0) (n := 4) T sc_law_pairs rfl (by rintro cs P ⟨_, rfl, _⟩; rfl) fun f cdv A outer s H E hr hu1 hu => ?_
  refine ⟨_, (pss_cons (ps_set (i := 1) sc_law_pairs.nd rfl (by first | exact Or.inl rfl | exact Or.inr rfl) (pe_lst pa_nil))
      (pss_cons (ps_for PassesOwn.never rfl (pi_listK K rfl (pe_callB (call_srtK K rfl hr.units rfl) (by rfl) Z.sorted (by decide +kernel) (pa_cons (pv 0) pa_nil))) (pg_name (i := 2) sc_law_pairs.nd rfl (by first | exact Or.inl rfl | exact Or.inr rfl)) (pss_one (ps_set (i := 1) sc_law_pairs.nd rfl (by first | exact Or.inl rfl | exact Or.inr rfl) (pe_op (op_addK K rfl) (pv 1) (pe_lc (own := [("_law_other", 4)]) (g := (gName 4)) (tt := tYes) rfl sc_law_pairs.nd (pi_listK K rfl (pe_callB (call_srtK K rfl hr.units rfl) (by rfl) Z.sorted (by decide +kernel) (pa_cons (pe_lc (own := [("_law_end", 3)]) (g := (gName 3)) (tt := tYes) rfl sc_law_pairs.nd (pi_listK K rfl (pe_ix (ix_anyK K hu1 rfl) (pe_ix (ix_anyK K hu1 rfl) (pv 0) (pv 2) (fun _ _ => rfl)) pe_int (fun _ _ => rfl))) (blkOk_by (N := N_law_pairs) (sc := defScope st_law_pairs) (by decide +kernel)) (fun _ _ _ _ _ => (pg_name (i := 3) sc_law_pairs.nd rfl (by first | exact Or.inl rfl | exact Or.inr rfl))) (fun _ _ _ _ _ => pts_nil) (fun _ _ _ _ _ => (pe_ix (ix_anyK K hu1 rfl) (pv 3) pe_int (fun _ _ => rfl)))) pa_nil))) (blkOk_by (N := N_law_pairs) (sc := defScope st_law_pairs) (by decide +kernel)) (fun _ _ _ _ _ => (pg_name (i := 4) sc_law_pairs.nd rfl (by first | exact Or.inl rfl | exact Or.inr rfl))) (fun _ _ _ _ _ => pts_nil) (fun _ _ _ _ _ => (pe_tup (pa_cons (pv 2) (pa_cons (pv 4) pa_nil)))))))))
      (pss_one (ps_ret (pv 1))))), ?_⟩
  rintro cs R ⟨W, rfl, hf, hR⟩
  have hlen := hf.len
  refine d_seq (d_set (e_lstF l_nil) ?_)
  refine d_seq (d_for (i_listD (e_cbN (l_cons (e_v rfl) l_nil) (c_srtM hlen)).fz) (fun i ρ => ∃ x2, ρ = [.fro (wD W), .fro (.lst ((((srt (W.map (·.1))).take i).flatMap fun n => (srt (orderOf W n)).map fun o => (n, o)).map prD)), x2, .any, .any]) ⟨⟨_, rfl⟩, ?_, ?_⟩)
  · rintro i d ρ hd ⟨x2, rfl⟩
    obtain ⟨n, hn, hm, rfl⟩ := map_get hd
    have hk : n ∈ W.map (·.1) := srt_mem.mp hm
    have hl := pairs_len hf ((srt (W.map (·.1))).take i) (by rw [List.length_take, srt_len, List.length_map]; omega)
    have hl2 : ((srt (W.map (·.1))).take i).length ≤ 64 := by rw [List.length_take, srt_len, List.length_map]; omega
    rw [List.take_add_one, hn, Option.toList_some, List.flatMap_append, List.flatMap_cons, List.flatMap_nil, List.append_nil, List.map_append]
    generalize ((srt (W.map (·.1))).take i).flatMap (fun n => (srt (orderOf W n)).map fun o => (n, o)) = acc at hl
    have hd2 := hf.deg n
    have ho : (srt (orderOf W n)).length ≤ 200 := by rw [srt_len]; unfold orderOf; rw [List.length_map]; exact hd2
    refine ⟨_, _, g_name, d_set (EvD.to (e_op (e_v rfl) (EvN.fz (EvNB.all fun B0 σ => c_lcM (xs := srt (orderOf W n)) (en := D.int) (i_listD (e_cbN (l_cons (n_order (e_ends rfl (e_v rfl) hk) (by exact Nat.le_of_ble_eq_true rfl) (by omega)).fz l_nil) c_srtL).fz B0 σ) (by omega) (fun o => .tup [.int n, .int o]) (fun o => [.fro (wD W), .fro (.lst (acc.map prD)), .fro (.int n), .any, .fro (.int o)]) (fun o _ => g_name) fun o _ => e_tup (l_cons (e_v rfl) (l_cons (e_v rfl) l_nil)))) (o_addL (by rw [List.length_map, List.length_map]; omega))) (by rw [prs_map])) ⟨_, rfl⟩⟩
  · rintro ρ ⟨x2, rfl⟩
    rw [List.length_map, List.take_length]
    exact d_ret (e_v rfl) hR
theorem ok_both_ways (Z : Blt mg) (T : Def K mg "_law_both_ways" st_law_both_ways ["_law_web_here"]) : OkDef P w K mg base 1 "_law_both_ways" ["_law_web_here"] ctPairs := by
  refine ok_def (k := 0) (n := 4) T sc_law_both_ways rfl (by rintro cs P ⟨_, rfl, _⟩; rfl) fun f cdv A outer s H E hr hu1 hu => ?_
  refine ⟨_, (pss_cons (ps_set (i := 1) sc_law_both_ways.nd rfl (by first | exact Or.inl rfl | exact Or.inr rfl) (pe_lst pa_nil))
      (pss_cons (ps_for PassesOwn.never rfl (pi_listK K rfl (pe_callB (call_srtK K rfl hr.units rfl) (by rfl) Z.sorted (by decide +kernel) (pa_cons (pv 0) pa_nil))) (pg_name (i := 2) sc_law_both_ways.nd rfl (by first | exact Or.inl rfl | exact Or.inr rfl)) (pss_one (ps_set (i := 1) sc_law_both_ways.nd rfl (by first | exact Or.inl rfl | exact Or.inr rfl) (pe_op (op_addK K rfl) (pv 1) (pe_lc (own := [("_law_other", 4)]) (g := (gName 4)) (tt := tYes) rfl sc_law_both_ways.nd (pi_listK K rfl (pe_callB (call_srtK K rfl hr.units rfl) (by rfl) Z.sorted (by decide +kernel) (pa_cons (pe_lc (own := [("_law_end", 3)]) (g := (gName 3)) (tt := tYes) rfl sc_law_both_ways.nd (pi_listK K rfl (pe_ix (ix_anyK K hu1 rfl) (pe_ix (ix_anyK K hu1 rfl) (pv 0) (pv 2) (fun _ _ => rfl)) pe_int (fun _ _ => rfl))) (blkOk_by (N := N_law_both_ways) (sc := defScope st_law_both_ways) (by decide +kernel)) (fun _ _ _ _ _ => (pg_name (i := 3) sc_law_both_ways.nd rfl (by first | exact Or.inl rfl | exact Or.inr rfl))) (fun _ _ _ _ _ => pts_nil) (fun _ _ _ _ _ => (pe_ix (ix_anyK K hu1 rfl) (pv 3) pe_int (fun _ _ => rfl)))) pa_nil))) (blkOk_by (N := N_law_both_ways) (sc := defScope st_law_both_ways) (by decide +kernel)) (fun _ _ _ _ _ => (pg_name (i := 4) sc_law_both_ways.nd rfl (by first | exact Or.inl rfl | exact Or.inr rfl))) (fun _ _ _ _ _ => pts_nil) (fun _ _ _ _ _ => (pe_tup (pa_cons (pv 2) (pa_cons (pv 4) pa_nil)))))))))
      (pss_one (ps_ret (pv 1))))), ?_⟩
  rintro cs R ⟨W, rfl, hf, hR⟩
  have hlen := hf.len
  refine d_seq (d_set (e_lstF l_nil) ?_)
  refine d_seq (d_for (i_listD (e_cbN (l_cons (e_v rfl) l_nil) (c_srtM hlen)).fz) (fun i ρ => ∃ x2, ρ = [.fro (wD W), .fro (.lst ((((srt (W.map (·.1))).take i).flatMap fun n => (srt (orderOf W n)).map fun o => (n, o)).map prD)), x2, .any, .any]) ⟨⟨_, rfl⟩, ?_, ?_⟩)
  · rintro i d ρ hd ⟨x2, rfl⟩
    obtain ⟨n, hn, hm, rfl⟩ := map_get hd
    have hk : n ∈ W.map (·.1) := srt_mem.mp hm
    have hl := pairs_len hf ((srt (W.map (·.1))).take i) (by rw [List.length_take, srt_len, List.length_map]; omega)
    have hl2 : ((srt (W.map (·.1))).take i).length ≤ 64 := by rw [List.length_take, srt_len, List.length_map]; omega
    rw [List.take_add_one, hn, Option.toList_some, List.flatMap_append, List.flatMap_cons, List.flatMap_nil, List.append_nil, List.map_append]
    generalize ((srt (W.map (·.1))).take i).flatMap (fun n => (srt (orderOf W n)).map fun o => (n, o)) = acc at hl
    have hd2 := hf.deg n
    have ho : (srt (orderOf W n)).length ≤ 200 := by rw [srt_len]; unfold orderOf; rw [List.length_map]; exact hd2
    refine ⟨_, _, g_name, d_set (EvD.to (e_op (e_v rfl) (EvN.fz (EvNB.all fun B0 σ => c_lcM (xs := srt (orderOf W n)) (en := D.int) (i_listD (e_cbN (l_cons (n_order (e_ends rfl (e_v rfl) hk) (by exact Nat.le_of_ble_eq_true rfl) (by omega)).fz l_nil) c_srtL).fz B0 σ) (by omega) (fun o => .tup [.int n, .int o]) (fun o => [.fro (wD W), .fro (.lst (acc.map prD)), .fro (.int n), .any, .fro (.int o)]) (fun o _ => g_name) fun o _ => e_tup (l_cons (e_v rfl) (l_cons (e_v rfl) l_nil)))) (o_addL (by rw [List.length_map, List.length_map]; omega))) (by rw [prs_map])) ⟨_, rfl⟩⟩
  · rintro ρ ⟨x2, rfl⟩
    rw [List.length_map, List.take_length]
    exact d_ret (e_v rfl) hR
end
end Bs
namespace Bs
open PySem L2
/-! ### the pair behind a pair -/
def nextIn (os : List Int) (a : Int) : Int := (os ++ os).getD (os.idxOf a + 1) 0
def behind (W : Web) (p : Int × Int) : Int × Int := (p.2, nextIn (orderOf W p.2) p.1)
theorem nextIn_get {os : List Int} {a : Int} (h : a ∈ os) : (os ++ os)[os.idxOf a + 1]? = some (nextIn os a) := by
  have hlt := List.idxOf_lt_length_of_mem h
  unfold nextIn
  rw [List.getD_eq_getElem?_getD]
  have : os.idxOf a + 1 < (os ++ os).length := by rw [List.length_append]; omega
  rw [List.getElem?_eq_getElem this]; rfl
section
variable {P : Program} {w : World} {K : PySem.W.Frag} {mg : Str → Option Value} {base : Heap}
def ctBehind : Ctr := fun cs R => ∃ (W : Web) (p : Int × Int), cs = [.fro (wD W), .fro (prD p)] ∧ Fit W ∧ p.2 ∈ W.map (·.1) ∧ p.1 ∈ orderOf W p.2 ∧ R (.fro (prD (behind W p)))
theorem ok_behind (Z : Blt mg) (T : Def K mg "_law_behind" st_law_behind ["_law_web_here", "_law_pair"]) : OkDef P w K mg base 1 "_law_behind" ["_law_web_here", "_law_pair"] ctBehind := by
  refine ok_def (k := 0) (n := 3) T sc_law_behind rfl (by rintro cs P ⟨_, _, rfl, _⟩; rfl) fun f cdv A outer s H E hr hu1 hu => ?_
  refine ⟨_, (pss_cons (ps_setLc (i := 2) (own := [("_law_end", 4)]) (g := (gName 4)) (tt := tYes) rfl sc_law_behind.nd rfl rfl (sw_true rfl rfl rfl (by decide +kernel)) (pi_listK K rfl (pe_ix (ix_anyK K hu1 rfl) (pe_ix (ix_anyK K hu1 rfl) (pv 0) (pe_ix (ix_anyK K hu1 rfl) (pv 1) pe_int (fun _ _ => rfl)) (fun _ _ => rfl)) pe_int (fun _ _ => rfl))) (blkOk_by (N := N_law_behind) (sc := defScope st_law_behind) (by decide +kernel)) (fun _ _ _ _ _ => (pg_name (i := 4) sc_law_behind.nd rfl (by first | exact Or.inl rfl | exact Or.inr rfl))) (fun _ _ _ _ _ => pts_nil) (fun _ _ _ _ _ => (pe_ix (ix_anyK K hu1 rfl) (pv 4) pe_int (fun _ _ => rfl))))
      (pss_cons (ps_set (i := 3) sc_law_behind.nd rfl (by first | exact Or.inl rfl | exact Or.inr rfl) (pe_idx K rfl (pv 2) (pa_cons (pe_ix (ix_anyK K hu1 rfl) (pv 1) pe_int (fun _ _ => rfl)) pa_nil)))
      (pss_one (ps_ret (pe_tup (pa_cons (pe_ix (ix_anyK K hu1 rfl) (pv 1) pe_int (fun _ _ => rfl)) (pa_cons (pe_ix (ix_anyK K hu1 rfl) (pe_op (op_addK K rfl) (pv 2) (pv 2)) (pe_op (op_addK K rfl) (pv 3) pe_int) (fun _ _ => rfl)) pa_nil))))))), ?_⟩
  rintro cs R ⟨W, p, rfl, hf, hk, ha, hR⟩
  have hd := hf.deg p.2
  have ho := order_len hf p.2
  refine d_seq (d_setN (n_order (e_ends rfl (e_tat 1 rfl rfl rfl) hk) (by exact Nat.le_of_ble_eq_true rfl) (by omega)) ?_)
  refine d_freeze (i := 2) rfl (d_seq (d_set (e_idx (ns := orderOf W p.2) rfl (e_tat 0 rfl rfl rfl) ha) ?_))
  refine d_ret (e_tup (l_cons (e_tat 1 rfl rfl rfl) (l_cons (e_op (e_op (e_v rfl) (e_v rfl) (o_addL (by show ((orderOf W p.2).map D.int).length + ((orderOf W p.2).map D.int).length ≤ 100000; rw [List.length_map]; omega))) (e_op (e_v rfl) e_i o_add) (o_ixL (d := .int (nextIn (orderOf W p.2) p.1)) ?_)) l_nil))) hR
  show atI ((orderOf W p.2).map D.int ++ (orderOf W p.2).map D.int) _ = _
  rw [← List.map_append]
  exact atD (j := (orderOf W p.2).idxOf p.1 + 1) (by omega) (by rw [List.getElem?_map, nextIn_get ha]; rfl)
end
end Bs
namespace Bs
open PySem L2
/-! ### faces -/
section
variable {α : Type} [DecidableEq α]
def chase (β : α → α) (h : α) : Nat → α → List α
  | 0, _ => []
  | n + 1, x => if β x = h then [] else β x :: chase β h n (β x)
def Closes (β : α → α) (h : α) : Nat → α → Prop
  | 0, _ => False
  | n + 1, x => β x = h ∨ Closes β h n (β x)
def notIn (f : List α) (q : α) : Bool := decide (q ∉ f)
theorem notIn_t {f : List α} {q : α} : notIn f q = true ↔ q ∉ f := by unfold notIn; exact decide_eq_true_iff
def faceOf (β : α → α) (N : Nat) (p : α) : List α := p :: chase β p N p
def facesGo (β : α → α) (N : Nat) : Nat → List α → List (List α)
  | 0, _ => []
  | _ + 1, [] => []
  | n + 1, p :: l => faceOf β N p :: facesGo β N n ((p :: l).filter (notIn (faceOf β N p)))
end
theorem facesGo_cons {α : Type} [DecidableEq α] (β : α → α) (N n : Nat) (p : α) (l : List α) : facesGo β N (n + 1) (p :: l) = faceOf β N p :: facesGo β N n ((p :: l).filter (notIn (faceOf β N p))) := rfl
def facesOf (W : Web) : List (List (Int × Int)) := if pairsOf W = [] then [[]] else facesGo (behind W) (pairsOf W).length (pairsOf W).length (pairsOf W)
/-- the pairs close -/
structure FaceOk (W : Web) : Prop where
  fit : Fit W
  few : (pairsOf W).length ≤ 100
  key : ∀ p ∈ pairsOf W, p.2 ∈ W.map (·.1) ∧ p.1 ∈ orderOf W p.2
  nxt : ∀ p ∈ pairsOf W, behind W p ∈ pairsOf W
  cl : ∀ p ∈ pairsOf W, Closes (behind W) p (pairsOf W).length p
theorem pairs_le {W : Web} (hf : Fit W) : (pairsOf W).length ≤ 12800 := by
  have h1 := hf.len
  have := pairs_len hf (srt (W.map (·.1))) (by rw [srt_len, List.length_map]; omega)
  rw [srt_len, List.length_map] at this
  unfold pairsOf
  omega
theorem eqD_pr (a b : Int × Int) : eqD (prD a) (prD b) = decide (a = b) := by
  have := eqD_tints [a.1, a.2] [b.1, b.2]
  rw [show prD a = .tup ([a.1, a.2].map .int) from rfl, show prD b = .tup ([b.1, b.2].map .int) from rfl, this, Bool.eq_iff_iff]
  simp only [decide_eq_true_eq, List.cons.injEq, and_true, Prod.ext_iff]
theorem fl_pr (n : Nat) (p : Int × Int) : Fl (n + 1) (prD p) := fl_tup fun x hx => by
  simp only [List.mem_cons, List.not_mem_nil, or_false] at hx
  rcases hx with rfl | rfl <;> exact .int _ _
theorem fl_prs (l : List (Int × Int)) : Fl 2 (.lst (l.map prD)) := fl_map (fun p => fl_pr 0 p) l
theorem any_pr (l : List (Int × Int)) (p : Int × Int) : ((l.map prD).any fun z => eqD z (prD p)) = decide (p ∈ l) := by
  rw [List.any_map, Bool.eq_iff_iff]
  simp only [List.any_eq_true, Function.comp, eqD_pr, decide_eq_true_eq]
  exact ⟨fun ⟨x, h, e⟩ => e ▸ h, fun h => ⟨p, h, rfl⟩⟩
theorem chase_mem {W : Web} (hf : FaceOk W) {h : Int × Int} : ∀ (n : Nat) (x : Int × Int), x ∈ pairsOf W → ∀ y ∈ chase (behind W) h n x, y ∈ pairsOf W
  | 0, x, hx, y, hy => by cases hy
  | n + 1, x, hx, y, hy => by
    unfold chase at hy
    split at hy
    · cases hy
    · rcases List.mem_cons.mp hy with rfl | hy
      · exact hf.nxt x hx
      · exact chase_mem hf n _ (hf.nxt x hx) y hy
theorem chase_len {α : Type} [DecidableEq α] (β : α → α) (h : α) : ∀ (n : Nat) (x : α), (chase β h n x).length ≤ n
  | 0, _ => Nat.le_refl _
  | n + 1, x => by
    unfold chase
    split
    · exact Nat.zero_le _
    · rw [List.length_cons]; have := chase_len β h n (β x); omega
theorem atI_neg1 {α : Type} (xs : List α) (x : α) : atI (xs ++ [x]) (-1) = some x := by
  unfold atI ixN
  rw [List.length_append, List.length_singleton]
  simp
  rw [if_pos (by omega)]
  show (xs ++ [x])[(-1 + ((xs.length : Int) + 1)).toNat]? = some x
  rw [show (-1 + ((xs.length : Int) + 1)).toNat = xs.length by omega]
  simp
def fcD (f : List (Int × Int)) : D := .lst (f.map prD)
section
variable {P : Program} {w : World} {K : PySem.W.Frag} {mg : Str → Option Value} {base : Heap}
theorem e_neg {te : TE} {ρ : List Cell} {z : Int} (h : EvD K te ρ (.int z)) : EvD K (tUn (rU fun i => .int (-i)) te) ρ (.int (-z)) := fun B pp F H σ ok Q q =>
  h B pp F H σ ok _ fun v d F1 H1 ok1 l1 pd rd => by
    subst pd; unfold Rdd at rd; subst rd
    exact ⟨z, rfl, q _ _ F1 H1 ok1 l1 rfl rdi⟩
def ctFaces : Ctr := fun cs R => ∃ (W : Web), cs = [.fro (wD W)] ∧ FaceOk W ∧ R (.own (.lst ((facesOf W).map fcD)))
theorem ok_faces (Z : Blt mg) (T : Def K mg "_law_faces" st_law_faces ["_law_web_here"]) (D_law_pairs : OkDef P w K mg base 1 "_law_pairs" ["_law_web_here"] ctPairs) (D_law_behind : OkDef P w K mg base 1 "_law_behind" ["_law_web_here", "_law_pair"] ctBehind) : OkDef P w K mg base 2 "_law_faces" ["_law_web_here"] ctFaces := by
  refine ok_def (k := 1) (n := 4) T sc_law_faces rfl (by rintro cs P ⟨_, rfl, _⟩; rfl) fun f cdv A outer s H E hr hu1 hu => ?_
  refine ⟨_, (pss_cons (ps_set (i := 1) sc_law_faces.nd rfl (by first | exact Or.inl rfl | exact Or.inr rfl) (pe_fnK K D_law_pairs rfl rfl rfl rfl rfl hr (by rfl) (pa_cons (pv 0) pa_nil)))
      (pss_cons (ps_if (pt_cmpR (op_eqK K hr.units rfl) (pv 1) (pe_lst pa_nil) (nomark _)) (pss_one (ps_ret (pe_lst (pa_cons (pe_lst pa_nil) pa_nil)))) pss_nil)
      (pss_cons (ps_set (i := 2) sc_law_faces.nd rfl (by first | exact Or.inl rfl | exact Or.inr rfl) (pe_lst pa_nil))
      (pss_cons (ps_while PassesOwn.never (pt_cmpR (op_neK K hr.units rfl) (pv 1) (pe_lst pa_nil) (nomark _)) (pss_cons (ps_set (i := 3) sc_law_faces.nd rfl (by first | exact Or.inl rfl | exact Or.inr rfl) (pe_lst (pa_cons (pe_ix (ix_anyK K hu1 rfl) (pv 1) pe_int (fun _ _ => rfl)) pa_nil)))
      (pss_cons (ps_while PassesOwn.never (pt_cmpR (op_neK K hr.units rfl) (pe_fnK K D_law_behind rfl rfl rfl rfl rfl hr (by rfl) (pa_cons (pv 0) (pa_cons (pe_ix (ix_anyK K hu1 rfl) (pv 3) (pe_un un_neg pe_int) (fun _ _ => rfl)) pa_nil))) (pe_ix (ix_anyK K hu1 rfl) (pv 3) pe_int (fun _ _ => rfl)) (nomark _)) (pss_one (ps_expr (pe_app K rfl (pv 3) (pa_cons (pe_fnK K D_law_behind rfl rfl rfl rfl rfl hr (by rfl) (pa_cons (pv 0) (pa_cons (pe_ix (ix_anyK K hu1 rfl) (pv 3) (pe_un un_neg pe_int) (fun _ _ => rfl)) pa_nil))) pa_nil)))))
      (pss_cons (ps_expr (pe_app K rfl (pv 2) (pa_cons (pv 3) pa_nil)))
      (pss_one (ps_setLc (i := 1) (own := [("_law_pair", 4)]) (g := (gName 4)) rfl sc_law_faces.nd rfl rfl (sw_true rfl rfl rfl (by decide +kernel)) (pi_listK K rfl (pv 1)) (blkOk_by (N := N_law_faces) (sc := defScope st_law_faces) (by decide +kernel)) (fun _ _ _ _ _ => (pg_name (i := 4) sc_law_faces.nd rfl (by first | exact Or.inl rfl | exact Or.inr rfl))) (fun _ _ _ _ _ => (pts_one (pt_cmpR (op_ninA' K hu rfl) (pv 4) (pv 3) (by rfl)))) (fun _ _ _ _ _ => (pv 4))))))))
      (pss_one (ps_ret (pv 2))))))), ?_⟩
  rintro cs R ⟨W, rfl, hf, hR⟩
  have hpl := pairs_le hf.fit
  have bh : ∀ p ∈ pairsOf W, ∀ P : Cell → Prop, P (.fro (prD (behind W p))) → ctBehind [.fro (wD W), .fro (prD p)] P := fun p hp P h => ⟨W, p, rfl, hf.fit, (hf.key p hp).1, (hf.key p hp).2, h⟩
  refine d_seq (d_set (e_callF (a_cons (e_v rfl) a_nil) fun P h => ⟨W, rfl, hf.fit, h⟩) ?_)
  refine d_seq (d_if (b := (pairsOf W).isEmpty) ((t_test (e_op (e_v rfl) (e_lstF l_nil) (o_eq (fl_prs _) (fl_nil 0)))).to (by rw [eqD_lnil]; cases pairsOf W <;> rfl)) (fun hb => ?_) fun hb => d_next ?_)
  · refine gd_retN (e_lst (l_cons (e_lstF l_nil) l_nil)) ?_
    rintro _ rfl
    have e : pairsOf W = [] := List.isEmpty_iff.mp hb
    unfold facesOf at hR
    rw [if_pos e] at hR
    exact hR
  have hne : pairsOf W ≠ [] := fun e => by rw [e] at hb; cases hb
  have hall : facesOf W = facesGo (behind W) (pairsOf W).length (pairsOf W).length (pairsOf W) := by unfold facesOf; rw [if_neg hne]
  refine d_seq (d_setN (e_lst l_nil) ?_)
  refine d_seq (d_while (fun m ρ => ∃ (fs : List (List (Int × Int))) (l : List (Int × Int)) (x3 : Cell), ρ = [.fro (wD W), .fro (.lst (l.map prD)), .own (.lst (fs.map fcD)), x3, .any] ∧ (∀ p ∈ l, p ∈ pairsOf W) ∧ l.length ≤ m ∧ m + fs.length ≤ (pairsOf W).length ∧ fs ++ facesGo (behind W) (pairsOf W).length m l = facesOf W) (pairsOf W).length ⟨[], pairsOf W, _, rfl, fun _ h => h, Nat.le_refl _, Nat.le_refl _, hall.symm⟩ ?_)
  rintro m ρ ⟨fs, l, x3, rfl, hl, hm, hfs, he⟩
  refine ⟨_, (t_test (e_op (e_v rfl) (e_lstF l_nil) (o_ne (fl_prs _) (fl_nil 0)))), fun hb => ?_, fun hb => ?_⟩
  · cases l with
    | nil => rw [eqD_lnil] at hb; cases hb
    | cons p l =>
    cases m with
    | zero => simp at hm
    | succ m =>
    have hp : p ∈ pairsOf W := hl p List.mem_cons_self
    refine d_seq (d_setN (e_lst (l_cons (e_lat 0 rfl rfl rfl) l_nil)) ?_)
    refine d_seq (d_while (fun k ρ => ∃ (acc : List (Int × Int)) (x : Int × Int), ρ = [.fro (wD W), .fro (.lst ((p :: l).map prD)), .own (.lst (fs.map fcD)), .own (.lst ((acc ++ [x]).map prD)), .any] ∧ (∃ r, acc ++ [x] = p :: r) ∧ x ∈ pairsOf W ∧ Closes (behind W) p k x ∧ acc.length + k ≤ (pairsOf W).length ∧ acc ++ [x] ++ chase (behind W) p k x = faceOf (behind W) (pairsOf W).length p) (pairsOf W).length ⟨[], p, rfl, ⟨_, rfl⟩, hp, hf.cl p hp, by simp, rfl⟩ ?_)
    rintro k ρ ⟨acc, x, rfl, ⟨r, hr0⟩, hx, hc, hk, hch⟩
    have hlast : atI ((acc ++ [x]).map prD) (-1) = some (prD x) := by rw [List.map_append]; exact atI_neg1 _ _
    have hfirst : atI ((acc ++ [x]).map prD) 0 = some (prD p) := by rw [hr0]; exact atD (j := 0) rfl rfl
    refine ⟨_, (t_test (e_op (e_callF (a_cons (e_v rfl) (a_cons (e_ownL rfl (e_neg e_i) hlast) a_nil)) (bh x hx)) (e_ownL rfl e_i hfirst) (o_ne (fl_pr 0 _) (fl_pr 0 _)))), fun hb => ?_, fun hb => ?_⟩
    · rw [eqD_pr] at hb
      have hb : behind W x ≠ p := of_decide_eq_false (nt_t hb.symm)
      cases k with
      | zero => exact hc.elim
      | succ k =>
      rcases hc with hc | hc
      · exact absurd hc hb
      refine d_app rfl (e_callF (a_cons (e_v rfl) (a_cons (e_ownL rfl (e_neg e_i) hlast) a_nil)) (bh x hx)) ?_ ⟨k, Nat.lt_succ_self k, acc ++ [x], behind W x, ?_, ⟨r ++ [behind W x], ?_⟩, hf.nxt x hx, hc, ?_, ?_⟩
      · rw [List.length_map, List.length_append, List.length_singleton]; omega
      · rw [List.map_append (l₁ := acc ++ [x])]; rfl
      · rw [hr0]; rfl
      · rw [List.length_append, List.length_singleton]; omega
      · unfold chase at hch
        rw [if_neg hb] at hch
        rw [List.append_assoc (acc ++ [x])]; exact hch
    · rw [eqD_pr] at hb
      have hb : behind W x = p := of_decide_eq_true (nt_f hb.symm)
      have hface : acc ++ [x] = faceOf (behind W) (pairsOf W).length p := by
        cases k with
        | zero => exact hc.elim
        | succ k =>
        unfold chase at hch
        rw [if_pos hb, List.append_nil] at hch
        exact hch
      rw [hface]
      generalize hF : faceOf (behind W) (pairsOf W).length p = fc
      refine d_seq (d_freeze (i := 3) rfl (d_app rfl (e_v rfl) ?_ ?_))
      · rw [List.length_map]; omega
      refine gd_set (P := fun d => d = .lst (((p :: l).filter (notIn fc)).map prD)) (EvN.fz <| EvNB.all fun B0 σ => c_lcD (xs := p :: l) (en := prD) (i_listD (e_v rfl) B0 σ) (by
        have := hl
        have h2 : (p :: l).length ≤ m + 1 := hm
        omega) (notIn fc) prD (fun q => [.fro (wD W), .fro (.lst ((p :: l).map prD)), .own (.lst (fs.map fcD ++ [fcD fc])), .fro (.lst (fc.map prD)), .fro (prD q)]) (fun q _ => g_name)
        (fun q _ => (t_test (e_op (e_v rfl) (e_v rfl) (o_nin (fl_pr 0 q) (fl_prs fc)))).to (by rw [any_pr, Bool.eq_iff_iff, notIn_t]; simp)) fun q _ _ => e_v rfl) ?_
      rintro _ rfl
      have hpf : p ∈ fc := by rw [← hF]; exact List.mem_cons_self
      refine ⟨m, Nat.lt_succ_self m, fs ++ [fc], (p :: l).filter (notIn fc), .fro (.lst (fc.map prD)), by rw [List.map_append]; rfl, fun q hq => hl q (List.mem_filter.mp hq).1, ?_, ?_, ?_⟩
      · rw [List.filter_cons, if_neg (by rw [notIn_t]; exact fun z => z hpf)]
        have := List.length_filter_le (notIn fc) l
        have h2 : (p :: l).length ≤ m + 1 := hm
        rw [List.length_cons] at h2
        omega
      · rw [List.length_append, List.length_singleton]; omega
      · rw [← he]
        rw [facesGo_cons, hF, List.append_assoc]
        rfl
  · rw [eqD_lnil] at hb
    have e : l = [] := by
      cases l with
      | nil => rfl
      | cons p l => cases hb
    subst e
    have e2 : fs = facesOf W := by
      rw [← he]
      cases m <;> (unfold facesGo; rw [List.append_nil])
    subst e2
    exact d_retO rfl hR
end
end Bs
namespace Bs
open PySem L2
def mergeT (kvs more : List (List Key × V)) : List (List Key × V) := more.foldl (fun acc kv => putK acc kv.1 kv.2) kvs
/-! ### displays of dicts whose keys are tuples -/
section
variable {X : Cx} {pins : List (Addr × Obj)} {σ : L2.St} {A : Around} {E : Value → Shared → Prop} {a : Addr}
theorem set_T {H : Hp} {s : Shared} {b : Addr} {kvs : List (List Key × V)} {k : List Key} {v : V} {r : Value} {Q : Unit → Shared → Prop} (hu : A.units + 1 < cLine) (I : L2.Inv X pins σ H s) (e : H a = some (.dT kvs)) (eb : H b = some (.tup (k.map kV))) (l : kvs.length < sizeLine) (rv : RelV v r)
    (h : ∀ s', L2.Inv X pins σ (upd H a (.dT (putK kvs k v))) s' → Q () s') : wpAny (model X.prog X.w) A (dictSet a (.ref b) r) Q E s := by
  obtain ⟨z, hd, xs, rel, dd⟩ := dt_of I.hok e
  have hz : xs.length ≤ sizeLine := by rw [← Paired.length rel]; exact z
  have hl : (putK kvs k v).length ≤ sizeLine := by have := length_putK kvs k v; omega
  refine wpAny_dictSet_heap (hsz := hz) (show A.units < cLine by omega) (key_of I.hok eb) dd fun h' dd' hs => h _ ?_
  obtain ⟨q, es, ep, hq, h2, h3, h4, _, h5⟩ := dd'
  refine d_write I (by rw [e]; exact True.intro) hs ⟨q, hq⟩ ⟨hl, hd, _, (rel.put k eb rv).keeps fun c ys ec => ?_, q, es, ep, hq, h2, h3, h4, h5⟩
  rw [upd_ne (ne_of ec e (fun z => nomatch z))]
  exact ec
theorem storeAll_T (hu : A.units + 1 < cLine) : ∀ (ts : List (List Key × Addr × V)) (ws : List (Value × Value)) (acc : List (List Key × V)) (H : Hp) (s : Shared) (Q : PUnit → Shared → Prop), L2.Inv X pins σ H s → VV (ts.map fun t => (V.ref t.2.1, t.2.2)) ws → H a = some (.dT acc) →
    (∀ t ∈ ts, H t.2.1 = some (.tup (t.1.map kV))) → acc.length + ts.length < sizeLine → (∀ s', L2.Inv X pins σ (upd H a (.dT (mergeT acc (ts.map fun t => (t.1, t.2.2))))) s' → Q PUnit.unit s') → wpAny (model X.prog X.w) A (storeAll a ws) Q E s
  | [], ws, acc, H, s, Q, I, r, e, _, _, h => by
    rw [List.map_nil] at r
    cases r
    unfold storeAll
    rw [List.forIn_nil]
    have hh : upd H a (.dT acc) = H := by
      funext b
      by_cases z : b = a
      · subst z; rw [upd_same, e]
      · rw [upd_ne z]
    refine wpAny_pure (h s ?_)
    show L2.Inv X pins σ (upd H a (.dT acc)) s
    rw [hh]; exact I
  | t :: ts, _, acc, H, s, Q, I, r, e, hk, hl, h => by
    rw [List.map_cons] at r
    cases r with
    | @cons p q ps qs hpq tl =>
    obtain ⟨q1, q2⟩ := q
    obtain ⟨h1, h2⟩ := hpq
    cases (show q1 = Value.ref t.2.1 from h1)
    rw [List.length_cons] at hl
    unfold storeAll
    rw [List.forIn_cons]
    refine wpAny_bind (wpAny_bind (set_T hu I e (hk t List.mem_cons_self) (by omega) h2 fun s' I' => wpAny_pure ?_))
    have hn : ∀ t' ∈ ts, upd H a (.dT (putK acc t.1 t.2.2)) t'.2.1 = some (.tup (t'.1.map kV)) := fun t' ht => by
      have := hk t' (List.mem_cons_of_mem _ ht)
      rw [upd_ne (ne_of this e (fun z => nomatch z))]; exact this
    have hl2 : (putK acc t.1 t.2.2).length + ts.length < sizeLine := by have := length_putK acc t.1 t.2.2; omega
    refine storeAll_T hu ts qs (putK acc t.1 t.2.2) _ s' Q I' tl upd_same hn hl2 fun s2 I2 => h s2 ?_
    have : upd (upd H a (.dT (putK acc t.1 t.2.2))) a (.dT (mergeT (putK acc t.1 t.2.2) (ts.map fun t => (t.1, t.2.2)))) = upd H a (.dT (mergeT acc ((t :: ts).map fun t => (t.1, t.2.2)))) := by
      funext b
      by_cases z : b = a
      · subst z; rw [upd_same, upd_same]; rfl
      · rw [upd_ne z, upd_ne z, upd_ne z]
    rw [this] at I2
    exact I2
end
def tDispT (trs : List (TE × TE)) : TE := fun σ H Q => ∀ p, H p = none → tPairs trs σ (upd H p (.dT [])) fun ps H2 => H2 p = some (.dT []) ∧ ∃ ts : List (List Key × Addr × V), ps = ts.map (fun t => (V.ref t.2.1, t.2.2)) ∧
  (∀ t ∈ ts, H2 t.2.1 = some (.tup (t.1.map kV))) ∧ ts.length ≤ 15 ∧ Q (.ref p) (upd H2 p (.dT (mergeT [] (ts.map fun t => (t.1, t.2.2)))))
theorem pe_dispT {X : Cx} {pos : Pos} {keys : List (Option Expr)} {values : List Expr} {trs : List (TE × TE)} (hu : X.A.units + 1 < cLine) (h : PPs X pos keys values trs) (hall : keys.all (·.isSome) = true) (hl : keys.length = values.length) (h0 : keys ≠ [])
    (h15 : keys.length ≤ 15) : PE X (.Dict keys values pos) (tDispT trs) := by
  refine ⟨fun pins s σ H Q I q => ?_⟩
  have hn := I.hok.fresh (Nat.le_refl s.heap.objs.size)
  have I1 := I.laid (a := s.heap.objs.size) (o := .dT []) (h' := s.heap.push { cls := .type "dict", data := .dict #[] }) (t' := s.toks) (fun _ _ q => Heap.get?_push_of_some _ q) (Nat.le_refl _) (dt_empty s.heap I.big)
  refine wpAny_Dict_any hall hl h0 h15 (thn (h.run pins _ σ _ _ I1 (q _ hn)) fun ws s2 ⟨ps, H2, I2, rel, e, ts, ep, hk, lk, q2⟩ => ?_)
  subst ep
  refine storeAll_T hu ts ws [] H2 s2 _ I2 rel e hk (by rw [sizeLine_eq, List.length_nil]; omega) fun s3 I3 => ⟨.ref s.heap.objs.size, _, I3, rfl, q2⟩
section
variable {K : PySem.W.Frag} {ρ : List Cell} {tk tv : TE} {d : D}
def EvPsT (K : PySem.W.Frag) (trs : List (TE × TE)) (ρ : List Cell) (kds : List (List Int × D)) : Prop := ∀ B pp F H σ, OkE K B pp F H σ ρ → ∀ Q : List (V × V) → Hp → Prop,
  (∀ (ts : List (List Key × Addr × V)) F' H', OkE K B pp F' H' σ ρ → Gro B F F' → ts.map (·.1) = kds.map (fun p => p.1.map Sum.inl) → (∀ t ∈ ts, F' t.2.1 = some (.tup (t.1.map kV))) → RdL K F' (kds.map (·.2)) (ts.map (·.2.2)) → Q (ts.map fun t => (V.ref t.2.1, t.2.2)) H') → tPairs trs σ H Q
theorem pst_nil : EvPsT K [] ρ [] := fun B pp F H σ ok Q q => q [] F H ok Gro.refl rfl (fun _ h => by cases h) RdL.nil
theorem pst_cons {trs : List (TE × TE)} {kds : List (List Int × D)} {ns : List Int} (hk : EvD K tk ρ (.tup (ns.map .int))) (hv : EvD K tv ρ d) (hr : EvPsT K trs ρ kds) : EvPsT K ((tk, tv) :: trs) ρ ((ns, d) :: kds) := fun B pp F H σ ok Q q =>
  hk B pp F H σ ok _ fun x e' F1 H1 ok1 l1 pe re => hv B pp F1 H1 σ ok1 _ fun y d' F2 H2 ok2 l2 pd rd => hr B pp F2 H2 σ ok2 _ fun ts F3 H3 ok3 l3 h1 hk' h2 => by
    subst pe; subst pd
    unfold Rdd at re
    obtain ⟨b, vs, rfl, fb, rb⟩ := re
    refine q ((ns.map Sum.inl, b, y) :: ts) F3 H3 ok3 ((l1.trans l2).trans l3) (by rw [List.map_cons, List.map_cons, h1]) (fun t ht => ?_) (RdL.cons (Rdd.mono l3.le _ _ rd) h2)
    rcases List.mem_cons.mp ht with rfl | ht
    · show F3 b = _
      rw [← ints_kV rb]
      exact (l2.trans l3).le _ _ fb
    · exact hk' t ht
theorem merge_ndT : ∀ (more kvs : List (List Key × V)), ((kvs ++ more).map (·.1)).Nodup → mergeT kvs more = kvs ++ more
  | [], kvs, _ => by rw [List.append_nil]; rfl
  | p :: more, kvs, h => by
    have e : putK kvs p.1 p.2 = kvs ++ [p] := by
      have hn : p.1 ∉ kvs.map (·.1) := fun hm => by
        rw [List.map_append, List.map_cons] at h
        exact (List.nodup_append.mp h).2.2 _ hm _ List.mem_cons_self rfl
      unfold putK
      rw [if_neg]
      intro ha
      rw [List.any_eq_true] at ha
      obtain ⟨q, hq, e⟩ := ha
      exact hn (List.mem_map.mpr ⟨q, hq, of_decide_eq_true e⟩)
    show mergeT (putK kvs p.1 p.2) more = _
    rw [e, merge_ndT more (kvs ++ [p]) (by rw [List.append_assoc]; exact h), List.append_assoc]
    rfl
theorem e_dispT {trs : List (TE × TE)} {kds : List (List Int × D)} (h : EvPsT K trs ρ kds) (hl : kds.length ≤ 15) (nd : (kds.map (·.1)).Nodup) : EvND K (tDispT trs) ρ (.dit (kds.map fun p => p.1.map Sum.inl) (kds.map (·.2))) := fun B pp F H σ ok Q q p hp => by
  obtain ⟨ok1, hB, hP, hF⟩ := ok.fresh (o := .dT []) hp
  have ok2 := ok1.addB hB hP upd_same
  refine h _ pp F _ σ ok2 _ fun ts F1 H1 ok3 l3 h1 hk h2 => ?_
  have hp1 : H1 p = some (.dT []) := ok3.bse.base _ _ upd_same
  have hF1 : F1 p = none := l3.nf p (by rw [upd_same]; exact Option.some_ne_none _) hF
  have lg : Gro B F F1 := Gro.base (Le.new hB) l3
  refine ⟨hp1, ts, rfl, fun t ht => ok3.bse.ext.tup (hk t ht), by have := congrArg List.length h1; rw [List.length_map, List.length_map] at this; omega, ?_⟩
  have hm : (ts.map fun t => (t.1, t.2.2)).map (·.1) = kds.map (fun p => p.1.map Sum.inl) := by rw [List.map_map]; exact h1
  have hnd : ((ts.map fun t => (t.1, t.2.2)).map (·.1)).Nodup := by
    rw [hm]
    have : (kds.map fun p => (p.1.map Sum.inl : List Key)) = (kds.map (·.1)).map (fun ns => ns.map Sum.inl) := by rw [List.map_map]; rfl
    rw [this]
    exact List.Pairwise.map _ (fun a b h z => h (by
      have := congrArg (fun l : List Key => l.filterMap fun k => match k with | .inl i => some i | .inr _ => none) z
      simpa [List.filterMap_map, Function.comp_def] using this)) nd
  rw [merge_ndT _ [] (by rw [List.nil_append]; exact hnd), List.nil_append]
  have bs : Bse B pp F1 (upd H1 p (.dT (ts.map fun t => (t.1, t.2.2)))) := by
    refine ⟨ok3.bse.ext.put hF1, fun a u e => ?_, fun r e => ?_⟩
    · rw [upd_ne (ne_of_none e hB)]
      exact ok3.bse.base _ _ (Le.new hB _ _ e)
    · obtain ⟨z1, z2, z3⟩ := ok3.bse.pool r e
      have n : r ≠ p := by rintro rfl; exact hP e
      rw [upd_ne n] at z1
      exact ⟨z1, z2, by rw [upd_ne n]; exact z3⟩
  exact q p _ _ F1 _ (ok.back bs lg) lg rfl hB hP hF1 upd_same ⟨_, rfl, hm, by rw [List.map_map]; exact h2⟩
end
end Bs
namespace Bs
open PySem L2
theorem mk_snoc (r : Row) (n : Int) : mk (r ++ [n]) = mk r ++ (⟨(bits n).toArray⟩ : Str) := by
  show (⟨((r ++ [n]).flatMap bits).toArray⟩ : Str) = ⟨(r.flatMap bits).toArray ++ (bits n).toArray⟩
  rw [List.flatMap_append, List.flatMap_cons, List.flatMap_nil, List.append_nil]
  simp
theorem joinL_ones (l : List Nat) : TL.joinL [] (l.map fun c => [c]) = l := by
  induction l with
  | nil => rfl
  | cons c l ih =>
    cases l with
    | nil => rfl
    | cons d l =>
      show [c] ++ ([] ++ TL.joinL [] ((d :: l).map fun c => [c])) = _
      rw [ih]; rfl
theorem join_bits (l : List Nat) : Txt.join ("" : Str) (l.map fun c => (⟨#[c]⟩ : Str)) = ⟨l.toArray⟩ := by
  have h := SX.join_S [] (l.map fun c => [c])
  rw [joinL_ones, List.map_map] at h
  exact h
def tieOf (W : Web) (a b : Int) : Option (Int × Bool) := ((endsAt W a).find? fun e => decide (e.1 = b)).map (·.2)
def tiO : Option (Int × Bool) → D | none => .non | some t => .tup [.int t.1, .bl t.2]
theorem fl_tiO (o : Option (Int × Bool)) : Fl 1 (tiO o) := by
  cases o with
  | none => exact .non _
  | some t =>
    refine fl_tup fun x hx => ?_
    simp only [List.mem_cons, List.not_mem_nil, or_false] at hx
    rcases hx with rfl | rfl
    · exact .int _ _
    · exact .bl _ _
theorem isNon_tiO (o : Option (Int × Bool)) : isNon (tiO o) = o.isNone := by cases o <;> rfl
theorem tieOf_none {W : Web} {a b : Int} (h : tieOf W a b = none) : b ∉ orderOf W a := fun hb => by
  obtain ⟨e, he, rfl⟩ := List.mem_map.mp hb
  unfold tieOf at h
  rw [Option.map_eq_none_iff, List.find?_eq_none] at h
  exact h e he (decide_eq_true rfl)
section
variable {P : Program} {w : World} {K : PySem.W.Frag} {mg : Str → Option Value} {base : Heap}
def ctMark : Ctr := fun cs R => ∃ row : Row, cs = [.fro (dI row)] ∧ row.length ≤ 700 ∧ R (.fro (.str (mk row)))
theorem ok_mark (Z : Blt mg) (T : Def K mg "_law_mark" st_law_mark ["_law_numbers"]) : OkDef P w K mg base 1 "_law_mark" ["_law_numbers"] ctMark := by
  refine ok_def (k := 0) (n := 3) T sc_law_mark rfl (by rintro cs P ⟨_, rfl, _⟩; rfl) fun f cdv A outer s H E hr hu1 hu => ?_
  refine ⟨_, (pss_cons (ps_set (i := 1) sc_law_mark.nd rfl (by first | exact Or.inl rfl | exact Or.inr rfl) pe_str)
      (pss_cons (ps_for PassesOwn.never rfl (pi_listK K rfl (pv 0)) (pg_name (i := 2) sc_law_mark.nd rfl (by first | exact Or.inl rfl | exact Or.inr rfl)) (pss_one (ps_set (i := 1) sc_law_mark.nd rfl (by first | exact Or.inl rfl | exact Or.inr rfl) (pe_op (op_addK K rfl) (pv 1) (pe_joinK K rfl pe_str (pe_lc (own := [("_law_k", 3)]) (g := (gName 3)) (tt := tYes) rfl sc_law_mark.nd (pi_range1 (by rfl) Z.range (pa_cons pe_int pa_nil)) (blkOk_by (N := N_law_mark) (sc := defScope st_law_mark) (by decide +kernel)) (fun _ _ _ _ _ => (pg_name (i := 3) sc_law_mark.nd rfl (by first | exact Or.inl rfl | exact Or.inr rfl))) (fun _ _ _ _ _ => pts_nil) (fun _ _ _ _ _ => (pe_ix (ix_anyK K hu1 rfl) pe_str (pe_op op_and (pe_op op_shr (pv 2) (pe_op op_sub pe_int (pv 3))) pe_int) (fun _ _ => rfl)))))))))
      (pss_one (ps_ret (pv 1))))), ?_⟩
  rintro cs R ⟨row, rfl, hl, hR⟩
  refine d_seq (d_set e_s ?_)
  refine d_seq (d_for (i_listD (e_v rfl)) (fun i ρ => ∃ x2, ρ = [.fro (dI row), .fro (.str (mk (row.take i))), x2, .any]) ⟨⟨_, rfl⟩, ?_, ?_⟩)
  · rintro i d ρ hd ⟨x2, rfl⟩
    obtain ⟨n, hn, hm, rfl⟩ := map_get hd
    refine ⟨_, _, g_name, d_set (e_op (e_v rfl) (e_join (ys := (bits n).map fun c => ⟨#[c]⟩) (EvN.fz (EvNB.all fun B0 σ => ?_)) ?_) (o_addS ?_)) ⟨.fro (.int n), ?_⟩⟩
    · have h := c_lcM (K := K) (B0 := B0) (σ := σ) (ρ := [.fro (dI row), .fro (.str (mk (row.take i))), .fro (.int n), .any]) (g := gName 3) (te := tOp (rIxA K) (tC (.str "01")) (tOp (rI0 fun i j => .int (Builtin.bitAnd i j)) (tOp (rI (fun _ j => 0 ≤ j) fun i j => .int (i / 2 ^ j.toNat)) (tVar 2) (tOp (rI0 fun i j => .int (i - j)) (tC (.int 11)) (tVar 3))) (tC (.int 1)))) (vs := [3])
        (xs := List.range 12) (en := fun i => D.int (0 + (i : Nat))) (i_rng1 (n := 12) (l_cons e_i l_nil) (by decide) B0 σ) (by decide) (fun k => .str ⟨#[bitc n k]⟩) (fun k => [.fro (dI row), .fro (.str (mk (row.take i))), .fro (.int n), .fro (.int (0 + (k : Nat)))]) (fun k _ => g_name)
        fun k hk => by
          have hk := List.mem_range.mp hk
          refine e_op e_s (e_op (e_op (e_v rfl) (e_op e_i (e_v rfl) o_sub) (o_shr (by omega))) e_i o_and) (o_ixS (by decide) ?_)
          rw [PyProof.Rows.bitAnd_m1, show ((11 : Int) - (0 + (k : Nat))).toNat = 11 - k by omega]
          unfold bitc
          by_cases hq : n / 2 ^ (11 - k) % 2 = 1
          · rw [if_pos hq, hq]; exact atD (j := 1) rfl rfl
          · rw [if_neg hq, show n / 2 ^ (11 - k) % 2 = 0 by omega]; exact atD (j := 0) rfl rfl
      have e : ((bits n).map fun c => (⟨#[c]⟩ : Str)).map D.str = (List.range 12).map fun k => .str ⟨#[bitc n k]⟩ := by unfold bits; rw [List.map_map, List.map_map]; rfl
      rw [e]
      exact h
    · rw [List.map_map, List.length_map, bits_len]
      have : ((bits n).map (Str.length ∘ fun c => (⟨#[c]⟩ : Str))).sum = (bits n).length := by
        generalize bits n = l
        induction l with
        | nil => rfl
        | cons c l ih => rw [List.map_cons, List.sum_cons, ih, List.length_cons]; show 1 + _ = _; omega
      rw [this, bits_len]; decide
    · rw [join_bits, mk_len]
      show _ + (bits n).toArray.size ≤ _
      rw [List.size_toArray, bits_len, List.length_take]; omega
    · rw [join_bits, ← mk_snoc, List.take_add_one, hn]; rfl
  · rintro ρ ⟨x2, rfl⟩
    rw [List.length_map, List.take_length]
    exact d_ret (e_v rfl) hR
def ctTie : Ctr := fun cs R => ∃ (W : Web) (a b : Int), cs = [.fro (wD W), .fro (.int a), .fro (.int b)] ∧ R (.fro (tiO (tieOf W a b)))
theorem ok_tie (Z : Blt mg) (T : Def K mg "_law_tie" st_law_tie ["_law_web_here", "_law_one", "_law_other"]) : OkDef P w K mg base 1 "_law_tie" ["_law_web_here", "_law_one", "_law_other"] ctTie := by
  refine ok_def (k := 0) (n := 3) T sc_law_tie rfl (by rintro cs P ⟨_, _, _, rfl, _⟩; rfl) fun f cdv A outer s H E hr hu1 hu => ?_
  refine ⟨_, (pss_cons (ps_for PassesOwn.never rfl (pi_listK K rfl (pe_ix (ix_anyK K hu1 rfl) (pe_dget2 hu1 (pv 0) (pv 1) (pe_tup (pa_cons pe_int (pa_cons (pe_lst pa_nil) pa_nil))) ⟨by rfl, by rfl, by rfl, by rfl⟩) pe_int (fun _ _ => rfl))) (pg_tupK K rfl rfl (pgs_cons (pg_name (i := 3) sc_law_tie.nd rfl (by first | exact Or.inl rfl | exact Or.inr rfl)) (pgs_cons (pg_name (i := 4) sc_law_tie.nd rfl (by first | exact Or.inl rfl | exact Or.inr rfl)) (pgs_cons (pg_name (i := 5) sc_law_tie.nd rfl (by first | exact Or.inl rfl | exact Or.inr rfl)) pgs_nil)))) (pss_one (ps_if (pt_cmpR (op_eqK K hr.units rfl) (pv 3) (pv 2) (nomark _)) (pss_one (ps_ret (pe_tup (pa_cons (pv 4) (pa_cons (pv 5) pa_nil))))) pss_nil)))
      (pss_one (ps_ret pe_non))), ?_⟩
  rintro cs R ⟨W, a, b, rfl, hR⟩
  have hget : atI ([.int (match lk W a with | some p => p.1 | none => 0), .lst ((endsAt W a).map eD)] : List D) 1 = some (.lst ((endsAt W a).map eD)) := atD (j := 1) rfl rfl
  have hg : ((lk W a).map pD).getD (.tup [.int 0, .lst []]) = .tup [.int (match lk W a with | some p => p.1 | none => 0), .lst ((endsAt W a).map eD)] := by
    unfold endsAt
    cases lk W a <;> rfl
  refine d_seq (d_for (i_listD (e_op ((e_get2M rfl (e_v rfl) (e_tup (l_cons e_i (l_cons (e_lstF l_nil) l_nil)))).to hg) e_i (o_ixT hget))) (fun i ρ => ((endsAt W a).take i).find? (fun e => decide (e.1 = b)) = none ∧ ∃ x3 x4 x5, ρ = [.fro (wD W), .fro (.int a), .fro (.int b), x3, x4, x5]) ⟨⟨rfl, _, _, _, rfl⟩, ?_, ?_⟩)
  · rintro i d ρ hd ⟨hn, x3, x4, x5, rfl⟩
    rw [List.getElem?_map] at hd
    obtain ⟨e, he, rfl⟩ := Option.map_eq_some_iff.mp hd
    refine ⟨_, _, g_tupT (gs_cons g_name (gs_cons g_name (gs_cons g_name gs_nil))) rfl, d_if (t_test (e_op (e_v rfl) (e_v rfl) o_eqi)) (fun hb => d_ret (e_tup (l_cons (e_v rfl) (l_cons (e_v rfl) l_nil))) ?_) fun hb => d_next ⟨?_, .fro (.int e.1), .fro (.int e.2.1), .fro (.bl e.2.2), rfl⟩⟩
    · have : tieOf W a b = some e.2 := by
        unfold tieOf
        have h2 : (endsAt W a).find? (fun e => decide (e.1 = b)) = some e := by
          have hs := List.take_append_drop i (endsAt W a)
          rw [← hs, List.find?_append, hn, Option.none_or]
          have hlt : i < (endsAt W a).length := (List.getElem?_eq_some_iff.mp he).1
          rw [List.drop_eq_getElem_cons hlt, List.find?_cons]
          rw [List.getElem?_eq_getElem hlt] at he
          cases he
          rw [hb]
        rw [h2]; rfl
      rw [this] at hR
      exact hR
    · rw [List.take_add_one, he, Option.toList_some, List.find?_append, hn, Option.none_or, List.find?_cons, hb]; rfl
  · rintro ρ ⟨hn, x3, x4, x5, rfl⟩
    rw [List.length_map, List.take_length] at hn
    have : tieOf W a b = none := by unfold tieOf; rw [hn]; rfl
    rw [this] at hR
    exact d_ret e_n hR
def ctCan : Ctr := fun cs R => ∃ (W : Web) (a b c d : Int), cs = [.fro (wD W), .fro (.tup [.int a, .int b, .int c, .int d])] ∧ ∀ r : Bool, (r = true → [a, b, c, d].Nodup ∧ d ∉ orderOf W a ∧ c ∉ orderOf W b) → R (.fro (.bl r))
theorem ok_can (Z : Blt mg) (T : Def K mg "_law_can" st_law_can ["_law_web_here", "_law_four"]) (D_law_tie : OkDef P w K mg base 1 "_law_tie" ["_law_web_here", "_law_one", "_law_other"] ctTie) : OkDef P w K mg base 2 "_law_can" ["_law_web_here", "_law_four"] ctCan := by
  refine ok_def (k := 1) (n := 4) T sc_law_can rfl (by rintro cs P ⟨_, _, _, _, _, rfl, _⟩; rfl) fun f cdv A outer s H E hr hu1 hu => ?_
  refine ⟨_, (pss_cons (ps_asg (pv 1) (pg_tupK K rfl rfl (pgs_cons (pg_name (i := 2) sc_law_can.nd rfl (by first | exact Or.inl rfl | exact Or.inr rfl)) (pgs_cons (pg_name (i := 3) sc_law_can.nd rfl (by first | exact Or.inl rfl | exact Or.inr rfl)) (pgs_cons (pg_name (i := 4) sc_law_can.nd rfl (by first | exact Or.inl rfl | exact Or.inr rfl)) (pgs_cons (pg_name (i := 5) sc_law_can.nd rfl (by first | exact Or.inl rfl | exact Or.inr rfl)) pgs_nil))))))
      (pss_cons (ps_if (PW.pt (pw_or (pt_cmpR op_lt (pe_lenSetK K rfl (by rfl) Z.len (by rfl) Z.set (pv 1)) pe_int (nomark _)) (pw_or (pt_cmpR op_is (pe_fnK K D_law_tie rfl rfl rfl rfl rfl hr (by rfl) (pa_cons (pv 0) (pa_cons (pv 2) (pa_cons (pv 3) pa_nil)))) pe_non (nomark _)) (pw_or1 (pt_cmpR (op_neK K hr.units rfl) (pe_fnK K D_law_tie rfl rfl rfl rfl rfl hr (by rfl) (pa_cons (pv 0) (pa_cons (pv 2) (pa_cons (pv 3) pa_nil)))) (pe_fnK K D_law_tie rfl rfl rfl rfl rfl hr (by rfl) (pa_cons (pv 0) (pa_cons (pv 4) (pa_cons (pv 5) pa_nil)))) (nomark _)))))) (pss_one (ps_ret pe_bl)) pss_nil)
      (pss_one (ps_ret (pe_and (pe_cmpR (op_inA' K hu rfl) (pv 5) (pv 0) (by rfl)) (pe_and (pe_cmpR op_is (pe_fnK K D_law_tie rfl rfl rfl rfl rfl hr (by rfl) (pa_cons (pv 0) (pa_cons (pv 2) (pa_cons (pv 5) pa_nil)))) pe_non (nomark _)) (pe_one (pe_cmpR op_is (pe_fnK K D_law_tie rfl rfl rfl rfl rfl hr (by rfl) (pa_cons (pv 0) (pa_cons (pv 3) (pa_cons (pv 4) pa_nil)))) pe_non (nomark _))))))))), ?_⟩
  rintro cs R ⟨W, a, b, c, d, rfl, hR⟩
  have tie : ∀ x y : Int, ∀ P : Cell → Prop, P (.fro (tiO (tieOf W x y))) → ctTie [.fro (wD W), .fro (.int x), .fro (.int y)] P := fun x y P h => ⟨W, x, y, rfl, h⟩
  refine d_seq (d_asg (e_v rfl) (g_tupT (gs_cons g_name (gs_cons g_name (gs_cons g_name (gs_cons g_name gs_nil)))) rfl) ?_)
  refine d_seq (d_if (t_or (t_test (e_op (e_lenSetT (ns := [a, b, c, d]) (e_v rfl) (by exact Nat.le_of_ble_eq_true rfl)) e_i o_lt)) fun _ => t_or (t_test (e_op (e_callF (a_cons (e_v rfl) (a_cons (e_v rfl) (a_cons (e_v rfl) a_nil))) (tie a b)) e_n o_is)) fun _ => t_test (e_op (e_callF (a_cons (e_v rfl) (a_cons (e_v rfl) (a_cons (e_v rfl) a_nil))) (tie a b)) (e_callF (a_cons (e_v rfl) (a_cons (e_v rfl) (a_cons (e_v rfl) a_nil))) (tie c d)) (o_ne (fl_tiO _) (fl_tiO _)))) (fun _ => d_ret e_b (hR false (fun z => nomatch z))) fun hb => d_next ?_)
  rw [Bool.or_eq_false_iff] at hb
  have hb1 := of_decide_eq_false hb.1
  have hnd : [a, b, c, d].Nodup := dd_all (by
    have := dd_len [a, b, c, d]
    have h4 : [a, b, c, d].length = 4 := rfl
    omega)
  refine d_ret (e_andV (e_op (e_v rfl) (e_v rfl) o_inM) fun _ => e_andV (e_op (e_callF (a_cons (e_v rfl) (a_cons (e_v rfl) (a_cons (e_v rfl) a_nil))) (tie a d)) e_n o_is) fun _ => e_op (e_callF (a_cons (e_v rfl) (a_cons (e_v rfl) (a_cons (e_v rfl) a_nil))) (tie b c)) e_n o_is) (hR _ fun h => ?_)
  rw [Bool.and_eq_true, Bool.and_eq_true, isNon_tiO, isNon_tiO, Option.isNone_iff_eq_none, Option.isNone_iff_eq_none] at h
  exact ⟨hnd, tieOf_none h.2.1, tieOf_none h.2.2⟩
/-- a web with two ties crossed -/
def turn (a b c d : Int) (n o : Int) : Int := if (n, o) = (a, b) then d else if (n, o) = (d, c) then a else if (n, o) = (c, d) then b else if (n, o) = (b, a) then c else o
def crossW (W : Web) (a b c d : Int) : Web := W.map fun p => (p.1, p.2.1, p.2.2.map fun e => (turn a b c d p.1 e.1, e.2))
def ctCrossed : Ctr := fun cs R => ∃ (W : Web) (a b c d : Int), cs = [.fro (wD W), .fro (.tup [.int a, .int b, .int c, .int d])] ∧ Fit W ∧ [a, b, c, d].Nodup ∧ R (.own (wD (crossW W a b c d)))
theorem pt_new {κ α : Type} [DecidableEq κ] {m : List (κ × α)} {k : κ} (v : α) (h : k ∉ m.map (·.1)) : pt m k v = m ++ [(k, v)] := by
  unfold pt
  rw [any_keys, decide_eq_false h, if_neg Bool.false_ne_true]
theorem nd_take {α β : Type} [DecidableEq α] {m : List (α × β)} (nd : (m.map (·.1)).Nodup) {i : Nat} {p : α × β} (h : m[i]? = some p) : p.1 ∉ (m.take i).map (·.1) := fun hm => by
  have hlt := (List.getElem?_eq_some_iff.mp h).1
  have hs := List.take_append_drop i m
  rw [List.drop_eq_getElem_cons hlt] at hs
  rw [← hs, List.map_append, List.map_cons] at nd
  have hp : m[i] = p := by rw [List.getElem?_eq_getElem hlt] at h; exact Option.some.inj h
  rw [hp] at nd
  exact (List.nodup_append.mp nd).2.2 _ hm _ List.mem_cons_self rfl
theorem ok_crossed (Z : Blt mg) (T : Def K mg "_law_crossed" st_law_crossed ["_law_web_here", "_law_four"]) : OkDef P w K mg base 1 "_law_crossed" ["_law_web_here", "_law_four"] ctCrossed := by
  refine ok_def (k := 0) (n := 9) T sc_law_crossed rfl (by rintro cs P ⟨_, _, _, _, _, rfl, _⟩; rfl) fun f cdv A outer s H E hr hu1 hu => ?_
  refine ⟨_, (pss_cons (ps_asg (pv 1) (pg_tupK K rfl rfl (pgs_cons (pg_name (i := 2) sc_law_crossed.nd rfl (by first | exact Or.inl rfl | exact Or.inr rfl)) (pgs_cons (pg_name (i := 3) sc_law_crossed.nd rfl (by first | exact Or.inl rfl | exact Or.inr rfl)) (pgs_cons (pg_name (i := 4) sc_law_crossed.nd rfl (by first | exact Or.inl rfl | exact Or.inr rfl)) (pgs_cons (pg_name (i := 5) sc_law_crossed.nd rfl (by first | exact Or.inl rfl | exact Or.inr rfl)) pgs_nil))))))
      (pss_cons (ps_set (i := 6) sc_law_crossed.nd rfl (by first | exact Or.inl rfl | exact Or.inr rfl) (pe_dispT hu1 (pps_cons (pe_tup (pa_cons (pv 2) (pa_cons (pv 3) pa_nil))) (pv 5) (pps_cons (pe_tup (pa_cons (pv 5) (pa_cons (pv 4) pa_nil))) (pv 2) (pps_cons (pe_tup (pa_cons (pv 4) (pa_cons (pv 5) pa_nil))) (pv 3) (pps_cons (pe_tup (pa_cons (pv 3) (pa_cons (pv 2) pa_nil))) (pv 4) pps_nil)))) (by rfl) (by rfl) (fun z => by cases z) (by decide)))
      (pss_cons (ps_set (i := 7) sc_law_crossed.nd rfl (by first | exact Or.inl rfl | exact Or.inr rfl) pe_dnewK)
      (pss_cons (ps_lockOr (ps_for PassesOwn.never rfl (pi_keys (pv 0)) (pg_name (i := 8) sc_law_crossed.nd rfl (by first | exact Or.inl rfl | exact Or.inr rfl)) (pss_cons (ps_setLc (i := 9) (own := [("_law_end", 10)]) (g := (gName 10)) (tt := tYes) rfl sc_law_crossed.nd rfl rfl (sw_true rfl rfl rfl (by decide +kernel)) (pi_listK K rfl (pe_ix (ix_anyK K hu1 rfl) (pe_ix (ix_anyK K hu1 rfl) (pv 0) (pv 8) (fun _ _ => rfl)) pe_int (fun _ _ => rfl))) (blkOk_by (N := N_law_crossed) (sc := defScope st_law_crossed) (by decide +kernel)) (fun _ _ _ _ _ => (pg_name (i := 10) sc_law_crossed.nd rfl (by first | exact Or.inl rfl | exact Or.inr rfl))) (fun _ _ _ _ _ => pts_nil) (fun _ _ _ _ _ => (pe_tup (pa_cons (pe_dget2 hu1 (pv 6) (pe_tup (pa_cons (pv 8) (pa_cons (pe_ix (ix_anyK K hu1 rfl) (pv 10) pe_int (fun _ _ => rfl)) pa_nil))) (pe_ix (ix_anyK K hu1 rfl) (pv 10) pe_int (fun _ _ => rfl)) ⟨by rfl, by rfl, by rfl, by rfl⟩) (pa_cons (pe_ix (ix_anyK K hu1 rfl) (pv 10) pe_int (fun _ _ => rfl)) (pa_cons (pe_ix (ix_anyK K hu1 rfl) (pv 10) pe_int (fun _ _ => rfl)) pa_nil))))))
      (pss_one (ps_dput hu1 (pv 7) (pv 8) (pe_tup (pa_cons (pe_ix (ix_anyK K hu1 rfl) (pe_ix (ix_anyK K hu1 rfl) (pv 0) (pv 8) (fun _ _ => rfl)) pe_int (fun _ _ => rfl)) (pa_cons (pv 9) pa_nil))) rfl)))))
      (pss_one (ps_ret (pv 7))))))), ?_⟩
  rintro cs R ⟨W, a, b, c, d, rfl, hf, hnd, hR⟩
  have hlen := hf.len
  refine d_seq (d_asg (e_v rfl) (g_tupT (gs_cons g_name (gs_cons g_name (gs_cons g_name (gs_cons g_name gs_nil)))) rfl) ?_)
  refine d_seq (d_setN (e_dispT (kds := [([a, b], .int d), ([d, c], .int a), ([c, d], .int b), ([b, a], .int c)]) (pst_cons (e_tup (l_cons (e_v rfl) (l_cons (e_v rfl) l_nil))) (e_v rfl) (pst_cons (e_tup (l_cons (e_v rfl) (l_cons (e_v rfl) l_nil))) (e_v rfl) (pst_cons (e_tup (l_cons (e_v rfl) (l_cons (e_v rfl) l_nil))) (e_v rfl) (pst_cons (e_tup (l_cons (e_v rfl) (l_cons (e_v rfl) l_nil))) (e_v rfl) pst_nil)))) (by exact Nat.le_of_ble_eq_true rfl) ?_) ?_)
  · simp only [List.nodup_cons, List.mem_cons, List.not_mem_nil, or_false, not_or] at hnd
    simp only [List.map_cons, List.map_nil, List.nodup_cons, List.mem_cons, List.not_mem_nil, or_false, not_or, List.cons.injEq, and_true, not_and, not_false_eq_true, List.nodup_nil]
    omega
  refine d_freeze (i := 6) rfl ?_
  have hturn : ∀ n o : Int, (getD ([([a, b] : List Int), [d, c], [c, d], [b, a]].map fun ns => ns.map (Sum.inl (β := Str))) [.int d, .int a, .int b, .int c] (([n, o] : List Int).map Sum.inl)).getD (.int o) = .int (turn a b c d n o) := fun n o => by
    unfold turn getD
    have e : ∀ x y : Int, decide ((([x, y] : List Int).map (Sum.inl (β := Str))) = ([n, o] : List Int).map Sum.inl) = decide ((n, o) = (x, y)) := fun x y => by
      rw [Bool.eq_iff_iff]
      simp only [decide_eq_true_eq, List.map_cons, List.map_nil, List.cons.injEq, Sum.inl.injEq, and_true, Prod.mk.injEq]
      exact ⟨fun h => ⟨h.1.symm, h.2.symm⟩, fun h => ⟨h.1.symm, h.2.symm⟩⟩
    simp only [List.map_cons (f := fun ns : List Int => ns.map (Sum.inl (β := Str))), List.map_nil (f := fun ns : List Int => ns.map (Sum.inl (β := Str))), List.zip_cons_cons, List.zip_nil_left, List.find?_cons, List.find?_nil, e]
    by_cases h1 : (n, o) = (a, b)
    · rw [if_pos h1, decide_eq_true h1]; rfl
    rw [if_neg h1, decide_eq_false h1]
    by_cases h2 : (n, o) = (d, c)
    · rw [if_pos h2, decide_eq_true h2]; rfl
    rw [if_neg h2, decide_eq_false h2]
    by_cases h3 : (n, o) = (c, d)
    · rw [if_pos h3, decide_eq_true h3]; rfl
    rw [if_neg h3, decide_eq_false h3]
    by_cases h4 : (n, o) = (b, a)
    · rw [if_pos h4, decide_eq_true h4]; rfl
    rw [if_neg h4, decide_eq_false h4]; rfl
  refine d_seq (d_setN e_newK ?_)
  generalize hks : List.map (fun p => List.map Sum.inl p.1) [([a, b], D.int d), ([d, c], .int a), ([c, d], .int b), ([b, a], .int c)] = ks
  have hks : (([([a, b] : List Int), [d, c], [c, d], [b, a]]).map fun ns => ns.map (Sum.inl (β := Str))) = ks := hks
  rw [hks] at hturn
  refine d_seq (d_forK (j := 0) rfl (fun i ρ => ∃ x8 x9, ρ = [.fro (wD W), .fro (.tup [.int a, .int b, .int c, .int d]), .fro (.int a), .fro (.int b), .fro (.int c), .fro (.int d), .fro (.dit ks [.int d, .int a, .int b, .int c]), .own (wD (crossW (W.take i) a b c d)), x8, x9, .any]) ⟨⟨_, _, rfl⟩, ?_, ?_⟩)
  · rintro i dd ρ hd ⟨x8, x9, rfl⟩
    rw [keys_kD] at hd
    obtain ⟨p, hpi, hp, rfl⟩ := map_get hd
    have hl : lk W p.1 = some p.2 := lk_mem hf.nd hp
    have hdeg : p.2.2.length ≤ 200 := by have := hf.deg p.1; rw [endsAt_lk hl] at this; exact this
    refine ⟨_, _, g_name, d_seq (gd_set (P := fun d' => d' = .lst ((p.2.2.map fun e => (turn a b c d p.1 e.1, e.2)).map eD)) (by
      rw [List.map_map]
      exact EvN.fz (EvNB.all fun B0 σ => c_lcM (xs := p.2.2) (en := eD) (i_listD (e_op (e_op (e_v rfl) (e_v rfl) (o_ixM hl)) e_i (o_ixT (atD (j := 1) rfl rfl))) B0 σ) (by omega) (fun e => eD (turn a b c d p.1 e.1, e.2)) (fun e => [.fro (wD W), .fro (.tup [.int a, .int b, .int c, .int d]), .fro (.int a), .fro (.int b), .fro (.int c), .fro (.int d), .fro (.dit ks [.int d, .int a, .int b, .int c]), .own (wD (crossW (W.take i) a b c d)), .fro (.int p.1), x9, .fro (eD e)]) (fun e _ => g_name)
        fun e _ => e_tup (l_cons ((e_get2T (ns := [p.1, e.1]) rfl (e_tup (l_cons (e_v rfl) (l_cons (e_tat 0 rfl rfl rfl) l_nil))) (e_tat 0 rfl rfl rfl)).to (hturn p.1 e.1)) (l_cons (e_tat 1 rfl rfl rfl) (l_cons (e_tat 2 rfl rfl rfl) l_nil))))) ?_)⟩
    rintro _ rfl
    refine d_putM (v := (p.2.1, p.2.2.map fun e => (turn a b c d p.1 e.1, e.2))) rfl (e_tup (l_cons (e_op (e_op (e_v rfl) (e_v rfl) (o_ixM hl)) e_i (o_ixT (atD (j := 0) rfl rfl))) (l_cons (e_v rfl) l_nil))) (e_v rfl) ?_ ⟨.fro (.int p.1), .fro (.lst ((p.2.2.map fun e => (turn a b c d p.1 e.1, e.2)).map eD)), ?_⟩
    · unfold crossW; rw [List.length_map, List.length_take]; omega
    · rw [pt_new _ (by unfold crossW; rw [List.map_map]; exact nd_take hf.nd hpi), List.take_add_one, hpi, Option.toList_some]
      unfold crossW
      rw [List.map_append]
      rfl
  · rintro ρ ⟨x8, x9, rfl⟩
    rw [List.length_map, List.length_map, List.take_length]
    exact d_retO rfl hR
end
end Bs
/-! The plain side of what the law's own defs reckon. -/
namespace Bs
abbrev Way := List (Int × (Int × Int))
def far (L : Way) (n : Int) : Int := ((lk L n).getD (0, 0)).1
def up (L : Way) (n : Int) : Int := ((lk L n).getD (0, 0)).2
theorem lk_at {α : Type} {L : List (Int × α)} {n : Int} (h : n ∈ L.map (·.1)) (d : α) : lk L n = some ((lk L n).getD d) := by
  have := lk_isSome.mpr h
  cases e : lk L n with
  | none => rw [e] at this; cases this
  | some v => rfl
/-! ### breadth first -/
def growStep (nm : Int) (st : Way × List Int) (e : Nd) : Way × List Int := if e.1 ∈ st.1.map (·.1) then st else (pt st.1 e.1 (far st.1 nm + 1, nm), st.2 ++ [e.1])
def growTurn (W : Web) (st : Way × List Int) (i : Nat) : Way × List Int := (endsAt W (st.2.getD i 0)).foldl (growStep (st.2.getD i 0)) st
def growSt (W : Web) (r : Int) (i : Nat) : Way × List Int := (List.range i).foldl (growTurn W) ([(r, (0, r))], [r])
theorem growSt_succ (W : Web) (r : Int) (i : Nat) : growSt W r (i + 1) = growTurn W (growSt W r i) i := by
  unfold growSt; rw [List.range_succ, List.foldl_append]; rfl
def grown (W : Web) (r : Int) : Way := (growSt W r W.length).1
/-- the walk gets to all -/
structure GrowOk (W : Web) (r : Int) : Prop where
  root : r ∈ W.map (·.1)
  cl : ∀ n p, lk W n = some p → ∀ e ∈ p.2, e.1 ∈ W.map (·.1)
  there : ∀ i, i < W.length → i < (growSt W r i).2.length
theorem keys_pt {κ α : Type} [DecidableEq κ] {m : List (κ × α)} {k j : κ} {v : α} : j ∈ (pt m k v).map (·.1) ↔ j = k ∨ j ∈ m.map (·.1) := by
  rw [pt_keys]
  split
  · rename_i h
    exact ⟨.inr, fun z => z.elim (fun e => e ▸ h) id⟩
  · rw [List.mem_append, List.mem_singleton, or_comm]
structure GInv (W : Web) (st : Way × List Int) (b : Nat) : Prop where
  row : ∀ x ∈ st.2, x ∈ W.map (·.1) ∧ x ∈ st.1.map (·.1)
  len : st.1.length ≤ b
  rlen : st.2.length ≤ b
theorem ginv_step {W : Web} {st : Way × List Int} {b : Nat} {nm : Int} {e : Nd} (h : GInv W st b) (he : e.1 ∈ W.map (·.1)) : GInv W (growStep nm st e) (b + 1) := by
  unfold growStep
  split
  · exact ⟨h.row, by have := h.len; omega, by have := h.rlen; omega⟩
  · rename_i hn
    refine ⟨fun x hx => ?_, ?_, ?_⟩
    · rw [List.mem_append, List.mem_singleton] at hx
      rcases hx with hx | rfl
      · exact ⟨(h.row x hx).1, keys_pt.mpr (.inr (h.row x hx).2)⟩
      · exact ⟨he, keys_pt.mpr (.inl rfl)⟩
    · show (pt st.1 e.1 _).length ≤ _
      rw [pt_new _ hn, List.length_append, List.length_singleton]
      have := h.len; omega
    · show (st.2 ++ [e.1]).length ≤ _
      rw [List.length_append, List.length_singleton]
      have := h.rlen; omega
theorem ginv_steps {W : Web} {nm : Int} : ∀ (es : List Nd) (st : Way × List Int) (b : Nat), GInv W st b → (∀ e ∈ es, e.1 ∈ W.map (·.1)) → GInv W (es.foldl (growStep nm) st) (b + es.length)
  | [], st, b, h, _ => h
  | e :: es, st, b, h, he => by
    have := ginv_steps (nm := nm) es _ (b + 1) (ginv_step (nm := nm) h (he e List.mem_cons_self)) fun x hx => he x (List.mem_cons_of_mem _ hx)
    rw [List.foldl_cons, List.length_cons]
    rwa [show b + (es.length + 1) = b + 1 + es.length by omega]
theorem growOk_ends {W : Web} {r : Int} (g : GrowOk W r) {n : Int} : ∀ e ∈ endsAt W n, e.1 ∈ W.map (·.1) := fun e he => by
  unfold endsAt at he
  cases h : lk W n with
  | none => rw [h] at he; cases he
  | some p => rw [h] at he; exact g.cl n p h e he
theorem ginv_st {W : Web} {r : Int} (hf : Fit W) (g : GrowOk W r) : ∀ i, GInv W (growSt W r i) (1 + 200 * i)
  | 0 => ⟨fun x hx => by rw [List.mem_singleton.mp hx]; exact ⟨g.root, List.mem_singleton.mpr rfl⟩, Nat.le_refl _, Nat.le_refl _⟩
  | i + 1 => by
    rw [growSt_succ]
    unfold growTurn
    have := ginv_steps (nm := (growSt W r i).2.getD i 0) _ _ _ (ginv_st hf g i) (growOk_ends g (n := (growSt W r i).2.getD i 0))
    have hd := hf.deg ((growSt W r i).2.getD i 0)
    exact ⟨this.row, by have := this.len; omega, by have := this.rlen; omega⟩
/-! ### two roots -/
def mixW (W : Web) (one other : Way) : Way := W.map fun p => (p.1, if far other p.1 < far one p.1 then (lk other p.1).getD (0, 0) else (lk one p.1).getD (0, 0))
def rootParts (W : Web) (a b : Int) : Way := if b = a then grown W a else mixW W (grown W a) (grown W b)
/-! ### sums -/
abbrev Nums := List (Int × Int)
def nv (m : Nums) (n : Int) : Int := (lk m n).getD 0
def sumName (L : Way) (k : Int) (acc : Nums) (n : Int) : Nums := if far L n = k then pt acc (up L n) (nv acc (up L n) + nv acc n) else acc
def sumTurn (L : Way) (acc : Nums) (k : Int) : Nums := (L.map (·.1)).foldl (sumName L k) acc
def sumsL (L : Way) (nums : Nums) : Nums := (List.range L.length).foldl (fun acc (i : Nat) => sumTurn L acc ((L.length : Int) - (i : Int))) nums
structure SumOk (L : Way) (nums : Nums) : Prop where
  nd : (L.map (·.1)).Nodup
  key : ∀ n ∈ L.map (·.1), n ∈ nums.map (·.1) ∧ up L n ∈ nums.map (·.1)
  len : nums.length < 64
  llen : L.length < 64
theorem keys_sumName {L : Way} {k : Int} {acc : Nums} {n : Int} (h : up L n ∈ acc.map (·.1)) : (sumName L k acc n).map (·.1) = acc.map (·.1) := by
  unfold sumName
  split
  · rw [pt_keys, if_pos h]
  · rfl
theorem keys_names {L : Way} {k : Int} : ∀ (ns : List Int) (acc : Nums), (∀ n ∈ ns, up L n ∈ acc.map (·.1)) → (ns.foldl (sumName L k) acc).map (·.1) = acc.map (·.1)
  | [], _, _ => rfl
  | n :: ns, acc, h => by
    have e := keys_sumName (k := k) (h n List.mem_cons_self)
    rw [List.foldl_cons, keys_names ns _ (fun x hx => by rw [e]; exact h x (List.mem_cons_of_mem _ hx)), e]
theorem keys_turn {L : Way} {k : Int} {acc : Nums} (h : ∀ n ∈ L.map (·.1), up L n ∈ acc.map (·.1)) : (sumTurn L acc k).map (·.1) = acc.map (·.1) := keys_names _ _ h
theorem keys_turns {L : Way} : ∀ (is : List Nat) (acc : Nums), (∀ n ∈ L.map (·.1), up L n ∈ acc.map (·.1)) → (is.foldl (fun acc (i : Nat) => sumTurn L acc ((L.length : Int) - (i : Int))) acc).map (·.1) = acc.map (·.1)
  | [], _, _ => rfl
  | i :: is, acc, h => by
    have e := keys_turn (k := (L.length : Int) - (i : Int)) h
    rw [List.foldl_cons, keys_turns is _ (fun n hn => by rw [e]; exact h n hn), e]
end Bs
namespace Bs
open PySem L2
theorem far_lk {L : Way} {n : Int} (h : n ∈ L.map (·.1)) : lk L n = some (far L n, up L n) := by
  rw [lk_at h (0, 0)]; rfl
section
variable {K : PySem.W.Frag} {ρ : List Cell} {tn : TE} {i : Nat} {L : Way} {n : Int}
theorem e_far (hi : ρ[i]? = some (.fro (dM prD L))) (hn : EvD K tn ρ (.int n)) (hk : n ∈ L.map (·.1)) : EvD K (tOp (rIxA K) (tOp (rIxA K) (tVar i) tn) (tC (.int 0))) ρ (.int (far L n)) :=
  e_op (e_op (e_v hi) hn (o_ixM (far_lk hk))) e_i (o_ixT (atD (j := 0) rfl rfl))
theorem e_up (hi : ρ[i]? = some (.fro (dM prD L))) (hn : EvD K tn ρ (.int n)) (hk : n ∈ L.map (·.1)) : EvD K (tOp (rIxA K) (tOp (rIxA K) (tVar i) tn) (tC (.int 1))) ρ (.int (up L n)) :=
  e_op (e_op (e_v hi) hn (o_ixM (far_lk hk))) e_i (o_ixT (atD (j := 1) rfl rfl))
theorem e_farO (hi : ρ[i]? = some (.own (dM prD L))) (hn : EvD K tn ρ (.int n)) (hk : n ∈ L.map (·.1)) : EvD K (tOp (rIxA K) (tOp (rIxA K) (tVar i) tn) (tC (.int 0))) ρ (.int (far L n)) :=
  e_op (e_ownM hi hn (far_lk hk)) e_i (o_ixT (atD (j := 0) rfl rfl))
/-- a test of a dict's own keys -/
theorem t_ninO {α : Type} {en : α → D} {m : List (Int × α)} {te : TE} (hi : ρ[i]? = some (.own (dM en m))) (he : EvD K te (ρ.set i (.fro (dM en m))) (.int n)) (hil : i < ρ.length) : EvB K (tTest (tOp (rNinA K) te (tVar i))) ρ (!decide (n ∈ m.map (·.1))) :=
  t_sca hi (t_test (e_op he (e_v (List.getElem?_set_self hil)) o_ninM))
end
section
variable {P : Program} {w : World} {K : PySem.W.Frag} {mg : Str → Option Value} {base : Heap}
def ctGrown : Ctr := fun cs R => ∃ (W : Web) (r : Int), cs = [.fro (wD W), .fro (.int r)] ∧ Fit W ∧ GrowOk W r ∧ R (.own (dM prD (grown W r)))
theorem ok_grown (Z : Blt mg) (T : Def K mg "_law_grown" st_law_grown ["_law_web_here", "_law_root"]) : OkDef P w K mg base 1 "_law_grown" ["_law_web_here", "_law_root"] ctGrown := by
  refine ok_def (k := 0) (n := 5) T sc_law_grown rfl (by rintro cs P ⟨_, _, rfl, _⟩; rfl) fun f cdv A outer s H E hr hu1 hu => ?_
  refine ⟨_, (pss_cons (ps_set (i := 2) sc_law_grown.nd rfl (by first | exact Or.inl rfl | exact Or.inr rfl) (pe_disp (pps_cons (pv 1) (pe_tup (pa_cons pe_int (pa_cons (pv 1) pa_nil))) pps_nil) (by rfl) (by rfl) (fun z => by cases z) (by decide)))
      (pss_cons (ps_set (i := 3) sc_law_grown.nd rfl (by first | exact Or.inl rfl | exact Or.inr rfl) (pe_lst (pa_cons (pv 1) pa_nil)))
      (pss_cons (ps_for PassesOwn.never rfl (pi_range1 (by rfl) Z.range (pa_cons (pe_callB (call_lenAK K rfl) (by rfl) Z.len (by decide +kernel) (pa_cons (pv 0) pa_nil)) pa_nil)) (pg_name (i := 4) sc_law_grown.nd rfl (by first | exact Or.inl rfl | exact Or.inr rfl)) (pss_cons (ps_set (i := 5) sc_law_grown.nd rfl (by first | exact Or.inl rfl | exact Or.inr rfl) (pe_ix (ix_anyK K hu1 rfl) (pv 3) (pv 4) (fun _ _ => rfl)))
      (pss_one (ps_for PassesOwn.never rfl (pi_listK K rfl (pe_ix (ix_anyK K hu1 rfl) (pe_ix (ix_anyK K hu1 rfl) (pv 0) (pv 5) (fun _ _ => rfl)) pe_int (fun _ _ => rfl))) (pg_name (i := 6) sc_law_grown.nd rfl (by first | exact Or.inl rfl | exact Or.inr rfl)) (pss_one (ps_if (pt_cmpR (op_ninA' K hu rfl) (pe_ix (ix_anyK K hu1 rfl) (pv 6) pe_int (fun _ _ => rfl)) (pv 2) (by rfl)) (pss_cons (ps_dput hu1 (pv 2) (pe_ix (ix_anyK K hu1 rfl) (pv 6) pe_int (fun _ _ => rfl)) (pe_tup (pa_cons (pe_op (op_addK K rfl) (pe_ix (ix_anyK K hu1 rfl) (pe_ix (ix_anyK K hu1 rfl) (pv 2) (pv 5) (fun _ _ => rfl)) pe_int (fun _ _ => rfl)) pe_int) (pa_cons (pv 5) pa_nil))) rfl)
      (pss_one (ps_expr (pe_app K rfl (pv 3) (pa_cons (pe_ix (ix_anyK K hu1 rfl) (pv 6) pe_int (fun _ _ => rfl)) pa_nil))))) pss_nil))))))
      (pss_one (ps_ret (pv 2)))))), ?_⟩
  rintro cs R ⟨W, r, rfl, hf, g, hR⟩
  have hlen := hf.len
  refine d_seq (d_setN (e_disp (kds := [(.inl r, prD (0, r))]) (ps_cons (e_v rfl) rfl (e_tup (l_cons e_i (l_cons (e_v rfl) l_nil))) ps_nil) (by exact Nat.le_of_ble_eq_true rfl) (List.nodup_cons.mpr ⟨by simp, List.nodup_nil⟩)) ?_)
  refine d_seq (d_setN (e_lst (l_cons (e_v rfl) l_nil)) ?_)
  refine d_seq (d_for (i_rng1 (n := W.length) (l_cons (e_cb (l_cons (e_v rfl) l_nil) c_lenM) l_nil) (by omega)) (fun i ρ => ∃ x4 x5 x6, ρ = [.fro (wD W), .fro (.int r), .own (dM prD (growSt W r i).1), .own (dI (growSt W r i).2), x4, x5, x6]) ⟨⟨_, _, _, rfl⟩, ?_, ?_⟩)
  · rintro i d ρ hd ⟨x4, x5, x6, rfl⟩
    rw [List.getElem?_map] at hd
    obtain ⟨i', hi', rfl⟩ := Option.map_eq_some_iff.mp hd
    have hlt : i < W.length := by
      have := (List.getElem?_eq_some_iff.mp hi').1
      rwa [List.length_range] at this
    rw [List.getElem?_range hlt] at hi'
    cases hi'
    have hth := g.there i hlt
    have gi := ginv_st hf g i
    rw [growSt_succ]
    unfold growTurn
    have hnm : (growSt W r i).2[i]? = some ((growSt W r i).2.getD i 0) := g_get (r := (growSt W r i).2) hth
    generalize hstE : growSt W r i = st at hth gi hnm
    generalize hnmE : st.2.getD i 0 = nm at hnm
    have hrow := gi.row nm (List.mem_of_getElem? hnm)
    have hdeg := hf.deg nm
    refine ⟨_, _, g_name, d_seq (d_set (e_ownL rfl (e_v rfl) (atD (j := i) (by omega) (by rw [List.getElem?_map, hnm]; rfl))) ?_)⟩
    refine d_for (i_listD (e_ends rfl (e_v rfl) hrow.1)) (fun k ρ => ∃ x6, ρ = [.fro (wD W), .fro (.int r), .own (dM prD (((endsAt W nm).take k).foldl (growStep nm) st).1), .own (dI (((endsAt W nm).take k).foldl (growStep nm) st).2), .fro (.int (0 + (i : Nat))), .fro (.int nm), x6]) ⟨⟨_, rfl⟩, ?_, ?_⟩
    · rintro k d ρ hd ⟨x6, rfl⟩
      rw [List.getElem?_map] at hd
      obtain ⟨e, he, rfl⟩ := Option.map_eq_some_iff.mp hd
      have hem := List.mem_of_getElem? he
      have hek := growOk_ends g e hem
      have gk : GInv W (((endsAt W nm).take k).foldl (growStep nm) st) (1 + 200 * i + ((endsAt W nm).take k).length) := ginv_steps _ _ _ gi fun e he => growOk_ends g e (List.mem_of_mem_take he)
      have hk2 : ((endsAt W nm).take k).length ≤ 200 := by rw [List.length_take]; omega
      rw [List.take_add_one, he, Option.toList_some, List.foldl_append, List.foldl_cons, List.foldl_nil]
      have hnmk : nm ∈ ((((endsAt W nm).take k).foldl (growStep nm) st).1.map (·.1)) := by
        have hsub : ∀ (es : List Nd) (st : Way × List Int), nm ∈ st.1.map (·.1) → nm ∈ (es.foldl (growStep nm) st).1.map (·.1) := by
          intro es
          induction es with
          | nil => exact fun _ h => h
          | cons e es ih =>
            intro st h
            refine ih _ ?_
            unfold growStep
            split
            · exact h
            · exact keys_pt.mpr (.inr h)
        exact hsub _ _ hrow.2
      generalize ((endsAt W nm).take k).foldl (growStep nm) st = cur at gk hnmk
      refine ⟨_, _, g_name, d_if (t_ninO rfl (e_tat 0 rfl rfl rfl) (by exact Nat.le_of_ble_eq_true rfl)) (fun hb => ?_) fun hb => d_next ⟨.fro (eD e), ?_⟩⟩
      · have hne : e.1 ∉ cur.1.map (·.1) := of_decide_eq_false (nt_t hb)
        have hst : growStep nm cur e = (pt cur.1 e.1 (far cur.1 nm + 1, nm), cur.2 ++ [e.1]) := by unfold growStep; rw [if_neg hne]
        rw [hst]
        refine d_seq (d_putM (v := (far cur.1 nm + 1, nm)) rfl (e_tup (l_cons (e_op (e_farO rfl (e_v rfl) hnmk) e_i o_add) (l_cons (e_v rfl) l_nil))) (e_tat 0 rfl rfl rfl) (by have := gk.len; omega) ?_)
        refine d_app (xs := cur.2.map D.int) rfl (e_tat 0 rfl rfl rfl) (by have := gk.rlen; rw [List.length_map]; omega) ⟨.fro (eD e), ?_⟩
        rw [show dI (cur.2 ++ [e.1]) = .lst (cur.2.map D.int ++ [.int e.1]) by rw [dI, List.map_append]; rfl]
        rfl
      · have hin : e.1 ∈ cur.1.map (·.1) := of_decide_eq_true (nt_f hb)
        have hst : growStep nm cur e = cur := by unfold growStep; rw [if_pos hin]
        rw [hst]
        rfl
    · rintro ρ ⟨x6, rfl⟩
      rw [List.length_map, List.take_length]
      exact ⟨_, _, _, rfl⟩
  · rintro ρ ⟨x4, x5, x6, rfl⟩
    rw [List.length_map, List.length_range]
    exact d_retO rfl hR
def ctRootParts : Ctr := fun cs R => ∃ (W : Web) (a b : Int), cs = [.fro (wD W), .fro (.int a), .fro (.int b)] ∧ Fit W ∧ GrowOk W a ∧ GrowOk W b ∧ (∀ n ∈ W.map (·.1), n ∈ (grown W a).map (·.1) ∧ n ∈ (grown W b).map (·.1)) ∧ R (.own (dM prD (rootParts W a b)))
theorem ok_root_parts (Z : Blt mg) (T : Def K mg "_law_root_parts" st_law_root_parts ["_law_web_here", "_law_first", "_law_second"]) (D_law_grown : OkDef P w K mg base 1 "_law_grown" ["_law_web_here", "_law_root"] ctGrown) : OkDef P w K mg base 2 "_law_root_parts" ["_law_web_here", "_law_first", "_law_second"] ctRootParts := by
  refine ok_def (k := 1) (n := 4) T sc_law_root_parts rfl (by rintro cs P ⟨_, _, _, rfl, _⟩; rfl) fun f cdv A outer s H E hr hu1 hu => ?_
  refine ⟨_, (pss_cons (ps_set (i := 3) sc_law_root_parts.nd rfl (by first | exact Or.inl rfl | exact Or.inr rfl) (pe_fnK K D_law_grown rfl rfl rfl rfl rfl hr (by rfl) (pa_cons (pv 0) (pa_cons (pv 1) pa_nil))))
      (pss_cons (ps_if (pt_cmpR (op_eqK K hr.units rfl) (pv 2) (pv 1) (nomark _)) (pss_one (ps_ret (pv 3))) pss_nil)
      (pss_cons (ps_set (i := 4) sc_law_root_parts.nd rfl (by first | exact Or.inl rfl | exact Or.inr rfl) (pe_fnK K D_law_grown rfl rfl rfl rfl rfl hr (by rfl) (pa_cons (pv 0) (pa_cons (pv 2) pa_nil))))
      (pss_cons (ps_set (i := 5) sc_law_root_parts.nd rfl (by first | exact Or.inl rfl | exact Or.inr rfl) pe_dnewK)
      (pss_cons (ps_lockOr (ps_for PassesOwn.never rfl (pi_keys (pv 0)) (pg_name (i := 6) sc_law_root_parts.nd rfl (by first | exact Or.inl rfl | exact Or.inr rfl)) (pss_cons (ps_dput hu1 (pv 5) (pv 6) (pe_ix (ix_anyK K hu1 rfl) (pv 3) (pv 6) (fun _ _ => rfl)) rfl)
      (pss_one (ps_if (pt_cmpR op_lt (pe_ix (ix_anyK K hu1 rfl) (pe_ix (ix_anyK K hu1 rfl) (pv 4) (pv 6) (fun _ _ => rfl)) pe_int (fun _ _ => rfl)) (pe_ix (ix_anyK K hu1 rfl) (pe_ix (ix_anyK K hu1 rfl) (pv 3) (pv 6) (fun _ _ => rfl)) pe_int (fun _ _ => rfl)) (nomark _)) (pss_one (ps_dput hu1 (pv 5) (pv 6) (pe_ix (ix_anyK K hu1 rfl) (pv 4) (pv 6) (fun _ _ => rfl)) rfl)) pss_nil)))))
      (pss_one (ps_ret (pv 5)))))))), ?_⟩
  rintro cs R ⟨W, a, b, rfl, hf, ga, gb, hall, hR⟩
  have hlen := hf.len
  refine d_seq (d_setN (n_callO (a_cons (e_v rfl) (a_cons (e_v rfl) a_nil)) fun P h => ⟨W, a, rfl, hf, ga, h⟩) ?_)
  refine d_seq (d_if (t_test (e_op (e_v rfl) (e_v rfl) o_eqi)) (fun hb => d_retO rfl ?_) fun hb => d_next ?_)
  · unfold rootParts at hR
    rw [if_pos (of_decide_eq_true hb)] at hR
    exact hR
  have hne := of_decide_eq_false hb
  unfold rootParts at hR
  rw [if_neg hne] at hR
  refine d_seq (d_setN (n_callO (a_cons (e_v rfl) (a_cons (e_v rfl) a_nil)) fun P h => ⟨W, b, rfl, hf, gb, h⟩) ?_)
  refine d_freeze (i := 3) rfl (d_freeze (i := 4) rfl (d_seq (d_setN e_newK ?_)))
  refine d_seq (d_forK (j := 0) rfl (fun i ρ => ∃ x6, ρ = [.fro (wD W), .fro (.int a), .fro (.int b), .fro (dM prD (grown W a)), .fro (dM prD (grown W b)), .own (dM prD (mixW (W.take i) (grown W a) (grown W b))), x6]) ⟨⟨_, rfl⟩, ?_, ?_⟩)
  · rintro i d ρ hd ⟨x6, rfl⟩
    rw [keys_kD] at hd
    obtain ⟨p, hpi, hp, rfl⟩ := map_get hd
    have hk := hall p.1 (List.mem_map.mpr ⟨p, hp, rfl⟩)
    have hnew : p.1 ∉ (mixW (W.take i) (grown W a) (grown W b)).map (·.1) := by unfold mixW; rw [List.map_map]; exact nd_take hf.nd hpi
    have hl : (mixW (W.take i) (grown W a) (grown W b)).length ≤ 64 := by unfold mixW; rw [List.length_map, List.length_take]; omega
    have hm : mixW (W.take (i + 1)) (grown W a) (grown W b) = mixW (W.take i) (grown W a) (grown W b) ++ [(p.1, if far (grown W b) p.1 < far (grown W a) p.1 then (lk (grown W b) p.1).getD (0, 0) else (lk (grown W a) p.1).getD (0, 0))] := by
      unfold mixW
      rw [List.take_add_one, hpi, List.map_append]
      rfl
    rw [hm]
    generalize mixW (W.take i) (grown W a) (grown W b) = acc at hnew hl
    refine ⟨_, _, g_name, d_seq (d_putM (v := (far (grown W a) p.1, up (grown W a) p.1)) rfl (e_op (e_v rfl) (e_v rfl) (o_ixM (far_lk hk.1))) (e_v rfl) (by omega) ?_)⟩
    rw [pt_new _ hnew]
    refine d_if (t_test (e_op (e_far rfl (e_v rfl) hk.2) (e_far rfl (e_v rfl) hk.1) o_lt)) (fun hb => ?_) fun hb => d_next ⟨.fro (.int p.1), ?_⟩
    · refine d_putM (v := (far (grown W b) p.1, up (grown W b) p.1)) rfl (e_op (e_v rfl) (e_v rfl) (o_ixM (far_lk hk.2))) (e_v rfl) (by rw [List.length_append, List.length_singleton]; omega) ⟨.fro (.int p.1), ?_⟩
      rw [if_pos (of_decide_eq_true hb)]
      have : pt (acc ++ [(p.1, (far (grown W a) p.1, up (grown W a) p.1))]) p.1 (far (grown W b) p.1, up (grown W b) p.1) = acc ++ [(p.1, (lk (grown W b) p.1).getD (0, 0))] := by
        unfold pt
        rw [any_keys, decide_eq_true (by rw [List.map_append]; exact List.mem_append_right _ (List.mem_singleton.mpr rfl)), if_pos rfl, List.map_append, List.map_cons, if_pos rfl]
        congr 1
        conv => rhs; rw [← List.map_id acc]
        refine List.map_congr_left fun q hq => ?_
        rw [if_neg (fun z : q.1 = p.1 => hnew (z ▸ List.mem_map.mpr ⟨q, hq, rfl⟩))]; rfl
      rw [this]
      rfl
    · rw [if_neg (of_decide_eq_false hb)]
      rfl
  · rintro ρ ⟨x6, rfl⟩
    rw [List.length_map, List.length_map, List.take_length]
    exact d_retO rfl hR
def ctSums : Ctr := fun cs R => ∃ (L : Way) (nums : Nums), cs = [.fro (dM prD L), .fro (dM D.int nums)] ∧ SumOk L nums ∧ R (.own (dM D.int (sumsL L nums)))
theorem ok_sums_of (Z : Blt mg) (T : Def K mg "_law_sums_of" st_law_sums_of ["_law_way", "_law_numbers"]) : OkDef P w K mg base 1 "_law_sums_of" ["_law_way", "_law_numbers"] ctSums := by
  refine ok_def (k := 0) (n := 3) T sc_law_sums_of rfl (by rintro cs P ⟨_, _, rfl, _⟩; rfl) fun f cdv A outer s H E hr hu1 hu => ?_
  refine ⟨_, (pss_cons (ps_set (i := 2) sc_law_sums_of.nd rfl (by first | exact Or.inl rfl | exact Or.inr rfl) (pe_callTy (call_dctK K rfl rfl) (by rfl) Z.dict (by decide +kernel) (pa_cons (pv 1) pa_nil)))
      (pss_cons (ps_for PassesOwn.never rfl (pi_range3 (by rfl) Z.range (pa_cons (pe_callB (call_lenAK K rfl) (by rfl) Z.len (by decide +kernel) (pa_cons (pv 0) pa_nil)) (pa_cons pe_int (pa_cons (pe_un un_neg pe_int) pa_nil)))) (pg_name (i := 3) sc_law_sums_of.nd rfl (by first | exact Or.inl rfl | exact Or.inr rfl)) (pss_one (ps_lockOr (ps_for PassesOwn.never rfl (pi_keys (pv 0)) (pg_name (i := 4) sc_law_sums_of.nd rfl (by first | exact Or.inl rfl | exact Or.inr rfl)) (pss_one (ps_if (pt_cmpR (op_eqK K hr.units rfl) (pe_ix (ix_anyK K hu1 rfl) (pe_ix (ix_anyK K hu1 rfl) (pv 0) (pv 4) (fun _ _ => rfl)) pe_int (fun _ _ => rfl)) (pv 3) (nomark _)) (pss_one (ps_dput hu1 (pv 2) (pe_ix (ix_anyK K hu1 rfl) (pe_ix (ix_anyK K hu1 rfl) (pv 0) (pv 4) (fun _ _ => rfl)) pe_int (fun _ _ => rfl)) (pe_op (op_addK K rfl) (pe_ix (ix_anyK K hu1 rfl) (pv 2) (pe_ix (ix_anyK K hu1 rfl) (pe_ix (ix_anyK K hu1 rfl) (pv 0) (pv 4) (fun _ _ => rfl)) pe_int (fun _ _ => rfl)) (fun _ _ => rfl)) (pe_ix (ix_anyK K hu1 rfl) (pv 2) (pv 4) (fun _ _ => rfl))) rfl)) pss_nil))))))
      (pss_one (ps_ret (pv 2))))), ?_⟩
  rintro cs R ⟨L, nums, rfl, g, hR⟩
  have hlen := g.len
  have hll := g.llen
  have hup : ∀ n ∈ L.map (·.1), up L n ∈ nums.map (·.1) := fun n hn => (g.key n hn).2
  refine d_seq (d_setN (e_cbN (l_cons (e_v rfl) l_nil) c_dictD) ?_)
  refine d_seq (d_for (i_rng3 (l_cons (e_cb (l_cons (e_v rfl) l_nil) c_lenM) (l_cons e_i (l_cons (e_neg e_i) l_nil))) (RgC.neg (i := (L.length : Int)) (j := 0) (by omega) (by omega) (by omega) (by omega))) (fun i ρ => ∃ x3 x4, ρ = [.fro (dM prD L), .fro (dM D.int nums), .own (dM D.int ((List.range i).foldl (fun acc (i : Nat) => sumTurn L acc ((L.length : Int) - (i : Int))) nums)), x3, x4]) ⟨⟨_, _, rfl⟩, ?_, ?_⟩)
  · rintro i d ρ hd ⟨x3, x4, rfl⟩
    rw [List.getElem?_map] at hd
    obtain ⟨i', hi', rfl⟩ := Option.map_eq_some_iff.mp hd
    have hlt : i < ((L.length : Int) - 0).toNat := by
      have := (List.getElem?_eq_some_iff.mp hi').1
      rwa [List.length_range] at this
    rw [List.getElem?_range hlt] at hi'
    cases hi'
    have hks := keys_turns (List.range i) nums hup
    rw [List.range_succ, List.foldl_append, List.foldl_cons, List.foldl_nil, show (L.length : Int) + (i : Nat) * -1 = (L.length : Int) - (i : Int) by omega]
    generalize (List.range i).foldl (fun acc (i : Nat) => sumTurn L acc ((L.length : Int) - (i : Int))) nums = acc at hks
    generalize (L.length : Int) - (i : Int) = kf
    refine ⟨_, _, g_name, d_forK (j := 0) rfl (fun k ρ => ∃ x4, ρ = [.fro (dM prD L), .fro (dM D.int nums), .own (dM D.int (((L.map (·.1)).take k).foldl (sumName L kf) acc)), .fro (.int kf), x4]) ⟨⟨_, rfl⟩, ?_, ?_⟩⟩
    · rintro k d ρ hd ⟨x4, rfl⟩
      rw [keys_kD] at hd
      obtain ⟨p, hpi, hp, rfl⟩ := map_get hd
      have hk : p.1 ∈ L.map (·.1) := List.mem_map.mpr ⟨p, hp, rfl⟩
      have hpk : (L.map (·.1))[k]? = some p.1 := by rw [List.getElem?_map, hpi]; rfl
      have hks2 : ((((L.map (·.1)).take k).foldl (sumName L kf) acc).map (·.1)) = nums.map (·.1) := by
        rw [keys_names _ _ (fun n hn => by rw [hks]; exact hup n (List.mem_of_mem_take hn)), hks]
      rw [List.take_add_one, hpk, Option.toList_some, List.foldl_append, List.foldl_cons, List.foldl_nil]
      generalize ((L.map (·.1)).take k).foldl (sumName L kf) acc = cur at hks2
      have hlc : cur.length < 64 := by
        have := congrArg List.length hks2
        rw [List.length_map, List.length_map] at this
        omega
      have h1 : lk cur (up L p.1) = some (nv cur (up L p.1)) := lk_at (by rw [hks2]; exact hup _ hk) 0
      have h2 : lk cur p.1 = some (nv cur p.1) := lk_at (by rw [hks2]; exact (g.key _ hk).1) 0
      refine ⟨_, _, g_name, d_if (t_test (e_op (e_far rfl (e_v rfl) hk) (e_v rfl) o_eqi)) (fun hb => ?_) fun hb => d_next ⟨.fro (.int p.1), ?_⟩⟩
      · refine d_putM rfl (e_op (e_ownM rfl (e_up rfl (e_v rfl) hk) h1) (e_ownM rfl (e_v rfl) h2) o_add) (e_up rfl (e_v rfl) hk) (by omega) ⟨.fro (.int p.1), ?_⟩
        unfold sumName
        rw [if_pos (of_decide_eq_true hb)]
        rfl
      · unfold sumName
        rw [if_neg (of_decide_eq_false hb)]
        rfl
    · rintro ρ ⟨x4, rfl⟩
      rw [List.length_map, List.length_map, ← List.length_map (as := L) (f := fun x => x.1), List.take_length]
      exact ⟨_, _, rfl⟩
  · rintro ρ ⟨x3, x4, rfl⟩
    rw [List.length_map, List.length_range, Int.sub_zero, Int.toNat_natCast]
    exact d_retO rfl hR
end
end Bs
namespace Bs
open PySem L2
/-! ### what faces hold -/
theorem facesGo_mem {W : Web} (hf : FaceOk W) : ∀ (n : Nat) (l : List (Int × Int)), (∀ p ∈ l, p ∈ pairsOf W) → ∀ f ∈ facesGo (behind W) (pairsOf W).length n l, f ≠ [] ∧ (∀ p ∈ f, p ∈ pairsOf W) ∧ f.length ≤ (pairsOf W).length + 1
  | 0, l, hl, f, h => by cases h
  | n + 1, [], hl, f, h => by cases h
  | n + 1, p :: l, hl, f, h => by
    rw [facesGo_cons] at h
    rcases List.mem_cons.mp h with rfl | h
    · refine ⟨by unfold faceOf; exact List.cons_ne_nil _ _, fun q hq => ?_, ?_⟩
      · rcases List.mem_cons.mp hq with rfl | hq
        · exact hl _ List.mem_cons_self
        · exact chase_mem hf _ _ (hl _ List.mem_cons_self) q hq
      · unfold faceOf
        rw [List.length_cons]
        have := chase_len (behind W) p (pairsOf W).length p
        omega
    · exact facesGo_mem hf n _ (fun q hq => hl q (List.mem_filter.mp hq).1) f h
theorem facesGo_len {α : Type} [DecidableEq α] (β : α → α) (N : Nat) : ∀ (n : Nat) (l : List α), (facesGo β N n l).length ≤ n
  | 0, _ => Nat.le_refl _
  | _ + 1, [] => Nat.zero_le _
  | n + 1, p :: l => by rw [facesGo_cons, List.length_cons]; have := facesGo_len β N n ((p :: l).filter (notIn (faceOf β N p))); omega
theorem facesGo_cover {α : Type} [DecidableEq α] (β : α → α) (N : Nat) : ∀ (n : Nat) (l : List α), l.length ≤ n → ∀ p ∈ l, ∃ f ∈ facesGo β N n l, p ∈ f
  | 0, l, hn, p, hp => by
    have e : l = [] := List.length_eq_zero_iff.mp (by omega)
    rw [e] at hp; cases hp
  | n + 1, [], _, p, hp => by cases hp
  | n + 1, q :: l, hn, p, hp => by
    rw [facesGo_cons]
    by_cases h : p ∈ faceOf β N q
    · exact ⟨_, List.mem_cons_self, h⟩
    · have hlen : ((q :: l).filter (notIn (faceOf β N q))).length ≤ n := by
        rw [List.filter_cons, if_neg (by rw [notIn_t]; exact fun z => z List.mem_cons_self)]
        have := List.length_filter_le (notIn (faceOf β N q)) l
        rw [List.length_cons] at hn
        omega
      obtain ⟨f, hf, hpf⟩ := facesGo_cover β N n _ hlen p (List.mem_filter.mpr ⟨hp, notIn_t.mpr h⟩)
      exact ⟨f, List.mem_cons_of_mem _ hf, hpf⟩
theorem faces_mem {W : Web} (hf : FaceOk W) {f : List (Int × Int)} (h : f ∈ facesOf W) : (∀ p ∈ f, p ∈ pairsOf W) ∧ f.length ≤ (pairsOf W).length + 1 ∧ (pairsOf W ≠ [] → f ≠ []) := by
  unfold facesOf at h
  split at h
  · rename_i e
    rw [List.mem_singleton] at h
    subst h
    exact ⟨fun _ h => absurd h List.not_mem_nil, Nat.zero_le _, fun z => absurd e z⟩
  · obtain ⟨h1, h2, h3⟩ := facesGo_mem hf _ _ (fun _ h => h) f h
    exact ⟨h2, h3, fun _ => h1⟩
theorem faces_len {W : Web} (hf : FaceOk W) : (facesOf W).length ≤ (pairsOf W).length + 1 := by
  unfold facesOf
  split
  · simp
  · have := facesGo_len (behind W) (pairsOf W).length (pairsOf W).length (pairsOf W); omega
theorem faces_cover {W : Web} {p : Int × Int} (h : p ∈ pairsOf W) : ∃ f ∈ facesOf W, p ∈ f := by
  unfold facesOf
  rw [if_neg (fun e => by rw [e] at h; cases h)]
  exact facesGo_cover _ _ _ _ (Nat.le_refl _) p h
/-! ### dicts of pairs -/
abbrev Lab := List ((Int × Int) × (Int × Int))
def pK (p : Int × Int) : List Key := [.inl p.1, .inl p.2]
theorem pK_inj (a b : Int × Int) (h : pK a = pK b) : a = b := by
  unfold pK at h
  simp only [List.cons.injEq, Sum.inl.injEq, and_true] at h
  exact Prod.ext h.1 h.2
abbrev dTP (L : Lab) : D := .dit (L.map fun p => pK p.1) (L.map fun p => prD p.2)
section
variable {K : PySem.W.Frag} {ρ : List Cell} {te tb : TE} {i : Nat} {L : Lab} {k v : Int × Int} {E : EndsD}
theorem d_putP (h : ρ[i]? = some (.own (dTP L))) (he : EvD K te ρ (prD v)) (hj : EvD K tb ρ (prD k)) (hl : L.length < 100000) (kk : E.nx (ρ.set i (.own (dTP (pt L k v))))) : Dos K (sDPut (tVar i) tb te) ρ E :=
  d_putT (ns := [k.1, k.2]) h he hj (by rw [List.length_map]; exact hl) (by
    rw [show ([k.1, k.2] : List Int).map (Sum.inl (β := Str)) = pK k from rfl, putKs_map (f := pK) pK_inj L k v, putDs_map (f := pK) (e := prD) pK_inj]; exact kk)
theorem o_ixP (h : lk L k = some v) : OpD K (rIxA K) (dTP L) (prD k) (prD v) := o_ixKT (ns := [k.1, k.2]) (by
  rw [show ([k.1, k.2] : List Int).map (Sum.inl (β := Str)) = pK k from rfl, get_map (f := pK) (e := prD) pK_inj, h]; rfl)
end
theorem pt_len {κ α : Type} [DecidableEq κ] (m : List (κ × α)) (k : κ) (v : α) : (pt m k v).length ≤ m.length + 1 := by
  unfold pt; split <;> simp
theorem pt_old {κ α : Type} [DecidableEq κ] {m : List (κ × α)} {k : κ} (v : α) (h : (lk m k).isSome = true) : (pt m k v).length = m.length := by
  unfold pt; rw [any_keys, decide_eq_true (lk_isSome.mp h), if_pos rfl, List.length_map]
def LabOk (W : Web) (way : Int) (L : Lab) (S : List (Int × Int)) : Prop := ∀ p ∈ S, ∃ q, lk L p = some q ∧ q ∈ pairsOf W ∧ (way = 0 → ∃ f ∈ facesOf W, p ∈ f ∧ f.head? = some q)
theorem lab_put {W : Web} {way : Int} {L : Lab} {S : List (Int × Int)} {p q : Int × Int} (h : LabOk W way L S) (hq : q ∈ pairsOf W) (h0 : way = 0 → ∃ f ∈ facesOf W, p ∈ f ∧ f.head? = some q) : LabOk W way (pt L p q) (S ++ [p]) := fun x hx => by
  rw [lk_pt]
  by_cases e : x = p
  · subst e; rw [if_pos rfl]; exact ⟨q, rfl, hq, h0⟩
  · rw [if_neg e]
    rw [List.mem_append, List.mem_singleton] at hx
    exact h x (hx.resolve_right e)
theorem lab_over {W : Web} {way : Int} {L : Lab} {S : List (Int × Int)} {p q : Int × Int} (h : LabOk W way L (S ++ [p])) (hq : q ∈ pairsOf W) (h0 : way ≠ 0) : LabOk W way (pt L p q) (S ++ [p]) := fun x hx => by
  rw [lk_pt]
  by_cases e : x = p
  · subst e; rw [if_pos rfl]; exact ⟨q, rfl, hq, fun z => absurd z h0⟩
  · rw [if_neg e]; exact h x hx
section
variable {P : Program} {w : World} {K : PySem.W.Frag} {mg : Str → Option Value} {base : Heap}
def ctLabels : Ctr := fun cs R => ∃ (W : Web) (way : Int), cs = [.fro (wD W), .fro (.int way)] ∧ FaceOk W ∧ ∀ L : Lab, LabOk W way L (pairsOf W) → R (.own (dTP L))
theorem ok_labels (Z : Blt mg) (T : Def K mg "_law_labels" st_law_labels ["_law_web_here", "_law_way"]) (D_law_faces : OkDef P w K mg base 2 "_law_faces" ["_law_web_here"] ctFaces) : OkDef P w K mg base 3 "_law_labels" ["_law_web_here", "_law_way"] ctLabels := by
  refine ok_def (k := 2) (n := 6) T sc_law_labels rfl (by rintro cs P ⟨_, _, rfl, _⟩; rfl) fun f cdv A outer s H E hr hu1 hu => ?_
  refine ⟨_, (pss_cons (ps_set (i := 2) sc_law_labels.nd rfl (by first | exact Or.inl rfl | exact Or.inr rfl) (pe_fnK K D_law_faces rfl rfl rfl rfl rfl hr (by rfl) (pa_cons (pv 0) pa_nil)))
      (pss_cons (ps_set (i := 3) sc_law_labels.nd rfl (by first | exact Or.inl rfl | exact Or.inr rfl) pe_dnewT)
      (pss_cons (ps_for PassesOwn.never rfl (pi_enumK K rfl (by rfl) Z.enumerate (pa_cons (pv 2) pa_nil)) (pg_tupK K rfl rfl (pgs_cons (pg_name (i := 4) sc_law_labels.nd rfl (by first | exact Or.inl rfl | exact Or.inr rfl)) (pgs_cons (pg_name (i := 5) sc_law_labels.nd rfl (by first | exact Or.inl rfl | exact Or.inr rfl)) pgs_nil))) (pss_one (ps_for PassesOwn.never rfl (pi_enumK K rfl (by rfl) Z.enumerate (pa_cons (pv 5) pa_nil)) (pg_tupK K rfl rfl (pgs_cons (pg_name (i := 6) sc_law_labels.nd rfl (by first | exact Or.inl rfl | exact Or.inr rfl)) (pgs_cons (pg_name (i := 7) sc_law_labels.nd rfl (by first | exact Or.inl rfl | exact Or.inr rfl)) pgs_nil))) (pss_cons (ps_dput hu1 (pv 3) (pv 7) (pe_ix (ix_anyK K hu1 rfl) (pv 5) pe_int (fun _ _ => rfl)) rfl)
      (pss_cons (ps_if (PW.pt (pw_and (pt_cmpR (op_eqK K hr.units rfl) (pv 1) pe_int (nomark _)) (pw_and1 (pt_cmpR (op_eqK K hr.units rfl) (pv 4) pe_int (nomark _))))) (pss_one (ps_dput hu1 (pv 3) (pv 7) (pe_ix (ix_anyK K hu1 rfl) (pe_ix (ix_anyK K hu1 rfl) (pv 2) pe_int (fun _ _ => rfl)) pe_int (fun _ _ => rfl)) rfl)) pss_nil)
      (pss_one (ps_if (PW.pt (pw_and (pt_cmpR (op_eqK K hr.units rfl) (pv 1) pe_int (nomark _)) (pw_and (pt_cmpR (op_eqK K hr.units rfl) (pv 4) pe_int (nomark _)) (pw_and1 (pt_cmpR op_ge (pe_op op_mul pe_int (pv 6)) (pe_callB (call_lenAK K rfl) (by rfl) Z.len (by decide +kernel) (pa_cons (pv 5) pa_nil)) (nomark _)))))) (pss_one (ps_dput hu1 (pv 3) (pv 7) (pe_ix (ix_anyK K hu1 rfl) (pv 5) (pe_op (op_addK K rfl) (pe_op op_fdivN (pe_callB (call_lenAK K rfl) (by rfl) Z.len (by decide +kernel) (pa_cons (pv 5) pa_nil)) pe_int) (pe_op op_modN (pe_callB (call_lenAK K rfl) (by rfl) Z.len (by decide +kernel) (pa_cons (pv 5) pa_nil)) pe_int)) (fun _ _ => rfl)) rfl)) pss_nil)))))))
      (pss_one (ps_ret (pv 3)))))), ?_⟩
  rintro cs R ⟨W, way, rfl, hf, hR⟩
  have hfew := hf.few
  refine d_seq (d_set (e_callO (a_cons (e_v rfl) a_nil) fun P h => ⟨W, rfl, hf, h⟩) ?_)
  refine d_seq (d_setN e_newT ?_)
  refine d_seq (d_for (i_enum (l_cons (e_v rfl) l_nil)) (fun i ρ => ∃ (L : Lab) (x4 x5 x6 x7 : Cell), ρ = [.fro (wD W), .fro (.int way), .fro (.lst ((facesOf W).map fcD)), .own (dTP L), x4, x5, x6, x7] ∧ LabOk W way L ((facesOf W).take i).flatten ∧ L.length ≤ 101 * i) ⟨⟨[], _, _, _, _, rfl, (fun _ h => absurd h List.not_mem_nil : LabOk W way [] []), Nat.le_refl _⟩, ?_, ?_⟩)
  · rintro i d ρ hd ⟨L, x4, x5, x6, x7, rfl, hL, hlL⟩
    unfold enumD at hd
    rw [List.getElem?_mapIdx, List.getElem?_map] at hd
    obtain ⟨d1, hd1, rfl⟩ := Option.map_eq_some_iff.mp hd
    obtain ⟨fc, hfc, rfl⟩ := Option.map_eq_some_iff.mp hd1
    have hfm := List.mem_of_getElem? hfc
    obtain ⟨hfp, hfl, hfn⟩ := faces_mem hf hfm
    have hi : i < (facesOf W).length := (List.getElem?_eq_some_iff.mp hfc).1
    have hfs := faces_len hf
    rw [List.take_add_one, hfc, Option.toList_some, List.flatten_append, List.flatten_cons, List.flatten_nil, List.append_nil]
    refine ⟨_, _, g_tupT (gs_cons g_name (gs_cons g_name gs_nil)) rfl, ?_⟩
    refine d_for (i_enum (l_cons (e_v rfl) l_nil)) (fun k ρ => ∃ (L : Lab) (x6 x7 : Cell), ρ = [.fro (wD W), .fro (.int way), .fro (.lst ((facesOf W).map fcD)), .own (dTP L), .fro (.int (i : Nat)), .fro (fcD fc), x6, x7] ∧ LabOk W way L (((facesOf W).take i).flatten ++ fc.take k) ∧ L.length ≤ 101 * i + k) ⟨⟨L, _, _, rfl, by rw [List.take_zero, List.append_nil]; exact hL, hlL⟩, ?_, ?_⟩
    · rintro k d ρ hd ⟨L, x6, x7, rfl, hL, hlL⟩
      unfold enumD at hd
      rw [List.getElem?_mapIdx, List.getElem?_map] at hd
      obtain ⟨d1, hd1, rfl⟩ := Option.map_eq_some_iff.mp hd
      obtain ⟨p, hp, rfl⟩ := Option.map_eq_some_iff.mp hd1
      have hpm := List.mem_of_getElem? hp
      have hk : k < fc.length := (List.getElem?_eq_some_iff.mp hp).1
      have hppw := hfp p hpm
      have hne : pairsOf W ≠ [] := fun e => by rw [e] at hppw; cases hppw
      obtain ⟨q, r, hqr⟩ := List.exists_cons_of_ne_nil (hfn hne)
      have hfirst : atI (fc.map prD) 0 = some (prD q) := by rw [hqr]; exact atD (j := 0) rfl rfl
      have hqm : q ∈ pairsOf W := hfp q (by rw [hqr]; exact List.mem_cons_self)
      have hlen1 : L.length < 100000 := by omega
      rw [List.take_add_one, hp, Option.toList_some, ← List.append_assoc]
      generalize ((facesOf W).take i).flatten ++ fc.take k = S at hL
      refine ⟨_, _, g_tupT (gs_cons g_name (gs_cons g_name gs_nil)) rfl, ?_⟩
      refine d_seq (d_putP rfl (e_op (e_v rfl) e_i (o_ixL hfirst)) (e_v rfl) hlen1 ?_)
      have hL1 : LabOk W way (pt L p q) (S ++ [p]) := lab_put hL hqm fun _ => ⟨fc, hfm, hpm, by rw [hqr]; rfl⟩
      have hl1 : (pt L p q).length ≤ 101 * i + (k + 1) := by have := pt_len L p q; omega
      generalize pt L p q = L1 at hL1 hl1
      have hsome : ∀ {L' : Lab}, LabOk W way L' (S ++ [p]) → (lk L' p).isSome = true := fun h => by
        obtain ⟨q', h1, _⟩ := h p (List.mem_append_right _ (List.mem_singleton.mpr rfl))
        rw [h1]; rfl
      refine d_cut (fun ρ => ∃ L' : Lab, ρ = [.fro (wD W), .fro (.int way), .fro (.lst ((facesOf W).map fcD)), .own (dTP L'), .fro (.int (i : Nat)), .fro (fcD fc), .fro (.int (k : Nat)), .fro (prD p)] ∧ LabOk W way L' (S ++ [p]) ∧ L'.length ≤ 101 * i + (k + 1)) (d_if (t_and (t_test (e_op (e_v rfl) e_i o_eqi)) fun _ => t_test (e_op (e_v rfl) e_i o_eqi)) (fun hb => ?_) fun hb => d_next ⟨L1, rfl, hL1, hl1⟩) ?_
      · rw [Bool.and_eq_true] at hb
        have hw : way = 1 := of_decide_eq_true hb.1
        obtain ⟨f0, fr, hf0⟩ := List.exists_cons_of_ne_nil (fun e : facesOf W = [] => by rw [e] at hfm; cases hfm)
        have hf0m : f0 ∈ facesOf W := by rw [hf0]; exact List.mem_cons_self
        obtain ⟨h01, _, h03⟩ := faces_mem hf hf0m
        obtain ⟨q0, r0, hq0⟩ := List.exists_cons_of_ne_nil (h03 hne)
        have ha : atI ((facesOf W).map fcD) 0 = some (fcD f0) := by rw [hf0]; exact atD (j := 0) rfl rfl
        have hb2 : atI (f0.map prD) 0 = some (prD q0) := by rw [hq0]; exact atD (j := 0) rfl rfl
        refine d_putP rfl (e_op (e_op (e_v rfl) e_i (o_ixL ha)) e_i (o_ixL hb2)) (e_v rfl) (by omega) ⟨_, rfl, lab_over hL1 (h01 q0 (by rw [hq0]; exact List.mem_cons_self)) (by omega), ?_⟩
        rw [pt_old _ (hsome hL1)]; exact hl1
      · rintro _ ⟨L2, rfl, hL2, hl2⟩
        refine d_if (t_and (t_test (e_op (e_v rfl) e_i o_eqi)) fun _ => t_and (t_test (e_op (e_v rfl) e_i o_eqi)) fun _ => t_test (e_op (e_op e_i (e_v rfl) (o_mul (.inl (by decide)))) (e_cb (l_cons (e_v rfl) l_nil) c_lenL) o_ge)) (fun hb => ?_) fun hb => d_next ⟨L2, _, _, rfl, hL2, hl2⟩
        rw [Bool.and_eq_true, Bool.and_eq_true] at hb
        have hw : way = 2 := of_decide_eq_true hb.1
        have hk2 := of_decide_eq_true hb.2.2
        rw [List.length_map] at hk2
        have hj : fc.length / 2 + fc.length % 2 < fc.length := by omega
        have hat : fc[fc.length / 2 + fc.length % 2]? = some (fc[fc.length / 2 + fc.length % 2]'hj) := List.getElem?_eq_getElem hj
        refine d_putP (v := fc[fc.length / 2 + fc.length % 2]'hj) rfl (e_op (e_v rfl) (e_op (e_op (e_cb (l_cons (e_v rfl) l_nil) c_lenL) e_i (o_div ⟨by decide, by decide⟩)) (e_op (e_cb (l_cons (e_v rfl) l_nil) c_lenL) e_i (o_mod (by decide))) o_add) (o_ixL (atD (j := fc.length / 2 + fc.length % 2) ?_ (by rw [List.getElem?_map, hat]; rfl)))) (e_v rfl) (by omega) ⟨_, _, _, rfl, lab_over hL2 (hfp _ (List.mem_of_getElem? hat)) (by omega), ?_⟩
        · rw [List.length_map, Int.fdiv_eq_ediv_of_nonneg _ (by decide), Int.fmod_eq_emod_of_nonneg _ (by decide)]; omega
        · rw [pt_old _ (hsome hL2)]; exact hl2
    · rintro ρ ⟨L, x6, x7, rfl, hL, hlL⟩
      unfold enumD at hL hlL
      rw [List.length_mapIdx, List.length_map] at hL hlL
      rw [List.take_length] at hL
      exact ⟨L, _, _, _, _, rfl, hL, by omega⟩
  · rintro ρ ⟨L, x4, x5, x6, x7, rfl, hL, hlL⟩
    unfold enumD at hL
    rw [List.length_mapIdx, List.length_map, List.take_length] at hL
    refine d_retO rfl (hR L fun p hp => ?_)
    obtain ⟨f, hfm, hpf⟩ := faces_cover hp
    exact hL p (List.mem_flatten.mpr ⟨f, hfm, hpf⟩)
end
end Bs
namespace Bs
open PySem L2
/-- rows by name -/
abbrev RowsM := List (Int × Row)
def rowOf (RM : RowsM) (n : Int) : Row := (lk RM n).getD []
section
variable {P : Program} {w : World} {K : PySem.W.Frag} {mg : Str → Option Value} {base : Heap}
def ctLThrees : Ctr := fun cs R => ∃ row : Row, cs = [.fro (dI row)] ∧ row.length ≤ 1000 ∧ R (.own (dLL (thr row)))
theorem ok_law_threes (Z : Blt mg) (T : Def K mg "_law_threes" st_law_threes ["_law_fields"]) : OkDef P w K mg base 1 "_law_threes" ["_law_fields"] ctLThrees := by
  refine ok_def (k := 0) (n := 1) T sc_law_threes rfl (by rintro cs P ⟨row, rfl, _⟩; rfl) fun f cdv A outer s H E hr hu1 hu => ?_
  refine ⟨_, (pss_one (ps_ret (pe_lc (own := [("_law_at", 1)]) (g := (gName 1)) (tt := tYes) rfl sc_law_threes.nd (pi_range3 (by rfl) Z.range (pa_cons pe_int (pa_cons (pe_callB (call_lenAK K rfl) (by rfl) Z.len (by decide +kernel) (pa_cons (pv 0) pa_nil)) (pa_cons pe_int pa_nil)))) (blkOk_by (N := N_law_threes) (sc := defScope st_law_threes) (by decide +kernel)) (fun _ _ _ _ _ => (pg_name (i := 1) sc_law_threes.nd rfl (by first | exact Or.inl rfl | exact Or.inr rfl))) (fun _ _ _ _ _ => pts_nil) (fun _ _ _ _ _ => (pe_slice (sl_anyK K rfl) (pv 0) (po_some (pv 1)) (po_some (pe_op (op_addK K rfl) (pv 1) pe_int))))))), ?_⟩
  rintro cs R ⟨row, rfl, hl, hR⟩
  refine gd_retN (EvNB.all fun B0 σ => c_lcM (xs := List.range ((row.length - 7 + 2) / 3)) (en := fun k => .int (7 + (k : Nat) * 3)) (i_rng3 (l_cons e_i (l_cons (e_cb (l_cons (e_v rfl) l_nil) c_lenL) (l_cons e_i l_nil))) ?_ B0 σ) ?_ (fun k => .lst (cutD (row.map D.int) (some (7 + (k : Nat) * 3)) (some (7 + (k : Nat) * 3 + 3)))) (fun k => [.fro (dI row), .fro (.int (7 + (k : Nat) * 3))]) (fun k _ => g_name) fun k _ => (e_slL (e_v rfl) (s_some (e_v rfl)) (s_some (e_op (e_v rfl) e_i o_add))).fz) ?_
  · rw [List.length_map]
    exact rg3 (a := 7) (c := 3) (by decide) (by decide) (by decide) (by omega)
  · rw [List.length_range]; omega
  · rintro d rfl
    have e2 : (List.range ((row.length - 7 + 2) / 3)).map (fun k => D.lst (cutD (row.map D.int) (some (7 + (k : Nat) * 3)) (some (7 + (k : Nat) * 3 + 3)))) = (thr row).map dI := by
      rw [thr_cut, List.map_map]
      refine List.map_congr_left fun k _ => ?_
      show D.lst _ = D.lst _
      rw [cutD_map]
    rw [e2]
    exact hR
theorem ok_law_goes_up (Z : Blt mg) (T : Def K mg "_law_goes_up" st_law_goes_up ["_law_name", "_law_own", "_law_beside"]) : OkDef P w K mg base 1 "_law_goes_up" ["_law_name", "_law_own", "_law_beside"] ctGoes := by
  refine ok_def (k := 0) (n := 2) T sc_law_goes_up rfl (by rintro cs P ⟨_, _, _, rfl, _⟩; rfl) fun f cdv A outer s H E hr hu1 hu => ?_
  refine ⟨_, (pss_cons (ps_if (PW.pt (pw_or (pt_cmpR (op_neK K hr.units rfl) (pe_ix (ix_anyK K hu1 rfl) (pv 1) pe_int (fun _ _ => rfl)) (pv 0) (nomark _)) (pw_or1 (pt_cmpR (op_neK K hr.units rfl) (pe_lc (own := [("_law_row", 4)]) (g := (gName 4)) rfl sc_law_goes_up.nd (pi_listK K rfl (pv 2)) (blkOk_by (N := N_law_goes_up) (sc := defScope st_law_goes_up) (by decide +kernel)) (fun _ _ _ _ _ => (pg_name (i := 4) sc_law_goes_up.nd rfl (by first | exact Or.inl rfl | exact Or.inr rfl))) (fun _ _ _ _ _ => (pts_one (pt_cmpR (op_neK K hr.units rfl) (pe_ix (ix_anyK K hu1 rfl) (pv 4) pe_int (fun _ _ => rfl)) (pe_ix (ix_anyK K hu1 rfl) (pv 1) pe_int (fun _ _ => rfl)) (nomark _)))) (fun _ _ _ _ _ => (pv 4))) (pe_lst pa_nil) (nomark _))))) (pss_one (ps_ret pe_bl)) pss_nil)
      (pss_cons (ps_if (pt_cmpR (op_eqK K hr.units rfl) (pe_ix (ix_anyK K hu1 rfl) (pv 1) pe_int (fun _ _ => rfl)) (pv 0) (nomark _)) (pss_one (ps_ret (pe_and (pe_cmpR (op_eqK K hr.units rfl) (pe_ix (ix_anyK K hu1 rfl) (pv 1) pe_int (fun _ _ => rfl)) pe_int (nomark _)) (pe_one (pe_cmpR (op_eqK K hr.units rfl) (pe_ix (ix_anyK K hu1 rfl) (pv 1) pe_int (fun _ _ => rfl)) (pv 0) (nomark _)))))) pss_nil)
      (pss_cons (ps_setLc (i := 3) (own := [("_law_row", 4)]) (g := (gName 4)) rfl sc_law_goes_up.nd rfl rfl (sw_true rfl rfl rfl (by decide +kernel)) (pi_listK K rfl (pv 2)) (blkOk_by (N := N_law_goes_up) (sc := defScope st_law_goes_up) (by decide +kernel)) (fun _ _ _ _ _ => (pg_name (i := 4) sc_law_goes_up.nd rfl (by first | exact Or.inl rfl | exact Or.inr rfl))) (fun _ _ _ _ _ => (pts_one (PW.pt (pw_and (pt_cmpR (op_eqK K hr.units rfl) (pe_ix (ix_anyK K hu1 rfl) (pv 4) pe_int (fun _ _ => rfl)) (pe_ix (ix_anyK K hu1 rfl) (pv 1) pe_int (fun _ _ => rfl)) (nomark _)) (pw_and1 (pt_cmpR (op_eqK K hr.units rfl) (pe_op (op_addK K rfl) (pe_ix (ix_anyK K hu1 rfl) (pv 4) pe_int (fun _ _ => rfl)) pe_int) (pe_ix (ix_anyK K hu1 rfl) (pv 1) pe_int (fun _ _ => rfl)) (nomark _))))))) (fun _ _ _ _ _ => (pv 4)))
      (pss_one (ps_ret (pe_and (pe_cmpR op_gt (pe_ix (ix_anyK K hu1 rfl) (pv 1) pe_int (fun _ _ => rfl)) pe_int (nomark _)) (pe_one (pe_cmpR (op_neK K hr.units rfl) (pv 3) (pe_lst pa_nil) (nomark _))))))))), ?_⟩
  rintro cs R ⟨name, own, bs, rfl, h1, h2, hl, hR⟩
  unfold guB at hR
  refine d_seq (d_if (b := !decide (g own 0 = name) || !(bs.filter fun r => !decide (g r 1 = g own 1)).isEmpty) ((t_or (t_test (e_op (e_row 0 rfl rfl (by omega)) (e_v rfl) o_nei)) fun _ => t_test (e_op
      (EvNB.all fun B0 σ => c_lcD (xs := bs) (en := dI) (i_listD (e_v rfl) B0 σ) (by omega) (fun r => !decide (g r 1 = g own 1)) dI (fun r => [.fro (.int name), .fro (dI own), .fro (dLL bs), .any, .fro (dI r)]) (fun r _ => g_name)
        (fun r hr => t_test (e_op (e_row 1 rfl rfl (by have := h2 r hr; omega)) (e_row 1 rfl rfl (by omega)) o_nei)) fun r _ _ => e_v rfl).fz (e_lstF l_nil) (o_ne (fl_map fl_dI _) (fl_nil 0)))).to ?_) (fun hb => d_ret e_b ?_) fun hb => d_next ?_)
  · rw [eqD_lnil, len_emp]
  · rw [if_pos hb] at hR; exact hR
  rw [if_neg (by rw [hb]; exact Bool.false_ne_true)] at hR
  refine d_seq (d_if (t_test (e_op (e_row 1 rfl rfl (by omega)) (e_v rfl) o_eqi)) (fun hb => ?_) fun hb => d_next ?_)
  · rw [if_pos (of_decide_eq_true hb)] at hR
    exact d_ret (e_andV (e_op (e_row 2 rfl rfl (by omega)) e_i o_eqi) fun _ => e_op (e_row 3 rfl rfl (by omega)) (e_v rfl) o_eqi) hR
  · rw [if_neg (of_decide_eq_false hb)] at hR
    refine d_seq (d_set (EvN.to (e := dLL (bs.filter fun r => decide (g r 0 = g own 3) && decide (g r 2 + 1 = g own 2))) (EvNB.all fun B0 σ => c_lcD (xs := bs) (en := dI) (i_listD (e_v rfl) B0 σ) (by omega) (fun r => decide (g r 0 = g own 3) && decide (g r 2 + 1 = g own 2)) dI (fun r => [.fro (.int name), .fro (dI own), .fro (dLL bs), .any, .fro (dI r)]) (fun r _ => g_name)
        (fun r hr => t_and (t_test (e_op (e_row 0 rfl rfl (by have := h2 r hr; omega)) (e_row 3 rfl rfl (by omega)) o_eqi)) fun _ => t_test (e_op (e_op (e_row 2 rfl rfl (by have := h2 r hr; omega)) e_i o_add) (e_row 2 rfl rfl (by omega)) o_eqi)) fun r _ _ => e_v rfl) (by rintro _ rfl; rfl)) ?_)
    refine d_ret (e_andV (e_op (e_row 2 rfl rfl (by omega)) e_i o_gt) fun _ => e_op (e_v rfl) (e_lstF l_nil) (o_ne (fl_dLL _) (fl_nil 0))) ?_
    rw [eqD_lnil, len_emp]
    have e : (fun r : Row => decide (g r 0 = g own 3) && decide (g r 2 + 1 = g own 2)) = fun r => decide (g r 0 = g own 3) && decide (g r 2 = g own 2 - 1) := by
      funext r
      congr 1
      rw [Bool.eq_iff_iff]
      simp only [decide_eq_true_eq]
      omega
    rw [e]
    exact hR
def ctFollow : Ctr := fun cs R => ∃ (name : Int) (ts es : List Row), cs = [.fro (.int name), .fro (dLL ts), .fro (dLL es)] ∧ (∀ t ∈ ts, t.length = 3) ∧ (∀ e ∈ es, ∃ m, e.length = 7 + 3 * m ∧ m ≤ 200) ∧ ts.length ≤ 200 ∧ es.length ≤ 200 ∧ R (.fro (.bl (trB name ts es)))
theorem ok_law_follow (Z : Blt mg) (T : Def K mg "_law_follow" st_law_follow ["_law_name", "_law_threes_here", "_law_beside"]) (D_law_threes : OkDef P w K mg base 1 "_law_threes" ["_law_fields"] ctLThrees) :
    OkDef P w K mg base 2 "_law_follow" ["_law_name", "_law_threes_here", "_law_beside"] ctFollow := by
  refine ok_def (k := 1) (n := 5) T sc_law_follow rfl (by rintro cs P ⟨_, _, _, rfl, _⟩; rfl) fun f cdv A outer s H E hr hu1 hu => ?_
  refine ⟨_, (pss_cons (ps_setLc (i := 3) (own := [("_law_row", 6)]) (g := (gName 6)) (tt := tYes) rfl sc_law_follow.nd rfl rfl (sw_true rfl rfl rfl (by decide +kernel)) (pi_listK K rfl (pv 2)) (blkOk_by (N := N_law_follow) (sc := defScope st_law_follow) (by decide +kernel)) (fun _ _ _ _ _ => (pg_name (i := 6) sc_law_follow.nd rfl (by first | exact Or.inl rfl | exact Or.inr rfl))) (fun _ _ _ _ _ => pts_nil) (fun _ _ _ _ _ => (pe_ix (ix_anyK K hu1 rfl) (pv 6) pe_int (fun _ _ => rfl))))
      (pss_cons (ps_if (PW.pt (pw_or (pt_cmpR (op_neK K hr.units rfl) (pe_lc (own := [("_law_three", 7)]) (g := (gName 7)) (tt := tYes) rfl sc_law_follow.nd (pi_listK K rfl (pv 1)) (blkOk_by (N := N_law_follow) (sc := defScope st_law_follow) (by decide +kernel)) (fun _ _ _ _ _ => (pg_name (i := 7) sc_law_follow.nd rfl (by first | exact Or.inl rfl | exact Or.inr rfl))) (fun _ _ _ _ _ => pts_nil) (fun _ _ _ _ _ => (pe_ix (ix_anyK K hu1 rfl) (pv 7) pe_int (fun _ _ => rfl)))) (pv 3) (nomark _)) (pw_or1 (pt_cmpR op_lt (pe_lenSetK K rfl (by rfl) Z.len (by rfl) Z.set (pv 3)) (pe_callB (call_lenAK K rfl) (by rfl) Z.len (by decide +kernel) (pa_cons (pv 3) pa_nil)) (nomark _))))) (pss_one (ps_ret pe_bl)) pss_nil)
      (pss_cons (ps_for PassesOwn.never rfl (pi_range1 (by rfl) Z.range (pa_cons (pe_callB (call_lenAK K rfl) (by rfl) Z.len (by decide +kernel) (pa_cons (pv 2) pa_nil)) pa_nil)) (pg_name (i := 4) sc_law_follow.nd rfl (by first | exact Or.inl rfl | exact Or.inr rfl)) (pss_cons (ps_setLc (i := 5) (own := [("_law_three", 7)]) (g := (gName 7)) rfl sc_law_follow.nd rfl rfl (sw_true rfl rfl rfl (by decide +kernel)) (pi_listK K rfl (pe_fnK K D_law_threes rfl rfl rfl rfl rfl hr (by rfl) (pa_cons (pe_ix (ix_anyK K hu1 rfl) (pv 2) (pv 4) (fun _ _ => rfl)) pa_nil))) (blkOk_by (N := N_law_follow) (sc := defScope st_law_follow) (by decide +kernel)) (fun _ _ _ _ _ => (pg_name (i := 7) sc_law_follow.nd rfl (by first | exact Or.inl rfl | exact Or.inr rfl))) (fun _ _ _ _ _ => (pts_one (pt_cmpR (op_eqK K hr.units rfl) (pe_ix (ix_anyK K hu1 rfl) (pv 7) pe_int (fun _ _ => rfl)) (pv 0) (nomark _)))) (fun _ _ _ _ _ => (pe_slice (sl_anyK K rfl) (pv 7) (po_some pe_int) po_none)))
      (pss_one (ps_if (pt_cmpR (op_neK K hr.units rfl) (pv 5) (pe_lst (pa_cons (pe_slice (sl_anyK K rfl) (pe_ix (ix_anyK K hu1 rfl) (pe_op (op_addK K rfl) (pv 1) (pv 1)) (pe_op (op_addK K rfl) (pv 4) pe_int) (fun _ _ => rfl)) (po_some pe_int) po_none) pa_nil)) (nomark _)) (pss_one (ps_ret pe_bl)) pss_nil))))
      (pss_one (ps_ret pe_bl))))), ?_⟩
  rintro cs R ⟨name, ts, es, rfl, h3, hm, hl1, hl2, hR⟩
  refine d_seq (d_set (EvN.to (e := dI (es.map (g · 0))) (EvNB.all fun B0 σ => c_lcM (xs := es) (en := dI) (i_listD (e_v rfl) B0 σ) (by omega) (fun t => .int (g t 0)) (fun t => [.fro (.int name), .fro (dLL ts), .fro (dLL es), .any, .any, .any, .fro (dI t), .any]) (fun r _ => g_name) fun t ht => e_row 0 rfl rfl (by obtain ⟨m, e, _⟩ := hm t ht; omega)) (by rintro _ rfl; exact dI_map _ _)) ?_)
  refine d_seq (d_if (b := !(decide (ts.map (g · 0) = es.map (g · 0)) && decide ((es.map (g · 0)).Nodup))) ((t_or (t_test (e_op
      (EvN.to (e := dI (ts.map (g · 0))) (EvNB.all fun B0 σ => c_lcM (xs := ts) (en := dI) (i_listD (e_v rfl) B0 σ) (by omega) (fun t => .int (g t 0)) (fun t => [.fro (.int name), .fro (dLL ts), .fro (dLL es), .fro (dI (es.map (g · 0))), .any, .any, .any, .fro (dI t)]) (fun r _ => g_name) fun t ht => e_row 0 rfl rfl (by rw [h3 t ht]; decide)) (by rintro _ rfl; exact dI_map _ _))
      (e_v rfl) (o_ne (fl_dI _) (fl_dI _)))) fun _ => t_test (e_op (e_lenSet (ns := es.map (g · 0)) (e_v rfl) (by rw [List.length_map]; omega)) (e_cb (l_cons (e_v rfl) l_nil) c_lenL) o_lt)).to ?_) (fun hb => d_ret e_b ?_) fun hb => d_next ?_)
  · have e2 := dd_lt (ns := es.map (g · 0))
    rw [eqD_ints, List.length_map, e2, Bool.not_and]
  · have : trB name ts es = false := by
      unfold trB
      rw [nt_t hb]
      rfl
    rw [this] at hR; exact hR
  have hA : (decide (ts.map (g · 0) = es.map (g · 0)) && decide ((es.map (g · 0)).Nodup)) = true := nt_f hb
  have hle : ts.length = es.length := by
    rw [Bool.and_eq_true, decide_eq_true_eq] at hA
    have := congrArg List.length hA.1
    rw [List.length_map, List.length_map] at this
    exact this
  have hT : trB name ts es = (List.range es.length).all fun k => decide (backs name (es.getD k []) = [(ts.getD ((k + 1) % ts.length) []).drop 1]) := by
    unfold trB; rw [hA]; rfl
  rw [hT] at hR
  refine d_seq (d_for (i_rng1 (n := es.length) (l_cons ((e_cb (l_cons (e_v rfl) l_nil) c_lenL).to (by rw [List.length_map])) l_nil) (by omega)) (fun i ρ => (∀ k, k < i → backs name (es.getD k []) = [(ts.getD ((k + 1) % ts.length) []).drop 1]) ∧ ∃ x4 x5, ρ = [.fro (.int name), .fro (dLL ts), .fro (dLL es), .fro (dI (es.map (g · 0))), x4, x5, .any, .any]) ⟨⟨fun k hk => absurd hk (Nat.not_lt_zero k), _, _, rfl⟩, ?_, ?_⟩)
  · rintro i d ρ hd ⟨hall, x4, x5, rfl⟩
    obtain ⟨hi, rfl⟩ := rng_get hd
    have hr0 : es[i]? = some (es.getD i []) := by rw [List.getD_eq_getElem?_getD, List.getElem?_eq_getElem hi]; rfl
    generalize hg : es.getD i [] = r at hr0
    have hmem := List.mem_of_getElem? hr0
    obtain ⟨m, hlen, hm2⟩ := hm r hmem
    have hpos : 0 < ts.length := by omega
    have hj : (i + 1) % ts.length < ts.length := Nat.mod_lt _ hpos
    refine ⟨_, _, g_name, ?_⟩
    refine d_seq (d_set (EvN.to (e := dLL (backs name r)) (EvNB.all fun B0 σ => c_lcD (xs := thr r) (en := dI) (i_listD (e_callO (a_cons (e_op (e_v rfl) (e_v rfl) (o_ixL (atD (j := i) (by omega) (by rw [List.getElem?_map, hr0]; rfl)))) a_nil) fun P h => ⟨r, rfl, by omega, h⟩) B0 σ) (by rw [thr_len hlen]; omega) (fun t => decide (g t 0 = name)) (fun t => dI (t.drop 1)) (fun t => [.fro (.int name), .fro (dLL ts), .fro (dLL es), .fro (dI (es.map (g · 0))), .fro (.int (0 + (i : Nat))), x5, .any, .fro (dI t)]) (fun r _ => g_name)
        (fun t ht => t_test (e_op (e_row 0 rfl rfl (by rw [thr_3 hlen ht]; decide)) (e_v rfl) o_eqi)) fun t ht _ => EvD.to (e_slL (e_v rfl) (s_some e_i) s_none).fz ?_) (by rintro _ rfl; unfold backs dLL; rw [List.map_map]; rfl)) ?_)
    · have e := cut_n t 1
      rw [cutD_map, show ((1 : Nat) : Int) = 1 from rfl] at *
      rw [e]
    have htj : (ts ++ ts)[i + 1]? = some (ts.getD ((i + 1) % ts.length) []) := by
      by_cases hc : i + 1 < ts.length
      · rw [List.getElem?_append_left hc, Nat.mod_eq_of_lt hc, List.getD_eq_getElem?_getD, List.getElem?_eq_getElem hc]; rfl
      · have e : i + 1 = ts.length := by omega
        rw [List.getElem?_append_right (by omega), e, Nat.sub_self, Nat.mod_self, List.getD_eq_getElem?_getD, List.getElem?_eq_getElem hpos]; rfl
    have ht3 := h3 (ts.getD ((i + 1) % ts.length) []) (List.mem_of_getElem? (show ts[(i + 1) % ts.length]? = some _ by rw [List.getD_eq_getElem?_getD, List.getElem?_eq_getElem hj]; rfl))
    refine d_if (b := !decide (backs name r = [(ts.getD ((i + 1) % ts.length) []).drop 1])) ((t_test (e_op (e_v rfl) (e_lstF (l_cons (e_slL (e_op (e_op (e_v rfl) (e_v rfl) (o_addL (by rw [List.length_map]; omega))) (e_op (e_v rfl) e_i o_add) (o_ixL (d := dI (ts.getD ((i + 1) % ts.length) [])) (atD (j := i + 1) (by omega) (by rw [← List.map_append, List.getElem?_map, htj]; rfl)))) (s_some e_i) s_none).fz l_nil)) (o_ne (n := 2) (m := 2) (fl_dLL _) ?_))).to ?_) (fun hb => d_ret e_b ?_) fun hb => d_next ⟨fun k hk => ?_, _, _, rfl⟩
    · rw [cutD_map]; exact fl_dLL [_]
    · rw [cutD_map]
      have e1 := cut_n (ts.getD ((i + 1) % ts.length) []) 1
      rw [show ((1 : Nat) : Int) = 1 from rfl] at e1
      rw [e1, eqD_ll]
      have := eqDs_map (f := dI) (fun a b => eqD_ints a b) (backs name r) [(ts.getD ((i + 1) % ts.length) []).drop 1]
      exact congrArg (!·) this
    · have : ((List.range es.length).all fun k => decide (backs name (es.getD k []) = [(ts.getD ((k + 1) % ts.length) []).drop 1])) = false := by
        rw [List.all_eq_false]
        exact ⟨i, List.mem_range.mpr hi, by rw [hg]; simpa using hb⟩
      rw [this] at hR; exact hR
    · rcases Nat.lt_succ_iff_lt_or_eq.mp hk with h | rfl
      · exact hall k h
      · rw [hg]; simpa using hb
  · rintro ρ ⟨hall, x4, x5, rfl⟩
    refine d_ret e_b ?_
    rw [List.length_map, List.length_range] at hall
    have : ((List.range es.length).all fun k => decide (backs name (es.getD k []) = [(ts.getD ((k + 1) % ts.length) []).drop 1])) = true := by
      rw [List.all_eq_true]
      exact fun k hk => decide_eq_true (hall k (List.mem_range.mp hk))
    rw [this] at hR; exact hR
def ctLSays : Ctr := fun cs R => ∃ (W : Web) (n : Int) (RM : RowsM), cs = [.fro (wD W), .fro (.int n), .fro (dM dI RM)] ∧ n ∈ W.map (·.1) ∧ (∀ k ∈ W.map (·.1), k ∈ RM.map (·.1)) ∧ RowsFit W (rowOf RM) ∧ R (.fro (.bl (sayN W (rowOf RM) n)))
theorem ok_law_says (Z : Blt mg) (T : Def K mg "_law_says" st_law_says ["_law_web_here", "_law_name", "_law_rows_here"]) (D_law_threes : OkDef P w K mg base 1 "_law_threes" ["_law_fields"] ctLThrees) (D_law_goes_up : OkDef P w K mg base 1 "_law_goes_up" ["_law_name", "_law_own", "_law_beside"] ctGoes)
    (D_law_follow : OkDef P w K mg base 2 "_law_follow" ["_law_name", "_law_threes_here", "_law_beside"] ctFollow) : OkDef P w K mg base 3 "_law_says" ["_law_web_here", "_law_name", "_law_rows_here"] ctLSays := by
  refine ok_def (k := 2) (n := 10) T sc_law_says rfl (by rintro cs P ⟨_, _, _, rfl, _⟩; rfl) fun f cdv A outer s H E hr hu1 hu => ?_
  refine ⟨_, (pss_cons (ps_set (i := 3) sc_law_says.nd rfl (by first | exact Or.inl rfl | exact Or.inr rfl) (pe_ix (ix_anyK K hu1 rfl) (pv 2) (pv 1) (fun _ _ => rfl)))
      (pss_cons (ps_setLc (i := 4) (own := [("_law_end", 10)]) (g := (gName 10)) (tt := tYes) rfl sc_law_says.nd rfl rfl (sw_true rfl rfl rfl (by decide +kernel)) (pi_listK K rfl (pe_ix (ix_anyK K hu1 rfl) (pe_ix (ix_anyK K hu1 rfl) (pv 0) (pv 1) (fun _ _ => rfl)) pe_int (fun _ _ => rfl))) (blkOk_by (N := N_law_says) (sc := defScope st_law_says) (by decide +kernel)) (fun _ _ _ _ _ => (pg_name (i := 10) sc_law_says.nd rfl (by first | exact Or.inl rfl | exact Or.inr rfl))) (fun _ _ _ _ _ => pts_nil) (fun _ _ _ _ _ => (pe_ix (ix_anyK K hu1 rfl) (pv 2) (pe_ix (ix_anyK K hu1 rfl) (pv 10) pe_int (fun _ _ => rfl)) (fun _ _ => rfl))))
      (pss_cons (ps_set (i := 5) sc_law_says.nd rfl (by first | exact Or.inl rfl | exact Or.inr rfl) (pe_fnK K D_law_threes rfl rfl rfl rfl rfl hr (by rfl) (pa_cons (pv 3) pa_nil)))
      (pss_cons (ps_if (PW.pt (pw_or (pt_not (pt_val (pe_fnK K D_law_goes_up rfl rfl rfl rfl rfl hr (by rfl) (pa_cons (pv 1) (pa_cons (pv 3) (pa_cons (pv 4) pa_nil)))))) (pw_or1 (pt_not (pt_val (pe_fnK K D_law_follow rfl rfl rfl rfl rfl hr (by rfl) (pa_cons (pv 1) (pa_cons (pv 5) (pa_cons (pv 4) pa_nil))))))))) (pss_one (ps_ret pe_bl)) pss_nil)
      (pss_cons (ps_setLc (i := 6) (own := [("_law_row", 11)]) (g := (gName 11)) rfl sc_law_says.nd rfl rfl (sw_true rfl rfl rfl (by decide +kernel)) (pi_listK K rfl (pv 4)) (blkOk_by (N := N_law_says) (sc := defScope st_law_says) (by decide +kernel)) (fun _ _ _ _ _ => (pg_name (i := 11) sc_law_says.nd rfl (by first | exact Or.inl rfl | exact Or.inr rfl))) (fun _ _ _ _ _ => (pts_one (PW.pt (pw_and (pt_cmpR (op_eqK K hr.units rfl) (pe_ix (ix_anyK K hu1 rfl) (pv 11) pe_int (fun _ _ => rfl)) (pv 1) (nomark _)) (pw_and1 (pt_cmpR (op_eqK K hr.units rfl) (pe_ix (ix_anyK K hu1 rfl) (pv 11) pe_int (fun _ _ => rfl)) (pe_op (op_addK K rfl) (pe_ix (ix_anyK K hu1 rfl) (pv 3) pe_int (fun _ _ => rfl)) pe_int) (nomark _))))))) (fun _ _ _ _ _ => (pv 11)))
      (pss_cons (ps_set (i := 7) sc_law_says.nd rfl (by first | exact Or.inl rfl | exact Or.inr rfl) (pe_op (op_addK K rfl) (pe_callB (call_lenAK K rfl) (by rfl) Z.len (by decide +kernel) (pa_cons (pe_lc (own := [("_law_three", 12)]) (g := (gName 12)) rfl sc_law_says.nd (pi_listK K rfl (pv 5)) (blkOk_by (N := N_law_says) (sc := defScope st_law_says) (by decide +kernel)) (fun _ _ _ _ _ => (pg_name (i := 12) sc_law_says.nd rfl (by first | exact Or.inl rfl | exact Or.inr rfl))) (fun _ _ _ _ _ => (pts_one (pt_cmpR (op_eqK K hr.units rfl) (pe_slice (sl_anyK K rfl) (pv 12) (po_some pe_int) po_none) (pe_lst (pa_cons (pv 1) (pa_cons (pe_ix (ix_anyK K hu1 rfl) (pv 12) pe_int (fun _ _ => rfl)) pa_nil))) (nomark _)))) (fun _ _ _ _ _ => (pv 12))) pa_nil)) (pe_callTy call_int (by rfl) Z.int (by decide +kernel) (pa_cons (pe_cmpR (op_eqK K hr.units rfl) (pv 5) (pe_lst pa_nil) (nomark _)) pa_nil))))
      (pss_cons (ps_set (i := 8) sc_law_says.nd rfl (by first | exact Or.inl rfl | exact Or.inr rfl) (pe_lst (pa_cons pe_int (pa_cons (pe_callB (call_lenAK K rfl) (by rfl) Z.len (by decide +kernel) (pa_cons (pv 5) pa_nil)) (pa_cons (pv 7) pa_nil)))))
      (pss_cons (ps_for PassesOwn.never rfl (pi_range1 (by rfl) Z.range (pa_cons pe_int pa_nil)) (pg_name (i := 9) sc_law_says.nd rfl (by first | exact Or.inl rfl | exact Or.inr rfl)) (pss_one (ps_if (pt_cmpR (op_neK K hr.units rfl) (pe_ix (ix_anyK K hu1 rfl) (pv 3) (pe_op (op_addK K rfl) pe_int (pv 9)) (fun _ _ => rfl)) (pe_op (op_addK K rfl) (pe_ix (ix_anyK K hu1 rfl) (pv 8) (pv 9) (fun _ _ => rfl)) (pe_callB (cr_sumK K rfl rfl) (by rfl) Z.sum (by decide +kernel) (pa_cons (pe_lc (own := [("_law_row", 11)]) (g := (gName 11)) (tt := tYes) rfl sc_law_says.nd (pi_listK K rfl (pv 6)) (blkOk_by (N := N_law_says) (sc := defScope st_law_says) (by decide +kernel)) (fun _ _ _ _ _ => (pg_name (i := 11) sc_law_says.nd rfl (by first | exact Or.inl rfl | exact Or.inr rfl))) (fun _ _ _ _ _ => pts_nil) (fun _ _ _ _ _ => (pe_ix (ix_anyK K hu1 rfl) (pv 11) (pe_op (op_addK K rfl) pe_int (pv 9)) (fun _ _ => rfl)))) pa_nil))) (nomark _)) (pss_one (ps_ret pe_bl)) pss_nil)))
      (pss_one (ps_ret (pe_or (pe_cmpR (op_neK K hr.units rfl) (pe_ix (ix_anyK K hu1 rfl) (pv 3) pe_int (fun _ _ => rfl)) (pv 1) (nomark _)) (pe_one (pe_cmpR (op_eqK K hr.units rfl) (pe_op (op_addK K rfl) (pe_op op_mul pe_int (pe_ix (ix_anyK K hu1 rfl) (pv 3) pe_int (fun _ _ => rfl))) (pe_op op_mul pe_int (pe_ix (ix_anyK K hu1 rfl) (pv 3) pe_int (fun _ _ => rfl)))) (pe_op (op_addK K rfl) (pe_ix (ix_anyK K hu1 rfl) (pv 3) pe_int (fun _ _ => rfl)) pe_int) (nomark _)))))))))))))), ?_⟩
  rintro cs R ⟨W, name, RM, rfl, hn, hk, hfit, hR⟩
  obtain ⟨p, hp⟩ := lk_keys hn
  have hrow : ∀ k ∈ W.map (·.1), lk RM k = some (rowOf RM k) := fun k h => lk_at (hk k h) []
  obtain ⟨ho, hlr, hm⟩ := hfit.fit name p hp
  have hends := hfit.ends name p hp
  have hee : endsAt W name = p.2 := endsAt_lk hp
  have he' : ∀ e ∈ p.2, ∃ m, (rowOf RM e.1).length = 7 + 3 * m ∧ m ≤ 200 := fun e h => by
    obtain ⟨q, hq⟩ := lk_keys (hends e h)
    obtain ⟨_, h2, h3⟩ := hfit.fit e.1 q hq
    exact ⟨_, h2, h3⟩
  unfold sayN at hR
  rw [hee] at hR
  refine d_seq (d_set (e_op (e_v rfl) (e_v rfl) (o_ixM (hrow name hn))) ?_)
  refine d_seq (d_set (EvN.to (e := dLL (p.2.map fun e => rowOf RM e.1)) (EvNB.all fun B0 σ => c_lcM (xs := p.2) (en := eD) (i_listD (e_op (e_op (e_v rfl) (e_v rfl) (o_ixM hp)) e_i (o_ixT (atD (j := 1) rfl rfl))) B0 σ) (by omega) (fun e => dI (rowOf RM e.1)) (fun e => [.fro (wD W), .fro (.int name), .fro (dM dI RM), .fro (dI (rowOf RM name)), .any, .any, .any, .any, .any, .any, .fro (eD e), .any, .any]) (fun e _ => g_name) fun e h => e_op (e_v rfl) (e_tat 0 rfl rfl rfl) (o_ixM (hrow _ (hends e h)))) (by rintro _ rfl; unfold dLL; rw [List.map_map]; rfl)) ?_)
  generalize hrE : rowOf RM name = row at *
  generalize hesE : p.2.map (fun e => rowOf RM e.1) = es at *
  have hesl : es.length = p.2.length := by rw [← hesE, List.length_map]
  have he : ∀ r ∈ es, ∃ m, r.length = 7 + 3 * m ∧ m ≤ 200 := fun r hr => by
    rw [← hesE] at hr
    obtain ⟨e, he1, rfl⟩ := List.mem_map.mp hr
    exact he' e he1
  refine d_seq (d_set (e_callO (a_cons (e_v rfl) a_nil) fun P h => ⟨row, rfl, by omega, h⟩) ?_)
  have htl := thr_len hlr
  refine d_seq (d_if (b := !(guB name row es && trB name (thr row) es)) ((t_or (t_not (t_B (e_callF (a_cons (e_v rfl) (a_cons (e_v rfl) (a_cons (e_v rfl) a_nil))) fun P h => ⟨name, row, es, rfl, by omega, fun b hb => by obtain ⟨m, h, _⟩ := he b hb; omega, by omega, h⟩))) fun _ =>
      t_not (t_B (e_callF (a_cons (e_v rfl) (a_cons (e_v rfl) (a_cons (e_v rfl) a_nil))) fun P h => ⟨name, thr row, es, rfl, fun t ht => thr_3 hlr ht, he, by omega, by omega, h⟩))).to ?_) (fun hb => d_ret e_b ?_) fun hb => d_next ?_)
  · rw [Bool.not_and]
  · have : sayB name row es = false := by unfold sayB; rw [← Bool.and_assoc, nt_t hb]; rfl
    rw [this] at hR; exact hR
  have hAB := nt_f hb
  refine d_seq (d_set (EvN.to (e := dLL (belowL name row es)) (EvNB.all fun B0 σ => c_lcD (xs := es) (en := dI) (i_listD (e_v rfl) B0 σ) (by omega) (fun r => decide (g r 3 = name) && decide (g r 2 = g row 2 + 1)) dI (fun r => [.fro (wD W), .fro (.int name), .fro (dM dI RM), .fro (dI row), .fro (dLL es), .fro (dLL (thr row)), .any, .any, .any, .any, .any, .fro (dI r), .any]) (fun r _ => g_name)
        (fun r hr => t_and (t_test (e_op (e_row 3 rfl rfl (by obtain ⟨m, h, _⟩ := he r hr; omega)) (e_v rfl) o_eqi)) fun _ => t_test (e_op (e_row 2 rfl rfl (by obtain ⟨m, h, _⟩ := he r hr; omega)) (e_op (e_row 2 rfl rfl (by omega)) e_i o_add) o_eqi)) fun r _ _ => e_v rfl) (by rintro _ rfl; rfl)) ?_)
  refine d_seq (d_set (d := .int (leadL name (thr row))) (EvD.to (e_op (e_cb (l_cons (EvNB.all fun B0 σ => c_lcD (xs := thr row) (en := dI) (i_listD (e_v rfl) B0 σ) (by omega) (fun t => decide (t.drop 1 = [name, g t 0])) dI (fun t => [.fro (wD W), .fro (.int name), .fro (dM dI RM), .fro (dI row), .fro (dLL es), .fro (dLL (thr row)), .fro (dLL (belowL name row es)), .any, .any, .any, .any, .any, .fro (dI t)]) (fun r _ => g_name)
        (fun t ht => (t_test (e_op ((e_slL (e_v rfl) (s_some e_i) s_none).fz) (e_lstF (l_cons (e_v rfl) (l_cons (e_row 0 rfl rfl (by rw [thr_3 hlr ht]; decide)) l_nil))) (o_eq (n := 1) (m := 1) (by rw [cutD_map]; exact fl_dI _) (fl_ints [name, g t 0])))).to ?_) fun r _ _ => e_v rfl).fz l_nil) c_lenL) (e_cb (l_cons (e_op (e_v rfl) (e_lstF l_nil) (o_eq (fl_dLL _) (fl_nil 0))) l_nil) c_intB) o_add) ?_) ?_)
  · have e := cut_n t 1
    rw [cutD_map, show ((1 : Nat) : Int) = 1 from rfl] at *
    rw [e]
    exact eqD_ints (t.drop 1) [name, g t 0]
  · rw [eqD_lnil, len_emp, List.length_map]
    unfold leadL
    cases hq : (thr row).isEmpty with
    | true =>
      have : thr row = [] := List.isEmpty_iff.mp hq
      rw [this]; rfl
    | false => rw [if_neg Bool.false_ne_true, if_neg Bool.false_ne_true, Int.add_zero]
  refine d_seq (d_set (d := dI (headsL name row es)) (EvD.to (e_lstF (l_cons e_i (l_cons (e_cb (l_cons (e_v rfl) l_nil) c_lenL) (l_cons (e_v rfl) l_nil)))) (by rw [List.length_map, htl, ← hesl]; rfl)) ?_)
  have hbl2 := belowL_len name row es
  have h2 : sayB name row es = (sumsB name row es && (!decide (g row 1 = name) || decide (2 * g row 4 + 2 * g row 6 = g row 5 + 4))) := by
    unfold sayB; rw [← Bool.and_assoc, hAB, Bool.true_and]
  rw [h2] at hR
  refine d_seq (d_for (i_rng1 (n := 3) (l_cons e_i l_nil) (by decide)) (fun i ρ => (∀ p, p < i → g row (4 + p) = g (headsL name row es) p + sumOf p (belowL name row es)) ∧ ∃ x9, ρ = [.fro (wD W), .fro (.int name), .fro (dM dI RM), .fro (dI row), .fro (dLL es), .fro (dLL (thr row)), .fro (dLL (belowL name row es)), .fro (.int (leadL name (thr row))), .fro (dI (headsL name row es)), x9, .any, .any, .any]) ⟨⟨fun p hp => absurd hp (Nat.not_lt_zero p), _, rfl⟩, ?_, ?_⟩)
  · rintro i d ρ hd ⟨hall, x9, rfl⟩
    obtain ⟨hi, rfl⟩ := rng_get hd
    refine ⟨_, _, g_name, d_if (b := !decide (g row (4 + i) = g (headsL name row es) i + sumOf i (belowL name row es))) (t_test (e_op (e_op (e_v rfl) (e_op e_i (e_v rfl) o_add) (o_ixL (at_row (j := 4 + i) (by omega) (by omega)))) (e_op (e_op (e_v rfl) (e_v rfl) (o_ixL (at_row (j := i) (by omega) (by show i < 3; omega))))
        (e_cb (l_cons (EvN.to (e := dI ((belowL name row es).map (g · (4 + i)))) (EvNB.all fun B0 σ => c_lcM (xs := belowL name row es) (en := dI) (i_listD (e_v rfl) B0 σ) (by omega) (fun r => .int (g r (4 + i))) (fun r => [.fro (wD W), .fro (.int name), .fro (dM dI RM), .fro (dI row), .fro (dLL es), .fro (dLL (thr row)), .fro (dLL (belowL name row es)), .fro (.int (leadL name (thr row))), .fro (dI (headsL name row es)), .fro (.int (0 + (i : Nat))), .any, .fro (dI r), .any]) (fun r _ => g_name)
          fun r hr => e_op (e_v rfl) (e_op e_i (e_v rfl) o_add) (o_ixL (at_row (j := 4 + i) (by omega) (by obtain ⟨m, h, _⟩ := he r (belowL_mem hr); omega)))) (by rintro _ rfl; exact dI_map _ _)) l_nil) c_sum) o_add) o_nei)) (fun hb => d_ret e_b ?_) fun hb => d_next ⟨fun p hp => ?_, _, rfl⟩⟩
    · have : sumsB name row es = false := by
        unfold sumsB
        rw [List.all_eq_false]
        exact ⟨i, List.mem_range.mpr hi, by rw [nt_t hb]; simp⟩
      rw [this] at hR; exact hR
    · rcases Nat.lt_succ_iff_lt_or_eq.mp hp with h | rfl
      · exact hall p h
      · exact of_decide_eq_true (nt_f hb)
  · rintro ρ ⟨hall, x9, rfl⟩
    have : sumsB name row es = true := by
      unfold sumsB
      rw [List.all_eq_true]
      exact fun p hp => decide_eq_true (hall p (by rw [List.length_map, List.length_range]; exact List.mem_range.mp hp))
    rw [this, Bool.true_and] at hR
    exact d_ret (e_orV (e_op (e_row 1 rfl rfl (by omega)) (e_v rfl) o_nei) fun _ => e_op (e_op (e_op e_i (e_row 4 rfl rfl (by omega)) (o_mul (.inl (by decide)))) (e_op e_i (e_row 6 rfl rfl (by omega)) (o_mul (.inl (by decide)))) o_add) (e_op (e_row 5 rfl rfl (by omega)) e_i o_add) o_eqi) hR
end
end Bs
namespace Bs
open PySem L2
section
variable {K : PySem.W.Frag} {B : Hp} {pp : Option Addr} {F F' H H' : Hp} {σ : L2.St} {ρ ρ' : List Cell} {p : Addr} {o : HO} {d e : D} {E : EndsD} {DD : Ends} {ts tu : TS} {te ta tb : TE} {i j : Nat}
/-- one argument, of which only so much is known -/
theorem gl_one {P : D → Prop} (h : Ev K te ρ P) : EvL K (tCons te tNil) ρ (fun ds => ∃ d, ds = [d] ∧ P d) := fun B pp F H σ ok Q q =>
  h B pp F H σ ok _ fun v d F1 H1 ok1 l1 pd rd => q [v] [d] F1 H1 ok1 l1 ⟨d, rfl, pd⟩ (RdL.cons rd RdL.nil)
/-- a call that is handed what the def owns, and gives back what it owns -/
theorem d_callOwn {C : Ctr} {Q : D → Prop} (hi : ρ[i]? = some (.own d)) (hj : ρ[j]? = some .pool) (hC : C [.own d, .pool] (fun c => ∃ d', c = .own d' ∧ Q d')) (k : ∀ d', Q d' → E.nx (ρ.set i (.own d'))) :
    Dos K (tAsg (tCall (spC K C) [] E0 (tCons (tVar i) (tCons (tVar j) tNil))) (gName i)) ρ E := fun B pp F H σ DD ok x => by
  obtain ⟨Bp, lb, ok1⟩ := ok.ex
  obtain ⟨y, e, p, o, rfl, hF, hB, m⟩ := ok1.cell i _ hi
  obtain ⟨y2, e2, q, rfl, hq⟩ := ok1.cell j _ hj
  have hBp := ok.free i d p hi e
  have hil := (List.getElem?_eq_some_iff.mp hi).1
  refine ⟨.ref p, e, .ref q, e2, ?_⟩
  refine ⟨fun b => if b = p then none else Bp b, Bp, pp, F, [.own d, .pool], _, hC, fun a v h => ?_, ⟨ok1.bse, fun n c hc => ?_, fun n n' r d1 d2 h1 h2 _ _ => ?_⟩, rfl, fun n d1 r h1 h2 => ?_, fun v c F' H' b g rv pr => ?_⟩
  · have h : (if a = p then none else Bp a) = some v := h
    split at h
    · cases h
    · exact h
  · match n, hc with
    | 0, hc => cases hc; exact ⟨_, rfl, p, o, rfl, hF, hB, m⟩
    | 1, hc => cases hc; exact ⟨_, rfl, q, rfl, hq⟩
    | n + 2, hc => simp at hc
  · match n, n', h1, h2 with
    | 0, 0, _, _ => rfl
    | 0, 1, _, h2 => cases h2
    | 0, n' + 2, _, h2 => simp at h2
    | 1, _, h1, _ => cases h1
    | n + 2, _, h1, _ => simp at h1
  · match n, h1, h2 with
    | 0, _, h2 => cases h2; exact if_pos rfl
    | 1, h1, _ => cases h1
    | n + 2, h1, _ => simp at h1
  · obtain ⟨d', rfl, hQ⟩ := pr
    obtain ⟨p', o', rfl, hB', hP', hF', hH', m'⟩ := rv
    have lBc : Le B (fun b => if b = p then none else Bp b) := fun a v h => by
      have n : a ≠ p := by rintro rfl; rw [hBp] at h; cases h
      exact (if_neg n).trans (lb a v h)
    have okA : OkE K (fun b => if b = p then none else Bp b) pp F' H' σ (ρ.set i .any) := by
      have hs : ∀ (n : Nat) (c : Cell), i ≠ n → (ρ.set i .any)[n]? = some c → ρ[n]? = some c := fun n c z h => by rw [List.getElem?_set_ne z] at h; exact h
      refine ⟨b, fun n c hc => ?_, fun n n' r d1 d2 h1 h2 h3 h4 => ?_⟩
      · by_cases z : i = n
        · subst z
          rw [List.getElem?_set_self hil] at hc
          cases hc
          exact ⟨_, e, trivial⟩
        · have hc' := hs n c z hc
          obtain ⟨y, e1, y1⟩ := ok1.cell n c hc'
          refine ⟨y, e1, ?_⟩
          cases c with
          | any => trivial
          | fro d2 => obtain ⟨v, e3, r⟩ := y1; exact ⟨v, e3, Rdd.mono g.le _ _ r⟩
          | own d2 =>
            obtain ⟨r, ob, e3, f3, b3, m3⟩ := y1
            have n' : r ≠ p := by rintro rfl; subst e3; exact z (ok1.sep i n _ _ _ hi hc' e e1)
            have hb : (if r = p then none else Bp r) = some ob := (if_neg n').trans b3
            exact ⟨r, ob, e3, g.nf r (by rw [show (if r = p then none else Bp r) = some ob from hb]; exact Option.some_ne_none _) f3, hb, m3.mono g.le⟩
          | pool => exact y1
      · have z1 : i ≠ n := by rintro rfl; rw [List.getElem?_set_self hil] at h1; cases h1
        have z2 : i ≠ n' := by rintro rfl; rw [List.getElem?_set_self hil] at h2; cases h2
        exact ok1.sep n n' r d1 d2 (hs n _ z1 h1) (hs n' _ z2 h2) h3 h4
    have okB := okA.setO i hB' hP' hF' hH' m'
    rw [List.set_set] at okB
    refine x.nx F' H' _ _ ⟨⟨_, lBc.trans (Le.new hB'), okB⟩, free_set ok.free (fun d2 r _ z => ?_) ok1.len⟩ (Gro.base lBc g) (k d' hQ)
    cases z
    exact lBc.none hB'
def unpool : Cell → Cell | .pool => .any | c => c
theorem unpool_own {ρ : List Cell} {n : Nat} {d : D} (h : (ρ.map unpool)[n]? = some (.own d)) : ρ[n]? = some (.own d) := by
  rw [List.getElem?_map] at h
  obtain ⟨c, hc, e⟩ := Option.map_eq_some_iff.mp h
  cases c <;> first | (cases e; exact hc) | cases e
/-- what the def owns is the pool from here on -/
theorem d_withPool {a s : Int} (hi : ρ[i]? = some (.own (.lst [.int a, .int s]))) (h0 : 0 ≤ s) (h1 : s < 2147483647) (hn : ∀ n : Nat, ρ[n]? ≠ some .pool)
    (k : Dos K ts (ρ.set i .pool) ⟨fun r => E.nx (r.map unpool), E.rt, fun r => E.bk (r.map unpool), fun r => E.ct (r.map unpool)⟩) : Dos K ts ρ E := fun B pp F H σ DD ok x => by
  obtain ⟨Bp, lb, ok1⟩ := ok.ex
  obtain ⟨y, e, p, o, rfl, hF, hB, vs, rfl, m⟩ := ok1.cell i _ hi
  have hvs : vs = [.int a, .int s] := RdL.ints_inv (ns := [a, s]) m
  subst hvs
  have hBp := ok.free i _ p hi e
  have hil := (List.getElem?_eq_some_iff.mp hi).1
  have hq0 : ∀ q, pp = some q → Bp q = none ∧ F q = none ∧ ∃ o, H q = some o ∧ PoolO o := ok1.bse.pool
  have hpq : pp ≠ some p := fun z => by have := (hq0 p z).1; rw [hB] at this; cases this
  have hs : ∀ (n : Nat) (c : Cell), i ≠ n → (ρ.set i .pool)[n]? = some c → ρ[n]? = some c := fun n c z h => by rw [List.getElem?_set_ne z] at h; exact h
  have lx : Le B (fun b => if pp = some b then H b else B b) := fun b v h => by
    have n : pp ≠ some b := fun z => by have := lb.none (hq0 b z).1; rw [this] at h; cases h
    exact (if_neg n).trans h
  refine k (fun b => if pp = some b then H b else B b) (some p) F H σ DD ⟨⟨fun b => if b = p then none else if pp = some b then H b else Bp b, fun b v h => ?_, ⟨ok1.bse.ext, fun b v h => ?_, fun q z => ?_⟩, fun n c hc => ?_, fun n n' r d1 d2 h1 h2 h3 h4 => ?_⟩, fun n d1 r h1 h2 => ?_⟩ ?_
  · have h : (if pp = some b then H b else B b) = some v := h
    have n : b ≠ p := by rintro rfl; rw [if_neg hpq, hBp] at h; cases h
    show (if b = p then none else if pp = some b then H b else Bp b) = some v
    rw [if_neg n]
    split at h
    · rw [if_pos ‹_›]; exact h
    · rw [if_neg ‹_›]; exact lb b v h
  · have h : (if b = p then none else if pp = some b then H b else Bp b) = some v := h
    split at h
    · cases h
    · split at h
      · exact h
      · exact ok1.bse.base b v h
  · cases z
    exact ⟨if_pos rfl, hF, _, ok1.bse.base _ _ hB, a, s, rfl, h0, h1⟩
  · by_cases z : i = n
    · subst z
      rw [List.getElem?_set_self hil] at hc
      cases hc
      exact ⟨_, e, p, rfl, rfl⟩
    · have hc' := hs n c z hc
      obtain ⟨y, e1, y1⟩ := ok1.cell n c hc'
      refine ⟨y, e1, ?_⟩
      cases c with
      | any => trivial
      | fro d2 => exact y1
      | own d2 =>
        obtain ⟨r, ob, e3, f3, b3, m3⟩ := y1
        have n1 : r ≠ p := by rintro rfl; subst e3; exact z (ok1.sep i n _ _ _ hi hc' e e1)
        have n2 : pp ≠ some r := fun z => by have := (hq0 r z).1; rw [b3] at this; cases this
        exact ⟨r, ob, e3, f3, by show (if r = p then none else if pp = some r then H r else Bp r) = some ob; rw [if_neg n1, if_neg n2]; exact b3, m3⟩
      | pool => exact absurd hc' (hn n)
  · have z1 : i ≠ n := by rintro rfl; rw [List.getElem?_set_self hil] at h1; cases h1
    have z2 : i ≠ n' := by rintro rfl; rw [List.getElem?_set_self hil] at h2; cases h2
    exact ok1.sep n n' r d1 d2 (hs n _ z1 h1) (hs n' _ z2 h2) h3 h4
  · have z1 : i ≠ n := by rintro rfl; rw [List.getElem?_set_self hil] at h1; cases h1
    have h1' := hs n _ z1 h1
    obtain ⟨y, e1, r', ob, e3, f3, b3, m3⟩ := ok1.cell n _ h1'
    rw [h2] at e1; cases e1; cases e3
    have n2 : pp ≠ some r := fun z => by have := (hq0 r z).1; rw [b3] at this; cases this
    show (if pp = some r then H r else B r) = none
    rw [if_neg n2]
    exact ok.free n d1 r h1' h2
  · have poolBack : ∀ {F' H' : Hp}, Bse (fun b => if pp = some b then H b else B b) (some p) F' H' → Gro (fun b => if pp = some b then H b else B b) F F' → ∀ q, pp = some q → F' q = none ∧ ∃ o, H' q = some o ∧ PoolO o := fun {F' H'} b g q z => by
      obtain ⟨z1, z2, o, z3, z4⟩ := hq0 q z
      have hx : (fun b => if pp = some b then H b else B b) q = some o := (if_pos z).trans z3
      exact ⟨g.nf q (fun y => Option.some_ne_none o (hx.symm.trans y)) z2, o, b.base q o hx, z4⟩
    have conv : ∀ {F' H' : Hp} {σ' : L2.St} {ρ' : List Cell}, OkS K (fun b => if pp = some b then H b else B b) (some p) F' H' σ' ρ' → Gro (fun b => if pp = some b then H b else B b) F F' → OkS K B pp F' H' σ' (ρ'.map unpool) := fun {F' H' σ' ρ'} ok' g => by
      obtain ⟨Bq, lq, ok2⟩ := ok'.ex
      have bs : Bse (fun b => if pp = some b then H b else B b) (some p) F' H' := ⟨ok2.bse.ext, lq.trans ok2.bse.base, fun q z => ⟨lq.none (ok2.bse.pool q z).1, (ok2.bse.pool q z).2⟩⟩
      have nq : ∀ (n : Nat) (d : D) (r : Addr), ρ'[n]? = some (.own d) → σ'[n]? = some (some (.ref r)) → pp ≠ some r := fun n d r h1 h2 z => by
        have h3 := ok'.free n d r h1 h2
        obtain ⟨z1, z2, o, z3, z4⟩ := hq0 r z
        have hx : (fun b => if pp = some b then H b else B b) r = some o := (if_pos z).trans z3
        exact Option.some_ne_none o (hx.symm.trans h3)
      refine ⟨⟨fun b => if pp = some b then none else Bq b, fun b v h => ?_, ⟨ok2.bse.ext, fun b v h => ?_, fun q z => ⟨if_pos z, poolBack bs g q z⟩⟩, fun n c hc => ?_, fun n n' r d1 d2 h1 h2 h3 h4 => ok2.sep n n' r d1 d2 (unpool_own h1) (unpool_own h2) h3 h4⟩, fun n d1 r h1 h2 => lx.none (ok'.free n d1 r (unpool_own h1) h2)⟩
      · have n : pp ≠ some b := fun z => by have := lb.none (hq0 b z).1; rw [this] at h; cases h
        exact (if_neg n).trans (lq b v (lx b v h))
      · have h : (if pp = some b then none else Bq b) = some v := h
        split at h
        · cases h
        · exact ok2.bse.base b v h
      · rw [List.getElem?_map] at hc
        obtain ⟨c0, hc0, rfl⟩ := Option.map_eq_some_iff.mp hc
        obtain ⟨y, e1, y1⟩ := ok2.cell n c0 hc0
        refine ⟨y, e1, ?_⟩
        cases c0 with
        | any => trivial
        | fro d2 => exact y1
        | own d2 =>
          obtain ⟨r, ob, e3, f3, b3, m3⟩ := y1
          subst e3
          exact ⟨r, ob, rfl, f3, (if_neg (nq n d2 r hc0 e1)).trans b3, m3⟩
        | pool => trivial
    refine ⟨fun F' H' σ' ρ' ok' g h => x.nx F' H' σ' _ (conv ok' g) (Gro.base lx g) h, fun F' H' v c b g rv z => x.rt F' H' v c ⟨b.ext, lx.trans b.base, fun q z => ⟨lb.none (hq0 q z).1, poolBack b g q z⟩⟩ (Gro.base lx g) ?_ z, fun F' H' σ' ρ' ok' g h => x.bk F' H' σ' _ (conv ok' g) (Gro.base lx g) h, fun F' H' σ' ρ' ok' g h => x.ct F' H' σ' _ (conv ok' g) (Gro.base lx g) h⟩
    cases c with
    | fro d => exact rv
    | own d =>
      obtain ⟨r, ob, rfl, hB2, hP2, h⟩ := rv
      refine ⟨r, ob, rfl, lx.none hB2, fun z => ?_, h⟩
      obtain ⟨z1, z2, o, z3, z4⟩ := hq0 r z
      have hx : (fun b => if pp = some b then H b else B b) r = some o := (if_pos z).trans z3
      exact Option.some_ne_none o (hx.symm.trans hB2)
    | _ => exact rv.elim
end
end Bs
namespace Bs
open PySem L2
theorem cb_of {K : PySem.W.Frag} {r : List V → Hp → VK → Prop} {ds : List D} {f : D} {R : D → Prop} (h : CbD K r ds f) (k : R f) : CbP K r ds R := fun B pp F H σ ρ x ok rx Q q => h B pp F H σ ρ x ok rx Q fun v f' F' H' o l p r => q v f' F' H' o l (p ▸ k) r
def flatB (W : Web) : Bool := decide ((W.length : Int) - (tiesL W).length + (facesOf W).length = 2)
/-- the pool gives a place of a list -/
theorem getI_mem {α : Type} {xs : List α} {r : Int} (h0 : 0 ≤ r) (h1 : r < xs.length) : ∃ x ∈ xs, xs[r.toNat]? = some x ∧ r = ((r.toNat : Nat) : Int) := by
  have hlt : r.toNat < xs.length := by omega
  exact ⟨xs[r.toNat], List.getElem_mem hlt, List.getElem?_eq_getElem hlt, by omega⟩
section
variable {P : Program} {w : World} {K : PySem.W.Frag} {mg : Str → Option Value} {base : Heap}
theorem o_ixTk {ρ : List Cell} {α : Type} {xs : List α} {en : α → D} {e : D} (h : Tk (xs.length : Nat) e) : OpP K (rIxA K) (.lst (xs.map en)) e (fun d => ∃ x ∈ xs, d = en x) := by
  obtain ⟨r, rfl, h0, h1⟩ := h
  obtain ⟨x, hx, hat, hr⟩ := getI_mem h0 h1
  exact op_of (o_ixL (atD hr (by rw [List.getElem?_map, hat]; rfl))) ⟨x, hx, rfl⟩
def ctFlat : Ctr := fun cs R => ∃ (W : Web), cs = [.fro (wD W)] ∧ FaceOk W ∧ R (.fro (.bl (flatB W)))
theorem ok_is_flat (Z : Blt mg) (T : Def K mg "_law_is_flat" st_law_is_flat ["_law_web_here"]) (D_law_ties : OkDef P w K mg base 1 "_law_ties" ["_law_web_here"] ctTies) (D_law_faces : OkDef P w K mg base 2 "_law_faces" ["_law_web_here"] ctFaces) : OkDef P w K mg base 3 "_law_is_flat" ["_law_web_here"] ctFlat := by
  refine ok_def (k := 2) (n := 0) T sc_law_is_flat rfl (by rintro cs P ⟨_, rfl, _⟩; rfl) fun f cdv A outer s H E hr hu1 hu => ?_
  refine ⟨_, (pss_one (ps_ret (pe_cmpR (op_eqK K hr.units rfl) (pe_op (op_addK K rfl) (pe_op op_sub (pe_callB (call_lenAK K rfl) (by rfl) Z.len (by decide +kernel) (pa_cons (pv 0) pa_nil)) (pe_callB (call_lenAK K rfl) (by rfl) Z.len (by decide +kernel) (pa_cons (pe_fnK K D_law_ties rfl rfl rfl rfl rfl hr (by rfl) (pa_cons (pv 0) pa_nil)) pa_nil))) (pe_callB (call_lenAK K rfl) (by rfl) Z.len (by decide +kernel) (pa_cons (pe_fnK K D_law_faces rfl rfl rfl rfl rfl hr (by rfl) (pa_cons (pv 0) pa_nil)) pa_nil))) pe_int (nomark _)))), ?_⟩
  rintro cs R ⟨W, rfl, hf, hR⟩
  have ht : EvD K (tCB (rLenA K) (tCons (tCall (spC K ctTies) [] E0 (tCons (tVar 0) tNil)) tNil)) [.fro (wD W)] (.int (tiesL W).length) := g_cb (gl_one (P := fun d => ∃ es : List D, d = .lst es ∧ es.length = (tiesL W).length) (g_call (a_cons (e_v rfl) a_nil) fun cs e => e ▸ ⟨W, rfl, hf.fit, fun es h => ⟨_, .inr rfl, es, rfl, h⟩⟩)) (by
    rintro _ ⟨_, rfl, es, rfl, h⟩
    rw [← h]
    exact c_lenL)
  refine d_ret (e_op (e_op (e_op (e_cb (l_cons (e_v rfl) l_nil) c_lenM) ht o_sub) (e_cb (l_cons (e_callO (a_cons (e_v rfl) a_nil) fun P h => ⟨W, rfl, hf, h⟩) l_nil) c_lenL) o_add) e_i o_eqi) ?_
  rw [List.length_map]
  exact hR
def ctDrawn : Ctr := fun cs R => ∃ (W : Web), cs = [.fro (wD W), .pool] ∧ Fit W ∧ 1 ≤ W.length ∧ ∀ n p es, lk W n = some p → es.Perm p.2 → R (.own (wD (pt W n (p.1, es))))
theorem ok_drawn (Z : Blt mg) (T : Def K mg "_law_drawn" st_law_drawn ["_law_web_here", "_law_pool_here"]) (D_law_take : OkDef P w K mg base 1 "_law_take" ["_law_pool_here", "_law_many"] ctTake) (D_law_copy : OkDef P w K mg base 1 "_law_copy" ["_law_web_here"] ctCopy) : OkDef P w K mg base 2 "_law_drawn" ["_law_web_here", "_law_pool_here"] ctDrawn := by
  refine ok_def (k := 1) (n := 3) T sc_law_drawn rfl (by rintro cs P ⟨_, rfl, _⟩; rfl) fun f cdv A outer s H E hr hu1 hu => ?_
  refine ⟨_, (pss_cons (ps_set (i := 2) sc_law_drawn.nd rfl (by first | exact Or.inl rfl | exact Or.inr rfl) (pe_ix (ix_anyK K hu1 rfl) (pe_callB (call_srtK K rfl hr.units rfl) (by rfl) Z.sorted (by decide +kernel) (pa_cons (pv 0) pa_nil)) (pe_fnK K D_law_take rfl rfl rfl rfl rfl hr (by rfl) (pa_cons (pv 1) (pa_cons (pe_callB (call_lenAK K rfl) (by rfl) Z.len (by decide +kernel) (pa_cons (pv 0) pa_nil)) pa_nil))) (fun _ _ => rfl)))
      (pss_cons (ps_set (i := 3) sc_law_drawn.nd rfl (by first | exact Or.inl rfl | exact Or.inr rfl) (pe_callTy (call_lstK K rfl) (by rfl) Z.list (by decide +kernel) (pa_cons (pe_ix (ix_anyK K hu1 rfl) (pe_ix (ix_anyK K hu1 rfl) (pv 0) (pv 2) (fun _ _ => rfl)) pe_int (fun _ _ => rfl)) pa_nil)))
      (pss_cons (ps_if (PW.pt (pw_and (pt_cmpR op_gt (pe_callB (call_lenAK K rfl) (by rfl) Z.len (by decide +kernel) (pa_cons (pv 3) pa_nil)) pe_int (nomark _)) (pw_and1 (pt_cmpR (op_eqK K hr.units rfl) (pe_fnK K D_law_take rfl rfl rfl rfl rfl hr (by rfl) (pa_cons (pv 1) (pa_cons pe_int pa_nil))) pe_int (nomark _))))) (pss_one (ps_set (i := 3) sc_law_drawn.nd rfl (by first | exact Or.inl rfl | exact Or.inr rfl) (pe_op (op_addK K rfl) (pe_lst (pa_cons (pe_ix (ix_anyK K hu1 rfl) (pv 3) pe_int (fun _ _ => rfl)) (pa_cons (pe_ix (ix_anyK K hu1 rfl) (pv 3) pe_int (fun _ _ => rfl)) pa_nil))) (pe_slice (sl_anyK K rfl) (pv 3) (po_some pe_int) po_none)))) pss_nil)
      (pss_cons (ps_set (i := 4) sc_law_drawn.nd rfl (by first | exact Or.inl rfl | exact Or.inr rfl) (pe_fnK K D_law_copy rfl rfl rfl rfl rfl hr (by rfl) (pa_cons (pv 0) pa_nil)))
      (pss_cons (ps_dput hu1 (pv 4) (pv 2) (pe_tup (pa_cons (pe_ix (ix_anyK K hu1 rfl) (pe_ix (ix_anyK K hu1 rfl) (pv 0) (pv 2) (fun _ _ => rfl)) pe_int (fun _ _ => rfl)) (pa_cons (pv 3) pa_nil))) rfl)
      (pss_one (ps_ret (pv 4)))))))), ?_⟩
  rintro cs R ⟨W, rfl, hf, hl, hR⟩
  have hlen := hf.len
  refine d_seq (gd_set (P := fun d => ∃ n ∈ srt (W.map (·.1)), d = .int n) (g_op (P' := fun _ => Tk ((srt (W.map (·.1))).length : Nat)) (e_cbN (l_cons (e_v rfl) l_nil) (c_srtM hlen)).fz (fun _ _ => e_take rfl ((e_cb (l_cons (e_v rfl) l_nil) c_lenM).to (by rw [srt_len, List.length_map])) (by rw [srt_len, List.length_map]; omega) (by rw [srt_len, List.length_map]; omega)) (by rintro _ _ rfl h; exact o_ixTk (ρ := []) h)) ?_)
  rintro _ ⟨n, hn, rfl⟩
  have hk : n ∈ W.map (·.1) := srt_mem.mp hn
  obtain ⟨p, hp⟩ := lk_keys hk
  have hee : endsAt W n = p.2 := endsAt_lk hp
  have hdeg : p.2.length ≤ 200 := by have := hf.deg n; rw [hee] at this; exact this
  refine d_seq (d_set ((e_cbN (l_cons (e_ends rfl (e_v rfl) hk) l_nil) c_listL).fz) ?_)
  rw [hee]
  refine d_cut (fun ρ => ∃ es : List Nd, ρ = [.fro (wD W), .pool, .fro (.int n), .fro (.lst (es.map eD)), .any] ∧ es.Perm p.2) (gd_if (R := fun b => b = true → 2 < p.2.length) (gt_and (R := fun b => b = decide ((2 : Int) < ((p.2.map eD).length : Nat))) (S := fun b => b = true → 2 < p.2.length) (t_test (e_op (e_cb (l_cons (e_v rfl) l_nil) c_lenL) e_i o_gt)) (fun hb => gt_test (g_op (R := fun d => ∃ b, d = .bl b) (e_take (m := 2) rfl e_i (by decide) (by decide)) (fun _ _ => e_i) (by rintro _ _ ⟨r, rfl, _⟩ rfl; exact op_of o_eqi ⟨_, rfl⟩)) (fun d ⟨b, e⟩ => ⟨b, e, fun _ => by have := of_decide_eq_true hb.symm; rw [List.length_map] at this; omega⟩)) (fun b h => h) (fun _ z => nomatch z)) (fun h => ?_) (fun _ => d_next ⟨p.2, rfl, List.Perm.refl _⟩)) ?_
  · have h3 := h rfl
    match hp2 : p.2, h3 with
    | e0 :: e1 :: e2 :: es, _ =>
      refine d_set (EvD.to (e_op (e_lstF (l_cons (e_lat 1 rfl rfl rfl) (l_cons (e_lat 0 rfl rfl rfl) l_nil))) (e_slL (e_v rfl) (s_some e_i) s_none).fz (o_addL ?_)) ?_) ⟨e1 :: e0 :: e2 :: es, rfl, List.Perm.swap _ _ _⟩
      · have := cut_n ((e0 :: e1 :: e2 :: es).map eD) 2
        rw [show ((2 : Nat) : Int) = 2 from rfl] at this
        rw [this, List.length_drop, List.length_map, ← hp2]
        show 2 + (p.2.length - 2) ≤ 100000
        omega
      · have := cut_n ((e0 :: e1 :: e2 :: es).map eD) 2
        rw [show ((2 : Nat) : Int) = 2 from rfl] at this
        rw [this]
        rfl
  rintro _ ⟨es, rfl, hpm⟩
  refine d_seq (d_setN (n_callO (a_cons (e_v rfl) a_nil) fun P h => ⟨W, rfl, hf, h⟩) ?_)
  refine d_seq (d_putM (v := (p.1, es)) rfl (e_tup (l_cons (e_op (e_op (e_v rfl) (e_v rfl) (o_ixM hp)) e_i (o_ixT (atD (j := 0) rfl rfl))) (l_cons (e_v rfl) l_nil))) (e_v rfl) (by omega) ?_)
  exact d_retO rfl (hR n p es hp hpm)
/-- rows that fit their web in length, from 0 to 4095 -/
def RowsLen (W : Web) (RM : RowsM) : Prop := RM.map (·.1) = W.map (·.1) ∧ ∀ n ∈ W.map (·.1), RowOk (rowOf RM n) ∧ (rowOf RM n).length = 7 + 3 * (endsAt W n).length
def RowsIn (W : Web) (RM : RowsM) : Prop := (RM.map (·.1)).Nodup ∧ (∀ n, n ∈ RM.map (·.1) ↔ n ∈ W.map (·.1)) ∧ ∀ n ∈ W.map (·.1), RowOk (rowOf RM n) ∧ (rowOf RM n).length = 7 + 3 * (endsAt W n).length
def ctDigits : Ctr := fun cs R => ∃ (W : Web), cs = [.fro (wD W), .pool] ∧ Fit W ∧ ∀ RM : RowsM, RowsIn W RM → R (.own (dM dI RM))
theorem ok_digits (Z : Blt mg) (T : Def K mg "_law_digits" st_law_digits ["_law_web_here", "_law_pool_here"]) (D_law_take : OkDef P w K mg base 1 "_law_take" ["_law_pool_here", "_law_many"] ctTake) : OkDef P w K mg base 2 "_law_digits" ["_law_web_here", "_law_pool_here"] ctDigits := by
  refine ok_def (k := 1) (n := 3) T sc_law_digits rfl (by rintro cs P ⟨_, rfl, _⟩; rfl) fun f cdv A outer s H E hr hu1 hu => ?_
  refine ⟨_, (pss_cons (ps_set (i := 2) sc_law_digits.nd rfl (by first | exact Or.inl rfl | exact Or.inr rfl) pe_dnewK)
      (pss_cons (ps_for PassesOwn.never rfl (pi_listK K rfl (pe_callB (call_srtK K rfl hr.units rfl) (by rfl) Z.sorted (by decide +kernel) (pa_cons (pv 0) pa_nil))) (pg_name (i := 3) sc_law_digits.nd rfl (by first | exact Or.inl rfl | exact Or.inr rfl)) (pss_one (ps_dput hu1 (pv 2) (pv 3) (pe_lc (own := [("_law_k", 4)]) (g := (gName 4)) (tt := tYes) rfl sc_law_digits.nd (pi_range1 (by rfl) Z.range (pa_cons (pe_op (op_addK K rfl) pe_int (pe_op op_mul pe_int (pe_callB (call_lenAK K rfl) (by rfl) Z.len (by decide +kernel) (pa_cons (pe_ix (ix_anyK K hu1 rfl) (pe_ix (ix_anyK K hu1 rfl) (pv 0) (pv 3) (fun _ _ => rfl)) pe_int (fun _ _ => rfl)) pa_nil)))) pa_nil)) (blkOk_by (N := N_law_digits) (sc := defScope st_law_digits) (by decide +kernel)) (fun _ _ _ _ _ => (pg_name (i := 4) sc_law_digits.nd rfl (by first | exact Or.inl rfl | exact Or.inr rfl))) (fun _ _ _ _ _ => pts_nil) (fun _ _ _ _ _ => (pe_fnK K D_law_take rfl rfl rfl rfl rfl hr (by rfl) (pa_cons (pv 1) (pa_cons pe_int pa_nil))))) rfl)))
      (pss_one (ps_ret (pv 2))))), ?_⟩
  rintro cs R ⟨W, rfl, hf, hR⟩
  have hlen := hf.len
  have hsl : (srt (W.map (·.1))).length = W.length := by rw [srt_len, List.length_map]
  have hsn : (srt (W.map (·.1))).Nodup := (srt_perm _).nodup_iff.mpr hf.nd
  refine d_seq (d_setN e_newK ?_)
  refine d_seq (d_for (i_listD (e_cbN (l_cons (e_v rfl) l_nil) (c_srtM hlen)).fz) (fun i ρ => ∃ (RM : RowsM) (x3 : Cell), ρ = [.fro (wD W), .pool, .own (dM dI RM), x3, .any] ∧ RM.map (·.1) = (srt (W.map (·.1))).take i ∧ ∀ n ∈ RM.map (·.1), RowOk (rowOf RM n) ∧ (rowOf RM n).length = 7 + 3 * (endsAt W n).length) ⟨⟨[], _, rfl, rfl, fun n h => absurd h List.not_mem_nil⟩, ?_, ?_⟩)
  · rintro i d ρ hd ⟨RM, x3, rfl, hkeys, hrows⟩
    obtain ⟨n, hn, hm, rfl⟩ := map_get hd
    have hk : n ∈ W.map (·.1) := srt_mem.mp hm
    have hi := (List.getElem?_eq_some_iff.mp hn).1
    have hdeg := hf.deg n
    have hnew : n ∉ RM.map (·.1) := by
      rw [hkeys]
      intro hmem
      obtain ⟨k, hk2⟩ := List.getElem?_of_mem hmem
      rw [List.getElem?_take] at hk2
      split at hk2
      · rename_i hlt
        have := (List.getElem?_inj (by omega) hsn).mp (hk2.trans hn.symm)
        omega
      · cases hk2
    have hRl : RM.length ≤ 64 := by
      have := congrArg List.length hkeys
      rw [List.length_map, List.length_take] at this
      omega
    refine ⟨_, _, g_name, gd_putM (P := fun d => ∃ r : Row, d = dI r ∧ RowOk r ∧ r.length = 7 + 3 * (endsAt W n).length) rfl (Ev.imp (EvN.fz (EvNB.all fun B0 σ => c_lcB (ds := (List.range (7 + 3 * (endsAt W n).length)).map fun i => D.int (0 + (i : Nat))) (i_rng1 (n := 7 + 3 * (endsAt W n).length) (l_cons (EvD.to (e_op e_i (e_op e_i (e_cb (l_cons (e_ends rfl (e_v rfl) hk) l_nil) c_lenL) (o_mul (.inl (by decide)))) o_add) ?_) l_nil) (by omega) B0 σ) (by rw [List.length_map, List.length_range]; omega) (fun i rs => ∃ r : Row, rs = r.map D.int ∧ RowOk r ∧ r.length = i) ⟨[], rfl, fun _ h => absurd h List.not_mem_nil, rfl⟩
      fun k d rs hd ⟨r, e1, e2, e3⟩ => ⟨_, g_name, (t_yes).imp fun b hb => ?_⟩)) ?_) (e_v rfl) (by omega) ?_⟩
    · rw [List.length_map]
      congr 1
    · subst hb
      rw [if_pos rfl]
      refine (e_take (m := 4096) rfl e_i (by decide) (by decide)).imp fun d ⟨v, e, h0, h1⟩ => ⟨r ++ [v], by rw [e, e1, List.map_append]; rfl, fun x hx => ?_, by rw [List.length_append, List.length_singleton, e3]⟩
      rw [List.mem_append, List.mem_singleton] at hx
      rcases hx with hx | rfl
      · exact e2 x hx
      · exact ⟨h0, h1⟩
    · rintro d ⟨rs, rfl, r, rfl, h1, h2⟩
      rw [List.length_map, List.length_range] at h2
      exact ⟨r, rfl, h1, h2⟩
    · rintro _ ⟨r, rfl, h1, h2⟩
      refine ⟨r, rfl, pt RM n r, _, rfl, ?_, fun m hm => ?_⟩
      · rw [pt_new _ hnew, List.map_append, hkeys, List.take_add_one, hn]; rfl
      · unfold rowOf
        rw [lk_pt]
        by_cases e : m = n
        · subst e; rw [if_pos rfl]; exact ⟨h1, h2⟩
        · rw [if_neg e]
          exact hrows m ((keys_pt.mp hm).resolve_left e)
  · rintro ρ ⟨RM, x3, rfl, hkeys, hrows⟩
    rw [List.length_map, List.take_length] at hkeys
    have hiff : ∀ n, n ∈ RM.map (·.1) ↔ n ∈ W.map (·.1) := fun n => by rw [hkeys]; exact srt_mem
    exact d_retO rfl (hR RM ⟨by rw [hkeys]; exact hsn, hiff, fun n hn => hrows n ((hiff n).mpr hn)⟩)
end
end Bs
namespace Bs
open PySem L2
section
variable {K : PySem.W.Frag} {ρ : List Cell} {te ta tb : TE} {tr : TA} {i j : Nat} {E : EndsD}
theorem n_srtO {α : Type} {en : α → D} {m : List (Int × α)} (hi : ρ[i]? = some (.own (dM en m))) (hl : m.length < 64) : EvND K (tCB (rSrt K) (tCons (tVar i) tNil)) ρ (.lst ((srt (m.map (·.1))).map .int)) := fun B pp F H σ ok Q q => by
  obtain ⟨y, e, p, o, rfl, hF, hB, kvs, rfl, hk, rv⟩ := ok.cell i _ hi
  refine ⟨.ref p, e, .inr (.inl ⟨p, kvs, m.map (·.1), rfl, .inl (ok.bse.base _ _ hB), by rw [hk, List.map_map]; rfl, by rw [List.length_map]; exact hl, fun ms p' h1 h2 hp => ?_⟩)⟩
  obtain ⟨ok2, hB2, hP2, hF2⟩ := ok.fresh (o := .lst (ms.map V.int)) hp
  exact q p' _ (.lst (ms.map .int)) F _ ok2 Gro.refl (by rw [srt_uniq h1 h2]) hB2 hP2 hF2 upd_same ⟨_, rfl, RdL.ints ms⟩
theorem gl_two {P : D → Prop} {P' : List D → Prop} (h : Ev K te ρ P) (hr : EvL K tr ρ P') : EvL K (tCons te tr) ρ (fun ds => ∃ d r, ds = d :: r ∧ P d ∧ P' r) := fun B pp F H σ ok Q q =>
  h B pp F H σ ok _ fun v d F1 H1 ok1 l1 pd rd => hr B pp F1 H1 σ ok1 _ fun vs ds F2 H2 ok2 l2 ps rs => q _ _ F2 H2 ok2 (l1.trans l2) ⟨d, ds, rfl, pd, ps⟩ (RdL.cons (Rdd.mono l2.le _ _ rd) rs)
theorem gd_setL {xs : List D} {j : Nat} {P : D → Prop} (h : ρ[i]? = some (.own (.lst xs))) (he : Ev K te ρ P) (hj : EvD K tb ρ (.int (j : Nat))) (hl : j < xs.length) (k : ∀ d, P d → E.nx (ρ.set i (.own (.lst (xs.set j d))))) : Dos K (tAsg te (gSub (tVar i) tb rSetL)) ρ E := fun B pp F H σ DD ok x => by
  obtain ⟨Bp, l, ok1⟩ := ok.ex
  refine he Bp pp F H σ ok1 _ fun v d1 F1 H1 ok2 l2 pd rd => ?_
  obtain ⟨y, e, p, o, rfl, hF, hB, vs, rfl, rv⟩ := ok2.cell i _ h
  refine ⟨.ref p, e, hj Bp pp F1 H1 σ ok2 _ fun u d2 F2 H2 ok3 l3 pu ru => ?_⟩
  subst pu; unfold Rdd at ru; subst ru
  have lv := rv.len
  refine ⟨p, vs, j, j, rfl, rfl, ok3.bse.base _ _ hB, ?_, ?_⟩
  · unfold ixN; rw [if_pos (by omega), if_pos (by omega)]; simp
  · exact x.nx F2 _ σ _ (OkS.put (d' := .lst (xs.set j d1)) l ok3 ok.free h e ⟨_, rfl, RdL.set (Rdd.mono l3.le _ _ rd) j (RdL.mono l3.le _ _ rv)⟩) (Gro.base l (l2.trans l3)) (k d1 pd)
end
section
variable {P : Program} {w : World} {K : PySem.W.Frag} {mg : Str → Option Value} {base : Heap}
def ctSpoilt : Ctr := fun cs R => ∃ (W : Web) (RM : RowsM), cs = [.own (dM dI RM), .pool] ∧ Fit W ∧ 1 ≤ W.length ∧ (∀ n ∈ W.map (·.1), 0 ≤ n ∧ n < 4096) ∧ RowsIn W RM ∧ ∀ RM' : RowsM, RowsIn W RM' → R (.own (dM dI RM'))
theorem rowsIn_len {W : Web} {RM : RowsM} (hf : Fit W) (h : RowsIn W RM) : RM.length = W.length := by
  have := ((List.perm_ext_iff_of_nodup h.1 hf.nd).mpr h.2.1).length_eq
  rw [List.length_map, List.length_map] at this
  exact this
theorem rowsIn_put {W : Web} {RM : RowsM} {n : Int} {r : Row} (h : RowsIn W RM) (hn : n ∈ W.map (·.1)) (h1 : RowOk r) (h2 : r.length = 7 + 3 * (endsAt W n).length) : RowsIn W (pt RM n r) := by
  have hk : (pt RM n r).map (·.1) = RM.map (·.1) := by rw [pt_keys, if_pos ((h.2.1 n).mpr hn)]
  refine ⟨by rw [hk]; exact h.1, fun m => by rw [hk]; exact h.2.1 m, fun m hm => ?_⟩
  unfold rowOf
  rw [lk_pt]
  by_cases e : m = n
  · subst e; rw [if_pos rfl]; exact ⟨h1, h2⟩
  · rw [if_neg e]; exact h.2.2 m hm
theorem ok_spoilt (Z : Blt mg) (T : Def K mg "_law_spoilt" st_law_spoilt ["_law_rows_here", "_law_pool_here"]) (D_law_take : OkDef P w K mg base 1 "_law_take" ["_law_pool_here", "_law_many"] ctTake) : OkDef P w K mg base 2 "_law_spoilt" ["_law_rows_here", "_law_pool_here"] ctSpoilt := by
  refine ok_def (k := 1) (n := 7) T sc_law_spoilt rfl (by rintro cs P ⟨_, _, rfl, _⟩; rfl) fun f cdv A outer s H E hr hu1 hu => ?_
  refine ⟨_, (pss_cons (ps_set (i := 2) sc_law_spoilt.nd rfl (by first | exact Or.inl rfl | exact Or.inr rfl) (pe_callB (call_srtK K rfl hr.units rfl) (by rfl) Z.sorted (by decide +kernel) (pa_cons (pv 0) pa_nil)))
      (pss_cons (ps_for PassesOwn.never rfl (pi_range1 (by rfl) Z.range (pa_cons (pe_fnK K D_law_take rfl rfl rfl rfl rfl hr (by rfl) (pa_cons (pv 1) (pa_cons pe_int pa_nil))) pa_nil)) (pg_name (i := 3) sc_law_spoilt.nd rfl (by first | exact Or.inl rfl | exact Or.inr rfl)) (pss_cons (ps_set (i := 4) sc_law_spoilt.nd rfl (by first | exact Or.inl rfl | exact Or.inr rfl) (pe_ix (ix_anyK K hu1 rfl) (pv 2) (pe_fnK K D_law_take rfl rfl rfl rfl rfl hr (by rfl) (pa_cons (pv 1) (pa_cons (pe_callB (call_lenAK K rfl) (by rfl) Z.len (by decide +kernel) (pa_cons (pv 2) pa_nil)) pa_nil))) (fun _ _ => rfl)))
      (pss_cons (ps_set (i := 5) sc_law_spoilt.nd rfl (by first | exact Or.inl rfl | exact Or.inr rfl) (pe_callTy (call_lstK K rfl) (by rfl) Z.list (by decide +kernel) (pa_cons (pe_ix (ix_anyK K hu1 rfl) (pv 0) (pv 4) (fun _ _ => rfl)) pa_nil)))
      (pss_cons (ps_set (i := 6) sc_law_spoilt.nd rfl (by first | exact Or.inl rfl | exact Or.inr rfl) (pe_fnK K D_law_take rfl rfl rfl rfl rfl hr (by rfl) (pa_cons (pv 1) (pa_cons (pe_callB (call_lenAK K rfl) (by rfl) Z.len (by decide +kernel) (pa_cons (pv 5) pa_nil)) pa_nil))))
      (pss_cons (ps_set (i := 7) sc_law_spoilt.nd rfl (by first | exact Or.inl rfl | exact Or.inr rfl) (pe_ix (ix_anyK K hu1 rfl) (pv 2) (pe_fnK K D_law_take rfl rfl rfl rfl rfl hr (by rfl) (pa_cons (pv 1) (pa_cons (pe_callB (call_lenAK K rfl) (by rfl) Z.len (by decide +kernel) (pa_cons (pv 2) pa_nil)) pa_nil))) (fun _ _ => rfl)))
      (pss_cons (ps_set (i := 8) sc_law_spoilt.nd rfl (by first | exact Or.inl rfl | exact Or.inr rfl) (pe_lst (pa_cons (pe_op (op_addK K rfl) (pe_ix (ix_anyK K hu1 rfl) (pv 5) (pv 6) (fun _ _ => rfl)) pe_int) (pa_cons (pe_callB (call_mx2 rfl) (by rfl) Z.max (by decide +kernel) (pa_cons pe_int (pa_cons (pe_op op_sub (pe_ix (ix_anyK K hu1 rfl) (pv 5) (pv 6) (fun _ _ => rfl)) pe_int) pa_nil))) (pa_cons (pv 7) pa_nil)))))
      (pss_cons (ps_set (i := 8) sc_law_spoilt.nd rfl (by first | exact Or.inl rfl | exact Or.inr rfl) (pe_op (op_addK K rfl) (pv 8) (pe_lst (pa_cons (pe_fnK K D_law_take rfl rfl rfl rfl rfl hr (by rfl) (pa_cons (pv 1) (pa_cons pe_int pa_nil))) (pa_cons pe_int (pa_cons (pe_ix (ix_anyK K hu1 rfl) (pv 5) (pe_op op_modN (pe_op (op_addK K rfl) (pv 6) pe_int) (pe_callB (call_lenAK K rfl) (by rfl) Z.len (by decide +kernel) (pa_cons (pv 5) pa_nil))) (fun _ _ => rfl)) pa_nil))))))
      (pss_cons (ps_asg (pe_callB (call_mn2 rfl) (by rfl) Z.min (by decide +kernel) (pa_cons pe_int (pa_cons (pe_ix (ix_anyK K hu1 rfl) (pv 8) (pe_fnK K D_law_take rfl rfl rfl rfl rfl hr (by rfl) (pa_cons (pv 1) (pa_cons pe_int pa_nil))) (fun _ _ => rfl)) pa_nil))) (pg_sub (pv 5) (pv 6) set_list))
      (pss_one (ps_dput hu1 (pv 0) (pv 4) (pv 5) rfl))))))))))
      (pss_one (ps_ret (pv 0))))), ?_⟩
  rintro cs R ⟨W, RM, rfl, hf, hl, hrange, hRM, hR⟩
  have hlen := hf.len
  have hRl := rowsIn_len hf hRM
  have hsl : (srt (RM.map (·.1))).length = W.length := by rw [srt_len, List.length_map, hRl]
  have hsm : ∀ n ∈ srt (RM.map (·.1)), n ∈ W.map (·.1) := fun n hn => (hRM.2.1 n).mp (srt_mem.mp hn)
  refine d_seq (d_setN (n_srtO rfl (by omega)) ?_)
  generalize srt (RM.map (·.1)) = ns at hsl hsm
  refine d_freeze (i := 2) rfl ?_
  refine d_seq (gd_for (P := fun ds => ∃ n : Nat, ds = (List.range n).map fun i => D.int (0 + (i : Nat))) (fun B0 σ => gi_rng1 (gl_one (e_take rfl e_i (by decide) (by decide))) (by
    rintro _ ⟨_, rfl, r, rfl, h0, h1⟩
    exact ⟨r.toNat, by rw [show ((r.toNat : Nat) : Int) = r by omega], by omega, _, rfl⟩)) fun ds ⟨n, hn⟩ => ⟨fun _ ρ => ∃ (RM : RowsM) (x3 x4 x5 x6 x7 x8 : Cell), ρ = [.own (dM dI RM), .pool, .fro (dI ns), x3, x4, x5, x6, x7, x8] ∧ RowsIn W RM, ⟨⟨RM, _, _, _, _, _, _, rfl, hRM⟩, ?_, ?_⟩⟩)
  · rintro i d ρ hd ⟨RM, x3, x4, x5, x6, x7, x8, rfl, hRM⟩
    refine ⟨_, _, g_name, ?_⟩
    have nm : ∀ (ρ : List Cell), ρ[1]? = some .pool → ρ[2]? = some (.fro (dI ns)) → Ev K (tOp (rIxA K) (tVar 2) (tCall (spC K ctTake) [] E0 (tCons (tVar 1) (tCons (tCB (rLenA K) (tCons (tVar 2) tNil)) tNil)))) ρ (fun d => ∃ n ∈ ns, d = .int n) := fun ρ h1 h2 =>
      g_op (P' := fun _ => Tk (ns.length : Nat)) (e_v h2) (fun _ _ => e_take h1 ((e_cb (l_cons (e_v h2) l_nil) c_lenL).to (by rw [List.length_map])) (by omega) (by omega)) (by rintro _ _ rfl h; exact o_ixTk (ρ := []) h)
    refine d_seq (gd_set (nm _ rfl rfl) ?_)
    rintro _ ⟨n, hn, rfl⟩
    have hk := hsm n hn
    obtain ⟨hro, hrl⟩ := hRM.2.2 n hk
    have hdeg := hf.deg n
    have hlk : lk RM n = some (rowOf RM n) := lk_at ((hRM.2.1 n).mpr hk) []
    refine d_seq (d_setN (e_cbN (l_cons (e_ownM rfl (e_v rfl) hlk) l_nil) c_listL) ?_)
    generalize hrow : rowOf RM n = row at *
    refine d_seq (gd_set (e_sca (i := 5) (P := Tk (row.length : Nat)) rfl (e_take rfl ((e_cb (l_cons (e_v rfl) l_nil) c_lenL).to (by rw [List.length_map])) (by omega) (by omega)) (by rintro _ ⟨r, rfl, _⟩; exact trivial)) ?_)
    rintro _ ⟨at', rfl, ha0, ha1⟩
    obtain ⟨va, hva, hat, hae⟩ := getI_mem ha0 ha1
    have hva2 := hro va hva
    have hatI : atI (row.map D.int) at' = some (.int va) := atD hae (by rw [List.getElem?_map, hat]; rfl)
    refine d_seq (gd_set (nm _ rfl rfl) ?_)
    rintro _ ⟨ot, hot, rfl⟩
    have hot2 := hrange ot (hsm ot hot)
    refine d_seq (d_set (d := dI [va + 1, if va - 1 > 0 then va - 1 else 0, ot]) (e_lstF (l_cons (e_op (e_ownL rfl (e_v rfl) hatI) e_i o_add) (l_cons (e_cb (l_cons e_i (l_cons (e_op (e_ownL rfl (e_v rfl) hatI) e_i o_sub) l_nil)) c_max) (l_cons (e_v rfl) l_nil)))) ?_)
    have hm0 : 0 ≤ (at' + 3).fmod (row.length : Nat) ∧ (at' + 3).fmod (row.length : Nat) < (row.length : Nat) := fm_lt _ (by omega)
    obtain ⟨vb, hvb, hbt, hbe⟩ := getI_mem hm0.1 hm0.2
    have hvb2 := hro vb hvb
    have hbtI : atI (row.map D.int) ((at' + 3).fmod (row.length : Nat)) = some (.int vb) := atD hbe (by rw [List.getElem?_map, hbt]; rfl)
    refine d_seq (gd_set (P := fun d => ∃ v : Int, d = dI [va + 1, if va - 1 > 0 then va - 1 else 0, ot, v, 0, vb] ∧ 0 ≤ v) (g_op (P' := fun _ d => ∃ v : Int, d = dI [v, 0, vb] ∧ 0 ≤ v) (e_v rfl) (fun _ _ => Ev.imp (g_lst (gl_two (e_take (m := 4096) rfl e_i (by decide) (by decide)) (gl_two (P := fun d => d = .int 0) e_i (gl_one (P := fun d => d = .int vb) (e_ownL rfl (e_op (e_op (e_v rfl) e_i o_add) (e_sca (i := 5) rfl ((e_cb (l_cons (e_v rfl) l_nil) c_lenL).to (by rw [List.length_map])) (by rintro _ rfl; exact trivial)) (o_mod (by omega))) hbtI)))) (by
      rintro _ ⟨d, r, rfl, _, d2, r2, rfl, _, d3, rfl, _⟩
      show 3 ≤ 100000
      decide)).fz (by
      rintro _ ⟨_, rfl, d, r, rfl, ⟨v, rfl, h0, _⟩, d2, r2, rfl, rfl, d3, rfl, rfl⟩
      exact ⟨v, rfl, h0⟩)) (by
      rintro _ _ rfl ⟨v, rfl, h0⟩
      exact op_of (o_addL (by show 3 + 3 ≤ 100000; decide)) ⟨v, rfl, h0⟩)) ?_)
    rintro _ ⟨v, rfl, hv0⟩
    have hnn : ∀ x ∈ [va + 1, if va - 1 > 0 then va - 1 else 0, ot, v, 0, vb], (0 : Int) ≤ x := fun x hx => by
      simp only [List.mem_cons, List.not_mem_nil, or_false] at hx
      rcases hx with rfl | rfl | rfl | rfl | rfl | rfl
      · omega
      · split <;> omega
      · omega
      · omega
      · omega
      · omega
    refine d_seq (gd_setL (j := at'.toNat) (P := fun d => ∃ x : Int, d = .int x ∧ 0 ≤ x ∧ x < 4096) rfl (g_cb (P := fun ds => ∃ x : Int, ds = [.int 4095, .int x] ∧ 0 ≤ x) (fun B pp F H σ ok Q q => (gl_two (P := fun d => d = .int 4095) e_i (gl_one (P := fun d => ∃ x : Int, d = .int x ∧ 0 ≤ x) (g_op (P' := fun _ => Tk 6) (e_v rfl) (fun _ _ => e_take rfl e_i (by decide) (by decide)) (by
      rintro _ _ rfl h
      intro B pp F H σ ρ x y ok rx ry Q q
      exact o_ixTk (ρ := []) (xs := [va + 1, if va - 1 > 0 then va - 1 else 0, ot, v, 0, vb]) (en := D.int) h B pp F H σ ρ x y ok rx ry Q fun v d F' H' a b c e => q v d F' H' a b (by obtain ⟨x, hx, rfl⟩ := c; exact ⟨x, rfl, hnn x hx⟩) e)))) B pp F H σ ok Q fun vs ds F' H' a b c e => q vs ds F' H' a b (by obtain ⟨d, r, rfl, rfl, d2, rfl, x, rfl, h⟩ := c; exact ⟨x, rfl, h⟩) e) (by
      rintro _ ⟨x, rfl, hx⟩
      refine cb_of c_min ⟨_, rfl, ?_⟩
      split <;> omega)) ((e_v rfl).to (by rw [← hae])) (by rw [List.length_map]; omega) ?_)
    rintro _ ⟨x, rfl, hx⟩
    refine d_freeze (i := 5) rfl ?_
    have hset : (row.map D.int).set at'.toNat (.int x) = (row.set at'.toNat x).map D.int := by rw [List.map_set]
    rw [hset]
    refine d_putM (v := row.set at'.toNat x) rfl (e_v rfl) (e_v rfl) (by have := rowsIn_len hf hRM; omega) ⟨pt RM n (row.set at'.toNat x), _, _, _, _, _, _, rfl, rowsIn_put hRM hk (fun y hy => ?_) (by rw [List.length_set]; exact hrl)⟩
    rcases List.mem_or_eq_of_mem_set hy with h | rfl
    · exact hro y h
    · exact hx
  · rintro ρ ⟨RM, x3, x4, x5, x6, x7, x8, rfl, hRM⟩
    exact d_retO rfl (hR RM hRM)
end
end Bs
namespace Bs
open PySem L2
/-- ends point both ways, none twice -/
structure Sym (W : Web) : Prop where
  fit : Fit W
  key : ∀ n e, e ∈ endsAt W n → n ∈ W.map (·.1) ∧ e.1 ∈ W.map (·.1)
  back : ∀ n e, e ∈ endsAt W n → n ∈ orderOf W e.1
  nd : ∀ n, (orderOf W n).Nodup
/-- the same all along the ties -/
def Flow (W : Web) (φ : Int → Bool) : Prop := ∀ n, ∀ e ∈ endsAt W n, φ e.1 = φ n
structure PartOk (W : Web) (ms : List Int) : Prop where
  pw : ms.Pairwise (· < ·)
  key : ∀ k ∈ ms, k ∈ W.map (·.1)
  ne : ms ≠ []
  cl : ∀ n ∈ ms, ∀ e ∈ endsAt W n, e.1 ∈ ms
  conn : ∀ φ, Flow W φ → ∀ x ∈ ms, ∀ y ∈ ms, φ x = φ y
structure RowInv (W : Web) (left : List Int) (a : Int) (row : List Int) : Prop where
  nd : row.Nodup
  sub : ∀ x ∈ row, x ∈ left
  top : a ∈ row
  conn : ∀ φ, Flow W φ → ∀ x ∈ row, φ x = φ a
def Closed (W : Web) (row : List Int) : Prop := ∀ n ∈ row, ∀ e ∈ endsAt W n, e.1 ∈ row
theorem nd_sub_len {α : Type} [DecidableEq α] {l m : List α} (h : l.Nodup) (s : ∀ x ∈ l, x ∈ m) : l.length ≤ m.length := h.length_le_of_subset (fun x hx => s x hx)
theorem row_step {W : Web} (sy : Sym W) {left : List Int} {a : Int} {row : List Int} {n : Int} (hc : Closed W left) (h : RowInv W left a row) (hn : n ∈ row) : RowInv W left a (row ++ (orderOf W n).filter (notIn row)) := by
  have mem : ∀ x ∈ (orderOf W n).filter (notIn row), x ∉ row ∧ ∃ e ∈ endsAt W n, e.1 = x := fun x hx => by
    obtain ⟨h1, h2⟩ := List.mem_filter.mp hx
    obtain ⟨e, he, rfl⟩ := List.mem_map.mp h1
    exact ⟨notIn_t.mp h2, e, he, rfl⟩
  refine ⟨List.nodup_append.mpr ⟨h.nd, (sy.nd n).sublist List.filter_sublist, fun x hx y hy z => (mem y hy).1 (z ▸ hx)⟩, fun x hx => ?_, List.mem_append_left _ h.top, fun φ hφ x hx => ?_⟩
  · rcases List.mem_append.mp hx with hx | hx
    · exact h.sub x hx
    · obtain ⟨_, e, he, rfl⟩ := mem x hx
      exact hc n (h.sub n hn) e he
  · rcases List.mem_append.mp hx with hx | hx
    · exact h.conn φ hφ x hx
    · obtain ⟨_, e, he, rfl⟩ := mem x hx
      rw [hφ n e he]; exact h.conn φ hφ n hn
section
variable {P : Program} {w : World} {K : PySem.W.Frag} {mg : Str → Option Value} {base : Heap}
def ctParts : Ctr := fun cs R => ∃ (W : Web), cs = [.fro (wD W)] ∧ Sym W ∧ ∀ ps : List (List Int), (∀ ms ∈ ps, PartOk W ms) → ps.length ≤ 64 → R (.own (dLL ps))
theorem ok_parts_of (Z : Blt mg) (T : Def K mg "_law_parts_of" st_law_parts_of ["_law_web_here"]) : OkDef P w K mg base 1 "_law_parts_of" ["_law_web_here"] ctParts := by
  refine ok_def (k := 0) (n := 6) T sc_law_parts_of rfl (by rintro cs P ⟨_, rfl, _⟩; rfl) fun f cdv A outer s H E hr hu1 hu => ?_
  refine ⟨_, (pss_cons (ps_set (i := 1) sc_law_parts_of.nd rfl (by first | exact Or.inl rfl | exact Or.inr rfl) (pe_callB (call_srtK K rfl hr.units rfl) (by rfl) Z.sorted (by decide +kernel) (pa_cons (pv 0) pa_nil)))
      (pss_cons (ps_set (i := 2) sc_law_parts_of.nd rfl (by first | exact Or.inl rfl | exact Or.inr rfl) (pe_lst pa_nil))
      (pss_cons (ps_while PassesOwn.never (pt_cmpR (op_neK K hr.units rfl) (pv 1) (pe_lst pa_nil) (nomark _)) (pss_cons (ps_set (i := 3) sc_law_parts_of.nd rfl (by first | exact Or.inl rfl | exact Or.inr rfl) (pe_lst (pa_cons (pe_ix (ix_anyK K hu1 rfl) (pv 1) pe_int (fun _ _ => rfl)) pa_nil)))
      (pss_cons (ps_for PassesOwn.never rfl (pi_range1 (by rfl) Z.range (pa_cons (pe_callB (call_lenAK K rfl) (by rfl) Z.len (by decide +kernel) (pa_cons (pv 1) pa_nil)) pa_nil)) (pg_name (i := 4) sc_law_parts_of.nd rfl (by first | exact Or.inl rfl | exact Or.inr rfl)) (pss_one (ps_for PassesOwn.never rfl (pi_listK K rfl (pe_callTy (call_lstK K rfl) (by rfl) Z.list (by decide +kernel) (pa_cons (pv 3) pa_nil))) (pg_name (i := 5) sc_law_parts_of.nd rfl (by first | exact Or.inl rfl | exact Or.inr rfl)) (pss_one (ps_set (i := 3) sc_law_parts_of.nd rfl (by first | exact Or.inl rfl | exact Or.inr rfl) (pe_op (op_addK K rfl) (pv 3) (pe_lc (own := [("_law_end", 6)]) (g := (gName 6)) rfl sc_law_parts_of.nd (pi_listK K rfl (pe_ix (ix_anyK K hu1 rfl) (pe_ix (ix_anyK K hu1 rfl) (pv 0) (pv 5) (fun _ _ => rfl)) pe_int (fun _ _ => rfl))) (blkOk_by (N := N_law_parts_of) (sc := defScope st_law_parts_of) (by decide +kernel)) (fun _ _ _ _ _ => (pg_name (i := 6) sc_law_parts_of.nd rfl (by first | exact Or.inl rfl | exact Or.inr rfl))) (fun _ _ _ _ _ => (pts_one (pt_cmpR (op_ninA' K hu rfl) (pe_ix (ix_anyK K hu1 rfl) (pv 6) pe_int (fun _ _ => rfl)) (pv 3) (by rfl)))) (fun _ _ _ _ _ => (pe_ix (ix_anyK K hu1 rfl) (pv 6) pe_int (fun _ _ => rfl))))))))))
      (pss_cons (ps_expr (pe_app K rfl (pv 2) (pa_cons (pe_srtSetK K rfl (by rfl) Z.sorted (by rfl) Z.set (pv 3)) pa_nil)))
      (pss_one (ps_setLc (i := 1) (own := [("_law_name", 5)]) (g := (gName 5)) rfl sc_law_parts_of.nd rfl rfl (sw_true rfl rfl rfl (by decide +kernel)) (pi_listK K rfl (pv 1)) (blkOk_by (N := N_law_parts_of) (sc := defScope st_law_parts_of) (by decide +kernel)) (fun _ _ _ _ _ => (pg_name (i := 5) sc_law_parts_of.nd rfl (by first | exact Or.inl rfl | exact Or.inr rfl))) (fun _ _ _ _ _ => (pts_one (pt_cmpR (op_ninA' K hu rfl) (pv 5) (pv 3) (by rfl)))) (fun _ _ _ _ _ => (pv 5))))))))
      (pss_one (ps_ret (pv 2)))))), ?_⟩
  rintro cs R ⟨W, rfl, sy, hR⟩
  have hf := sy.fit
  have hlen := hf.len
  refine d_seq (d_set (e_cbN (l_cons (e_v rfl) l_nil) (c_srtM hlen)).fz ?_)
  refine d_seq (d_setN (e_lst l_nil) ?_)
  refine d_seq (d_while (fun m ρ => ∃ (left : List Int) (ps : List (List Int)) (x3 x4 x5 : Cell), ρ = [.fro (wD W), .fro (dI left), .own (dLL ps), x3, x4, x5, .any] ∧ left.length = m ∧ left.Nodup ∧ (∀ x ∈ left, x ∈ W.map (·.1)) ∧ Closed W left ∧ (∀ ms ∈ ps, PartOk W ms) ∧ ps.length + m ≤ W.length) W.length
    ⟨srt (W.map (·.1)), [], _, _, _, rfl, by rw [srt_len, List.length_map], (srt_perm _).nodup_iff.mpr hf.nd, fun x hx => srt_mem.mp hx, fun n hn e he => srt_mem.mpr (sy.key n e he).2, fun _ h => absurd h List.not_mem_nil, by rw [List.length_nil]; omega⟩ ?_)
  rintro m ρ ⟨left, ps, x3, x4, x5, rfl, hm, hnd, hkey, hcl, hps, hpl⟩
  refine ⟨_, (t_test (e_op (e_v rfl) (e_lstF l_nil) (o_ne (fl_dI _) (fl_nil 0)))), fun hb => ?_, fun hb => ?_⟩
  · cases left with
    | nil => rw [eqD_lnil] at hb; cases hb
    | cons a l =>
    refine d_seq (d_set (d := dI [a]) (e_lstF (l_cons (e_lat 0 rfl rfl rfl) l_nil)) ?_)
    have hleft : (a :: l).length ≤ W.length := by omega
    have row0 : RowInv W (a :: l) a [a] := ⟨List.nodup_cons.mpr ⟨List.not_mem_nil, List.nodup_nil⟩, fun x hx => by rw [List.mem_singleton.mp hx]; exact List.mem_cons_self, List.mem_singleton.mpr rfl, fun φ _ x hx => by rw [List.mem_singleton.mp hx]⟩
    refine d_seq (d_for (i_rng1 (n := (a :: l).length) (l_cons ((e_cb (l_cons (e_v rfl) l_nil) c_lenL).to (by rw [List.length_map])) l_nil) (by omega)) (fun i ρ => ∃ (row : List Int) (x4 x5 : Cell), ρ = [.fro (wD W), .fro (dI (a :: l)), .own (dLL ps), .fro (dI row), x4, x5, .any] ∧ RowInv W (a :: l) a row ∧ (Closed W row ∨ i + 1 ≤ row.length)) ⟨⟨[a], _, _, rfl, row0, .inr (Nat.le_refl _)⟩, ?_, ?_⟩)
    · rintro i d ρ hd ⟨row, x4, x5, rfl, hrow, hgrow⟩
      have hrl : row.length ≤ W.length := Nat.le_trans (nd_sub_len hrow.nd hrow.sub) hleft
      refine ⟨_, _, g_name, d_for (i_listD (e_cbN (l_cons (e_v rfl) l_nil) c_listL).fz) (fun k ρ => ∃ (ext : List Int) (x5 : Cell), ρ = [.fro (wD W), .fro (dI (a :: l)), .own (dLL ps), .fro (dI (row ++ ext)), .fro d, x5, .any] ∧ RowInv W (a :: l) a (row ++ ext) ∧ (Closed W row → ext = []) ∧ ∀ n ∈ row.take k, ∀ e ∈ endsAt W n, e.1 ∈ row ++ ext) ⟨⟨[], _, by rw [List.append_nil]; rfl, by rw [List.append_nil]; exact hrow, fun _ => rfl, fun n hn => absurd hn List.not_mem_nil⟩, ?_, ?_⟩⟩
      · rintro k d2 ρ hd2 ⟨ext, x5, rfl, hcur, hce, hdone⟩
        obtain ⟨n, hn, hnm, rfl⟩ := map_get hd2
        have hnc : n ∈ row ++ ext := List.mem_append_left _ hnm
        have hkn := hkey n (hcur.sub n hnc)
        have hdeg := order_len hf n
        have hcl2 : (row ++ ext).length ≤ W.length := Nat.le_trans (nd_sub_len hcur.nd hcur.sub) hleft
        refine ⟨_, _, g_name, d_set (d := dI (row ++ ext ++ (orderOf W n).filter (notIn (row ++ ext)))) (EvD.to (e_op (e_v rfl) (EvN.fz (EvNB.all fun B0 σ => c_lcD (xs := endsAt W n) (en := eD) (i_listD (e_ends rfl (e_v rfl) hkn) B0 σ) (by have := hf.deg n; omega) (fun e => notIn (row ++ ext) e.1) (fun e => .int e.1) (fun e => [.fro (wD W), .fro (dI (a :: l)), .own (dLL ps), .fro (dI (row ++ ext)), .fro d, .fro (.int n), .fro (eD e)]) (fun e _ => g_name)
          (fun e _ => (t_test (e_op (e_tat 0 rfl rfl rfl) (e_v rfl) (o_nin (fl_int 0 _) (fl_dI _)))).to ?_) fun e _ _ => e_tat 0 rfl rfl rfl)) (o_addL ?_)) ?_) ⟨ext ++ (orderOf W n).filter (notIn (row ++ ext)), .fro (.int n), by rw [List.append_assoc]; rfl, by rw [← List.append_assoc]; exact row_step sy hcl hcur hnc, fun hc => ?_, fun n' hn' e he => ?_⟩⟩
        · rw [List.any_map, Bool.eq_iff_iff, notIn_t]
          simp only [Function.comp_def, eqD_int', Bool.not_eq_true', List.any_eq_false, decide_eq_true_eq]
          exact ⟨fun h hm => h _ hm rfl, fun h x hx z => h (z ▸ hx)⟩
        · have h1 := List.length_filter_le (fun e : Nd => notIn (row ++ ext) e.1) (endsAt W n)
          have h2 := hf.deg n
          rw [List.length_map, List.length_map]; omega
        · unfold orderOf
          rw [List.filter_map]
          show D.lst _ = D.lst (List.map D.int (_ ++ _))
          rw [List.map_append (l₁ := row ++ ext), List.map_map]
          rfl
        · have e0 := hce hc
          rw [e0, List.nil_append]
          rw [List.filter_eq_nil_iff]
          intro x hx
          obtain ⟨e, he, rfl⟩ := List.mem_map.mp hx
          rw [notIn_t, List.append_nil]
          exact fun z => z (hc n hnm e he)
        · rw [← List.append_assoc]
          rw [List.take_add_one, hn, Option.toList_some, List.mem_append, List.mem_singleton] at hn'
          rcases hn' with hn' | rfl
          · exact List.mem_append_left _ (hdone n' hn' e he)
          · by_cases hin : e.1 ∈ row ++ ext
            · exact List.mem_append_left _ hin
            · exact List.mem_append_right _ (List.mem_filter.mpr ⟨List.mem_map.mpr ⟨e, he, rfl⟩, notIn_t.mpr hin⟩)
      · rintro ρ ⟨ext, x5, rfl, hcur, hce, hdone⟩
        rw [List.length_map, List.take_length] at hdone
        refine ⟨row ++ ext, _, _, rfl, hcur, ?_⟩
        cases ext with
        | nil =>
          rw [List.append_nil] at hdone ⊢
          exact .inl hdone
        | cons y ys =>
          refine .inr ?_
          have : i + 1 ≤ row.length := hgrow.resolve_left fun z => absurd (hce z) (List.cons_ne_nil _ _)
          rw [List.length_append, List.length_cons]; omega
    · rintro ρ ⟨row, x4, x5, rfl, hrow, hgrow⟩
      rw [List.length_map, List.length_range] at hgrow
      have hrl0 := nd_sub_len hrow.nd hrow.sub
      have hrl : row.length ≤ W.length := Nat.le_trans hrl0 hleft
      have hclr : Closed W row := hgrow.resolve_right (by omega)
      refine d_seq (gd_app rfl (e_srtSet (ns := row) (e_v rfl) (by omega)).fz (by rw [List.length_map]; omega) ?_)
      rintro _ ⟨ms, rfl, hpw, hmem⟩
      have hpart : PartOk W ms := ⟨hpw, fun k hk => hkey k (hrow.sub k ((hmem k).mp hk)), fun e => absurd (e ▸ (hmem a).mpr hrow.top) List.not_mem_nil, fun n hn e he => (hmem _).mpr (hclr n ((hmem n).mp hn) e he), fun φ hφ x hx y hy => (hrow.conn φ hφ x ((hmem x).mp hx)).trans (hrow.conn φ hφ y ((hmem y).mp hy)).symm⟩
      refine gd_set (P := fun d => d = dI ((a :: l).filter (notIn row))) (EvN.fz (EvNB.all fun B0 σ => c_lcD (xs := a :: l) (en := D.int) (i_listD (e_v rfl) B0 σ) (by omega) (notIn row) D.int (fun x => [.fro (wD W), .fro (dI (a :: l)), .own (.lst (ps.map dI ++ [dI ms])), .fro (dI row), x4, .fro (.int x), .any]) (fun x _ => g_name)
        (fun x _ => (t_test (e_op (e_v rfl) (e_v rfl) (o_nin (fl_int 0 _) (fl_dI _)))).to ?_) fun x _ _ => e_v rfl)) ?_
      · rw [List.any_map, Bool.eq_iff_iff, notIn_t]
        simp only [Function.comp_def, eqD_int', Bool.not_eq_true', List.any_eq_false, decide_eq_true_eq]
        exact ⟨fun h hm => h _ hm rfl, fun h x hx z => h (z ▸ hx)⟩
      rintro _ rfl
      have hfl : ((a :: l).filter (notIn row)).length < m := by
        rw [List.filter_cons, if_neg (by rw [notIn_t]; exact fun z => z hrow.top)]
        have := List.length_filter_le (notIn row) l
        rw [List.length_cons] at hm
        omega
      refine ⟨_, hfl, (a :: l).filter (notIn row), ps ++ [ms], _, _, _, by rw [show dLL (ps ++ [ms]) = .lst (ps.map dI ++ [dI ms]) from congrArg D.lst List.map_append]; rfl, rfl, hnd.sublist List.filter_sublist, fun x hx => hkey x (List.mem_filter.mp hx).1, fun n hn e he => ?_, fun q hq => ?_, by rw [List.length_append, List.length_singleton]; omega⟩
      · obtain ⟨h1, h2⟩ := List.mem_filter.mp hn
        refine List.mem_filter.mpr ⟨hcl n h1 e he, notIn_t.mpr fun hin => notIn_t.mp h2 ?_⟩
        obtain ⟨e2, he2, hx⟩ := List.mem_map.mp (sy.back n e he)
        have := hclr e.1 hin e2 he2
        rw [hx] at this
        exact this
      · rcases List.mem_append.mp hq with hq | hq
        · exact hps q hq
        · rw [List.mem_singleton.mp hq]; exact hpart
  · exact d_retO rfl (hR ps hps (by omega))
end
end Bs
/-! Lists of dicts that are equal: they don't differ. -/
namespace BsE2
open PySem PySem.SeqAt
open AutoSeq1 (wpAny_loadPart')
open MeetsSeq MeetsSeq2 MeetsSeq3 SeqRoads2
section
variable {P : Program} {w : World}
theorem ne_turns (a c : Addr) (xs ys : Array Value) (m m2 : Nat) (e1 e2 : Option Addr) (f1 f2 : Array (Option Value)) (hs : xs.size = ys.size) (k : Nat) :
    ∀ i : Nat, xs.size - i = k → MeetsIn P w (Builtin.«list.__eq__.loop» ⟨[.ref a, .ref c, rawInt i, rawInt 3], []⟩) (fun A R s =>
      s.heap.get? a = some { cls := .type "list", dict := e1, data := .seq xs m, slots := f1 } ∧
      s.heap.get? c = some { cls := .type "list", dict := e2, data := .seq ys m2, slots := f2 } ∧
      (∀ j (h1 : j < xs.size) (h2 : j < ys.size), EqP P w A.in1 s xs[j] ys[j] true) ∧ R (.ok (.ret (.bool false))) s) := by
  induction k with
  | zero =>
    intro i hk A R s ⟨ha, hc, he, hR⟩
    obtain ⟨hp, g, d, tk, os⟩ := s
    wp_walk using wpAny_loadPart' ha, wpAny_loadPart' hc
    have z1 : xs[((i : Nat) : Int).toNat]? = none := by simp; omega
    have z2 : ys[((i : Nat) : Int).toNat]? = none := by simp; omega
    rw [z1, z2]
    wp_walk using wpAny_loadPart' ha, wpAny_loadPart' hc
    show R (.ok (.ret (.bool (xs.size != ys.size)))) _
    rw [hs]
    simpa using hR
  | succ k ih =>
    intro i hk A R s ⟨ha, hc, he, hR⟩
    obtain ⟨hp, g, d, tk, os⟩ := s
    wp_walk using wpAny_loadPart' ha, wpAny_loadPart' hc
    have l1 : i < xs.size := by omega
    have l2 : i < ys.size := by omega
    have z1 : xs[((i : Nat) : Int).toNat]? = some xs[i] := by simp [l1]
    have z2 : ys[((i : Nat) : Int).toNat]? = some ys[i] := by simp [l2]
    have zi : ((i : Int) + 1) = ((i + 1 : Nat) : Int) := by push_cast; rfl
    rw [z1, z2]
    refine wpAny_bind (he i l1 l2 _ _ ?_)
    wp_walk
    rw [zi]
    refine ⟨plainId_quiet plain_eq_loop _, codeAny_builtin entry_eq_loop ?_⟩
    rw [Around.under_plainId plain_eq_loop _]
    exact ih (i + 1) (by omega) A R _ ⟨ha, hc, he, hR⟩
theorem ne_meets (a c : Addr) (xs ys : Array Value) (m m2 : Nat) (e1 e2 : Option Addr) (f1 f2 : Array (Option Value)) (hs : xs.size = ys.size) :
    MeetsIn P w (Builtin.«list.__ne__» ⟨[.ref a, .ref c], []⟩) (fun A R s =>
      s.heap.get? a = some { cls := .type "list", dict := e1, data := .seq xs m, slots := f1 } ∧
      s.heap.get? c = some { cls := .type "list", dict := e2, data := .seq ys m2, slots := f2 } ∧
      (∀ j (h1 : j < xs.size) (h2 : j < ys.size), EqP P w A.in1 s xs[j] ys[j] true) ∧ R (.ok (.ret (.bool false))) s) := by
  intro A R s ⟨ha, hc, he, hR⟩
  obtain ⟨hp, g, d, tk, os⟩ := s
  have sub := AutoSeq1.sub_list_list
  have same : ¬ (xs.size != ys.size) = true := by simp [hs]
  wp_walk using wpAny_loadPart' ha, wpAny_loadPart' hc
  refine ⟨plainId_quiet plain_eq_loop _, codeAny_builtin entry_eq_loop ?_⟩
  rw [Around.under_plainId plain_eq_loop _]
  exact ne_turns a c xs ys m m2 e1 e2 f1 f2 hs _ 0 rfl A R _ ⟨ha, hc, he, hR⟩
theorem ne_lists {A : Around} {s : Shared} {a c : Addr} {xs ys : Array Value} (ha : s.heap.IsList a xs) (hc : s.heap.IsList c ys) (hs : xs.size = ys.size) (hu : A.units < cLine)
    (he : ∀ j (h1 : j < xs.size) (h2 : j < ys.size), EqP P w A.in1 s xs[j] ys[j] true) (E Q : Value → Shared → Prop) (h : Q (.bool false) s) : wpAny (model P w) A (richCompare .NotEq (.ref a) (.ref c)) Q E s := by
  obtain ⟨⟨c1, d1, t1, s1⟩, g1, k1, m1, y1⟩ := id ha
  obtain ⟨⟨c2, d2, t2, s2⟩, g2, k2, m2, y2⟩ := id hc
  simp only at k1 y1 k2 y2
  subst k1 y1 k2 y2
  have ta : s.TypeIs (.ref a) "list" := ⟨_, g1, rfl⟩
  have tc : s.TypeIs (.ref c) "list" := ⟨_, g2, rfl⟩
  refine wpAny_richCompare_same_room (op := .NotEq) ta tc F.slot_list_ne ?_ hu
  refine call_meetsIn F.slot_list_ne ta F.entry_list_ne (F.args_list_ne_2 _ _) (ne_meets a c xs ys m1 m2 d1 d2 s1 s2 hs) ⟨g1, g2, he, ?_⟩
  show Value.bool false ≠ Value.notImplemented ∧ Q (.bool false) s
  exact ⟨(fun x => nomatch x), h⟩
end
end BsE2
namespace Bs
open PySem L2
/-- the same plain data -/
def EqPl (K : PySem.W.Frag) (H : Hp) (x y : V) : Prop := (∃ z, x = V.str z ∧ y = V.str z) ∨ ∃ d, Dp K H x d ∧ Dp K H y d ∧ d.canLay0 = true ∧ d.depth ≤ 8 ∧ PyData.eqv d d = true
/-- two dicts of the same plain data -/
def EqDct (K : PySem.W.Frag) (H : Hp) (x y : V) : Prop := ∃ a b ks ls, x = V.ref a ∧ y = V.ref b ∧ Rd H a (.dK ks) ∧ Rd H b (.dK ls) ∧ ks.length = ls.length ∧
  ∀ p ∈ ks, ∃ u, valV ls p.1 = some u ∧ EqPl K H p.2 u
def rNeW (K : PySem.W.Frag) : R2 := fun x y H Q => ∃ a b xs ys, x = V.ref a ∧ y = V.ref b ∧ SqL K H a xs ∧ SqL K H b ys ∧ Paired (EqDct K H) xs ys ∧ Q (.bl false) H
section
variable {X : Cx} {pins : List (Addr × Obj)} {σ : L2.St} {H : Hp} {s : Shared}
theorem dct_hits (I : L2.Inv X pins σ H s) {A : Around} (hu : A.units + 8 < cLine) {ls : List (Key × V)} {vb : List (Key × Value)} (rb : KV ls vb) : ∀ {ks : List (Key × V)} {va : List (Key × Value)}, KV ks va →
    (∀ p ∈ ks, ∃ u, valV ls p.1 = some u ∧ EqPl X.K H p.2 u) → PySem.W.KeqHitsP X.prog X.w A s vb va true := by
  intro ks va ra
  unfold KV at ra
  induction ra with
  | nil => intro _; exact .nil
  | @cons p q ps qs h t k =>
    intro hp
    obtain ⟨h1, h2⟩ := h
    obtain ⟨u, e, hpl⟩ := hp p List.mem_cons_self
    have rr : RelO (some u) (valueAt vb p.1) := by rw [← e]; exact rb.val p.1
    obtain ⟨y, hy, ry⟩ := rr.some_of
    obtain ⟨key, v⟩ := q
    have h1' : p.1 = key := h1
    rw [h1'] at hy
    have hq : SeqAt.EqP X.prog X.w A s v y true := by
      rcases hpl with ⟨z, e1, e2⟩ | ⟨d, d1, d2, lay, dep, eqv⟩
      · rw [e1] at h2
        rw [e2] at ry
        exact (eqAt_same h2 ry rfl).eqP
      · obtain ⟨as, r1⟩ := Dp.reads I d p.2 v d1 h2
        obtain ⟨bs, r2⟩ := Dp.reads I d u y d2 ry
        have hm : min d.depth d.depth ≤ 8 := by omega
        have := SeqAt.eqAt_reads d d A s v y as bs r1 r2 lay lay (by omega)
        rw [eqv] at this
        exact this.eqP
    have := PySem.W.KeqHitsP.hit hy hq (k fun p' hm => hp p' (List.mem_cons_of_mem _ hm))
    exact this
theorem dct_run (I : L2.Inv X pins σ H s) {A : Around} (hu : A.units + 16 < cLine) {x y : V} {v u : Value} (h : EqDct X.K H x y) (rx : RelV x v) (ry : RelV y u) : SeqAt.EqP X.prog X.w A s v u true := by
  obtain ⟨a, b, ks, ls, rfl, rfl, ha, hb, hl, hp⟩ := h
  cases (show v = Value.ref a from rx)
  cases (show u = Value.ref b from ry)
  by_cases e : a = b
  · subst e; exact (SeqAt.EqAt.same _).eqP
  · refine SeqAt.eqP_refs e fun E Q q => ?_
    obtain ⟨_, na, va, ra, da⟩ := dk_rd I.hok ha
    obtain ⟨_, nb, vb, rb, db⟩ := dk_rd I.hok hb
    refine PySem.W.rcP_dicts (knd := mixKind X.prog X.w) (r := true) na nb da db (by omega) (fun _ => dct_hits I (by show A.units + 1 + 8 < cLine; omega) rb ra hp) E Q ?_
    have e : va.length = vb.length := by rw [← ra.length, ← rb.length]; exact hl
    rw [show (va.length == vb.length && true) = true by rw [e]; simp]
    exact q
theorem op_neW (hu : X.A.units + 64 < cLine) : OpR X (compareOp .NotEq) (rNeW X.K) := by
  intro pins s σ H x y v u Q I rx ry h
  obtain ⟨a, b, xs, ys, rfl, rfl, ha, hb, hp, q⟩ := h
  cases (show v = Value.ref a from rx)
  cases (show u = Value.ref b from ry)
  obtain ⟨us, r1, p1, _⟩ := I.list ha
  obtain ⟨ws, r2, p2, _⟩ := I.list hb
  have hsz : us.toArray.size = ws.toArray.size := by
    rw [List.size_toArray, List.size_toArray, ← r1.length, ← r2.length]
    exact Paired.length hp
  refine BsE2.ne_lists (A := X.A) p1.isList p2.isList hsz (by omega) (fun j h1 h2 => ?_) _ _ ⟨.bl false, H, I, rfl, q⟩
  have k := items_run (A := X.A.in1) (F := EqDct X.K H) (fun x y v u f rx ry => dct_run I (by show X.A.units + 1 + 16 < cLine; omega) f rx ry) hp r1 r2 j (by simpa using h1) (by simpa using h2)
  simpa using k
end
/-! by data -/
theorem eqD_refl {n : Nat} {d : D} (h : Fl n d) : eqD d d = true := by
  have go : ∀ {ds : List D}, (∀ x ∈ ds, eqD x x = true) → eqDs ds ds = true := by
    intro ds
    induction ds with
    | nil => intro _; rfl
    | cons d ds ih =>
      intro h
      show (eqD d d && eqDs ds ds) = true
      rw [h d List.mem_cons_self, ih fun x hx => h x (List.mem_cons_of_mem _ hx)]; rfl
  induction h with
  | non n => exact eqD_nn
  | bl n b => rw [eqD_bl]; exact beq_self_eq_true b
  | int n i => rw [eqD_int]; exact beq_self_eq_true i
  | tup _ ih => rw [eqD_tt]; exact go ih
  | lst _ ih => rw [eqD_ll]; exact go ih
def Pln (d : D) : Prop := (∃ z, d = .str z) ∨ ∃ n, n ≤ 8 ∧ Fl n d
theorem eqPl_of {K : PySem.W.Frag} {F H : Hp} (ex : Ext F H) {d : D} (h : Pln d) {x y : V} (rx : Rdd K F d x) (ry : Rdd K F d y) : EqPl K H x y := by
  rcases h with ⟨z, rfl⟩ | ⟨n, hn, hf⟩
  · unfold Rdd at rx ry
    exact .inl ⟨z, rx, ry⟩
  · obtain ⟨h1, h2⟩ := fl_lay hf
    exact .inr ⟨toPy d, fl_dp ex hf x rx, fl_dp ex hf y ry, h1, by omega, eqD_refl hf⟩
theorem valV_mem : ∀ {kvs : List (Key × V)} {p : Key × V}, (kvs.map (·.1)).Nodup → p ∈ kvs → valV kvs p.1 = some p.2
  | q :: kvs, p, nd, hp => by
    rw [List.map_cons, List.nodup_cons] at nd
    rcases List.mem_cons.mp hp with rfl | hp
    · exact valV_pos rfl
    · have : ¬ q.1 = p.1 := fun z => nd.1 (z ▸ List.mem_map.mpr ⟨p, hp, rfl⟩)
      rw [valV_neg this]; exact valV_mem nd.2 hp
theorem getD_mem {ks : List Key} {ds : List D} {k : Key} {d : D} (h : getD ks ds k = some d) : d ∈ ds := by
  unfold getD at h
  obtain ⟨p, hp, rfl⟩ := Option.map_eq_some_iff.mp h
  exact (List.of_mem_zip (List.mem_of_find?_eq_some hp)).2
theorem eqDct_of {K : PySem.W.Frag} {F H : Hp} (ex : Ext F H) {ks : List Key} {ds : List D} (nd : ks.Nodup) (h : ∀ d ∈ ds, Pln d) {x y : V} (rx : Rdd K F (.dik ks ds) x) (ry : Rdd K F (.dik ks ds) y) : EqDct K H x y := by
  unfold Rdd at rx ry
  obtain ⟨a, m1, rfl, fa, k1, r1⟩ := rx
  obtain ⟨b, m2, rfl, fb, k2, r2⟩ := ry
  refine ⟨a, b, m1, m2, rfl, rfl, ex.rd fa, ex.rd fb, ?_, fun p hp => ?_⟩
  · have := congrArg List.length (k1.trans k2.symm)
    rw [List.length_map, List.length_map] at this; exact this
  · have g1 := rd_get r1 p.1
    have g2 := rd_get r2 p.1
    have hv := valV_mem (by rw [k1]; exact nd) hp
    rw [k1] at g1
    rw [k2] at g2
    cases e : getD ks ds p.1 with
    | none => rw [e] at g1; rw [hv] at g1; cases g1
    | some d =>
      rw [e] at g1 g2
      obtain ⟨v1, e1, q1⟩ := g1
      obtain ⟨v2, e2, q2⟩ := g2
      rw [hv] at e1
      cases e1
      exact ⟨v2, e2, eqPl_of ex (h d (getD_mem e)) q1 q2⟩
theorem o_neW {K : PySem.W.Frag} {ds : List D} (h : ∀ d ∈ ds, ∃ ks es, d = .dik ks es ∧ ks.Nodup ∧ ∀ e ∈ es, Pln e) : OpD K (rNeW K) (.lst ds) (.lst ds) (.bl false) := opd_val fun F H x y ex rx ry => by
  unfold Rdd at rx ry
  obtain ⟨a, xs, rfl, fa, ra⟩ := rx
  obtain ⟨b, ys, rfl, fb, rb⟩ := ry
  have go : ∀ {ds : List D} {xs ys : List V}, (∀ d ∈ ds, ∃ ks es, d = .dik ks es ∧ ks.Nodup ∧ ∀ e ∈ es, Pln e) → RdL K F ds xs → RdL K F ds ys → Paired (EqDct K H) xs ys := by
    intro ds
    induction ds with
    | nil => intro xs ys _ r1 r2; rw [r1.inv0, r2.inv0]; exact .nil
    | cons d ds ih =>
      intro xs ys h r1 r2
      obtain ⟨v1, t1, rfl, a1, b1⟩ := r1.inv
      obtain ⟨v2, t2, rfl, a2, b2⟩ := r2.inv
      obtain ⟨ks, es, rfl, nd, hp⟩ := h d List.mem_cons_self
      exact .cons (eqDct_of ex nd hp a1 a2) (ih (fun d hd => h d (List.mem_cons_of_mem _ hd)) b1 b2)
  exact ⟨.bl false, fun Q q => ⟨a, b, xs, ys, rfl, rfl, SqL.of (ex.lst fa), SqL.of (ex.lst fb), go h ra rb, q⟩, rdb⟩
section
variable {X : Cx}
theorem op_neWK (K : PySem.W.Frag) (hu : X.A.units + 64 < cLine) (h : X.K = K) : OpR X (compareOp .NotEq) (rNeW K) := by subst h; exact op_neW hu
end
end Bs
namespace Bs
open PySem L2
theorem no_head (p : Int → Bool) : ∀ l : List Int, ((l.filter p).map D.int ++ [D.non])[0]? = some (noD (l.find? p))
  | [] => rfl
  | x :: l => by
    rw [List.filter_cons, List.find?_cons]
    cases h : p x with
    | true => rw [if_pos rfl]; rfl
    | false => rw [if_neg Bool.false_ne_true]; exact no_head p l
theorem fl_noD (o : Option Int) : Fl 0 (noD o) := by cases o <;> constructor
theorem eqD_noD (o : Option Int) : eqD (noD o) (noD o) = true := eqD_refl (fl_noD o)
theorem isNon_noD (o : Option Int) : isNon (noD o) = o.isNone := by cases o <;> rfl
theorem dM_keys_nd {α : Type} {m : List (Int × α)} (h : (m.map (·.1)).Nodup) : (m.map fun p => (Sum.inl p.1 : Key)).Nodup := by
  have : (m.map fun p => (Sum.inl p.1 : Key)) = (m.map (·.1)).map Sum.inl := by rw [List.map_map]; rfl
  rw [this]
  exact List.Pairwise.map _ (fun a b h z => h (Sum.inl.inj z)) h
theorem fl_eD (e : Nd) : Fl 1 (eD e) := fl_tup fun x hx => by
  simp only [List.mem_cons, List.not_mem_nil, or_false] at hx
  rcases hx with rfl | rfl | rfl
  · exact .int _ _
  · exact .int _ _
  · exact .bl _ _
theorem fl_pD (p : Pl) : Fl 3 (pD p) := fl_tup fun x hx => by
  simp only [List.mem_cons, List.not_mem_nil, or_false] at hx
  rcases hx with rfl | rfl
  · exact .int _ _
  · exact fl_map fl_eD _
section
variable {P : Program} {w : World} {K : PySem.W.Frag} {mg : Str → Option Value} {base : Heap}
/-- what the law asks of a web and rows: if all say yes, the web is flat -/
def ctRight : Ctr := fun cs R => ∃ (W : Web) (RM : RowsM), cs = [.fro (wD W), .fro (dM dI RM)] ∧ FaceOk W ∧ (∀ k ∈ W.map (·.1), k ∈ RM.map (·.1)) ∧ RowsFit W (rowOf RM) ∧ ((firstNo W (rowOf RM)).isNone = true → flatB W = true) ∧ R (.fro (.bl true))
theorem ok_right (Z : Blt mg) (T : Def K mg "_law_right" st_law_right ["_law_web_here", "_law_rows_here"]) (D_law_mark : OkDef P w K mg base 1 "_law_mark" ["_law_numbers"] ctMark) (D_law_copy : OkDef P w K mg base 1 "_law_copy" ["_law_web_here"] ctCopy)
    (D_law_says : OkDef P w K mg base 3 "_law_says" ["_law_web_here", "_law_name", "_law_rows_here"] ctLSays) (D_first_no : OkDef P w K mg base 6 "first_no" ["web", "saying", "marks"] ctFirstNo) (D_law_is_flat : OkDef P w K mg base 3 "_law_is_flat" ["_law_web_here"] ctFlat) :
    OkDef P w K mg base 7 "_law_right" ["_law_web_here", "_law_rows_here"] ctRight := by
  refine ok_def (k := 6) (n := 4) T sc_law_right rfl (by rintro cs P ⟨_, _, rfl, _⟩; rfl) fun f cdv A outer s H E hr hu1 hu => ?_
  refine ⟨_, (pss_cons (ps_set (i := 2) sc_law_right.nd rfl (by first | exact Or.inl rfl | exact Or.inr rfl) (pe_callTy (call_dctK K rfl rfl) (by rfl) Z.dict (by decide +kernel) (pa_cons (pe_lockOr (pe_lc (own := [("_law_name", 5)]) (g := (gName 5)) (tt := tYes) rfl sc_law_right.nd (pi_keys (pv 0)) (blkOk_by (N := N_law_right) (sc := defScope st_law_right) (by decide +kernel)) (fun _ _ _ _ _ => (pg_name (i := 5) sc_law_right.nd rfl (by first | exact Or.inl rfl | exact Or.inr rfl))) (fun _ _ _ _ _ => pts_nil) (fun _ _ _ _ _ => (pe_tup (pa_cons (pv 5) (pa_cons (pe_fnK K D_law_mark rfl rfl rfl rfl rfl hr (by rfl) (pa_cons (pe_ix (ix_anyK K hu1 rfl) (pv 1) (pv 5) (fun _ _ => rfl)) pa_nil)) pa_nil)))))) pa_nil)))
      (pss_cons (ps_set (i := 3) sc_law_right.nd rfl (by first | exact Or.inl rfl | exact Or.inr rfl) (pe_lst (pa_cons (pe_fnK K D_law_copy rfl rfl rfl rfl rfl hr (by rfl) (pa_cons (pv 0) pa_nil)) (pa_cons (pe_callTy (call_dctK K rfl rfl) (by rfl) Z.dict (by decide +kernel) (pa_cons (pv 2) pa_nil)) pa_nil))))
      (pss_cons (ps_set (i := 4) sc_law_right.nd rfl (by first | exact Or.inl rfl | exact Or.inr rfl) (pe_op (op_addK K rfl) (pe_lc (own := [("_law_name", 5)]) (g := (gName 5)) rfl sc_law_right.nd (pi_listK K rfl (pe_callB (call_srtK K rfl hr.units rfl) (by rfl) Z.sorted (by decide +kernel) (pa_cons (pv 0) pa_nil))) (blkOk_by (N := N_law_right) (sc := defScope st_law_right) (by decide +kernel)) (fun _ _ _ _ _ => (pg_name (i := 5) sc_law_right.nd rfl (by first | exact Or.inl rfl | exact Or.inr rfl))) (fun _ _ _ _ _ => (pts_one (pt_not (pt_val (pe_fnK K D_law_says rfl rfl rfl rfl rfl hr (by rfl) (pa_cons (pv 0) (pa_cons (pv 5) (pa_cons (pv 1) pa_nil)))))))) (fun _ _ _ _ _ => (pv 5))) (pe_lst (pa_cons pe_non pa_nil))))
      (pss_cons (ps_if (PW.pt (pw_or (pt_cmpR (op_neK K hr.units rfl) (pe_fnK K D_first_no rfl rfl rfl rfl rfl hr (by rfl) (pa_cons (pe_ix (ix_anyK K hu1 rfl) (pv 3) pe_int (fun _ _ => rfl)) (pa_cons (pe_tup (pa_cons pe_str pa_nil)) (pa_cons (pe_ix (ix_anyK K hu1 rfl) (pv 3) pe_int (fun _ _ => rfl)) pa_nil)))) (pe_ix (ix_anyK K hu1 rfl) (pv 4) pe_int (fun _ _ => rfl)) (nomark _)) (pw_or1 (pt_cmpR (op_neWK K hr.units rfl) (pv 3) (pe_lst (pa_cons (pv 0) (pa_cons (pv 2) pa_nil))) (nomark _))))) (pss_one (ps_ret pe_bl)) pss_nil)
      (pss_one (ps_ret (pe_or (pe_cmpR op_isNot (pe_ix (ix_anyK K hu1 rfl) (pv 4) pe_int (fun _ _ => rfl)) pe_non (nomark _)) (pe_one (pe_fnK K D_law_is_flat rfl rfl rfl rfl rfl hr (by rfl) (pa_cons (pv 0) pa_nil)))))))))), ?_⟩
  rintro cs R ⟨W, RM, rfl, hfo, hk, hfit, himp, hR⟩
  have hf := hfo.fit
  have hlen := hf.len
  have hrow : ∀ k ∈ W.map (·.1), lk RM k = some (rowOf RM k) := fun k h => lk_at (hk k h) []
  have hrl : ∀ k ∈ W.map (·.1), (rowOf RM k).length ≤ 700 := fun k h => by
    obtain ⟨q, hq⟩ := lk_keys h
    obtain ⟨_, h2, h3⟩ := hfit.fit k q hq
    omega
  have hmk : ((marksOf (rowOf RM) W).map (·.1)) = W.map (·.1) := by unfold marksOf; rw [List.map_map]; rfl
  refine d_seq (d_set (d := dM D.str (marksOf (rowOf RM) W)) ((e_cbN (l_cons (EvN.to (e := .lst ((marksOf (rowOf RM) W).map fun p => .tup [.int p.1, .str p.2])) (n_lcK rfl fun B0 σ hi => c_lcM (xs := W) (en := fun p => .int p.1) (ρ := [.fro (wD W), .fro (dM dI RM), .any, .any, .any, .any]) (by rw [keys_kD] at hi; exact hi) (by omega) (fun p => .tup [.int p.1, .str (mk (rowOf RM p.1))]) (fun p => [.fro (wD W), .fro (dM dI RM), .any, .any, .any, .fro (.int p.1)]) (fun p _ => g_name)
    fun p hp => e_tup (l_cons (e_v rfl) (l_cons (e_callF (a_cons (e_op (e_v rfl) (e_v rfl) (o_ixM (hrow p.1 (List.mem_map.mpr ⟨p, hp, rfl⟩)))) a_nil) fun P h => ⟨rowOf RM p.1, rfl, hrl p.1 (List.mem_map.mpr ⟨p, hp, rfl⟩), h⟩) l_nil))) (by rintro _ rfl; unfold marksOf; rw [List.map_map]; rfl)) l_nil) (c_dictL (by rw [hmk]; exact hf.nd))).fz) ?_)
  refine d_seq (d_set (d := .lst [wD W, dM D.str (marksOf (rowOf RM) W)]) (e_lstF (l_cons (e_callO (a_cons (e_v rfl) a_nil) fun P h => ⟨W, rfl, hf, h⟩) (l_cons (e_cbN (l_cons (e_v rfl) l_nil) c_dictD).fz l_nil))) ?_)
  refine d_seq (d_set (d := .lst (((srt (W.map (·.1))).filter fun n => !sayN W (rowOf RM) n).map D.int ++ [.non])) (e_op (EvN.to (e := .lst (((srt (W.map (·.1))).filter fun n => !sayN W (rowOf RM) n).map D.int)) (EvNB.all fun B0 σ => c_lcD (xs := srt (W.map (·.1))) (en := D.int) (i_listD (e_cbN (l_cons (e_v rfl) l_nil) (c_srtM hlen)).fz B0 σ) (by rw [srt_len, List.length_map]; omega) (fun n => !sayN W (rowOf RM) n) D.int (fun n => [.fro (wD W), .fro (dM dI RM), .fro (dM D.str (marksOf (rowOf RM) W)), .fro (.lst [wD W, dM D.str (marksOf (rowOf RM) W)]), .any, .fro (.int n)]) (fun n _ => g_name)
    (fun n hn => t_not (t_B (e_callF (a_cons (e_v rfl) (a_cons (e_v rfl) (a_cons (e_v rfl) a_nil))) fun P h => ⟨W, n, RM, rfl, srt_mem.mp hn, hk, hfit, h⟩))) fun n _ _ => e_v rfl) (by rintro _ rfl; rfl)) (e_lstF (l_cons e_n l_nil)) (o_addL ?_)) ?_)
  · have := List.length_filter_le (fun n => !sayN W (rowOf RM) n) (srt (W.map (·.1)))
    rw [srt_len, List.length_map] at this
    rw [List.length_map]
    show _ + 1 ≤ 100000
    omega
  have hno : (((srt (W.map (·.1))).filter fun n => !sayN W (rowOf RM) n).map D.int ++ [D.non])[0]? = some (noD (firstNo W (rowOf RM))) := no_head _ _
  generalize ((srt (W.map (·.1))).filter fun n => !sayN W (rowOf RM) n).map D.int ++ [D.non] = no at hno
  refine d_seq (d_if (b := false) ((t_or (t_test (e_op (e_callF (d := noD (firstNo W (rowOf RM))) (a_cons (e_lat 0 rfl rfl rfl) (a_cons (e_tup (l_cons e_s l_nil)) (a_cons (e_lat 1 rfl rfl rfl) a_nil))) fun P h => ⟨W, rowOf RM, rfl, hfit, h⟩) (e_lat 0 rfl rfl hno) (o_ne (fl_noD _) (fl_noD _)))) fun _ => t_test (e_op (e_v rfl) (e_lstF (l_cons (e_v rfl) (l_cons (e_v rfl) l_nil))) (o_neW fun d hd => ?_))).to ?_) (fun e => nomatch e) fun _ => d_next ?_)
  · simp only [List.mem_cons, List.not_mem_nil, or_false] at hd
    rcases hd with rfl | rfl
    · refine ⟨_, _, rfl, dM_keys_nd hf.nd, fun e he => ?_⟩
      obtain ⟨p, _, rfl⟩ := List.mem_map.mp he
      exact .inr ⟨3, by decide, fl_pD p.2⟩
    · refine ⟨_, _, rfl, dM_keys_nd (by rw [hmk]; exact hf.nd), fun e he => ?_⟩
      obtain ⟨p, _, rfl⟩ := List.mem_map.mp he
      exact .inl ⟨_, rfl⟩
  · rw [eqD_noD]; rfl
  refine d_ret (e_orV (a := !(firstNo W (rowOf RM)).isNone) (EvD.to (e_op (e_lat 0 rfl rfl hno) e_n o_isnt) (by rw [isNon_noD])) fun h => e_callF (a_cons (e_v rfl) a_nil) fun P h' => ⟨W, rfl, hfo, h'⟩) ?_
  have : (!(firstNo W (rowOf RM)).isNone || flatB W) = true := by
    cases e : (firstNo W (rowOf RM)).isNone with
    | true => rw [himp e]; rfl
    | false => rfl
  rw [this]
  exact hR
end
end Bs
namespace Bs
open PySem L2
/-- a part of a web -/
def subW (W : Web) (ms : List Int) : Web := ms.map fun n => (n, (lk W n).getD (0, []))
structure RightOk (W : Web) (RM : RowsM) : Prop where
  face : FaceOk W
  key : ∀ k ∈ W.map (·.1), k ∈ RM.map (·.1)
  fit : RowsFit W (rowOf RM)
  flat : (firstNo W (rowOf RM)).isNone = true → flatB W = true
/-- the crossings that the law makes -/
def CrossOk (W : Web) (RM : RowsM) : Prop := ∀ a b c d, (a, b) ∈ pairsOf W → (c, d) ∈ pairsOf W → [a, b, c, d].Nodup → d ∉ orderOf W a → c ∉ orderOf W b →
  Sym (crossW W a b c d) ∧ ∀ ms, PartOk (crossW W a b c d) ms → RightOk (subW (crossW W a b c d) ms) RM
section
variable {P : Program} {w : World} {K : PySem.W.Frag} {mg : Str → Option Value} {base : Heap}
def ctCrossedRight : Ctr := fun cs R => ∃ (W : Web) (RM : RowsM), cs = [.fro (wD W), .fro (dM dI RM), .pool] ∧ Fit W ∧ (pairsOf W).length ≤ 100 ∧ CrossOk W RM ∧ R (.fro (.bl true))
theorem ok_crossed_right (Z : Blt mg) (T : Def K mg "_law_crossed_right" st_law_crossed_right ["_law_web_here", "_law_rows_here", "_law_pool_here"]) (D_law_both_ways : OkDef P w K mg base 1 "_law_both_ways" ["_law_web_here"] ctPairs) (D_law_take : OkDef P w K mg base 1 "_law_take" ["_law_pool_here", "_law_many"] ctTake)
    (D_law_can : OkDef P w K mg base 2 "_law_can" ["_law_web_here", "_law_four"] ctCan) (D_law_crossed : OkDef P w K mg base 1 "_law_crossed" ["_law_web_here", "_law_four"] ctCrossed) (D_law_parts_of : OkDef P w K mg base 1 "_law_parts_of" ["_law_web_here"] ctParts)
    (D_law_right : OkDef P w K mg base 7 "_law_right" ["_law_web_here", "_law_rows_here"] ctRight) : OkDef P w K mg base 8 "_law_crossed_right" ["_law_web_here", "_law_rows_here", "_law_pool_here"] ctCrossedRight := by
  refine ok_def (k := 7) (n := 6) T sc_law_crossed_right rfl (by rintro cs P ⟨_, _, rfl, _⟩; rfl) fun f cdv A outer s H E hr hu1 hu => ?_
  refine ⟨_, (pss_cons (ps_set (i := 3) sc_law_crossed_right.nd rfl (by first | exact Or.inl rfl | exact Or.inr rfl) (pe_fnK K D_law_both_ways rfl rfl rfl rfl rfl hr (by rfl) (pa_cons (pv 0) pa_nil)))
      (pss_cons (ps_for PassesOwn.never rfl (pi_range1 (by rfl) Z.range (pa_cons pe_int pa_nil)) (pg_name (i := 4) sc_law_crossed_right.nd rfl (by first | exact Or.inl rfl | exact Or.inr rfl)) (pss_cons (ps_if (pt_cmpR (op_eqK K hr.units rfl) (pv 3) (pe_lst pa_nil) (nomark _)) (pss_one (ps_ret pe_bl)) pss_nil)
      (pss_cons (ps_set (i := 5) sc_law_crossed_right.nd rfl (by first | exact Or.inl rfl | exact Or.inr rfl) (pe_op (op_addK K rfl) (pe_ix (ix_anyK K hu1 rfl) (pv 3) (pe_fnK K D_law_take rfl rfl rfl rfl rfl hr (by rfl) (pa_cons (pv 2) (pa_cons (pe_callB (call_lenAK K rfl) (by rfl) Z.len (by decide +kernel) (pa_cons (pv 3) pa_nil)) pa_nil))) (fun _ _ => rfl)) (pe_ix (ix_anyK K hu1 rfl) (pv 3) (pe_fnK K D_law_take rfl rfl rfl rfl rfl hr (by rfl) (pa_cons (pv 2) (pa_cons (pe_callB (call_lenAK K rfl) (by rfl) Z.len (by decide +kernel) (pa_cons (pv 3) pa_nil)) pa_nil))) (fun _ _ => rfl))))
      (pss_one (ps_if (pt_val (pe_fnK K D_law_can rfl rfl rfl rfl rfl hr (by rfl) (pa_cons (pv 0) (pa_cons (pv 5) pa_nil)))) (pss_cons (ps_set (i := 6) sc_law_crossed_right.nd rfl (by first | exact Or.inl rfl | exact Or.inr rfl) (pe_fnK K D_law_crossed rfl rfl rfl rfl rfl hr (by rfl) (pa_cons (pv 0) (pa_cons (pv 5) pa_nil))))
      (pss_one (ps_for PassesOwn.never rfl (pi_listK K rfl (pe_fnK K D_law_parts_of rfl rfl rfl rfl rfl hr (by rfl) (pa_cons (pv 6) pa_nil))) (pg_name (i := 7) sc_law_crossed_right.nd rfl (by first | exact Or.inl rfl | exact Or.inr rfl)) (pss_one (ps_if (pt_not (pt_val (pe_fnK K D_law_right rfl rfl rfl rfl rfl hr (by rfl) (pa_cons (pe_callTy (call_dctK K rfl rfl) (by rfl) Z.dict (by decide +kernel) (pa_cons (pe_lc (own := [("_law_name", 8)]) (g := (gName 8)) (tt := tYes) rfl sc_law_crossed_right.nd (pi_listK K rfl (pv 7)) (blkOk_by (N := N_law_crossed_right) (sc := defScope st_law_crossed_right) (by decide +kernel)) (fun _ _ _ _ _ => (pg_name (i := 8) sc_law_crossed_right.nd rfl (by first | exact Or.inl rfl | exact Or.inr rfl))) (fun _ _ _ _ _ => pts_nil) (fun _ _ _ _ _ => (pe_tup (pa_cons (pv 8) (pa_cons (pe_ix (ix_anyK K hu1 rfl) (pv 6) (pv 8) (fun _ _ => rfl)) pa_nil))))) pa_nil)) (pa_cons (pv 1) pa_nil))))) (pss_one (ps_ret pe_bl)) pss_nil))))) pss_nil)))))
      (pss_one (ps_ret pe_bl)))), ?_⟩
  rintro cs R ⟨W, RM, rfl, hf, hfew, hX, hR⟩
  refine d_seq (d_set (e_callF (a_cons (e_v rfl) a_nil) fun P h => ⟨W, rfl, hf, h⟩) ?_)
  refine d_seq (d_for (i_rng1 (n := 6) (l_cons e_i l_nil) (by decide)) (fun _ ρ => ∃ x4 x5 x6 x7 : Cell, ρ = [.fro (wD W), .fro (dM dI RM), .pool, .fro (.lst ((pairsOf W).map prD)), x4, x5, x6, x7, .any]) ⟨⟨_, _, _, _, rfl⟩, ?_, ?_⟩)
  · rintro i d ρ hd ⟨x4, x5, x6, x7, rfl⟩
    refine ⟨_, _, g_name, ?_⟩
    refine d_seq (d_if (b := (pairsOf W).isEmpty) ((t_test (e_op (e_v rfl) (e_lstF l_nil) (o_eq (fl_prs _) (fl_nil 0)))).to (by rw [eqD_lnil]; cases pairsOf W <;> rfl)) (fun _ => d_ret e_b hR) fun hb => d_next ?_)
    have hpos : 1 ≤ (pairsOf W).length := by
      cases h : pairsOf W with
      | nil => rw [h] at hb; cases hb
      | cons p l => simp
    have one : ∀ ρ : List Cell, ρ[2]? = some .pool → ρ[3]? = some (.fro (.lst ((pairsOf W).map prD))) → Ev K (tOp (rIxA K) (tVar 3) (tCall (spC K ctTake) [] E0 (tCons (tVar 2) (tCons (tCB (rLenA K) (tCons (tVar 3) tNil)) tNil)))) ρ (fun d => ∃ p ∈ pairsOf W, d = prD p) := fun ρ h1 h2 =>
      g_op (P' := fun _ => Tk ((pairsOf W).length : Nat)) (e_v h2) (fun _ _ => e_take h1 ((e_cb (l_cons (e_v h2) l_nil) c_lenL).to (by rw [List.length_map])) (by omega) (by omega)) (by rintro _ _ rfl h; exact o_ixTk (ρ := []) h)
    refine d_seq (gd_set (P := fun d => ∃ a b c d', (a, b) ∈ pairsOf W ∧ (c, d') ∈ pairsOf W ∧ d = .tup [.int a, .int b, .int c, .int d']) (g_op (one _ rfl rfl) (fun _ _ => one _ rfl rfl) (by
      rintro _ _ ⟨p, hp, rfl⟩ ⟨q, hq, rfl⟩
      exact op_of (o_addT (List.cons_ne_nil _ _) (List.cons_ne_nil _ _) (by show 2 + 2 ≤ 100000; decide)) ⟨p.1, p.2, q.1, q.2, hp, hq, rfl⟩)) ?_)
    rintro _ ⟨a, b, c, d', hab, hcd, rfl⟩
    refine gd_if (gt_B (g_call (R := fun x => ∃ r : Bool, x = .bl r ∧ (r = true → [a, b, c, d'].Nodup ∧ d' ∉ orderOf W a ∧ c ∉ orderOf W b)) (a_cons (e_v rfl) (a_cons (e_v rfl) a_nil)) fun cs e => e ▸ ⟨W, a, b, c, d', rfl, fun r h => ⟨_, .inl rfl, r, rfl, h⟩⟩) fun x ⟨r, e, h⟩ => ⟨r, e, h⟩) (fun h => ?_) fun _ => d_next ⟨_, _, _, _, rfl⟩
    obtain ⟨hnd, h1, h2⟩ := h rfl
    obtain ⟨hsy, hparts⟩ := hX a b c d' hab hcd hnd h1 h2
    refine d_seq (d_set (e_callO (a_cons (e_v rfl) (a_cons (e_v rfl) a_nil)) fun P h => ⟨W, a, b, c, d', rfl, hf, hnd, h⟩) ?_)
    generalize crossW W a b c d' = V at hsy hparts
    refine gd_for (P := fun ds => ∃ ps : List (List Int), ds = ps.map dI ∧ (∀ ms ∈ ps, PartOk V ms) ∧ ps.length ≤ 64) (fun B0 σ => i_list (g_call (R := fun d => ∃ ps : List (List Int), d = dLL ps ∧ (∀ ms ∈ ps, PartOk V ms) ∧ ps.length ≤ 64) (a_cons (e_v rfl) a_nil) fun cs e => e ▸ ⟨V, rfl, hsy, fun ps hp hl => ⟨_, .inr rfl, ps, rfl, hp, hl⟩⟩) fun d ⟨ps, e, h⟩ => ⟨_, e, ps, rfl, h⟩) ?_
    rintro _ ⟨ps, rfl, hps, hpl⟩
    refine ⟨fun _ ρ => ∃ x7 : Cell, ρ = [.fro (wD W), .fro (dM dI RM), .pool, .fro (.lst ((pairsOf W).map prD)), .fro d, .fro (.tup [.int a, .int b, .int c, .int d']), .fro (wD V), x7, .any], ⟨⟨_, rfl⟩, ?_, ?_⟩⟩
    · rintro k e ρ he ⟨x7, rfl⟩
      obtain ⟨ms, hms, hmm, rfl⟩ := map_get he
      have hpart := hps ms hmm
      have hro := hparts ms hpart
      have hsk : (subW V ms).map (·.1) = ms := by unfold subW; rw [List.map_map]; show ms.map id = ms; rw [List.map_id]
      have hml : ms.length ≤ 100000 := by
        have := hro.face.fit.len
        have h2 := congrArg List.length hsk
        rw [List.length_map] at h2
        omega
      refine ⟨_, _, g_name, d_if (b := false) ((t_not (t_B (e_callF (d := .bl true) (a_cons (e_cbN (l_cons (EvN.to (e := .lst ((subW V ms).map fun p => .tup [.int p.1, pD p.2])) (EvNB.all fun B0 σ => c_lcM (xs := ms) (en := D.int) (i_listD (e_v rfl) B0 σ) hml (fun n => .tup [.int n, pD ((lk V n).getD (0, []))]) (fun n => [.fro (wD W), .fro (dM dI RM), .pool, .fro (.lst ((pairsOf W).map prD)), .fro d, .fro (.tup [.int a, .int b, .int c, .int d']), .fro (wD V), .fro (dI ms), .fro (.int n)]) (fun n _ => g_name)
        fun n hn => e_tup (l_cons (e_v rfl) (l_cons (e_op (e_v rfl) (e_v rfl) (o_ixM (lk_at (hpart.key n hn) _))) l_nil))) (by rintro _ rfl; unfold subW; rw [List.map_map]; rfl)) l_nil) (c_dictL (by rw [hsk]; exact hpart.pw.imp fun h e => by omega))).fz (a_cons (e_v rfl) a_nil)) fun P h => ⟨subW V ms, RM, rfl, hro.face, hro.key, hro.fit, hro.flat, h⟩))).to rfl) (fun e => nomatch e) fun _ => d_next ⟨_, rfl⟩⟩
    · rintro ρ ⟨x7, rfl⟩
      exact ⟨_, _, _, _, rfl⟩
  · rintro ρ ⟨x4, x5, x6, x7, rfl⟩
    exact d_ret e_b hR
end
end Bs
/-! The plain side of the law's rows. -/
namespace Bs
def labOf (Lb : Lab) (p : Int × Int) : Int × Int := (lk Lb p).getD (0, 0)
/-- a place's heads: the pairs that lead their label, or one where no tie is -/
def headN (W : Web) (Lb : Lab) (n : Int) : Int := if (endsAt W n).isEmpty = true then 1 else (((endsAt W n).filter fun e => decide (labOf Lb (n, e.1) = (n, e.1))).length : Int)
def heads0 (W : Web) (Lb : Lab) : Nums := W.map fun p => (p.1, headN W Lb p.1)
def degs (W : Web) : Nums := W.map fun p => (p.1, ((endsAt W p.1).length : Int))
def ones (W : Web) : Nums := W.map fun p => (p.1, 1)
def lacks (W : Web) (H : Nums) : Int := ((W.map fun p => ((endsAt W p.1).length : Int)).sum + 4 - 2 * (W.length : Int)).fdiv 2 - (W.map fun p => nv H p.1).sum
def mx0 (x : Int) : Int := if x > 0 then x else 0
def headsOf (W : Web) (a : Int) (Lb : Lab) (p4 : Int) : Nums := if p4 = 0 then pt (heads0 W Lb) a (mx0 (nv (heads0 W Lb) a + lacks W (heads0 W Lb))) else heads0 W Lb
def topGo (L : Way) : Nat → Int → Int
  | 0, n => n
  | k + 1, n => if far L n > 0 then topGo L k (up L n) else n
def topOf (L : Way) (n : Int) : Int := topGo L 64 n
structure WayOk (W : Web) (L : Way) : Prop where
  nd : (L.map (·.1)).Nodup
  key : ∀ n, n ∈ L.map (·.1) ↔ n ∈ W.map (·.1)
  pos : ∀ n ∈ W.map (·.1), 0 ≤ far L n ∧ far L n ≤ 64 ∧ up L n ∈ W.map (·.1)
  down : ∀ n ∈ W.map (·.1), 0 < far L n → far L (up L n) < far L n
theorem topGo_same {W : Web} {L : Way} (w : WayOk W L) : ∀ (k k' : Nat) (n : Int), n ∈ W.map (·.1) → (far L n).toNat ≤ k → (far L n).toNat ≤ k' → topGo L k n = topGo L k' n
  | 0, 0, n, _, _, _ => rfl
  | 0, k' + 1, n, hn, h, _ => by unfold topGo; rw [if_neg (by omega)]
  | k + 1, 0, n, hn, _, h => by unfold topGo; rw [if_neg (by omega)]
  | k + 1, k' + 1, n, hn, h, h' => by
    unfold topGo
    by_cases z : far L n > 0
    · rw [if_pos z, if_pos z]
      have := w.down n hn z
      have h1 := w.pos n hn
      have h2 := w.pos _ h1.2.2
      exact topGo_same w k k' _ h1.2.2 (by omega) (by omega)
    · rw [if_neg z, if_neg z]
theorem topOf_up {W : Web} {L : Way} (w : WayOk W L) {n : Int} (hn : n ∈ W.map (·.1)) (h : far L n > 0) : topOf L n = topOf L (up L n) := by
  have h1 := w.pos n hn
  have h2 := w.pos _ h1.2.2
  have h3 := w.down n hn h
  unfold topOf
  have : topGo L 64 n = topGo L 63 (up L n) := by
    show (if far L n > 0 then topGo L 63 (up L n) else n) = _
    rw [if_pos h]
  rw [this]
  exact topGo_same w 63 64 _ h1.2.2 (by omega) (by omega)
theorem topOf_top {L : Way} {n : Int} (h : ¬ far L n > 0) : topOf L n = n := by
  show (if far L n > 0 then topGo L 63 (up L n) else n) = n
  rw [if_neg h]
def rowL (W : Web) (L : Way) (Lb : Lab) (S : List Nums) (n : Int) : Row := [n, topOf L n, far L n, up L n] ++ S.map (fun m => nv m n) ++ (endsAt W n).flatMap fun e => [e.1, (labOf Lb (n, e.1)).1, (labOf Lb (n, e.1)).2]
def sums3 (W : Web) (L : Way) (H : Nums) : List Nums := [sumsL L (ones W), sumsL L (degs W), sumsL L H]
def rowsL (W : Web) (L : Way) (Lb : Lab) (H : Nums) : RowsM := W.map fun p => (p.1, rowL W L Lb (sums3 W L H) p.1)
structure RowsPre (W Wd : Web) : Prop where
  fit : Fit W
  one : 1 ≤ W.length
  face : FaceOk Wd
  pairs : ∀ n ∈ W.map (·.1), ∀ e ∈ endsAt W n, (n, e.1) ∈ pairsOf Wd
  grow : ∀ r ∈ W.map (·.1), GrowOk W r ∧ ∀ n ∈ W.map (·.1), n ∈ (grown W r).map (·.1)
  way : ∀ a ∈ W.map (·.1), ∀ b ∈ W.map (·.1), WayOk W (rootParts W a b)
theorem keys_mapW {α : Type} (W : Web) (f : Int × Pl → α) : ((W.map fun p => (p.1, f p)).map (·.1)) = W.map (·.1) := by rw [List.map_map]; rfl
theorem wayOk_len {W : Web} {L : Way} (hf : Fit W) (w : WayOk W L) : L.length = W.length := by
  have := ((List.perm_ext_iff_of_nodup w.nd hf.nd).mpr w.key).length_eq
  rw [List.length_map, List.length_map] at this
  exact this
theorem sumOk_of {W : Web} {L : Way} (hf : Fit W) (w : WayOk W L) {nums : Nums} (hk : nums.map (·.1) = W.map (·.1)) : SumOk L nums := by
  have h1 := wayOk_len hf w
  have h2 := congrArg List.length hk
  rw [List.length_map, List.length_map] at h2
  have := hf.len
  exact ⟨w.nd, fun n hn => by rw [hk]; exact ⟨(w.key n).mp hn, (w.pos n ((w.key n).mp hn)).2.2⟩, by omega, by omega⟩
theorem headsOf_keys {W : Web} (a : Int) (Lb : Lab) (p4 : Int) (ha : a ∈ W.map (·.1)) : (headsOf W a Lb p4).map (·.1) = W.map (·.1) := by
  have h0 : (heads0 W Lb).map (·.1) = W.map (·.1) := keys_mapW W _
  unfold headsOf
  split
  · rw [pt_keys, if_pos (by rw [h0]; exact ha), h0]
  · exact h0
theorem sumsL_keys {L : Way} {nums : Nums} (g : SumOk L nums) : (sumsL L nums).map (·.1) = nums.map (·.1) := keys_turns _ _ fun n hn => (g.key n hn).2
end Bs
namespace Bs
open PySem L2
theorem pt_last {κ α : Type} [DecidableEq κ] {m : List (κ × α)} {k : κ} {v v' : α} (h : k ∉ m.map (·.1)) : pt (m ++ [(k, v)]) k v' = m ++ [(k, v')] := by
  unfold pt
  rw [any_keys, decide_eq_true (by rw [List.map_append]; exact List.mem_append_right _ (List.mem_singleton.mpr rfl)), if_pos rfl, List.map_append, List.map_cons, if_pos rfl]
  congr 1
  conv => rhs; rw [← List.map_id m]
  refine List.map_congr_left fun q hq => ?_
  rw [if_neg (fun z : q.1 = k => h (z ▸ List.mem_map.mpr ⟨q, hq, rfl⟩))]; rfl
theorem lk_last {κ α : Type} [DecidableEq κ] {m : List (κ × α)} {k : κ} {v : α} (h : k ∉ m.map (·.1)) : lk (m ++ [(k, v)]) k = some v := by
  rw [← pt_new v h, lk_pt, if_pos rfl]
def ctRows : Ctr := fun cs R => ∃ (W Wd : Web) (p0 p1 p2 p3 p4 : Int), cs = [.fro (wD W), .fro (wD Wd), .fro (dI [p0, p1, p2, p3, p4])] ∧ RowsPre W Wd ∧ 0 ≤ p2 ∧ p2 < 3 ∧
  ∀ (a b : Int) (Lb : Lab), a ∈ W.map (·.1) → b ∈ W.map (·.1) → (p2 < 2 → b = a) → LabOk Wd p3 Lb (pairsOf Wd) → R (.own (dM dI (rowsL W (rootParts W a b) Lb (headsOf W a Lb p4))))
section
variable {P : Program} {w : World} {K : PySem.W.Frag} {mg : Str → Option Value} {base : Heap}
theorem ok_rows (Z : Blt mg) (T : Def K mg "_law_rows" st_law_rows ["_law_web_here", "_law_drawn_here", "_law_plan"]) (D_law_root_parts : OkDef P w K mg base 2 "_law_root_parts" ["_law_web_here", "_law_first", "_law_second"] ctRootParts)
    (D_law_labels : OkDef P w K mg base 3 "_law_labels" ["_law_web_here", "_law_way"] ctLabels) (D_law_sums_of : OkDef P w K mg base 1 "_law_sums_of" ["_law_way", "_law_numbers"] ctSums) :
    OkDef P w K mg base 4 "_law_rows" ["_law_web_here", "_law_drawn_here", "_law_plan"] ctRows := by
  refine ok_def (k := 3) (n := 15) T sc_law_rows rfl (by rintro cs P ⟨_, _, _, _, _, _, _, rfl, _⟩; rfl) fun f cdv A outer s H E hr hu1 hu => ?_
  refine ⟨_, (pss_cons (ps_set (i := 3) sc_law_rows.nd rfl (by first | exact Or.inl rfl | exact Or.inr rfl) (pe_callB (call_srtK K rfl hr.units rfl) (by rfl) Z.sorted (by decide +kernel) (pa_cons (pv 0) pa_nil)))
      (pss_cons (ps_set (i := 4) sc_law_rows.nd rfl (by first | exact Or.inl rfl | exact Or.inr rfl) (pe_ix (ix_anyK K hu1 rfl) (pv 3) (pe_op op_modN (pe_ix (ix_anyK K hu1 rfl) (pv 2) pe_int (fun _ _ => rfl)) (pe_callB (call_lenAK K rfl) (by rfl) Z.len (by decide +kernel) (pa_cons (pv 3) pa_nil))) (fun _ _ => rfl)))
      (pss_cons (ps_set (i := 5) sc_law_rows.nd rfl (by first | exact Or.inl rfl | exact Or.inr rfl) (pe_ix (ix_anyK K hu1 rfl) (pe_lst (pa_cons (pv 4) (pa_cons (pv 4) (pa_cons (pe_ix (ix_anyK K hu1 rfl) (pv 3) (pe_op op_modN (pe_ix (ix_anyK K hu1 rfl) (pv 2) pe_int (fun _ _ => rfl)) (pe_callB (call_lenAK K rfl) (by rfl) Z.len (by decide +kernel) (pa_cons (pv 3) pa_nil))) (fun _ _ => rfl)) pa_nil)))) (pe_ix (ix_anyK K hu1 rfl) (pv 2) pe_int (fun _ _ => rfl)) (fun _ _ => rfl)))
      (pss_cons (ps_set (i := 6) sc_law_rows.nd rfl (by first | exact Or.inl rfl | exact Or.inr rfl) (pe_fnK K D_law_root_parts rfl rfl rfl rfl rfl hr (by rfl) (pa_cons (pv 0) (pa_cons (pv 4) (pa_cons (pv 5) pa_nil)))))
      (pss_cons (ps_set (i := 7) sc_law_rows.nd rfl (by first | exact Or.inl rfl | exact Or.inr rfl) (pe_fnK K D_law_labels rfl rfl rfl rfl rfl hr (by rfl) (pa_cons (pv 1) (pa_cons (pe_ix (ix_anyK K hu1 rfl) (pv 2) pe_int (fun _ _ => rfl)) pa_nil))))
      (pss_cons (ps_set (i := 8) sc_law_rows.nd rfl (by first | exact Or.inl rfl | exact Or.inr rfl) pe_dnewK)
      (pss_cons (ps_lockOr (ps_for PassesOwn.never rfl (pi_keys (pv 0)) (pg_name (i := 9) sc_law_rows.nd rfl (by first | exact Or.inl rfl | exact Or.inr rfl)) (pss_cons (ps_setLc (i := 10) (own := [("_law_end", 16)]) (g := (gName 16)) rfl sc_law_rows.nd rfl rfl (sw_true rfl rfl rfl (by decide +kernel)) (pi_listK K rfl (pe_ix (ix_anyK K hu1 rfl) (pe_ix (ix_anyK K hu1 rfl) (pv 0) (pv 9) (fun _ _ => rfl)) pe_int (fun _ _ => rfl))) (blkOk_by (N := N_law_rows) (sc := defScope st_law_rows) (by decide +kernel)) (fun _ _ _ _ _ => (pg_name (i := 16) sc_law_rows.nd rfl (by first | exact Or.inl rfl | exact Or.inr rfl))) (fun _ _ _ _ _ => (pts_one (pt_cmpR (op_eqK K hr.units rfl) (pe_ix (ix_anyK K hu1 rfl) (pv 7) (pe_tup (pa_cons (pv 9) (pa_cons (pe_ix (ix_anyK K hu1 rfl) (pv 16) pe_int (fun _ _ => rfl)) pa_nil))) (fun _ _ => rfl)) (pe_tup (pa_cons (pv 9) (pa_cons (pe_ix (ix_anyK K hu1 rfl) (pv 16) pe_int (fun _ _ => rfl)) pa_nil))) (nomark _)))) (fun _ _ _ _ _ => (pv 16)))
      (pss_one (ps_dput hu1 (pv 8) (pv 9) (pe_ix (ix_anyK K hu1 rfl) (pe_lst (pa_cons (pe_callB (call_lenAK K rfl) (by rfl) Z.len (by decide +kernel) (pa_cons (pv 10) pa_nil)) (pa_cons pe_int pa_nil))) (pe_callTy call_int (by rfl) Z.int (by decide +kernel) (pa_cons (pe_cmpR (op_eqK K hr.units rfl) (pe_ix (ix_anyK K hu1 rfl) (pe_ix (ix_anyK K hu1 rfl) (pv 0) (pv 9) (fun _ _ => rfl)) pe_int (fun _ _ => rfl)) (pe_lst pa_nil) (nomark _)) pa_nil)) (fun _ _ => rfl)) rfl)))))
      (pss_cons (ps_set (i := 11) sc_law_rows.nd rfl (by first | exact Or.inl rfl | exact Or.inr rfl) (pe_callB (cr_sumK K rfl rfl) (by rfl) Z.sum (by decide +kernel) (pa_cons (pe_lockOr (pe_lc (own := [("_law_name", 9)]) (g := (gName 9)) (tt := tYes) rfl sc_law_rows.nd (pi_keys (pv 0)) (blkOk_by (N := N_law_rows) (sc := defScope st_law_rows) (by decide +kernel)) (fun _ _ _ _ _ => (pg_name (i := 9) sc_law_rows.nd rfl (by first | exact Or.inl rfl | exact Or.inr rfl))) (fun _ _ _ _ _ => pts_nil) (fun _ _ _ _ _ => (pe_callB (call_lenAK K rfl) (by rfl) Z.len (by decide +kernel) (pa_cons (pe_ix (ix_anyK K hu1 rfl) (pe_ix (ix_anyK K hu1 rfl) (pv 0) (pv 9) (fun _ _ => rfl)) pe_int (fun _ _ => rfl)) pa_nil))))) pa_nil)))
      (pss_cons (ps_set (i := 12) sc_law_rows.nd rfl (by first | exact Or.inl rfl | exact Or.inr rfl) (pe_op op_sub (pe_op op_fdivN (pe_op op_sub (pe_op (op_addK K rfl) (pv 11) pe_int) (pe_op op_mul pe_int (pe_callB (call_lenAK K rfl) (by rfl) Z.len (by decide +kernel) (pa_cons (pv 0) pa_nil)))) pe_int) (pe_callB (cr_sumK K rfl rfl) (by rfl) Z.sum (by decide +kernel) (pa_cons (pe_lockOr (pe_lc (own := [("_law_name", 9)]) (g := (gName 9)) (tt := tYes) rfl sc_law_rows.nd (pi_keys (pv 0)) (blkOk_by (N := N_law_rows) (sc := defScope st_law_rows) (by decide +kernel)) (fun _ _ _ _ _ => (pg_name (i := 9) sc_law_rows.nd rfl (by first | exact Or.inl rfl | exact Or.inr rfl))) (fun _ _ _ _ _ => pts_nil) (fun _ _ _ _ _ => (pe_ix (ix_anyK K hu1 rfl) (pv 8) (pv 9) (fun _ _ => rfl))))) pa_nil))))
      (pss_cons (ps_if (pt_cmpR (op_eqK K hr.units rfl) (pe_ix (ix_anyK K hu1 rfl) (pv 2) pe_int (fun _ _ => rfl)) pe_int (nomark _)) (pss_one (ps_dput hu1 (pv 8) (pv 4) (pe_callB (call_mx2 rfl) (by rfl) Z.max (by decide +kernel) (pa_cons pe_int (pa_cons (pe_op (op_addK K rfl) (pe_ix (ix_anyK K hu1 rfl) (pv 8) (pv 4) (fun _ _ => rfl)) (pv 12)) pa_nil))) rfl)) pss_nil)
      (pss_cons (ps_set (i := 13) sc_law_rows.nd rfl (by first | exact Or.inl rfl | exact Or.inr rfl) (pe_lst (pa_cons (pe_fnK K D_law_sums_of rfl rfl rfl rfl rfl hr (by rfl) (pa_cons (pv 6) (pa_cons (pe_callTy (call_dctK K rfl rfl) (by rfl) Z.dict (by decide +kernel) (pa_cons (pe_lockOr (pe_lc (own := [("_law_name", 9)]) (g := (gName 9)) (tt := tYes) rfl sc_law_rows.nd (pi_keys (pv 0)) (blkOk_by (N := N_law_rows) (sc := defScope st_law_rows) (by decide +kernel)) (fun _ _ _ _ _ => (pg_name (i := 9) sc_law_rows.nd rfl (by first | exact Or.inl rfl | exact Or.inr rfl))) (fun _ _ _ _ _ => pts_nil) (fun _ _ _ _ _ => (pe_tup (pa_cons (pv 9) (pa_cons pe_int pa_nil)))))) pa_nil)) pa_nil))) pa_nil)))
      (pss_cons (ps_expr (pe_app K rfl (pv 13) (pa_cons (pe_fnK K D_law_sums_of rfl rfl rfl rfl rfl hr (by rfl) (pa_cons (pv 6) (pa_cons (pe_callTy (call_dctK K rfl rfl) (by rfl) Z.dict (by decide +kernel) (pa_cons (pe_lockOr (pe_lc (own := [("_law_name", 9)]) (g := (gName 9)) (tt := tYes) rfl sc_law_rows.nd (pi_keys (pv 0)) (blkOk_by (N := N_law_rows) (sc := defScope st_law_rows) (by decide +kernel)) (fun _ _ _ _ _ => (pg_name (i := 9) sc_law_rows.nd rfl (by first | exact Or.inl rfl | exact Or.inr rfl))) (fun _ _ _ _ _ => pts_nil) (fun _ _ _ _ _ => (pe_tup (pa_cons (pv 9) (pa_cons (pe_callB (call_lenAK K rfl) (by rfl) Z.len (by decide +kernel) (pa_cons (pe_ix (ix_anyK K hu1 rfl) (pe_ix (ix_anyK K hu1 rfl) (pv 0) (pv 9) (fun _ _ => rfl)) pe_int (fun _ _ => rfl)) pa_nil)) pa_nil)))))) pa_nil)) pa_nil))) pa_nil)))
      (pss_cons (ps_expr (pe_app K rfl (pv 13) (pa_cons (pe_fnK K D_law_sums_of rfl rfl rfl rfl rfl hr (by rfl) (pa_cons (pv 6) (pa_cons (pv 8) pa_nil))) pa_nil)))
      (pss_cons (ps_set (i := 14) sc_law_rows.nd rfl (by first | exact Or.inl rfl | exact Or.inr rfl) pe_dnewK)
      (pss_cons (ps_lockOr (ps_for PassesOwn.never rfl (pi_keys (pv 0)) (pg_name (i := 9) sc_law_rows.nd rfl (by first | exact Or.inl rfl | exact Or.inr rfl)) (pss_cons (ps_set (i := 15) sc_law_rows.nd rfl (by first | exact Or.inl rfl | exact Or.inr rfl) (pv 9))
      (pss_cons (ps_while PassesOwn.never (pt_cmpR op_gt (pe_ix (ix_anyK K hu1 rfl) (pe_ix (ix_anyK K hu1 rfl) (pv 6) (pv 15) (fun _ _ => rfl)) pe_int (fun _ _ => rfl)) pe_int (nomark _)) (pss_one (ps_set (i := 15) sc_law_rows.nd rfl (by first | exact Or.inl rfl | exact Or.inr rfl) (pe_ix (ix_anyK K hu1 rfl) (pe_ix (ix_anyK K hu1 rfl) (pv 6) (pv 15) (fun _ _ => rfl)) pe_int (fun _ _ => rfl)))))
      (pss_cons (ps_dput hu1 (pv 14) (pv 9) (pe_op (op_addK K rfl) (pe_lst (pa_cons (pv 9) (pa_cons (pv 15) (pa_cons (pe_ix (ix_anyK K hu1 rfl) (pe_ix (ix_anyK K hu1 rfl) (pv 6) (pv 9) (fun _ _ => rfl)) pe_int (fun _ _ => rfl)) (pa_cons (pe_ix (ix_anyK K hu1 rfl) (pe_ix (ix_anyK K hu1 rfl) (pv 6) (pv 9) (fun _ _ => rfl)) pe_int (fun _ _ => rfl)) pa_nil))))) (pe_lc (own := [("_law_one", 17)]) (g := (gName 17)) (tt := tYes) rfl sc_law_rows.nd (pi_listK K rfl (pv 13)) (blkOk_by (N := N_law_rows) (sc := defScope st_law_rows) (by decide +kernel)) (fun _ _ _ _ _ => (pg_name (i := 17) sc_law_rows.nd rfl (by first | exact Or.inl rfl | exact Or.inr rfl))) (fun _ _ _ _ _ => pts_nil) (fun _ _ _ _ _ => (pe_ix (ix_anyK K hu1 rfl) (pv 17) (pv 9) (fun _ _ => rfl))))) rfl)
      (pss_one (ps_for PassesOwn.never rfl (pi_listK K rfl (pe_ix (ix_anyK K hu1 rfl) (pe_ix (ix_anyK K hu1 rfl) (pv 0) (pv 9) (fun _ _ => rfl)) pe_int (fun _ _ => rfl))) (pg_name (i := 16) sc_law_rows.nd rfl (by first | exact Or.inl rfl | exact Or.inr rfl)) (pss_one (ps_dput hu1 (pv 14) (pv 9) (pe_op (op_addK K rfl) (pe_op (op_addK K rfl) (pe_ix (ix_anyK K hu1 rfl) (pv 14) (pv 9) (fun _ _ => rfl)) (pe_lst (pa_cons (pe_ix (ix_anyK K hu1 rfl) (pv 16) pe_int (fun _ _ => rfl)) pa_nil))) (pe_callTy (call_lstK K rfl) (by rfl) Z.list (by decide +kernel) (pa_cons (pe_ix (ix_anyK K hu1 rfl) (pv 7) (pe_tup (pa_cons (pv 9) (pa_cons (pe_ix (ix_anyK K hu1 rfl) (pv 16) pe_int (fun _ _ => rfl)) pa_nil))) (fun _ _ => rfl)) pa_nil))) rfl)))))))))
      (pss_one (ps_ret (pv 14)))))))))))))))))), ?_⟩
  rintro cs R ⟨W, Wd, p0, p1, p2, p3, p4, rfl, pre, h20, h21, hR⟩
  have hf := pre.fit
  have hlen := hf.len
  have hone := pre.one
  refine d_seq (d_set (e_cbN (l_cons (e_v rfl) l_nil) (c_srtM hlen)).fz ?_)
  have hnl : (srt (W.map (·.1))).length = W.length := by rw [srt_len, List.length_map]
  have hnm : ∀ n ∈ srt (W.map (·.1)), n ∈ W.map (·.1) := fun n hn => srt_mem.mp hn
  generalize srt (W.map (·.1)) = ns at hnl hnm
  have pick : ∀ p : Int, ∃ a ∈ W.map (·.1), atI (ns.map D.int) (p.fmod (ns.length : Nat)) = some (.int a) := fun p => by
    have h := fm_lt p (b := (ns.length : Nat)) (by omega)
    obtain ⟨a, ha, hat, hae⟩ := getI_mem h.1 h.2
    exact ⟨a, hnm a ha, atD hae (by rw [List.getElem?_map, hat]; rfl)⟩
  obtain ⟨a, ha, hat⟩ := pick p0
  obtain ⟨b', hb', hbt⟩ := pick p1
  refine d_seq (d_set (e_op (e_v rfl) (e_op (e_lat 0 rfl rfl rfl) ((e_cb (l_cons (e_v rfl) l_nil) c_lenL).to (by rw [List.length_map])) (o_mod (by omega))) (o_ixL hat)) ?_)
  have hsec : ∃ b, atI [D.int a, .int a, .int b'] p2 = some (.int b) ∧ b ∈ W.map (·.1) ∧ (p2 < 2 → b = a) := by
    have : p2 = 0 ∨ p2 = 1 ∨ p2 = 2 := by omega
    rcases this with rfl | rfl | rfl
    · exact ⟨a, atD (j := 0) rfl rfl, ha, fun _ => rfl⟩
    · exact ⟨a, atD (j := 1) rfl rfl, ha, fun _ => rfl⟩
    · exact ⟨b', atD (j := 2) rfl rfl, hb', fun h => absurd h (by decide)⟩
  obtain ⟨b, hbI, hb, hba⟩ := hsec
  refine d_seq (d_set (e_op (e_lstF (l_cons (e_v rfl) (l_cons (e_v rfl) (l_cons (e_op (e_v rfl) (e_op (e_lat 1 rfl rfl rfl) ((e_cb (l_cons (e_v rfl) l_nil) c_lenL).to (by rw [List.length_map])) (o_mod (by omega))) (o_ixL hbt)) l_nil)))) (e_lat 2 rfl rfl rfl) (o_ixL hbI)) ?_)
  refine d_seq (d_set (e_callO (a_cons (e_v rfl) (a_cons (e_v rfl) (a_cons (e_v rfl) a_nil))) fun P h => ⟨W, a, b, rfl, hf, (pre.grow a ha).1, (pre.grow b hb).1, fun n hn => ⟨(pre.grow a ha).2 n hn, (pre.grow b hb).2 n hn⟩, h⟩) ?_)
  have way := pre.way a ha b hb
  refine d_seq (gd_set (P := fun d => ∃ Lb : Lab, d = dTP Lb ∧ LabOk Wd p3 Lb (pairsOf Wd)) (g_call (a_cons (e_v rfl) (a_cons (e_lat 3 rfl rfl rfl) a_nil)) fun cs e => e ▸ ⟨Wd, p3, rfl, pre.face, fun L h => ⟨_, .inr rfl, L, rfl, h⟩⟩) ?_)
  rintro _ ⟨Lb, rfl, hLb⟩
  have hR := hR a b Lb ha hb hba hLb
  have hlab : ∀ n ∈ W.map (·.1), ∀ e ∈ endsAt W n, lk Lb (n, e.1) = some (labOf Lb (n, e.1)) := fun n hn e he => by
    obtain ⟨q, hq, _⟩ := hLb (n, e.1) (pre.pairs n hn e he)
    unfold labOf; rw [hq]; rfl
  generalize rootParts W a b = L at way hR
  have hkL : ∀ n ∈ W.map (·.1), n ∈ L.map (·.1) := fun n hn => (way.key n).mpr hn
  have hdg := hf.deg
  refine d_seq (d_setN e_newK ?_)
  refine d_seq (d_forK (j := 0) rfl (fun i ρ => ∃ x9 x10 : Cell, ρ = [.fro (wD W), .fro (wD Wd), .fro (dI [p0, p1, p2, p3, p4]), .fro (dI ns), .fro (.int a), .fro (.int b), .fro (dM prD L), .fro (dTP Lb), .own (dM D.int ((W.take i).map fun p => (p.1, headN W Lb p.1))), x9, x10, .any, .any, .any, .any, .any, .any, .any]) ⟨⟨_, _, rfl⟩, ?_, ?_⟩)
  · rintro i d ρ hd ⟨x9, x10, rfl⟩
    rw [keys_kD] at hd
    obtain ⟨p, hpi, hp, rfl⟩ := map_get hd
    have hk : p.1 ∈ W.map (·.1) := List.mem_map.mpr ⟨p, hp, rfl⟩
    have hd2 := hdg p.1
    refine ⟨_, _, g_name, d_seq (d_set (EvN.to (e := .lst (((endsAt W p.1).filter fun e => decide (labOf Lb (p.1, e.1) = (p.1, e.1))).map eD)) (EvNB.all fun B0 σ => c_lcD (xs := endsAt W p.1) (en := eD) (i_listD (e_ends rfl (e_v rfl) hk) B0 σ) (by omega) (fun e => decide (labOf Lb (p.1, e.1) = (p.1, e.1))) eD (fun e => [.fro (wD W), .fro (wD Wd), .fro (dI [p0, p1, p2, p3, p4]), .fro (dI ns), .fro (.int a), .fro (.int b), .fro (dM prD L), .fro (dTP Lb), .own (dM D.int ((W.take i).map fun p => (p.1, headN W Lb p.1))), .fro (.int p.1), x10, .any, .any, .any, .any, .any, .fro (eD e), .any]) (fun e _ => g_name)
      (fun e he => (t_test (e_op (e_op (e_v rfl) (e_tup (l_cons (e_v rfl) (l_cons (e_tat 0 rfl rfl rfl) l_nil))) (o_ixP (k := (p.1, e.1)) (hlab p.1 hk e he))) (e_tup (l_cons (e_v rfl) (l_cons (e_tat 0 rfl rfl rfl) l_nil))) (o_eq (fl_pr 0 _) (fl_pr 0 (p.1, e.1))))).to (eqD_pr _ (p.1, e.1))) fun e _ _ => e_v rfl) (by rintro _ rfl; rfl)) ?_)⟩
    have hnew : p.1 ∉ ((W.take i).map fun p => (p.1, headN W Lb p.1)).map (·.1) := by rw [List.map_map]; exact nd_take hf.nd hpi
    refine d_putM (v := headN W Lb p.1) rfl (e_op (e_lstF (l_cons (e_cb (l_cons (e_v rfl) l_nil) c_lenL) (l_cons e_i l_nil))) (e_cb (l_cons (e_op (e_ends rfl (e_v rfl) hk) (e_lstF l_nil) (o_eq (fl_map fl_eD _) (fl_nil 0))) l_nil) c_intB) (o_ixL ?_)) (e_v rfl) ?_ ⟨.fro (.int p.1), .fro (.lst (((endsAt W p.1).filter fun e => decide (labOf Lb (p.1, e.1) = (p.1, e.1))).map eD)), ?_⟩
    · rw [eqD_lnil, len_emp]
      unfold headN
      cases hq : (endsAt W p.1).isEmpty with
      | true => rw [if_pos rfl, if_pos rfl]; exact atD (j := 1) rfl rfl
      | false => rw [if_neg Bool.false_ne_true, if_neg Bool.false_ne_true]; exact atD (j := 0) rfl (by rw [List.length_map]; rfl)
    · rw [List.length_map, List.length_take]; omega
    · rw [pt_new _ hnew, List.take_add_one, hpi, Option.toList_some, List.map_append]
      rfl
  rintro ρ ⟨x9, x10, rfl⟩
  rw [List.length_map, List.length_map, List.take_length]
  have hnd1 : ((ones W).map (·.1)).Nodup := by rw [ones, keys_mapW]; exact hf.nd
  have hnd2 : ((degs W).map (·.1)).Nodup := by rw [degs, keys_mapW]; exact hf.nd
  have hh0 : (heads0 W Lb).map (·.1) = W.map (·.1) := keys_mapW W _
  show Dos K _ [.fro (wD W), .fro (wD Wd), .fro (dI [p0, p1, p2, p3, p4]), .fro (dI ns), .fro (.int a), .fro (.int b), .fro (dM prD L), .fro (dTP Lb), .own (dM D.int (heads0 W Lb)), x9, x10, .any, .any, .any, .any, .any, .any, .any] _
  refine d_seq (d_set (d := .int (W.map fun p => ((endsAt W p.1).length : Int)).sum) (e_cb (l_cons (EvN.to (e := .lst ((W.map fun p => ((endsAt W p.1).length : Int)).map D.int)) (n_lcK rfl fun B0 σ hi => c_lcM (xs := W) (en := fun p => .int p.1) (ρ := [.fro (wD W), .fro (wD Wd), .fro (dI [p0, p1, p2, p3, p4]), .fro (dI ns), .fro (.int a), .fro (.int b), .fro (dM prD L), .fro (dTP Lb), .own (dM D.int (heads0 W Lb)), x9, x10, .any, .any, .any, .any, .any, .any, .any]) (by rw [keys_kD] at hi; exact hi) (by omega) (fun p => .int (endsAt W p.1).length) (fun p => [.fro (wD W), .fro (wD Wd), .fro (dI [p0, p1, p2, p3, p4]), .fro (dI ns), .fro (.int a), .fro (.int b), .fro (dM prD L), .fro (dTP Lb), .own (dM D.int (heads0 W Lb)), .fro (.int p.1), x10, .any, .any, .any, .any, .any, .any, .any]) (fun p _ => g_name)
    fun p hp => (e_cb (l_cons (e_ends rfl (e_v rfl) (List.mem_map.mpr ⟨p, hp, rfl⟩)) l_nil) c_lenL).to (by rw [List.length_map])) (by rintro _ rfl; rw [List.map_map]; rfl)) l_nil) c_sum) ?_)
  refine d_seq (d_set (d := .int (lacks W (heads0 W Lb))) (e_op (e_op (e_op (e_op (e_v rfl) e_i o_add) (e_op e_i (e_cb (l_cons (e_v rfl) l_nil) c_lenM) (o_mul (.inl (by decide)))) o_sub) e_i (o_div ⟨by decide, by decide⟩)) (e_cb (l_cons (EvN.to (e := .lst ((W.map fun p => nv (heads0 W Lb) p.1).map D.int)) (n_lcK rfl fun B0 σ hi => c_lcM (xs := W) (en := fun p => .int p.1) (ρ := [.fro (wD W), .fro (wD Wd), .fro (dI [p0, p1, p2, p3, p4]), .fro (dI ns), .fro (.int a), .fro (.int b), .fro (dM prD L), .fro (dTP Lb), .own (dM D.int (heads0 W Lb)), x9, x10, .fro (.int (W.map fun p => ((endsAt W p.1).length : Int)).sum), .any, .any, .any, .any, .any, .any]) (by rw [keys_kD] at hi; exact hi) (by omega) (fun p => .int (nv (heads0 W Lb) p.1)) (fun p => [.fro (wD W), .fro (wD Wd), .fro (dI [p0, p1, p2, p3, p4]), .fro (dI ns), .fro (.int a), .fro (.int b), .fro (dM prD L), .fro (dTP Lb), .own (dM D.int (heads0 W Lb)), .fro (.int p.1), x10, .fro (.int (W.map fun p => ((endsAt W p.1).length : Int)).sum), .any, .any, .any, .any, .any, .any]) (fun p _ => g_name)
    fun p hp => e_ownM rfl (e_v rfl) (lk_at (by rw [hh0]; exact List.mem_map.mpr ⟨p, hp, rfl⟩) 0)) (by rintro _ rfl; rw [List.map_map]; rfl)) l_nil) c_sum) o_sub) ?_)
  refine d_cut (fun ρ => ρ = [.fro (wD W), .fro (wD Wd), .fro (dI [p0, p1, p2, p3, p4]), .fro (dI ns), .fro (.int a), .fro (.int b), .fro (dM prD L), .fro (dTP Lb), .own (dM D.int (headsOf W a Lb p4)), x9, x10, .fro (.int (W.map fun p => ((endsAt W p.1).length : Int)).sum), .fro (.int (lacks W (heads0 W Lb))), .any, .any, .any, .any, .any]) (d_if (t_test (e_op (e_lat 4 rfl rfl rfl) e_i o_eqi)) (fun hb => ?_) fun hb => d_next ?_) ?_
  · refine d_putM (v := mx0 (nv (heads0 W Lb) a + lacks W (heads0 W Lb))) rfl (e_cb (l_cons e_i (l_cons (e_op (e_ownM rfl (e_v rfl) (lk_at (by rw [hh0]; exact ha) 0)) (e_v rfl) o_add) l_nil)) c_max) (e_v rfl) (by unfold heads0; rw [List.length_map]; omega) ?_
    unfold headsOf
    rw [if_pos (of_decide_eq_true hb)]
    rfl
  · unfold headsOf
    rw [if_neg (of_decide_eq_false hb)]
    rfl
  rintro _ rfl
  have hhk := headsOf_keys (W := W) a Lb p4 ha
  generalize headsOf W a Lb p4 = HD at hhk hR
  have s1 : SumOk L (ones W) := sumOk_of hf way (keys_mapW W _)
  have s2 : SumOk L (degs W) := sumOk_of hf way (keys_mapW W _)
  have s3 : SumOk L HD := sumOk_of hf way hhk
  refine d_freeze (i := 8) rfl ?_
  refine d_seq (d_setN (e_lst (l_cons (e_callO (a_cons (e_v rfl) (a_cons (e_cbN (l_cons (EvN.to (e := .lst ((ones W).map fun p => .tup [.int p.1, .int p.2])) (n_lcK rfl fun B0 σ hi => c_lcM (xs := W) (en := fun p => .int p.1) (ρ := [.fro (wD W), .fro (wD Wd), .fro (dI [p0, p1, p2, p3, p4]), .fro (dI ns), .fro (.int a), .fro (.int b), .fro (dM prD L), .fro (dTP Lb), .fro (dM D.int HD), x9, x10, .fro (.int (W.map fun p => ((endsAt W p.1).length : Int)).sum), .fro (.int (lacks W (heads0 W Lb))), .any, .any, .any, .any, .any]) (by rw [keys_kD] at hi; exact hi) (by omega) (fun p => .tup [.int p.1, .int 1]) (fun p => [.fro (wD W), .fro (wD Wd), .fro (dI [p0, p1, p2, p3, p4]), .fro (dI ns), .fro (.int a), .fro (.int b), .fro (dM prD L), .fro (dTP Lb), .fro (dM D.int HD), .fro (.int p.1), x10, .fro (.int (W.map fun p => ((endsAt W p.1).length : Int)).sum), .fro (.int (lacks W (heads0 W Lb))), .any, .any, .any, .any, .any]) (fun p _ => g_name)
    fun p hp => e_tup (l_cons (e_v rfl) (l_cons e_i l_nil))) (by rintro _ rfl; unfold ones; rw [List.map_map]; rfl)) l_nil) (c_dictL hnd1)).fz a_nil)) fun P h => ⟨L, ones W, rfl, s1, h⟩) l_nil)) ?_)
  refine d_seq (d_app (xs := [dM D.int (sumsL L (ones W))]) rfl (e_callO (a_cons (e_v rfl) (a_cons (e_cbN (l_cons (EvN.to (e := .lst ((degs W).map fun p => .tup [.int p.1, .int p.2])) (n_lcK rfl fun B0 σ hi => c_lcM (xs := W) (en := fun p => .int p.1) (ρ := [.fro (wD W), .fro (wD Wd), .fro (dI [p0, p1, p2, p3, p4]), .fro (dI ns), .fro (.int a), .fro (.int b), .fro (dM prD L), .fro (dTP Lb), .fro (dM D.int HD), x9, x10, .fro (.int (W.map fun p => ((endsAt W p.1).length : Int)).sum), .fro (.int (lacks W (heads0 W Lb))), .own (.lst [dM D.int (sumsL L (ones W))]), .any, .any, .any, .any]) (by rw [keys_kD] at hi; exact hi) (by omega) (fun p => .tup [.int p.1, .int (endsAt W p.1).length]) (fun p => [.fro (wD W), .fro (wD Wd), .fro (dI [p0, p1, p2, p3, p4]), .fro (dI ns), .fro (.int a), .fro (.int b), .fro (dM prD L), .fro (dTP Lb), .fro (dM D.int HD), .fro (.int p.1), x10, .fro (.int (W.map fun p => ((endsAt W p.1).length : Int)).sum), .fro (.int (lacks W (heads0 W Lb))), .own (.lst [dM D.int (sumsL L (ones W))]), .any, .any, .any, .any]) (fun p _ => g_name)
    fun p hp => e_tup (l_cons (e_v rfl) (l_cons ((e_cb (l_cons (e_ends rfl (e_v rfl) (List.mem_map.mpr ⟨p, hp, rfl⟩)) l_nil) c_lenL).to (by rw [List.length_map])) l_nil))) (by rintro _ rfl; unfold degs; rw [List.map_map]; rfl)) l_nil) (c_dictL hnd2)).fz a_nil)) fun P h => ⟨L, degs W, rfl, s2, h⟩) (by exact Nat.le_of_ble_eq_true rfl) ?_)
  refine d_seq (d_app (xs := [dM D.int (sumsL L (ones W)), dM D.int (sumsL L (degs W))]) rfl (e_callO (a_cons (e_v rfl) (a_cons (e_v rfl) a_nil)) fun P h => ⟨L, HD, rfl, s3, h⟩) (by exact Nat.le_of_ble_eq_true rfl) ?_)
  refine d_seq (d_setN e_newK ?_)
  refine d_freeze (i := 13) rfl ?_
  have hkS : ∀ m ∈ sums3 W L HD, ∀ n ∈ W.map (·.1), lk m n = some (nv m n) := fun m hm n hn => by
    unfold sums3 at hm
    simp only [List.mem_cons, List.not_mem_nil, or_false] at hm
    rcases hm with rfl | rfl | rfl
    · exact lk_at (by rw [sumsL_keys s1, ones, keys_mapW]; exact hn) 0
    · exact lk_at (by rw [sumsL_keys s2, degs, keys_mapW]; exact hn) 0
    · exact lk_at (by rw [sumsL_keys s3, hhk]; exact hn) 0
  unfold rowsL at hR
  have hSd : (D.lst ([dM D.int (sumsL L (ones W)), dM D.int (sumsL L (degs W))] ++ [dM D.int (sumsL L HD)])) = .lst ((sums3 W L HD).map fun m => dM D.int m) := rfl
  generalize hS : sums3 W L HD = S at hkS hR hSd
  have hSl : S.length = 3 := by rw [← hS]; rfl
  show Dos K _ [.fro (wD W), .fro (wD Wd), .fro (dI [p0, p1, p2, p3, p4]), .fro (dI ns), .fro (.int a), .fro (.int b), .fro (dM prD L), .fro (dTP Lb), .fro (dM D.int HD), x9, x10, .fro (.int (W.map fun p => ((endsAt W p.1).length : Int)).sum), .fro (.int (lacks W (heads0 W Lb))), .fro (D.lst ([dM D.int (sumsL L (ones W)), dM D.int (sumsL L (degs W))] ++ [dM D.int (sumsL L HD)])), .own (.dik [] []), .any, .any, .any] _
  rw [hSd]
  generalize (W.map fun p => ((endsAt W p.1).length : Int)).sum = v11
  generalize lacks W (heads0 W Lb) = v12
  refine d_seq (d_forK (j := 0) rfl (fun i ρ => ∃ x9 x15 x16 : Cell, ρ = [.fro (wD W), .fro (wD Wd), .fro (dI [p0, p1, p2, p3, p4]), .fro (dI ns), .fro (.int a), .fro (.int b), .fro (dM prD L), .fro (dTP Lb), .fro (dM D.int HD), x9, x10, .fro (.int v11), .fro (.int v12), .fro (.lst (S.map fun m => dM D.int m)), .own (dM dI ((W.take i).map fun p => (p.1, rowL W L Lb S p.1))), x15, x16, .any]) ⟨⟨_, _, _, rfl⟩, ?_, ?_⟩)
  · rintro i d ρ hd ⟨x9, x15, x16, rfl⟩
    rw [keys_kD] at hd
    obtain ⟨p, hpi, hp, rfl⟩ := map_get hd
    have hk : p.1 ∈ W.map (·.1) := List.mem_map.mpr ⟨p, hp, rfl⟩
    have hd2 := hdg p.1
    have hnew : p.1 ∉ ((W.take i).map fun p => (p.1, rowL W L Lb S p.1)).map (·.1) := by rw [List.map_map]; exact nd_take hf.nd hpi
    have hal : ((W.take i).map fun p => (p.1, rowL W L Lb S p.1)).length ≤ 64 := by rw [List.length_map, List.length_take]; omega
    rw [List.take_add_one, hpi, Option.toList_some, List.map_append]
    generalize (W.take i).map (fun p => (p.1, rowL W L Lb S p.1)) = acc at hnew hal
    refine ⟨_, _, g_name, d_seq (d_set (e_v rfl) ?_)⟩
    refine d_seq (d_while (fun m ρ => ∃ t : Int, ρ = [.fro (wD W), .fro (wD Wd), .fro (dI [p0, p1, p2, p3, p4]), .fro (dI ns), .fro (.int a), .fro (.int b), .fro (dM prD L), .fro (dTP Lb), .fro (dM D.int HD), .fro (.int p.1), x10, .fro (.int v11), .fro (.int v12), .fro (.lst (S.map fun m => dM D.int m)), .own (dM dI acc), .fro (.int t), x16, .any] ∧ t ∈ W.map (·.1) ∧ (far L t).toNat = m ∧ topOf L t = topOf L p.1) (far L p.1).toNat ⟨p.1, rfl, hk, rfl, rfl⟩ ?_)
    rintro m ρ ⟨t, rfl, ht, hm, hto⟩
    have ht1 := way.pos t ht
    refine ⟨_, (t_test (e_op (e_far rfl (e_v rfl) (hkL t ht)) e_i o_gt)), fun hb => ?_, fun hb => ?_⟩
    · have hpos : 0 < far L t := of_decide_eq_true hb.symm
      have hdn := way.down t ht hpos
      have hu := way.pos _ ht1.2.2
      exact d_set (e_up rfl (e_v rfl) (hkL t ht)) ⟨(far L (up L t)).toNat, by omega, up L t, rfl, ht1.2.2, rfl, by rw [← topOf_up way ht hpos]; exact hto⟩
    · have hz : ¬ far L t > 0 := of_decide_eq_false hb.symm
      have htt : t = topOf L p.1 := by rw [← hto, topOf_top hz]
      rw [htt]
      refine d_seq (d_putM (v := [p.1, topOf L p.1, far L p.1, up L p.1] ++ S.map (fun m => nv m p.1)) rfl (EvD.to (e_op (e_lstF (l_cons (e_v rfl) (l_cons (e_v rfl) (l_cons (e_far rfl (e_v rfl) (hkL p.1 hk)) (l_cons (e_up rfl (e_v rfl) (hkL p.1 hk)) l_nil))))) (EvN.to (e := .lst (S.map fun m => .int (nv m p.1))) (EvNB.all fun B0 σ => c_lcM (xs := S) (en := fun m => dM D.int m) (i_listD (e_v rfl) B0 σ) (by omega) (fun m => .int (nv m p.1)) (fun m => [.fro (wD W), .fro (wD Wd), .fro (dI [p0, p1, p2, p3, p4]), .fro (dI ns), .fro (.int a), .fro (.int b), .fro (dM prD L), .fro (dTP Lb), .fro (dM D.int HD), .fro (.int p.1), x10, .fro (.int v11), .fro (.int v12), .fro (.lst (S.map fun m => dM D.int m)), .own (dM dI acc), .fro (.int (topOf L p.1)), x16, .fro (dM D.int m)]) (fun m _ => g_name)
        fun m hm => e_op (e_v rfl) (e_v rfl) (o_ixM (hkS m hm p.1 hk))) (by rintro _ rfl; rfl)) (o_addL (by rw [List.length_map, hSl]; exact (by decide : 4 + 3 ≤ 100000)))) ?_) (e_v rfl) (by omega) ?_)
      · show D.lst _ = D.lst (List.map D.int (_ ++ _))
        rw [List.map_append, List.map_map]; rfl
      rw [pt_new _ hnew]
      refine d_for (i_listD (e_ends rfl (e_v rfl) hk)) (fun k ρ => ∃ x16 : Cell, ρ = [.fro (wD W), .fro (wD Wd), .fro (dI [p0, p1, p2, p3, p4]), .fro (dI ns), .fro (.int a), .fro (.int b), .fro (dM prD L), .fro (dTP Lb), .fro (dM D.int HD), .fro (.int p.1), x10, .fro (.int v11), .fro (.int v12), .fro (.lst (S.map fun m => dM D.int m)), .own (dM dI (acc ++ [(p.1, [p.1, topOf L p.1, far L p.1, up L p.1] ++ S.map (fun m => nv m p.1) ++ ((endsAt W p.1).take k).flatMap fun e => [e.1, (labOf Lb (p.1, e.1)).1, (labOf Lb (p.1, e.1)).2])])), .fro (.int (topOf L p.1)), x16, .any]) ⟨⟨_, by rw [List.take_zero, List.flatMap_nil, List.append_nil]; rfl⟩, ?_, ?_⟩
      · rintro k d ρ hd ⟨x16, rfl⟩
        rw [List.getElem?_map] at hd
        obtain ⟨e, he, rfl⟩ := Option.map_eq_some_iff.mp hd
        have hem := List.mem_of_getElem? he
        have hlb := hlab p.1 hk e hem
        have hrl : (((endsAt W p.1).take k).flatMap fun e => [e.1, (labOf Lb (p.1, e.1)).1, (labOf Lb (p.1, e.1)).2]).length ≤ 600 := by
          have : ∀ es : List Nd, (es.flatMap fun e => [e.1, (labOf Lb (p.1, e.1)).1, (labOf Lb (p.1, e.1)).2]).length = 3 * es.length := by
            intro es
            induction es with
            | nil => rfl
            | cons e es ih => rw [List.flatMap_cons, List.length_append, ih]; show 3 + 3 * es.length = 3 * (es.length + 1); omega
          rw [this, List.length_take]; omega
        rw [List.take_add_one, he, Option.toList_some, List.flatMap_append, List.flatMap_cons, List.flatMap_nil, List.append_nil]
        generalize ((endsAt W p.1).take k).flatMap (fun e => [e.1, (labOf Lb (p.1, e.1)).1, (labOf Lb (p.1, e.1)).2]) = fl at hrl
        have hbl : ([p.1, topOf L p.1, far L p.1, up L p.1] ++ S.map (fun m => nv m p.1) ++ fl).length ≤ 700 := by
          rw [List.length_append, List.length_append, List.length_map, hSl]
          show 4 + 3 + fl.length ≤ 700
          omega
        rw [← List.append_assoc ([p.1, topOf L p.1, far L p.1, up L p.1] ++ S.map (fun m => nv m p.1))]
        generalize [p.1, topOf L p.1, far L p.1, up L p.1] ++ S.map (fun m => nv m p.1) ++ fl = r0 at hbl
        refine ⟨_, _, g_name, d_putM (v := r0 ++ [e.1, (labOf Lb (p.1, e.1)).1, (labOf Lb (p.1, e.1)).2]) rfl (EvD.to (e_op (e_op (e_ownM rfl (e_v rfl) (lk_last hnew)) (e_lstF (l_cons (e_tat 0 rfl rfl rfl) l_nil)) (o_addL (by rw [List.length_map]; show _ + 1 ≤ _; omega))) (e_cbN (l_cons (e_op (e_v rfl) (e_tup (l_cons (e_v rfl) (l_cons (e_tat 0 rfl rfl rfl) l_nil))) (o_ixP (k := (p.1, e.1)) hlb)) l_nil) c_listT).fz (o_addL (by rw [List.length_append, List.length_map]; show _ + 1 + 2 ≤ _; omega))) ?_) (e_v rfl) (by rw [List.length_append, List.length_singleton]; omega) ⟨.fro (eD e), ?_⟩⟩
        · show D.lst (r0.map D.int ++ [D.int e.1] ++ [D.int _, D.int _]) = D.lst (List.map D.int (_ ++ _))
          rw [List.map_append, List.append_assoc]; rfl
        · rw [pt_last hnew]; rfl
      · rintro ρ ⟨x16, rfl⟩
        rw [List.length_map, List.take_length]
        exact ⟨_, _, _, rfl⟩
  · rintro ρ ⟨x9, x15, x16, rfl⟩
    rw [List.length_map, List.length_map, List.take_length]
    exact d_retO rfl hR
end
end Bs
namespace Bs
open PySem L2
/-- the webs that the law makes -/
structure WebMade (W : Web) : Prop where
  sy : Sym W
  one : 1 ≤ W.length
  most : W.length ≤ 8
  range : ∀ n ∈ W.map (·.1), 0 ≤ n ∧ n < 4096
  irr : ∀ n, n ∉ orderOf W n
  conn : ∀ φ, Flow W φ → ∀ x ∈ W.map (·.1), ∀ y ∈ W.map (·.1), φ x = φ y
  few : (W.map fun p => (endsAt W p.1).length).sum ≤ 22
/-- what the law's text rests on, in plain terms -/
structure PlainFacts : Prop where
  pre : ∀ W, WebMade W → RowsPre W W
  drawn : ∀ W n p es, WebMade W → lk W n = some p → es.Perm p.2 → RowsPre W (pt W n (p.1, es))
  rows : ∀ W Wd a b Lb p3 p4, WebMade W → RowsPre W Wd → (∀ q ∈ pairsOf Wd, q.1 ∈ W.map (·.1) ∧ q.2 ∈ W.map (·.1)) → a ∈ W.map (·.1) → b ∈ W.map (·.1) → LabOk Wd p3 Lb (pairsOf Wd) → RowsIn W (rowsL W (rootParts W a b) Lb (headsOf W a Lb p4))
  sub : ∀ W n p es, WebMade W → lk W n = some p → es.Perm p.2 → ∀ q ∈ pairsOf (pt W n (p.1, es)), q.1 ∈ W.map (·.1) ∧ q.2 ∈ W.map (·.1)
  sub0 : ∀ W, WebMade W → ∀ q ∈ pairsOf W, q.1 ∈ W.map (·.1) ∧ q.2 ∈ W.map (·.1)
  right : ∀ W RM, WebMade W → RowsIn W RM → RightOk W RM
  cross : ∀ W RM, WebMade W → RowsIn W RM → CrossOk W RM
  few : ∀ W, WebMade W → (pairsOf W).length ≤ 100
  plain : ∀ W a Lb, WebMade W → a ∈ W.map (·.1) → LabOk W 0 Lb (pairsOf W) → flatB W = true → ∀ n ∈ W.map (·.1), sayN W (rowOf (rowsL W (rootParts W a a) Lb (headsOf W a Lb 1))) n = true
def ctWeb : Ctr := fun cs R => cs = [.pool, .fro (.int 8), .fro (.int 4)] ∧ ∀ W, WebMade W → R (.own (wD W))
theorem unpool_ne (c : Cell) : unpool c ≠ .pool := by cases c <;> simp [unpool]
section
variable {P : Program} {w : World} {K : PySem.W.Frag} {mg : Str → Option Value} {base : Heap}
def ctLaw : Ctr := fun cs R => ∃ ns : List Int, cs = [.fro (.scr ns)] ∧ R (.fro (.bl true))
theorem fn_law (PF : PlainFacts) (Z : Blt mg) {f : Addr} {fd : FuncData} (Fn : Fun K "law" "law" st_law f fd) (D_law_pool : OkDef P w K mg base 2 "_law_pool" ["_law_script", "_law_k"] ctPool) (D_law_web : OkDef P w K mg base 4 "_law_web" ["_law_pool_here", "_law_most", "_law_more"] ctWeb)
    (D_law_drawn : OkDef P w K mg base 2 "_law_drawn" ["_law_web_here", "_law_pool_here"] ctDrawn) (D_law_take : OkDef P w K mg base 1 "_law_take" ["_law_pool_here", "_law_many"] ctTake) (D_law_rows : OkDef P w K mg base 4 "_law_rows" ["_law_web_here", "_law_drawn_here", "_law_plan"] ctRows)
    (D_law_spoilt : OkDef P w K mg base 2 "_law_spoilt" ["_law_rows_here", "_law_pool_here"] ctSpoilt) (D_law_digits : OkDef P w K mg base 2 "_law_digits" ["_law_web_here", "_law_pool_here"] ctDigits) (D_law_right : OkDef P w K mg base 7 "_law_right" ["_law_web_here", "_law_rows_here"] ctRight)
    (D_law_crossed_right : OkDef P w K mg base 8 "_law_crossed_right" ["_law_web_here", "_law_rows_here", "_law_pool_here"] ctCrossedRight) (D_law_says : OkDef P w K mg base 3 "_law_says" ["_law_web_here", "_law_name", "_law_rows_here"] ctLSays)
    (D_law_is_flat : OkDef P w K mg base 3 "_law_is_flat" ["_law_web_here"] ctFlat) : FnOk P w K mg base CX0 9 f fd ["_law_script"] (spC K ctLaw) := by
  refine fn_c (k := 8) (n := 11) Fn sc_law rfl (by rintro cs P ⟨_, rfl, _⟩; rfl) fun cdv A outer s H E hr => ?_
  have hu1 := hu_of hr
  have hu : (A.deeper (PyProof.Rows.envOfC "law" (defScope st_law) s.heap.objs.size f cdv)).units + 65 < cLine := by have := hr.un; omega
  refine ⟨_, (pss_cons (ps_for PassesOwn.never rfl (pi_range1 (by rfl) Z.range (pa_cons (pe_callB (call_mx2 rfl) (by rfl) Z.max (by decide +kernel) (pa_cons pe_int (pa_cons (pe_callB (call_mn2 rfl) (by rfl) Z.min (by decide +kernel) (pa_cons pe_int (pa_cons (pe_callB (call_lenAK K rfl) (by rfl) Z.len (by decide +kernel) (pa_cons (pv 0) pa_nil)) pa_nil))) pa_nil))) pa_nil)) (pg_name (i := 1) sc_law.nd rfl (by first | exact Or.inl rfl | exact Or.inr rfl)) (pss_cons (ps_set (i := 2) sc_law.nd rfl (by first | exact Or.inl rfl | exact Or.inr rfl) (pe_fnK K D_law_pool rfl rfl rfl rfl rfl hr (by rfl) (pa_cons (pv 0) (pa_cons (pv 1) pa_nil))))
      (pss_cons (ps_set (i := 3) sc_law.nd rfl (by first | exact Or.inl rfl | exact Or.inr rfl) (pe_fnK K D_law_web rfl rfl rfl rfl rfl hr (by rfl) (pa_cons (pv 2) (pa_cons pe_int (pa_cons pe_int pa_nil)))))
      (pss_cons (ps_for PassesOwn.never rfl (pi_range1 (by rfl) Z.range (pa_cons pe_int pa_nil)) (pg_name (i := 4) sc_law.nd rfl (by first | exact Or.inl rfl | exact Or.inr rfl)) (pss_cons (ps_set (i := 5) sc_law.nd rfl (by first | exact Or.inl rfl | exact Or.inr rfl) (pe_fnK K D_law_drawn rfl rfl rfl rfl rfl hr (by rfl) (pa_cons (pv 3) (pa_cons (pv 2) pa_nil))))
      (pss_cons (ps_setLc (i := 6) (own := [("_law_many", 10)]) (g := (gName 10)) (tt := tYes) rfl sc_law.nd rfl rfl (sw_true rfl rfl rfl (by decide +kernel)) (pi_listK K rfl (pe_lst (pa_cons pe_int (pa_cons pe_int (pa_cons pe_int (pa_cons pe_int (pa_cons pe_int pa_nil))))))) (blkOk_by (N := N_law) (sc := defScope st_law) (by decide +kernel)) (fun _ _ _ _ _ => (pg_name (i := 10) sc_law.nd rfl (by first | exact Or.inl rfl | exact Or.inr rfl))) (fun _ _ _ _ _ => pts_nil) (fun _ _ _ _ _ => (pe_fnK K D_law_take rfl rfl rfl rfl rfl hr (by rfl) (pa_cons (pv 2) (pa_cons (pv 10) pa_nil)))))
      (pss_cons (ps_set (i := 7) sc_law.nd rfl (by first | exact Or.inl rfl | exact Or.inr rfl) (pe_fnK K D_law_rows rfl rfl rfl rfl rfl hr (by rfl) (pa_cons (pv 3) (pa_cons (pv 5) (pa_cons (pv 6) pa_nil)))))
      (pss_cons (ps_if (pt_cmpR op_gt (pv 4) pe_int (nomark _)) (pss_one (ps_set (i := 7) sc_law.nd rfl (by first | exact Or.inl rfl | exact Or.inr rfl) (pe_fnK K D_law_spoilt rfl rfl rfl rfl rfl hr (by rfl) (pa_cons (pv 7) (pa_cons (pv 2) pa_nil))))) pss_nil)
      (pss_cons (ps_if (PW.pt (pw_and (pt_cmpR (op_eqK K hr.units rfl) (pv 4) pe_int (nomark _)) (pw_and1 (pt_cmpR (op_eqK K hr.units rfl) (pe_fnK K D_law_take rfl rfl rfl rfl rfl hr (by rfl) (pa_cons (pv 2) (pa_cons pe_int pa_nil))) pe_int (nomark _))))) (pss_one (ps_set (i := 7) sc_law.nd rfl (by first | exact Or.inl rfl | exact Or.inr rfl) (pe_fnK K D_law_digits rfl rfl rfl rfl rfl hr (by rfl) (pa_cons (pv 3) (pa_cons (pv 2) pa_nil))))) pss_nil)
      (pss_one (ps_if (PW.pt (pw_or (pt_not (pt_val (pe_fnK K D_law_right rfl rfl rfl rfl rfl hr (by rfl) (pa_cons (pv 3) (pa_cons (pv 7) pa_nil))))) (pw_or1 (pt_not (pt_val (pe_fnK K D_law_crossed_right rfl rfl rfl rfl rfl hr (by rfl) (pa_cons (pv 3) (pa_cons (pv 7) (pa_cons (pv 2) pa_nil))))))))) (pss_one (ps_ret pe_bl)) pss_nil))))))))
      (pss_cons (ps_set (i := 8) sc_law.nd rfl (by first | exact Or.inl rfl | exact Or.inr rfl) (pe_fnK K D_law_rows rfl rfl rfl rfl rfl hr (by rfl) (pa_cons (pv 3) (pa_cons (pv 3) (pa_cons (pe_lst (pa_cons pe_int (pa_cons pe_int (pa_cons pe_int (pa_cons pe_int (pa_cons pe_int pa_nil)))))) pa_nil)))))
      (pss_cons (ps_lockOr (ps_setLc (i := 9) (own := [("_law_name", 11)]) (g := (gName 11)) rfl sc_law.nd rfl rfl (sw_true rfl rfl rfl (by decide +kernel)) (pi_keys (pv 3)) (blkOk_by (N := N_law) (sc := defScope st_law) (by decide +kernel)) (fun _ _ _ _ _ => (pg_name (i := 11) sc_law.nd rfl (by first | exact Or.inl rfl | exact Or.inr rfl))) (fun _ _ _ _ _ => (pts_one (pt_not (pt_val (pe_fnK K D_law_says rfl rfl rfl rfl rfl hr (by rfl) (pa_cons (pv 3) (pa_cons (pv 11) (pa_cons (pv 8) pa_nil)))))))) (fun _ _ _ _ _ => (pv 11))))
      (pss_cons (ps_if (PW.pt (pw_and (pt_val (pe_fnK K D_law_is_flat rfl rfl rfl rfl rfl hr (by rfl) (pa_cons (pv 3) pa_nil))) (pw_and1 (pt_cmpR (op_neK K hr.units rfl) (pv 9) (pe_lst pa_nil) (nomark _))))) (pss_one (ps_ret pe_bl)) pss_nil)
      (pss_one (ps_if (pt_not (pt_val (pe_fnK K D_law_right rfl rfl rfl rfl rfl hr (by rfl) (pa_cons (pv 3) (pa_cons (pv 8) pa_nil))))) (pss_one (ps_ret pe_bl)) pss_nil)))))))))
      (pss_one (ps_ret pe_bl))), ?_⟩
  rintro cs R ⟨ns, rfl, hR⟩
  have hcount : ∃ n : Nat, n ≤ 2 ∧ ((if (if (ns.length : Int) < 2 then (ns.length : Int) else 2) > 1 then (if (ns.length : Int) < 2 then (ns.length : Int) else 2) else 1) : Int) = (n : Int) := by
    by_cases h : (ns.length : Int) < 2
    · rw [if_pos h]
      by_cases h2 : (ns.length : Int) > 1
      · exact ⟨2, by omega, by rw [if_pos h2]; omega⟩
      · exact ⟨1, by omega, by rw [if_neg h2]; rfl⟩
    · rw [if_neg h]; exact ⟨2, by omega, rfl⟩
  obtain ⟨cn, hcn, hce⟩ := hcount
  refine d_seq (d_for (i_rng1 (n := cn) (l_cons ((e_cb (l_cons e_i (l_cons (e_cb (l_cons e_i (l_cons (e_cb (l_cons (e_v rfl) l_nil) c_lenR) l_nil)) c_min) l_nil)) c_max).to (by rw [← hce])) l_nil) (by omega)) (fun _ ρ => ∃ x1 x2 x3 x4 x5 x6 x7 x8 x9 x10 x11 : Cell, ρ = [.fro (.scr ns), x1, x2, x3, x4, x5, x6, x7, x8, x9, x10, x11] ∧ ∀ c ∈ [x1, x2, x3, x4, x5, x6, x7, x8, x9, x10, x11], c ≠ .pool) ⟨⟨_, _, _, _, _, _, _, _, _, _, _, rfl, fun c hc => ?_⟩, ?_, ?_⟩)
  · have : c = .any := by simpa using hc
    rw [this]; exact fun z => nomatch z
  · rintro i d ρ hd ⟨x1, x2, x3, x4, x5, x6, x7, x8, x9, x10, x11, rfl, hnp⟩
    obtain ⟨hi, rfl⟩ := rng_get hd
    refine ⟨_, _, g_name, d_seq (gd_setN (P := fun d => ∃ c s : Int, d = .lst [.int c, .int s] ∧ 0 ≤ s ∧ s < 2147483647) (gn_call (a_cons (e_v rfl) (a_cons (e_v rfl) a_nil)) fun cs e => e ▸ ⟨ns, 0 + (i : Nat), rfl, by omega, by omega, fun c s h0 h1 => ⟨_, rfl, c, s, rfl, h0, h1⟩⟩) ?_)⟩
    rintro _ ⟨pc, ps, rfl, hs0, hs1⟩
    refine d_withPool (i := 2) rfl hs0 hs1 (fun n hn => ?_) ?_
    · have hm := List.mem_of_getElem? hn
      simp only [List.set, List.mem_cons, List.not_mem_nil, or_false] at hm
      rcases hm with h | h | h | h | h | h | h | h | h | h | h | h
      · cases h
      · cases h
      · cases h
      all_goals exact hnp _ (by rw [h]; simp only [List.mem_cons, true_or, or_true]) rfl
    refine d_seq (gd_set (P := fun d => ∃ W, d = wD W ∧ WebMade W) (g_call (a_pool rfl (a_cons e_i (a_cons e_i a_nil))) fun cs e => e ▸ ⟨rfl, fun W hW => ⟨_, .inr rfl, W, rfl, hW⟩⟩) ?_)
    rintro _ ⟨W, rfl, hW⟩
    have hf := hW.sy.fit
    have hlen := hf.len
    have hnm : ∃ a, a ∈ W.map (·.1) := by
      cases h : W with
      | nil => have := hW.one; rw [h] at this; simp at this
      | cons p l => exact ⟨p.1, by simp⟩
    refine d_seq (d_for (i_rng1 (n := 5) (l_cons e_i l_nil) (by decide)) (fun _ ρ => ∃ x4 x5 x6 x7 : Cell, ρ = [.fro (.scr ns), .fro (.int (0 + (i : Nat))), .pool, .fro (wD W), x4, x5, x6, x7, x8, x9, x10, x11]) ⟨⟨_, _, _, _, rfl⟩, ?_, ?_⟩)
    · rintro t d ρ hd ⟨x4, x5, x6, x7, rfl⟩
      obtain ⟨ht, rfl⟩ := rng_get hd
      refine ⟨_, _, g_name, d_seq (gd_set (P := fun d => ∃ n p es, lk W n = some p ∧ es.Perm p.2 ∧ d = wD (pt W n (p.1, es))) (g_call (a_cons (e_v rfl) (a_pool rfl a_nil)) fun cs e => e ▸ ⟨W, rfl, hf, hW.one, fun n p es h1 h2 => ⟨_, .inr rfl, n, p, es, h1, h2, rfl⟩⟩) ?_)⟩
      rintro _ ⟨dn, dp, des, hdn, hdp, rfl⟩
      have hpre := PF.drawn W dn dp des hW hdn hdp
      have hsub := PF.sub W dn dp des hW hdn hdp
      generalize pt W dn (dp.1, des) = Wd at hpre hsub
      refine d_seq (gd_set (P := fun d => ∃ p0 p1 p2 p3 p4 : Int, d = dI [p0, p1, p2, p3, p4] ∧ 0 ≤ p2 ∧ p2 < 3) (Ev.imp (EvN.fz (EvNB.all fun B0 σ => c_lcB (ds := [8, 8, 3, 5, 3].map D.int) (i_listD (e_lstF (l_cons e_i (l_cons e_i (l_cons e_i (l_cons e_i (l_cons e_i l_nil)))))) B0 σ) (by decide) (fun i rs => ∃ ps : List Int, rs = ps.map D.int ∧ ps.length = i ∧ ∀ (j : Nat) (v : Int), ps[j]? = some v → ∃ m, ([8, 8, 3, 5, 3] : List Int)[j]? = some m ∧ 0 ≤ v ∧ v < m) ⟨[], rfl, rfl, fun j v h => by simp at h⟩
        fun k d rs hd ⟨ps, e1, e2, e3⟩ => ⟨_, g_name, (t_yes).imp fun b hb => ?_⟩)) ?_) ?_)
      · subst hb
        rw [if_pos rfl]
        obtain ⟨m, hm, hmm, rfl⟩ := map_get hd
        have hm2 : 1 ≤ m ∧ m ≤ 8 := by
          simp only [List.mem_cons, List.not_mem_nil, or_false] at hmm
          omega
        refine (e_take (m := m) rfl (e_v rfl) hm2.1 (by omega)).imp fun d ⟨v, e, h0, h1⟩ => ⟨ps ++ [v], by rw [e, e1, List.map_append]; rfl, by rw [List.length_append, List.length_singleton, e2], fun j u hj => ?_⟩
        by_cases hjl : j < ps.length
        · rw [List.getElem?_append_left hjl] at hj; exact e3 j u hj
        · rw [List.getElem?_append_right (by omega)] at hj
          have hj2 : j = ps.length := by
            have := (List.getElem?_eq_some_iff.mp hj).1
            rw [List.length_singleton] at this
            omega
          subst hj2
          rw [Nat.sub_self] at hj
          cases hj
          rw [e2]
          exact ⟨m, hm, h0, h1⟩
      · rintro d ⟨rs, rfl, ps, rfl, h2, h3⟩
        match ps, h2, h3 with
        | [p0, p1, p2, p3, p4], _, h3 =>
          obtain ⟨m, hm, h4, h5⟩ := h3 2 p2 rfl
          cases hm
          exact ⟨p0, p1, p2, p3, p4, rfl, h4, h5⟩
      rintro _ ⟨p0, p1, p2, p3, p4, rfl, hp20, hp21⟩
      refine d_seq (gd_setN (P := fun d => ∃ RM, d = dM dI RM ∧ RowsIn W RM) (gn_call (a_cons (e_v rfl) (a_cons (e_v rfl) (a_cons (e_v rfl) a_nil))) fun cs e => e ▸ ⟨W, Wd, p0, p1, p2, p3, p4, rfl, hpre, hp20, hp21, fun a b Lb ha hb _ hLb => ⟨_, rfl, _, rfl, PF.rows W Wd a b Lb p3 p4 hW hpre hsub ha hb hLb⟩⟩) ?_)
      rintro _ ⟨RM, rfl, hRM⟩
      refine d_cut (fun ρ => ∃ RM : RowsM, ρ = [.fro (.scr ns), .fro (.int (0 + (i : Nat))), .pool, .fro (wD W), .fro (.int (0 + (t : Nat))), .fro (wD Wd), .fro (dI [p0, p1, p2, p3, p4]), .own (dM dI RM), x8, x9, x10, x11] ∧ RowsIn W RM) (d_if (t_test (e_op (e_v rfl) e_i o_gt)) (fun _ => d_callOwn (i := 7) (j := 2) (Q := fun d => ∃ RM, d = dM dI RM ∧ RowsIn W RM) rfl rfl ⟨W, RM, rfl, hf, hW.one, hW.range, hRM, fun RM' h => ⟨_, rfl, RM', rfl, h⟩⟩ fun d' ⟨RM', e, h⟩ => ⟨RM', by rw [e]; rfl, h⟩) fun _ => d_next ⟨RM, rfl, hRM⟩) ?_
      rintro _ ⟨RM, rfl, hRM⟩
      refine d_cut (fun ρ => ∃ RM : RowsM, ρ = [.fro (.scr ns), .fro (.int (0 + (i : Nat))), .pool, .fro (wD W), .fro (.int (0 + (t : Nat))), .fro (wD Wd), .fro (dI [p0, p1, p2, p3, p4]), .own (dM dI RM), x8, x9, x10, x11] ∧ RowsIn W RM) (gd_if (R := fun _ => True) (gt_and (R := fun _ => True) (S := fun _ => True) ((t_test (e_op (e_v rfl) e_i o_eqi)).imp fun _ _ => trivial) (fun _ => gt_test (g_op (R := fun d => ∃ b, d = .bl b) (e_take (m := 2) rfl e_i (by decide) (by decide)) (fun _ _ => e_i) (by rintro _ _ ⟨r, rfl, _⟩ rfl; exact op_of o_eqi ⟨_, rfl⟩)) (fun d ⟨b, e⟩ => ⟨b, e, trivial⟩)) (fun _ _ => trivial) (fun _ => trivial)) (fun _ => gd_setN (P := fun d => ∃ RM, d = dM dI RM ∧ RowsIn W RM) (gn_call (a_cons (e_v rfl) (a_pool rfl a_nil)) fun cs e => e ▸ ⟨W, rfl, hf, fun RM' h => ⟨_, rfl, RM', rfl, h⟩⟩) fun d' ⟨RM', e, h⟩ => ⟨RM', by rw [e]; rfl, h⟩) fun _ => d_next ⟨RM, rfl, hRM⟩) ?_
      rintro _ ⟨RM, rfl, hRM⟩
      have hro := PF.right W RM hW hRM
      refine d_freeze (i := 7) rfl (d_if (b := false) ((t_or (t_not (t_B (e_callF (d := .bl true) (a_cons (e_v rfl) (a_cons (e_v rfl) a_nil)) fun P h => ⟨W, RM, rfl, hro.face, hro.key, hro.fit, hro.flat, h⟩))) fun _ => t_not (t_B (e_callF (d := .bl true) (a_cons (e_v rfl) (a_cons (e_v rfl) (a_pool rfl a_nil))) fun P h => ⟨W, RM, rfl, hf, PF.few W hW, PF.cross W RM hW hRM, h⟩))).to rfl) (fun e => nomatch e) fun _ => d_next ⟨_, _, _, _, rfl⟩)
    · rintro ρ ⟨x4, x5, x6, x7, rfl⟩
      have hpre := PF.pre W hW
      refine d_seq (gd_set (P := fun d => ∃ a Lb, a ∈ W.map (·.1) ∧ LabOk W 0 Lb (pairsOf W) ∧ d = dM dI (rowsL W (rootParts W a a) Lb (headsOf W a Lb 1))) (g_call (a_cons (e_v rfl) (a_cons (e_v rfl) (a_cons (e_lstF (l_cons e_i (l_cons e_i (l_cons e_i (l_cons e_i (l_cons e_i l_nil)))))) a_nil))) fun cs e => e ▸ ⟨W, W, 0, 0, 0, 0, 1, rfl, hpre, by decide, by decide, fun a b Lb ha hb hab hLb => ⟨_, .inr rfl, a, Lb, ha, hLb, by rw [hab (by decide)]⟩⟩) ?_)
      rintro _ ⟨a, Lb, ha, hLb, rfl⟩
      have hRM := PF.rows W W a a Lb 0 1 hW hpre (PF.sub0 W hW) ha ha hLb
      have hpl := PF.plain W a Lb hW ha hLb
      generalize rowsL W (rootParts W a a) Lb (headsOf W a Lb 1) = RM at hRM hpl
      have hro := PF.right W RM hW hRM
      refine d_seq (d_lockOr (d_set (EvN.to (e := dI ((W.filter fun p => !sayN W (rowOf RM) p.1).map (·.1))) (n_lcK rfl fun B0 σ hi => c_lcD (xs := W) (en := fun p => .int p.1) (ρ := [.fro (.scr ns), .fro (.int (0 + (i : Nat))), .pool, .fro (wD W), x4, x5, x6, x7, .fro (dM dI RM), x9, x10, x11]) (by rw [keys_kD] at hi; exact hi) (by omega) (fun p => !sayN W (rowOf RM) p.1) (fun p => .int p.1) (fun p => [.fro (.scr ns), .fro (.int (0 + (i : Nat))), .pool, .fro (wD W), x4, x5, x6, x7, .fro (dM dI RM), x9, x10, .fro (.int p.1)]) (fun p _ => g_name)
        (fun p hp => t_not (t_B (e_callF (a_cons (e_v rfl) (a_cons (e_v rfl) (a_cons (e_v rfl) a_nil))) fun P h => ⟨W, p.1, RM, rfl, List.mem_map.mpr ⟨p, hp, rfl⟩, hro.key, hro.fit, h⟩))) fun p _ _ => e_v rfl) (by rintro _ rfl; rw [dI, List.map_map]; rfl)) ?_))
      refine d_seq (d_if (b := false) ((t_and (t_B (e_callF (a_cons (e_v rfl) a_nil) fun P h => ⟨W, rfl, hro.face, h⟩)) fun hfl => t_test (e_op (e_v rfl) (e_lstF l_nil) (o_ne (fl_dI _) (fl_nil 0)))).to ?_) (fun e => nomatch e) fun _ => d_next ?_)
      · rw [eqD_lnil, len_emp]
        cases hfl : flatB W with
        | false => rfl
        | true =>
          have : (W.filter fun p => !sayN W (rowOf RM) p.1) = [] := List.filter_eq_nil_iff.mpr fun p hp => by rw [hpl hfl p.1 (List.mem_map.mpr ⟨p, hp, rfl⟩)]; simp
          rw [this]; rfl
      refine d_if (b := false) ((t_not (t_B (e_callF (d := .bl true) (a_cons (e_v rfl) (a_cons (e_v rfl) a_nil)) fun P h => ⟨W, RM, rfl, hro.face, hro.key, hro.fit, hro.flat, h⟩))).to rfl) (fun e => nomatch e) fun _ => d_next ⟨_, _, _, _, _, _, _, _, _, _, _, rfl, fun c hc => ?_⟩
      simp only [List.mem_cons, List.not_mem_nil, or_false] at hc
      rcases hc with rfl | rfl | rfl | rfl | rfl | rfl | rfl | rfl | rfl | rfl | rfl <;> exact unpool_ne _
  · rintro ρ ⟨x1, x2, x3, x4, x5, x6, x7, x8, x9, x10, x11, rfl, _⟩
    exact d_ret e_b hR
end
end Bs
/-! A dict of lists that are written on: the dict at p, for each key its list's place and what stands in it. -/
namespace Bs
open PySem L2
abbrev EndsM := List (Int × Addr × List Nd)
def plc (p : Addr) (ms : EndsM) : List Addr := p :: ms.map (·.2.1)
structure EndsAt (K : PySem.W.Frag) (B B' F : Hp) (p : Addr) (ms : EndsM) : Prop where
  nd : (plc p ms).Nodup
  fr : ∀ a ∈ plc p ms, B a = none ∧ F a = none
  dct : B' p = some (.dK (ms.map fun t => (Sum.inl t.1, V.ref t.2.1)))
  lst : ∀ t ∈ ms, ∃ l, B' t.2.1 = some (.lst l) ∧ RdL K F (t.2.2.map eD) l
  ot : ∀ a, a ∉ plc p ms → B' a = B a
/-- what stands there, as a dict of lists -/
def eM (ms : EndsM) : List (Int × List Nd) := ms.map fun t => (t.1, t.2.2)
def esD (es : List Nd) : D := .lst (es.map eD)
section
variable {K : PySem.W.Frag} {B B' Bp : Hp} {pp : Option Addr} {F F' F1 F2 H H' H2 : Hp} {σ : L2.St} {ρ ρ' : List Cell} {p : Addr} {ms : EndsM} {i j : Nat}
theorem EndsAt.le (e : EndsAt K B B' F p ms) : Le B B' := fun a v h => by
  have n : a ∉ plc p ms := fun z => by rw [(e.fr a z).1] at h; cases h
  rw [e.ot a n]; exact h
theorem EndsAt.full (e : EndsAt K B B' F p ms) {a : Addr} (h : a ∈ plc p ms) : B' a ≠ none := by
  rcases List.mem_cons.mp h with rfl | h
  · rw [e.dct]; exact Option.some_ne_none _
  · obtain ⟨t, ht, rfl⟩ := List.mem_map.mp h
    obtain ⟨l, hl, _⟩ := e.lst t ht
    rw [hl]; exact Option.some_ne_none _
theorem EndsAt.mono (e : EndsAt K B B' F p ms) (g : Gro B' F F') : EndsAt K B B' F' p ms :=
  ⟨e.nd, fun a h => ⟨(e.fr a h).1, g.nf a (e.full h) (e.fr a h).2⟩, e.dct, fun t ht => by
    obtain ⟨l, hl, r⟩ := e.lst t ht
    exact ⟨l, hl, RdL.mono g.le _ _ r⟩, e.ot⟩
theorem EndsAt.gro (e : EndsAt K B B' F p ms) (g : Gro B' F F') : Gro B F F' := Gro.base e.le g
/-- the frozen view of it -/
theorem EndsAt.view (e : EndsAt K B B' F p ms) (lb : Le B' Bp) (ok : OkE K Bp pp F H σ ρ) (fr : Free B' σ ρ) (hi : ρ[i]? = some (.fro (.adr p))) :
    ∃ F1, Le F F1 ∧ (∀ a, a ∉ plc p ms → F1 a = F a) ∧ OkE K Bp pp F1 H σ (ρ.set i (.fro (dM esD (eM ms)))) := by
  have hil := (List.getElem?_eq_some_iff.mp hi).1
  have hF : Le F (fun a => if a ∈ plc p ms then B' a else F a) := fun a v h => by
    have n : a ∉ plc p ms := fun z => by rw [(e.fr a z).2] at h; cases h
    exact (if_neg n).trans h
  refine ⟨_, hF, fun a n => if_neg n, ⟨fun a u h => ?_, ok.bse.base, fun q z => ?_⟩, fun n c hc => ?_, fun n n' q d d' h1 h2 h3 h4 => ?_⟩
  · have h : (if a ∈ plc p ms then B' a else F a) = some u := h
    split at h
    · exact .inl (ok.bse.base a u (lb a u h))
    · exact ok.bse.ext a u h
  · obtain ⟨h1, h2⟩ := ok.bse.pool q z
    have n : q ∉ plc p ms := fun y => e.full y (lb.none h1)
    exact ⟨h1, (if_neg n).trans h2.1, h2.2⟩
  · by_cases z : i = n
    · subst z
      rw [List.getElem?_set_self hil] at hc
      cases hc
      obtain ⟨v, hv, r⟩ := ok.fro hi
      unfold Rdd at r; subst r
      refine ⟨_, hv, .ref p, rfl, ?_⟩
      unfold dM Rdd
      have hp : p ∈ plc p ms := List.mem_cons_self
      refine ⟨p, _, rfl, (if_pos hp).trans e.dct, ?_, ?_⟩
      · unfold eM; rw [List.map_map, List.map_map]; rfl
      · have key : ∀ l : EndsM, (∀ t ∈ l, t ∈ ms) → RdL K (fun a => if a ∈ plc p ms then B' a else F a) ((l.map fun t => (t.1, t.2.2)).map fun p => esD p.2) ((l.map fun t => ((Sum.inl t.1 : Key), V.ref t.2.1)).map (·.2)) := by
          intro l
          induction l with
          | nil => intro _; exact RdL.nil
          | cons t l ih =>
            intro h
            obtain ⟨xs, hx, r⟩ := e.lst t (h t List.mem_cons_self)
            have ht : t.2.1 ∈ plc p ms := List.mem_cons_of_mem _ (List.mem_map.mpr ⟨t, h t List.mem_cons_self, rfl⟩)
            exact RdL.cons (by unfold esD Rdd; exact ⟨t.2.1, xs, rfl, (if_pos ht).trans hx, RdL.mono hF _ _ r⟩) (ih fun x hx => h x (List.mem_cons_of_mem _ hx))
        exact key ms fun _ h => h
    · rw [List.getElem?_set_ne z] at hc
      obtain ⟨y, e1, y1⟩ := ok.cell n c hc
      refine ⟨y, e1, ?_⟩
      cases c with
      | any => trivial
      | fro d => obtain ⟨v, e2, r⟩ := y1; exact ⟨v, e2, Rdd.mono hF _ _ r⟩
      | own d =>
        obtain ⟨r, ob, e2, f2, b2, m2⟩ := y1
        subst e2
        have n' : r ∉ plc p ms := fun y => e.full y (fr n d r hc e1)
        exact ⟨r, ob, rfl, (if_neg n').trans f2, b2, m2.mono hF⟩
      | pool => exact y1
  · have z1 : i ≠ n := by rintro rfl; rw [List.getElem?_set_self hil] at h1; cases h1
    have z2 : i ≠ n' := by rintro rfl; rw [List.getElem?_set_self hil] at h2; cases h2
    rw [List.getElem?_set_ne z1] at h1
    rw [List.getElem?_set_ne z2] at h2
    exact ok.sep n n' q d d' h1 h2 h3 h4
theorem view_back {ρ2 : List Cell} (ok : OkE K Bp pp F H σ ρ) (l : Le F F2) (ok2 : OkE K Bp pp F2 H2 σ ρ2) : OkE K Bp pp F H2 σ ρ :=
  ⟨⟨ok2.bse.ext.le l, ok2.bse.base, fun q e => ⟨(ok.bse.pool q e).1, (ok.bse.pool q e).2.1, (ok2.bse.pool q e).2.2⟩⟩, ok.cell, ok.sep⟩
end
/-- a state with such a dict beside it -/
def OkX (K : PySem.W.Frag) (p : Addr) (B : Hp) (pp : Option Addr) (F H : Hp) (σ : L2.St) (ρ : List Cell) (ms : EndsM) : Prop := ∃ B', EndsAt K B B' F p ms ∧ OkS K B' pp F H σ ρ
def DosX (K : PySem.W.Frag) (p : Addr) (ts : TS) (ms : EndsM) (ρ : List Cell) (E : EndsM → List Cell → Prop) : Prop := ∀ B pp F H σ DD, OkX K p B pp F H σ ρ ms →
  (∀ F' H' σ' ms' ρ', OkX K p B pp F' H' σ' ρ' ms' → Gro B F F' → E ms' ρ' → DD.nx σ' H') → ts DD σ H
section
variable {K : PySem.W.Frag} {ρ ρ' : List Cell} {p : Addr} {ms : EndsM} {i j : Nat} {E E' : EndsM → List Cell → Prop} {ts tu tb : TS} {te tk : TE} {t : TT} {g : TG} {wi : TI}
theorem x_seq (h : DosX K p ts ms ρ fun ms' ρ' => DosX K p tu ms' ρ' E) : DosX K p (tSeq ts tu) ms ρ E := fun B pp F H σ DD ok x =>
  h B pp F H σ _ ok fun F' H' σ' ms' ρ' ok' g k => k B pp F' H' σ' DD ok' fun F2 H2 σ2 ms2 ρ2 ok2 g2 e => x F2 H2 σ2 ms2 ρ2 ok2 (g.trans g2) e
theorem x_imp (h : DosX K p ts ms ρ E') (k : ∀ m r, E' m r → E m r) : DosX K p ts ms ρ E := fun B pp F H σ DD ok x => h B pp F H σ DD ok fun F' H' σ' ms' ρ' a b c => x F' H' σ' ms' ρ' a b (k _ _ c)
theorem x_next (h : E ms ρ) : DosX K p tNext ms ρ E := fun B pp F H σ DD ok x => x F H σ ms ρ ok Gro.refl h
theorem x_lift (h : Dos K ts ρ ⟨fun ρ' => E ms ρ', fun _ => False, fun _ => False, fun _ => False⟩) : DosX K p ts ms ρ E := fun B pp F H σ DD ⟨B', e, ok⟩ x =>
  h B' pp F H σ DD ok ⟨fun F' H' σ' ρ' ok' g k => x F' H' σ' ms ρ' ⟨B', e.mono g, ok'⟩ (e.gro g) k, fun _ _ _ _ _ _ _ z => z.elim, fun _ _ _ _ _ _ z => z.elim, fun _ _ _ _ _ _ z => z.elim⟩
theorem x_if {R : Bool → Prop} (h : EvT K t ρ R) (h1 : R true → DosX K p ts ms ρ E) (h2 : R false → DosX K p tu ms ρ E) : DosX K p (tIfS t ts tu) ms ρ E := fun B pp F H σ DD ⟨B', e, ok⟩ x => by
  obtain ⟨Bp, lb, ok1⟩ := ok.ex
  refine h Bp pp F H σ ok1 _ fun b F1 H1 ok2 l2 pb => ?_
  have g : Gro B' F F1 := Gro.base lb l2
  have okx : OkX K p B pp F1 H1 σ ρ ms := ⟨B', e.mono g, ok.behind lb ok2⟩
  cases b with
  | true => exact h1 pb B pp F1 H1 σ DD okx fun F2 H2 σ2 ms2 ρ2 a b c => x F2 H2 σ2 ms2 ρ2 a ((e.gro g).trans b) c
  | false => exact h2 pb B pp F1 H1 σ DD okx fun F2 H2 σ2 ms2 ρ2 a b c => x F2 H2 σ2 ms2 ρ2 a ((e.gro g).trans b) c
/-- a test that reads it -/
theorem x_ifE {R : Bool → Prop} (hi : ρ[i]? = some (.fro (.adr p))) (h : EvT K t (ρ.set i (.fro (dM esD (eM ms)))) R) (h1 : R true → DosX K p ts ms ρ E) (h2 : R false → DosX K p tu ms ρ E) : DosX K p (tIfS t ts tu) ms ρ E := fun B pp F H σ DD ⟨B', e, ok⟩ x => by
  obtain ⟨Bp, lb, ok1⟩ := ok.ex
  obtain ⟨Fv, lv, _, okv⟩ := e.view lb ok1 ok.free hi
  refine h Bp pp Fv H σ okv _ fun b F1 H1 ok2 l2 pb => ?_
  have okx : OkX K p B pp F H1 σ ρ ms := ⟨B', e, ok.behind lb (view_back ok1 (lv.trans l2.le) ok2)⟩
  cases b with
  | true => exact h1 pb B pp F H1 σ DD okx x
  | false => exact h2 pb B pp F H1 σ DD okx x
theorem x_setE {P : D → Prop} (hi : ρ[i]? = some (.fro (.adr p))) (h : Ev K te (ρ.set i (.fro (dM esD (eM ms)))) P) (hs : ∀ d, P d → Sca d) (k : ∀ d, P d → E ms (ρ.set j (.fro d))) : DosX K p (tAsg te (gName j)) ms ρ E := fun B pp F H σ DD ⟨B', e, ok⟩ x => by
  obtain ⟨Bp, lb, ok1⟩ := ok.ex
  obtain ⟨Fv, lv, _, okv⟩ := e.view lb ok1 ok.free hi
  refine h Bp pp Fv H σ okv _ fun v d F1 H1 ok2 l2 pd rd => ?_
  have ok3 := view_back ok1 (lv.trans l2.le) ok2
  exact x F H1 _ ms _ ⟨B', e, ⟨Bp, lb, ok3.setF j (sca_rd (hs d pd) rd)⟩, free_set ok.free (fun _ _ z => nomatch z) ok3.len⟩ Gro.refl (k d pd)
/-- loops -/
theorem x_for {P : List D → Prop} (hi : ∀ B0 σ, ItE K B0 σ wi ρ P) (hb : ∀ ds, P ds → ∃ Iv : Nat → EndsM → List Cell → Prop, Iv 0 ms ρ ∧
    (∀ (k : Nat) (d : D) (m : EndsM) (r : List Cell), ds[k]? = some d → Iv k m r → ∃ vs r', TgE K g vs r d r' ∧ DosX K p tb m r' (Iv (k + 1))) ∧ ∀ m r, Iv ds.length m r → E m r) : DosX K p (tFor wi g tb) ms ρ E := fun B pp F H σ DD ⟨B', e, ok⟩ x => by
  obtain ⟨Bp, lb, ok1⟩ := ok.ex
  refine hi B σ Bp pp F H (e.le.trans lb) ok1 _ fun J ds F1 H1 ok2 l2 pd y => ?_
  obtain ⟨Iv, i0, istep, iend⟩ := hb ds pd
  have g1 : Gro B' F F1 := Gro.base lb l2
  refine ⟨fun i m σ' H' => m = ds.length - i ∧ i ≤ ds.length ∧ ∃ F' ms' ρ', OkX K p B pp F' H' σ' ρ' ms' ∧ Gro B F F' ∧ Le F1 F' ∧ Iv i ms' ρ', ⟨ds.length, rfl, Nat.zero_le _, F1, ms, ρ, ⟨B', e.mono g1, ok.behind lb ok2⟩, e.gro g1, Le.refl F1, i0⟩, ?_⟩
  rintro i m σ' H' ⟨rfl, hle, F2, ms2, ρ2, ⟨B2, e2, ok3⟩, l3, l4, iv⟩
  obtain ⟨Bq, lq, ok4⟩ := ok3.ex
  by_cases hlt : i < ds.length
  · obtain ⟨hgo, hy⟩ := (y Bq pp F2 H' σ' ρ2 (e2.le.trans lq) l4 ok4 i).1 hlt
    refine .inr ⟨hgo, fun σ' H' => ∃ F' ms' ρ', OkX K p B pp F' H' σ' ρ' ms' ∧ Gro B F F' ∧ Le F1 F' ∧ Iv (i + 1) ms' ρ', fun σ' H' z => ⟨ds.length - (i + 1), by omega, rfl, hlt, z⟩, fun v H2 hv => ?_⟩
    obtain ⟨F3, d, l5, ok5, ed, rd⟩ := hy v H2 hv
    obtain ⟨vs, ρ'', tg, hbody⟩ := istep i d ms2 ρ2 ed iv
    have g5 : Gro B2 F2 F3 := Gro.base lq l5
    refine tg.run Bq pp F3 H2 σ' v ok5 rd _ fun σ2 ok6 _ hs => ?_
    have ok7 : OkS K B2 pp F3 H2 σ2 ρ'' := ⟨⟨Bq, lq, ok6⟩, fun j c r h1 h2 => by
      obtain ⟨z1, z2⟩ := tg.own j c h1
      rw [hs j z1] at h2
      exact ok3.free j c r z2 h2⟩
    refine hbody B pp F3 H2 σ2 _ ⟨B2, e2.mono g5, ok7⟩ fun F4 H4 σ4 ms4 ρ4 a b c => ⟨F4, ms4, ρ4, a, (l3.trans (e2.gro g5)).trans b, (l4.trans l5.le).trans b.le, c⟩
  · have e' : i = ds.length := by omega
    subst e'
    exact .inl ⟨(y Bq pp F2 H' σ' ρ2 (e2.le.trans lq) l4 ok4 _).2 (Nat.le_refl _), x F2 H' σ' ms2 ρ2 ⟨B2, e2, ok3⟩ l3 (iend ms2 ρ2 iv)⟩
/-- one end is put in -/
def insAt (ms : EndsM) (n : Int) (r : Nat) (e : Nd) : EndsM := ms.map fun t => if t.1 = n then (t.1, t.2.1, t.2.2.take r ++ [e] ++ t.2.2.drop r) else t
theorem insAt_plc (ms : EndsM) (n : Int) (r : Nat) (e : Nd) (p : Addr) : plc p (insAt ms n r e) = plc p ms := by
  unfold plc insAt
  rw [List.map_map]
  congr 1
  refine List.map_congr_left fun t _ => ?_
  show (if t.1 = n then (t.1, t.2.1, t.2.2.take r ++ [e] ++ t.2.2.drop r) else t).2.1 = t.2.1
  split <;> rfl
theorem insAt_keys (ms : EndsM) (n : Int) (r : Nat) (e : Nd) : (insAt ms n r e).map (·.1) = ms.map (·.1) := by
  unfold insAt
  rw [List.map_map]
  refine List.map_congr_left fun t _ => ?_
  show (if t.1 = n then (t.1, t.2.1, t.2.2.take r ++ [e] ++ t.2.2.drop r) else t).1 = t.1
  split <;> rfl
theorem x_ins {n : Int} {tl : TA} {e : Nd} {es : List Nd} (hi : ρ[i]? = some (.fro (.adr p))) (hj : ρ[j]? = some (.fro (.int n))) (hnd : (ms.map (·.1)).Nodup) (hes : lk (eM ms) n = some es) (hl : es.length ≤ 1000)
    (hk : Ev K tk (ρ.set i (.fro (dM esD (eM ms)))) (Tk (es.length + 1 : Nat))) (he : EvD K (tTup tl) ρ (eD e)) (k : ∀ r, r ≤ es.length → E (insAt ms n r e) ρ) :
    DosX K p (tDrop (tBM K "list" rIns (tOp (rIxA K) (tVar i) (tVar j)) (tCons tk (tCons (tTup tl) tNil)))) ms ρ E := fun B pp F H σ DD ⟨B', ea, ok⟩ x => by
  obtain ⟨Bp, lb, ok1⟩ := ok.ex
  obtain ⟨v0, e0, r0⟩ := ok1.fro hi
  unfold Rdd at r0; subst r0
  obtain ⟨v1, e1, r1⟩ := ok1.fro hj
  unfold Rdd at r1; subst r1
  have hmem : ∃ t ∈ ms, t.1 = n ∧ t.2.2 = es := by
    have := lk_some hes
    unfold eM at this
    obtain ⟨t, ht, hte⟩ := List.mem_map.mp this
    cases hte
    exact ⟨t, ht, rfl, rfl⟩
  obtain ⟨t, ht, htn, hte⟩ := hmem
  obtain ⟨l, hBl, hrl⟩ := ea.lst t ht
  have hpH : H p = some (.dK (ms.map fun t => (Sum.inl t.1, V.ref t.2.1))) := ok1.bse.base _ _ (lb _ _ ea.dct)
  have hq : t.2.1 ∈ plc p ms := List.mem_cons_of_mem _ (List.mem_map.mpr ⟨t, ht, rfl⟩)
  have hval : valV (ms.map fun t => ((Sum.inl t.1 : Key), V.ref t.2.1)) (Sum.inl n) = some (V.ref t.2.1) := by
    have key : ∀ (ms : EndsM), (ms.map (·.1)).Nodup → t ∈ ms → valV (ms.map fun t => ((Sum.inl t.1 : Key), V.ref t.2.1)) (Sum.inl n) = some (V.ref t.2.1) := by
      intro ms
      induction ms with
      | nil => intro _ h; cases h
      | cons u ms ih =>
        intro nd h
        rw [List.map_cons, List.nodup_cons] at nd
        rcases List.mem_cons.mp h with rfl | h
        · exact valV_pos (by show (Sum.inl t.1 : Key) = Sum.inl n; rw [htn])
        · have : ¬ (Sum.inl u.1 : Key) = Sum.inl n := fun z => nd.1 (by rw [Sum.inl.inj z, ← htn]; exact List.mem_map.mpr ⟨t, h, rfl⟩)
          rw [List.map_cons, valV_neg this]; exact ih nd.2 h
    exact key ms hnd ht
  refine ⟨.ref p, e0, .int n, e1, .inr (.inr (.inr ⟨p, .ref t.2.1, rfl, .inl ⟨_, .inl n, .inl hpH, rfl, hval.symm⟩, ?_⟩))⟩
  refine ⟨.inl ⟨rfl, l, SqL.of (ok1.bse.base _ _ (lb _ _ hBl))⟩, ?_⟩
  obtain ⟨Fv, lv, _, okv⟩ := ea.view lb ok1 ok.free hi
  refine hk Bp pp Fv H σ okv _ fun v d F1 H1 ok2 l2 pd rd => ?_
  obtain ⟨r, rfl, hr0, hr1⟩ := pd
  unfold Rdd at rd; subst rd
  have ok3 := view_back ok1 (lv.trans l2.le) ok2
  refine he Bp pp F H1 σ ok3 _ fun v d F3 H3 ok4 l4 pd rd => ?_
  subst pd
  have g4 : Gro B' F F3 := Gro.base lb l4
  have ea2 := ea.mono g4
  have hr : r.toNat ≤ es.length := by omega
  have hll := hrl.len
  rw [List.length_map, hte] at hll
  refine ⟨t.2.1, l, r, v, rfl, rfl, ok4.bse.base _ _ (lb _ _ hBl), ?_, hr0, by omega, ?_⟩
  · rw [← hll]; exact Nat.lt_of_le_of_lt hl (by decide)
  have hnewR : RdL K F3 ((es.take r.toNat ++ [e] ++ es.drop r.toNat).map eD) (l.take r.toNat ++ [v] ++ l.drop r.toNat) := by
    rw [hte] at hrl
    have rl := RdL.mono l4.le _ _ hrl
    rw [List.map_append, List.map_append, List.map_take, List.map_drop]
    exact ((RdL.take _ rl).append (RdL.cons rd RdL.nil)).append (RdL.drop _ rl)
  have hBq : Bp t.2.1 = some (.lst l) := lb _ _ hBl
  have hmsn : ∀ u ∈ ms, u.1 = n → u = t := fun u hu he => by
    have h1 : lk (ms.map fun t => (t.1, t)) n = some u := lk_mem (by rw [List.map_map]; exact hnd) (List.mem_map.mpr ⟨u, hu, by rw [he]⟩)
    have h2 : lk (ms.map fun t => (t.1, t)) n = some t := lk_mem (by rw [List.map_map]; exact hnd) (List.mem_map.mpr ⟨t, ht, by rw [htn]⟩)
    rw [h1] at h2; exact Option.some.inj h2
  have hqne : ∀ u ∈ ms, u.1 ≠ n → u.2.1 ≠ t.2.1 := fun u hu hne z => by
    have nd := (List.nodup_cons.mp ea.nd).2
    obtain ⟨a, ha⟩ := List.getElem?_of_mem hu
    obtain ⟨b, hb⟩ := List.getElem?_of_mem ht
    have h1 : (ms.map (·.2.1))[a]? = some u.2.1 := by rw [List.getElem?_map, ha]; rfl
    have h2 : (ms.map (·.2.1))[b]? = some t.2.1 := by rw [List.getElem?_map, hb]; rfl
    have := (List.getElem?_inj (i := a) (j := b) (List.getElem?_eq_some_iff.mp h1).1 nd).mp (by rw [h1, h2, z])
    subst this
    rw [ha] at hb
    cases hb
    exact hne htn
  have hpne : p ≠ t.2.1 := fun z => (List.nodup_cons.mp ea.nd).1 (by rw [z]; exact List.mem_map.mpr ⟨t, ht, rfl⟩)
  refine x F3 _ σ (insAt ms n r.toNat e) ρ ⟨upd B' t.2.1 (.lst (l.take r.toNat ++ [v] ++ l.drop r.toNat)), ⟨?_, ?_, ?_, ?_, ?_⟩, ⟨⟨upd Bp t.2.1 (.lst (l.take r.toNat ++ [v] ++ l.drop r.toNat)), lb.upd2, ⟨ok4.bse.ext.put (ea2.fr _ hq).2, ok4.bse.base.upd2, fun q0 z => ?_⟩, fun m c hc => ?_, ok4.sep⟩, fun m d q0 h1 h2 => ?_⟩⟩ (ea.gro g4) (k r.toNat hr)
  · rw [insAt_plc]; exact ea.nd
  · rw [insAt_plc]; exact ea2.fr
  · rw [upd_ne hpne, ea.dct]
    congr 2
    unfold insAt
    rw [List.map_map]
    refine List.map_congr_left fun u _ => ?_
    show _ = ((Sum.inl (if u.1 = n then (u.1, u.2.1, u.2.2.take r.toNat ++ [e] ++ u.2.2.drop r.toNat) else u).1 : Key), V.ref (if u.1 = n then (u.1, u.2.1, u.2.2.take r.toNat ++ [e] ++ u.2.2.drop r.toNat) else u).2.1)
    split <;> rfl
  · intro u hu
    obtain ⟨u0, hu0, rfl⟩ := List.mem_map.mp hu
    by_cases z : u0.1 = n
    · rw [if_pos z]
      have := hmsn u0 hu0 z
      subst this
      rw [hte]
      exact ⟨_, upd_same, hnewR⟩
    · rw [if_neg z]
      obtain ⟨l', h1, h2⟩ := ea2.lst u0 hu0
      exact ⟨l', by rw [upd_ne (hqne u0 hu0 z)]; exact h1, h2⟩
  · intro a ha
    rw [insAt_plc] at ha
    rw [upd_ne (fun z : a = t.2.1 => ha (z ▸ hq))]
    exact ea.ot a ha
  · obtain ⟨z1, z2, z3⟩ := ok4.bse.pool q0 z
    have n' : q0 ≠ t.2.1 := by rintro rfl; rw [hBq] at z1; cases z1
    exact ⟨by rw [upd_ne n']; exact z1, z2, by rw [upd_ne n']; exact z3⟩
  · obtain ⟨y, y0, y1⟩ := ok4.cell m c hc
    refine ⟨y, y0, ?_⟩
    cases c with
    | any => trivial
    | fro d => exact y1
    | own d =>
      obtain ⟨q0, ob, y2, f2, b2, m2⟩ := y1
      subst y2
      have h3 := ok.free m d q0 hc y0
      have n' : q0 ≠ t.2.1 := by rintro rfl; rw [hBl] at h3; cases h3
      exact ⟨q0, ob, rfl, f2, by rw [upd_ne n']; exact b2, m2⟩
    | pool => exact y1
  · have h3 := ok.free m d q0 h1 h2
    have n' : q0 ≠ t.2.1 := by rintro rfl; rw [hBl] at h3; cases h3
    rw [upd_ne n']; exact h3
/-- from here on it stands -/
theorem x_end (hi : ρ[i]? = some (.fro (.adr p))) {B : Hp} {pp : Option Addr} {F H : Hp} {σ : L2.St} (ok : OkX K p B pp F H σ ρ ms) : ∃ F1, Gro B F F1 ∧ OkS K B pp F1 H σ (ρ.set i (.fro (dM esD (eM ms)))) := by
  obtain ⟨B', e, ok⟩ := ok
  obtain ⟨Bp, lb, ok1⟩ := ok.ex
  obtain ⟨F1, l1, n1, ok2⟩ := e.view lb ok1 ok.free hi
  refine ⟨F1, ⟨l1, fun a h1 h2 => ?_⟩, ⟨Bp, e.le.trans lb, ok2⟩, fun m d q h1 h2 => ?_⟩
  · have n : a ∉ plc p ms := fun z => h1 (e.fr a z).1
    rw [n1 a n]; exact h2
  · have hil := (List.getElem?_eq_some_iff.mp hi).1
    have z : i ≠ m := by rintro rfl; rw [List.getElem?_set_self hil] at h1; cases h1
    rw [List.getElem?_set_ne z] at h1
    exact e.le.none (ok.free m d q h1 h2)
end
end Bs
namespace Bs
open PySem L2
/-! ### a def with a contract of its own kind -/
def OkDefS (P : Program) (w : World) (K : PySem.W.Frag) (mg : Str → Option Value) (base : Heap) (k : Nat) (x : Str) (ps : List Str) (sp : Sp) : Prop :=
  ∃ f fd, mg x = some (.ref f) ∧ PySem.W.keepIn K (.ref f) = true ∧ Binds K fd ps [] ∧ FnOk P w K mg base CX0 k f fd ps sp
theorem pe_fnS {X : Cx} {P : Program} {w : World} {K : PySem.W.Frag} {mg : Str → Option Value} {base : Heap} {x : Str} {ps : List Str} {sp : Sp} {e : Expr} {es : List Expr} {t : TA} {p pos : Pos} {j k : Nat} (D : OkDefS P w K mg base k x ps sp) (hP : X.prog = P) (hw : X.w = w) (h : X.K = K) (hM : X.mg = mg) (hB : X.base = base) (hr : Room j X.A) (hg : Gl X x) (ha : PA X (e :: es) t) (hk : k ≤ j := by decide) (hdb : (x == ("__debug__" : Str)) = false := by decide) (he : starEach (e :: es) X.env = (false, eval e X.env) :: starEach es X.env := by rfl)
    (hpl : (backTo pos (starEach es X.env)).any (·.1) = false := by rfl) : PE X (.Call (.Name x p) (e :: es) [] pos) (tCall sp [] E0 t) := by
  subst hP hw h hM hB
  obtain ⟨f, fd, hm, kp, b, F⟩ := D
  exact pe_call F (hr.mono hk) hg hm kp b .nil pass0 ha hdb he hpl
/-! ### link's contract -/
def LinkPre (ms : EndsM) (a b : Int) : Prop := (ms.map (·.1)).Nodup ∧ a ∈ ms.map (·.1) ∧ b ∈ ms.map (·.1) ∧ a ≠ b ∧ ∀ t ∈ ms, t.2.2.length ≤ 100
def LinkRes (ms : EndsM) (a b : Int) (c : Bool) (ms' : EndsM) : Prop := ∃ (pr : Int) (r1 r2 : Nat), ms' = insAt (insAt ms a r1 (b, pr, c)) b r2 (a, pr, c)
def spLink (K : PySem.W.Frag) : Sp := fun vs H Q _ => ∃ B B' F p q0 a b c ms, vs = [V.ref p, V.ref q0, V.int a, V.int b, V.bl c] ∧ EndsAt K B B' F p ms ∧ Bse B' (some q0) F H ∧ LinkPre ms a b ∧
  ∀ F' H' B'' ms', LinkRes ms a b c ms' → EndsAt K B B'' F' p ms' → Bse B'' (some q0) F' H' → Gro B F F' → Q .non H'
theorem LinkRes.plc {ms ms' : EndsM} {a b : Int} {c : Bool} (h : LinkRes ms a b c ms') (p : Addr) : plc p ms' = plc p ms := by
  obtain ⟨pr, r1, r2, rfl⟩ := h
  rw [insAt_plc, insAt_plc]
theorem LinkRes.keys {ms ms' : EndsM} {a b : Int} {c : Bool} (h : LinkRes ms a b c ms') : ms'.map (·.1) = ms.map (·.1) := by
  obtain ⟨pr, r1, r2, rfl⟩ := h
  rw [insAt_keys, insAt_keys]
theorem eM_keys (ms : EndsM) : (eM ms).map (·.1) = ms.map (·.1) := by unfold eM; rw [List.map_map]; rfl
theorem lk_insAt (ms : EndsM) (n m : Int) (r : Nat) (e : Nd) : lk (eM (insAt ms n r e)) m = (lk (eM ms) m).map fun es => if m = n then es.take r ++ [e] ++ es.drop r else es := by
  have h : eM (insAt ms n r e) = (eM ms).map fun p => (p.1, if p.1 = n then p.2.take r ++ [e] ++ p.2.drop r else p.2) := by
    unfold eM insAt
    rw [List.map_map, List.map_map]
    refine List.map_congr_left fun t _ => ?_
    show ((if t.1 = n then (t.1, t.2.1, t.2.2.take r ++ [e] ++ t.2.2.drop r) else t).1, (if t.1 = n then (t.1, t.2.1, t.2.2.take r ++ [e] ++ t.2.2.drop r) else t).2.2) = (t.1, if t.1 = n then t.2.2.take r ++ [e] ++ t.2.2.drop r else t.2.2)
    split <;> rfl
  rw [h, lk_map (fun k es => if k = n then es.take r ++ [e] ++ es.drop r else es)]
theorem lk_len {ms : EndsM} {n : Int} {es : List Nd} (h : lk (eM ms) n = some es) (hl : ∀ t ∈ ms, t.2.2.length ≤ 100) : es.length ≤ 100 := by
  have := lk_some h
  unfold eM at this
  obtain ⟨t, ht, e⟩ := List.mem_map.mp this
  cases e
  exact hl t ht
section
variable {K : PySem.W.Frag} {ρ : List Cell} {p : Addr} {ms : EndsM} {i j v : Nat} {E : EndsM → List Cell → Prop} {ED : EndsD} {ts tu : TS} {ta : TA} {a b : Int}
theorem x_link (hE : EvA K ta ρ (fun cs => ∃ c : Bool, cs = [.fro (.adr p), .pool, .fro (.int a), .fro (.int b), .fro (.bl c)])) (pre : LinkPre ms a b) (k : ∀ c ms', LinkRes ms a b c ms' → E ms' ρ) : DosX K p (tDrop (tCall (spLink K) [] E0 ta)) ms ρ E := fun B pp F H σ DD ⟨B', ea, ok⟩ x => by
  obtain ⟨Bp, lb, ok1⟩ := ok.ex
  refine hE Bp pp F H σ ok1 _ fun vs cs F1 H1 ok2 l2 pc rc => ?_
  obtain ⟨c, rfl⟩ := pc
  have hvs : ∃ q0, vs = [V.ref p, V.ref q0, V.int a, V.int b, V.bl c] ∧ pp = some q0 := by
    cases rc with
    | cons h1 rc =>
    cases rc with
    | cons h2 rc =>
    cases rc with
    | cons h3 rc =>
    cases rc with
    | cons h4 rc =>
    cases rc with
    | cons h5 rc =>
    cases rc
    obtain ⟨q0, e2, hq⟩ := h2
    refine ⟨q0, ?_, hq⟩
    have h1 : Rdd K F1 (.adr p) _ := h1
    have h3 : Rdd K F1 (.int a) _ := h3
    have h4 : Rdd K F1 (.int b) _ := h4
    have h5 : Rdd K F1 (.bl c) _ := h5
    unfold Rdd at h1 h3 h4 h5
    rw [h1, e2, h3, h4, h5]
  obtain ⟨q0, rfl, rfl⟩ := hvs
  have g2 : Gro B' F F1 := Gro.base lb l2
  have ea2 := ea.mono g2
  have hout : ∀ b0, b0 ∈ plc p ms → Bp b0 = B' b0 := fun b0 h => by
    cases e : B' b0 with
    | none => exact absurd e (ea.full h)
    | some u => exact lb b0 u e
  have inn : (fun b0 => if b0 ∈ plc p ms then none else Bp b0) = (fun b0 => if b0 ∈ plc p ms then none else Bp b0) := rfl
  refine ⟨fun b0 => if b0 ∈ plc p ms then none else Bp b0, Bp, F1, p, q0, a, b, c, ms, rfl, ⟨ea.nd, fun b0 h => ⟨if_pos h, (ea2.fr b0 h).2⟩, by rw [hout p List.mem_cons_self]; exact ea.dct, fun t ht => ?_, fun b0 h => (if_neg h).symm⟩, ok2.bse, pre, fun F' H' B'' ms' hres ea3 b3 g3 => ?_⟩
  · obtain ⟨l, h1, h2⟩ := ea2.lst t ht
    exact ⟨l, by rw [hout _ (List.mem_cons_of_mem _ (List.mem_map.mpr ⟨t, ht, rfl⟩))]; exact h1, h2⟩
  · have hpl := hres.plc p
    have lB : Le B (fun b0 => if b0 ∈ plc p ms then none else Bp b0) := fun b0 u h => by
      have n : b0 ∉ plc p ms := fun z => by rw [(ea.fr b0 z).1] at h; cases h
      exact (if_neg n).trans (lb b0 u (ea.le b0 u h))
    have hB3 : ∀ b0, b0 ∉ plc p ms → B'' b0 = Bp b0 := fun b0 h => by
      rw [ea3.ot b0 (by rw [hpl]; exact h)]
      exact if_neg h
    refine x F' H' σ ms' ρ ⟨fun b0 => if b0 ∈ plc p ms then B'' b0 else B b0, ⟨ea3.nd, fun b0 h => ?_, ?_, fun t ht => ?_, fun b0 h => ?_⟩, ⟨⟨B'', fun b0 u h => ?_, ⟨b3, fun m cc hc => ?_, ok2.sep⟩⟩, fun m d q h1 h2 => ?_⟩⟩ ((ea.gro g2).trans (Gro.base lB g3)) (k c ms' hres)
    · have h' := ea3.fr b0 h
      rw [hpl] at h
      exact ⟨(ea.fr b0 h).1, h'.2⟩
    · exact (if_pos List.mem_cons_self).trans ea3.dct
    · obtain ⟨l, h1, h2⟩ := ea3.lst t ht
      have hm : t.2.1 ∈ plc p ms' := List.mem_cons_of_mem _ (List.mem_map.mpr ⟨t, ht, rfl⟩)
      rw [hpl] at hm
      exact ⟨l, (if_pos hm).trans h1, h2⟩
    · rw [hpl] at h
      exact if_neg h
    · have h : (if b0 ∈ plc p ms then B'' b0 else B b0) = some u := h
      split at h
      · exact h
      · rename_i n
        rw [hB3 b0 n]
        exact lb b0 u (ea.le b0 u h)
    · obtain ⟨y, y0, y1⟩ := ok2.cell m cc hc
      refine ⟨y, y0, ?_⟩
      cases cc with
      | any => trivial
      | fro d => obtain ⟨v, e2, r⟩ := y1; exact ⟨v, e2, Rdd.mono g3.le _ _ r⟩
      | own d =>
        obtain ⟨q, ob, e2, f2, b2, m2⟩ := y1
        subst e2
        have n : q ∉ plc p ms := fun z => ea.full z (ok.free m d q hc y0)
        exact ⟨q, ob, rfl, g3.nf q (by rw [show (if q ∈ plc p ms then none else Bp q) = some ob from (if_neg n).trans b2]; exact Option.some_ne_none _) f2, by rw [hB3 q n]; exact b2, m2.mono g3.le⟩
      | pool => exact y1
    · have n : q ∉ plc p ms := fun z => ea.full z (ok.free m d q h1 h2)
      exact (if_neg n).trans (ea.le.none (ok.free m d q h1 h2))
/-! ### such a dict, from its making on -/
def DosY (K : PySem.W.Frag) (p : Addr) (ts : TS) (ms : EndsM) (ρ : List Cell) (E : EndsD) : Prop := ∀ B pp F H σ DD, OkX K p B pp F H σ ρ ms → Exits K B pp F E DD → ts DD σ H
theorem y_seq (h : DosX K p ts ms ρ fun ms' ρ' => DosY K p tu ms' ρ' ED) : DosY K p (tSeq ts tu) ms ρ ED := fun B pp F H σ DD ok x =>
  h B pp F H σ _ ok fun F' H' σ' ms' ρ' ok' g k => k B pp F' H' σ' DD ok' (x.mono g)
theorem y_end (hi : ρ[i]? = some (.fro (.adr p))) (h : Dos K ts (ρ.set i (.fro (dM esD (eM ms)))) ED) : DosY K p ts ms ρ ED := fun B pp F H σ DD ok x => by
  obtain ⟨F1, g, ok1⟩ := x_end hi ok
  exact h B pp F1 H σ DD ok1 (x.mono g)
/-- what stands amid the making -/
structure Mk (K : PySem.W.Frag) (B Bi F H : Hp) (D : Addr) (ms : EndsM) (ps : List Addr) : Prop where
  nd : (D :: ms.map (·.2.1)).Nodup
  fr : ∀ a ∈ ms.map (·.2.1), B a = none ∧ F a = none
  lst : ∀ t ∈ ms, t.2.2 = [] ∧ Bi t.2.1 = some (.lst [])
  ot : ∀ a, a ∉ ms.map (·.2.1) → Bi a = B a
  tup : Paired (fun q t => F q = some (.tup [V.int t.1, V.ref t.2.1])) ps ms
theorem paired_imp {α β : Type} {R R' : α → β → Prop} {as : List α} {bs : List β} (h : Paired R as bs) (k : ∀ a b, R a b → R' a b) : Paired R' as bs := by
  induction h with
  | nil => exact .nil
  | cons h _ ih => exact .cons (k _ _ h) ih
theorem paired_snoc {α β : Type} {R : α → β → Prop} {as : List α} {bs : List β} (h : Paired R as bs) {a : α} {b : β} (r : R a b) : Paired R (as ++ [a]) (bs ++ [b]) := by
  induction h with
  | nil => exact .cons r .nil
  | cons h _ ih => exact .cons h ih
theorem paired_map {α β γ : Type} {R : α → γ → Prop} {f : β → γ} {as : List α} {bs : List β} (h : Paired (fun a b => R a (f b)) as bs) : Paired R as (bs.map f) := by
  induction h with
  | nil => exact .nil
  | cons h _ ih => exact .cons h ih
theorem d_mk {ns : List Int} (hj : ρ[j]? = some (.fro (dI ns))) (hnd : ns.Nodup) (hlen : ns.length ≤ 64) (hv : v < ρ.length) (hi : i < ρ.length) (h : ∀ p ms, ms.map (·.1) = ns → (∀ t ∈ ms, t.2.2 = []) → DosY K p ts ms (ρ.set i (.fro (.adr p))) ED) :
    Dos K (tSeq (tAsg (tCB (rDct K) (tCons (tLc (iList K (tVar j)) (gName v) tYes (tTup (tCons (tVar v) (tCons (tLst tNil) tNil))) [v]) tNil)) (gName i)) ts) ρ ED := fun B pp F H σ DD ok x => by
  obtain ⟨Bp, lb, ok1⟩ := ok.ex
  obtain ⟨x0, e0, r0⟩ := ok1.fro hj
  unfold Rdd at r0
  obtain ⟨al, vs, rfl, fal, rv⟩ := r0
  refine ⟨.ref al, e0, al, rfl, ⟨_, SqL.of (ok1.bse.ext.lst fal)⟩, fun D hD => ?_⟩
  obtain ⟨ok2, hBD, hPD, hFD⟩ := ok1.fresh (o := .lst []) hD
  refine ⟨fun k m H => m = ns.length - k ∧ k ≤ ns.length ∧ ∃ ms ps Fk Bk, ms.map (·.1) = ns.take k ∧ OkE K Bk pp Fk H σ ρ ∧ Gro Bp F Fk ∧ H D = some (.lst (ps.map V.ref)) ∧ Fk D = none ∧ Bk D = none ∧ Mk K Bp Bk Fk H D ms ps,
    ⟨ns.length, rfl, Nat.zero_le _, [], [], F, Bp, rfl, ok2, Gro.refl, upd_same, hFD, hBD, ⟨List.nodup_cons.mpr ⟨List.not_mem_nil, List.nodup_nil⟩, fun a h => absurd h List.not_mem_nil, fun t h => absurd h List.not_mem_nil, fun _ _ => rfl, .nil⟩⟩, ?_⟩
  rintro k m H2 ⟨rfl, hle, ms, ps, Fk, Bk, hkeys, ok3, g3, hD3, hFD3, hBD3, mk⟩
  have lBk : Le Bp Bk := fun a u h => by
    have n : a ∉ ms.map (·.2.1) := fun z => by rw [(mk.fr a z).1] at h; cases h
    rw [mk.ot a n]; exact h
  have okD := ok3.addB hBD3 hPD hD3
  have y := y_list (B0 := fun _ => none) fal rv
  by_cases hlt : k < ns.length
  · obtain ⟨hgo, hy⟩ := (y _ pp Fk H2 σ ρ (fun _ _ z => nomatch z) g3.le okD k).1 (by rw [List.length_map]; exact hlt)
    refine .inr ⟨hgo, fun H' => ∃ ms ps Fk Bk, ms.map (·.1) = ns.take (k + 1) ∧ OkE K Bk pp Fk H' σ ρ ∧ Gro Bp F Fk ∧ H' D = some (.lst (ps.map V.ref)) ∧ Fk D = none ∧ Bk D = none ∧ Mk K Bp Bk Fk H' D ms ps, fun H' z => ⟨ns.length - (k + 1), by omega, rfl, hlt, z⟩, fun x1 H' hx => ?_⟩
    obtain ⟨F3, d, l4, ok5, ed, rd⟩ := hy x1 H' hx
    obtain ⟨n, hn, hnm, rfl⟩ := map_get ed
    have tg := g_name (K := K) (ρ := wipeC ρ [v]) (d := .int n) (i := v)
    refine tg.run _ pp F3 H' (wipe σ [v]) x1 (ok5.wipe [v]) rd _ fun σ2 ok6 hw hs2 => ⟨by rw [hw [v] fun _ h => h, wipe_wipe], ?_⟩
    have hwl : v < (wipeC ρ [v]).length := by show v < (ρ.set v .any).length; rw [List.length_set]; exact hv
    obtain ⟨xv, hxv, rxv⟩ := ok6.fro (i := v) (d := .int n) (List.getElem?_set_self hwl)
    unfold Rdd at rxv; subst rxv
    unfold tYes
    refine Eq.mpr (if_pos rfl) ?_
    refine ⟨.int n, hxv, ⟨Nat.zero_le _, fun q hq => ⟨by show 2 ≤ sizeLine; decide, fun t ht => ?_⟩⟩⟩
    have hqD : q ≠ D := by rintro rfl; have := ok5.bse.base q _ upd_same; rw [hq] at this; cases this
    have hbq : (upd Bk D (.lst (ps.map V.ref))) q = none := ok5.bse.base.none hq
    rw [upd_ne hqD] at hbq
    have hF3q : F3 q = none := ok5.bse.ext.some hq
    have hPq : pp ≠ some q := fun z => by
      obtain ⟨_, _, o, h3, _⟩ := ok5.bse.pool q z
      rw [hq] at h3; cases h3
    have ok6' := ok5.newB (o := .lst []) hq
    have ok7 := ok6'.new (o := .tup [V.int n, V.ref q]) ht
    have htq : t ≠ q := by rintro rfl; rw [upd_same] at ht; cases ht
    have htD : t ≠ D := by
      rintro rfl
      have := ok6'.bse.base t (.lst (ps.map V.ref)) (by rw [upd_ne (Ne.symm hqD)]; exact upd_same)
      rw [ht] at this; cases this
    have hF3t : F3 t = none := ok6'.bse.ext.some ht
    have hbt : Bk t = none := by
      have := ok6'.bse.base.none ht
      rw [upd_ne htq, upd_ne htD] at this; exact this
    have hF3D : F3 D = none := l4.nf D (by rw [upd_same]; exact Option.some_ne_none _) hFD3
    have hD7 : upd (upd H' q (.lst [])) t (.tup [V.int n, V.ref q]) D = some (.lst (ps.map V.ref)) := by
      rw [upd_ne (Ne.symm htD), upd_ne (Ne.symm hqD)]; exact ok5.bse.base D _ upd_same
    refine ⟨ps.map V.ref, hD7, ?_, ms ++ [(n, q, [])], ps ++ [t], upd F3 t (.tup [V.int n, V.ref q]), upd Bk q (.lst []), ?_, ?_, ?_, ?_, ?_, ?_, ?_⟩
    · have h1 := Paired.length mk.tup
      have h2 := congrArg List.length hkeys
      rw [List.length_map, List.length_take] at h2
      rw [List.length_map]
      exact Nat.lt_of_le_of_lt (by omega : ps.length ≤ 64) (by decide)
    · rw [List.map_append, hkeys, List.take_add_one, hn]; rfl
    · have lg : Gro Bk Fk (upd F3 t (.tup [V.int n, V.ref q])) := (Gro.base (Le.new hBD3) l4).trans (Gro.new hbt hF3t)
      have bs : Bse Bk pp (upd F3 t (.tup [V.int n, V.ref q])) (upd (upd (upd H' q (.lst [])) t (.tup [V.int n, V.ref q])) D (.lst (ps.map V.ref ++ [V.ref t]))) := by
        refine ⟨ok7.bse.ext.put (by rw [upd_ne (Ne.symm htD)]; exact hF3D), fun a u e => ?_, fun r e => ?_⟩
        · have n1 : a ≠ D := by rintro rfl; rw [hBD3] at e; cases e
          have n2 : a ≠ q := by rintro rfl; rw [hbq] at e; cases e
          rw [upd_ne n1]
          exact ok7.bse.base a u (by rw [upd_ne n2, upd_ne n1]; exact e)
        · obtain ⟨z1, z2, z3⟩ := ok7.bse.pool r e
          have n1 : r ≠ D := by rintro rfl; exact hPD e
          have n2 : r ≠ q := by rintro rfl; exact hPq e
          rw [upd_ne n2, upd_ne n1] at z1
          exact ⟨z1, z2, by rw [upd_ne n1]; exact z3⟩
      exact (ok3.back bs lg).addB hbq hPq (by rw [upd_ne hqD, upd_ne (Ne.symm htq), upd_same])
    · exact g3.trans ((Gro.base (lBk.trans (Le.new hBD3)) l4).trans (Gro.new (lBk.none hbt) hF3t))
    · rw [upd_same, List.map_append]; rfl
    · rw [upd_ne (Ne.symm htD)]; exact hF3D
    · rw [upd_ne (Ne.symm hqD)]; exact hBD3
    · have hBqs : ∀ a ∈ ms.map (·.2.1), Bk a = some (.lst []) := fun a ha => by
        obtain ⟨u, hu, rfl⟩ := List.mem_map.mp ha
        exact (mk.lst u hu).2
      have hqn : q ∉ ms.map (·.2.1) := fun z => by rw [hBqs q z] at hbq; cases hbq
      have htn : t ∉ ms.map (·.2.1) := fun z => by rw [hBqs t z] at hbt; cases hbt
      have nd0 := List.nodup_cons.mp mk.nd
      refine ⟨?_, fun a ha => ?_, fun u hu => ?_, fun a ha => ?_, paired_snoc (paired_imp mk.tup fun a b e => ?_) upd_same⟩
      · rw [List.map_append]
        show (D :: (ms.map (·.2.1) ++ [q])).Nodup
        refine List.nodup_cons.mpr ⟨fun z => ?_, List.nodup_append.mpr ⟨nd0.2, List.nodup_cons.mpr ⟨List.not_mem_nil, List.nodup_nil⟩, fun a ha b hb z => ?_⟩⟩
        · rcases List.mem_append.mp z with z | z
          · exact nd0.1 z
          · exact hqD (List.mem_singleton.mp z).symm
        · rw [List.mem_singleton.mp hb] at z
          exact hqn (z ▸ ha)
      · rw [List.map_append] at ha
        rcases List.mem_append.mp ha with ha | ha
        · have n1 : a ≠ t := by rintro rfl; exact htn ha
          have n2 : a ≠ D := by rintro rfl; exact nd0.1 ha
          refine ⟨(mk.fr a ha).1, ?_⟩
          rw [upd_ne n1]
          exact l4.nf a (by rw [upd_ne n2, hBqs a ha]; exact Option.some_ne_none _) (mk.fr a ha).2
        · have : a = q := List.mem_singleton.mp ha
          subst this
          exact ⟨lBk.none hbq, by rw [upd_ne (Ne.symm htq)]; exact hF3q⟩
      · rcases List.mem_append.mp hu with hu | hu
        · have n1 : u.2.1 ≠ q := fun z => hqn (z ▸ List.mem_map.mpr ⟨u, hu, rfl⟩)
          exact ⟨(mk.lst u hu).1, by rw [upd_ne n1]; exact (mk.lst u hu).2⟩
        · rw [List.mem_singleton.mp hu]
          exact ⟨rfl, upd_same⟩
      · rw [List.map_append] at ha
        have h1 : a ∉ ms.map (·.2.1) := fun z => ha (List.mem_append_left _ z)
        have h2 : a ≠ q := fun z => ha (List.mem_append_right _ (by rw [z]; exact List.mem_singleton.mpr rfl))
        rw [upd_ne h2]; exact mk.ot a h1
      · have n1 : a ≠ t := by
          rintro rfl
          have := l4.le _ _ e
          rw [hF3t] at this; cases this
        show upd F3 t _ a = _
        rw [upd_ne n1]; exact l4.le _ _ e
  · have e : k = ns.length := by omega
    subst e
    rw [List.take_length] at hkeys
    refine .inl ⟨(y _ pp Fk H2 σ ρ (fun _ _ z => nomatch z) g3.le okD _).2 (by rw [List.length_map]; exact Nat.le_refl _), ?_⟩
    refine .inl ⟨D, ps, ms.map fun t => (Sum.inl t.1, V.ref t.2.1), rfl, SqL.of hD3, paired_map (f := fun t : Int × Addr × List Nd => ((Sum.inl t.1 : Key), V.ref t.2.1)) (R := fun (p : Addr) (kv : Key × V) => SqT K H2 p [kV kv.1, kv.2]) (paired_imp mk.tup fun a b e => (ok3.bse.ext.sqt e : SqT K H2 a [V.int b.1, V.ref b.2.1])), fun p hp => ?_⟩
    have hkn : ((ms.map fun t => ((Sum.inl t.1 : Key), V.ref t.2.1)).map (·.1)).Nodup := by
      rw [List.map_map]
      have : (ms.map ((fun x : Key × V => x.1) ∘ fun t : Int × Addr × List Nd => ((Sum.inl t.1 : Key), V.ref t.2.1))) = (ms.map (·.1)).map Sum.inl := by rw [List.map_map]; rfl
      rw [this, hkeys]
      exact List.Pairwise.map _ (fun a b h z => h (Sum.inl.inj z)) hnd
    rw [merge_nd _ [] (by rw [List.nil_append]; exact hkn), List.nil_append]
    have okp := (ok3.newB (o := .dK (ms.map fun t => ((Sum.inl t.1 : Key), V.ref t.2.1))) hp).setF i (d := .adr p) (v := .ref p) (by unfold Rdd; rfl)
    have hBkp : Bk p = none := ok3.bse.base.none hp
    have hpn : p ∉ ms.map (·.2.1) := fun z => by
      obtain ⟨u, hu, e⟩ := List.mem_map.mp z
      have := (mk.lst u hu).2
      rw [e, hBkp] at this; cases this
    have hFp : Fk p = none := ok3.bse.ext.some hp
    refine h p ms hkeys (fun t ht => (mk.lst t ht).1) B pp Fk _ _ DD ⟨fun a => if a ∈ plc p ms then (upd Bk p (.dK (ms.map fun t => ((Sum.inl t.1 : Key), V.ref t.2.1)))) a else B a, ⟨List.nodup_cons.mpr ⟨hpn, (List.nodup_cons.mp mk.nd).2⟩, fun a ha => ?_, ?_, fun t ht => ?_, fun a ha => if_neg ha⟩, ⟨⟨upd Bk p (.dK (ms.map fun t => ((Sum.inl t.1 : Key), V.ref t.2.1))), fun a u e => ?_, okp⟩, fun m d q h1 h2 => ?_⟩⟩ (x.mono (Gro.base lb g3))
    · rcases List.mem_cons.mp ha with rfl | ha
      · exact ⟨lb.none (lBk.none hBkp), hFp⟩
      · exact ⟨lb.none (mk.fr a ha).1, (mk.fr a ha).2⟩
    · exact (if_pos List.mem_cons_self).trans upd_same
    · have ht' : t.2.1 ∈ ms.map (·.2.1) := List.mem_map.mpr ⟨t, ht, rfl⟩
      have n1 : t.2.1 ≠ p := fun z => hpn (z ▸ ht')
      refine ⟨[], (if_pos (List.mem_cons_of_mem _ ht')).trans (by rw [upd_ne n1]; exact (mk.lst t ht).2), ?_⟩
      rw [(mk.lst t ht).1]; exact RdL.nil
    · have e : (if a ∈ plc p ms then (upd Bk p (.dK (ms.map fun t => ((Sum.inl t.1 : Key), V.ref t.2.1)))) a else B a) = some u := e
      split at e
      · exact e
      · rename_i n
        have n1 : a ≠ p := fun z => n (z ▸ List.mem_cons_self)
        rw [upd_ne n1]
        exact lBk a u (lb a u e)
    · have z : i ≠ m := by rintro rfl; rw [List.getElem?_set_self hi] at h1; cases h1
      rw [List.getElem?_set_ne z] at h1 h2
      obtain ⟨yy, ye, q', ob, yr, f2, b2, m2⟩ := ok1.cell m _ h1
      rw [h2] at ye; cases ye; cases yr
      have n1 : q ≠ p := by rintro rfl; have := lBk.none hBkp; rw [b2] at this; cases this
      have n2 : q ∉ ms.map (·.2.1) := fun z => by have := (mk.fr q z).1; rw [b2] at this; cases this
      have n : q ∉ plc p ms := fun z => (List.mem_cons.mp z).elim n1 n2
      exact (if_neg n).trans (ok.free m d q h1 h2)
end
end Bs
/-! How the law's webs come about. -/
namespace Bs
def enM (ms : EndsM) (n : Int) : List Nd := (lk (eM ms) n).getD []
structure WebF (ns : List Int) (j : Nat) (en : Int → List Nd) (L : Nat) : Prop where
  sym : ∀ n, ∀ e ∈ en n, n ∈ ns.take j ∧ e.1 ∈ ns.take j ∧ n ∈ (en e.1).map (·.1)
  nd : ∀ n, ((en n).map (·.1)).Nodup
  irr : ∀ n, n ∉ (en n).map (·.1)
  conn : ∀ φ : Int → Bool, (∀ n, ∀ e ∈ en n, φ e.1 = φ n) → ∀ x ∈ ns.take j, ∀ y ∈ ns.take j, φ x = φ y
  cnt : ∀ n, (en n).length ≤ L
  tot : (ns.map fun n => (en n).length).sum ≤ 2 * L
def insL (es : List Nd) (r : Nat) (e : Nd) : List Nd := es.take r ++ [e] ++ es.drop r
theorem insL_perm (es : List Nd) (r : Nat) (e : Nd) : (insL es r e).Perm (e :: es) := by
  unfold insL
  have h : (es.take r ++ [e] ++ es.drop r).Perm (e :: (es.take r ++ es.drop r)) := by
    rw [List.append_assoc]
    exact List.perm_middle
  rw [List.take_append_drop] at h
  exact h
theorem insL_mem {es : List Nd} {r : Nat} {e x : Nd} : x ∈ insL es r e ↔ x = e ∨ x ∈ es := by
  rw [(insL_perm es r e).mem_iff, List.mem_cons]
theorem insL_len (es : List Nd) (r : Nat) (e : Nd) : (insL es r e).length = es.length + 1 := (insL_perm es r e).length_eq
/-- the ends behind a link -/
def lkF (en : Int → List Nd) (a b : Int) (pr : Int) (c : Bool) (r1 r2 : Nat) (m : Int) : List Nd := if m = a then insL (en a) r1 (b, pr, c) else if m = b then insL (en b) r2 (a, pr, c) else en m
theorem enM_link {ms ms' : EndsM} {a b : Int} {c : Bool} (ha : a ∈ ms.map (·.1)) (hb : b ∈ ms.map (·.1)) (hab : a ≠ b) (h : LinkRes ms a b c ms') : ∃ pr r1 r2, enM ms' = lkF (enM ms) a b pr c r1 r2 := by
  obtain ⟨pr, r1, r2, rfl⟩ := h
  refine ⟨pr, r1, r2, ?_⟩
  funext m
  have key : ∀ x, x ∈ ms.map (·.1) → ∃ es, lk (eM ms) x = some es := fun x hx => Option.isSome_iff_exists.mp (lk_isSome.mpr (by rw [eM_keys]; exact hx))
  show (lk (eM (insAt (insAt ms a r1 (b, pr, c)) b r2 (a, pr, c))) m).getD [] = lkF (enM ms) a b pr c r1 r2 m
  rw [lk_insAt, lk_insAt]
  unfold lkF
  by_cases h1 : m = a
  · subst h1
    obtain ⟨es, he⟩ := key m ha
    have hE : enM ms m = es := by unfold enM; rw [he]; rfl
    rw [he, hE]
    show (if m = b then _ else (if m = m then _ else es)) = _
    rw [if_neg hab, if_pos rfl, if_pos rfl]; rfl
  · by_cases h2 : m = b
    · subst h2
      obtain ⟨es, he⟩ := key m hb
      have hE : enM ms m = es := by unfold enM; rw [he]; rfl
      rw [he, hE]
      show (if m = m then ((if m = a then _ else es).take r2 ++ [(a, pr, c)] ++ (if m = a then _ else es).drop r2) else _) = _
      rw [if_pos rfl, if_neg h1, if_neg h1, if_pos rfl]; rfl
    · rw [if_neg h1, if_neg h2]
      unfold enM
      cases lk (eM ms) m with
      | none => rfl
      | some es =>
        show (if m = b then _ else (if m = a then _ else es)) = _
        rw [if_neg h2, if_neg h1]; rfl
theorem sum_le_of {ns : List Int} {f g : Int → Nat} {a b : Int} (hnd : ns.Nodup) (h : ∀ n, g n ≤ f n + (if n = a then 1 else 0) + (if n = b then 1 else 0)) : (ns.map g).sum ≤ (ns.map f).sum + 2 := by
  have one : ∀ (a : Int) (l : List Int), l.Nodup → (l.map fun n => if n = a then 1 else 0).sum ≤ 1 := by
    intro a l
    induction l with
    | nil => intro _; simp
    | cons x l ih =>
      intro nd
      obtain ⟨h1, h2⟩ := List.nodup_cons.mp nd
      rw [List.map_cons, List.sum_cons]
      by_cases hx : x = a
      · subst hx
        have : (l.map fun n => if n = x then 1 else 0) = l.map fun _ => 0 := List.map_congr_left fun y hy => if_neg fun z : y = x => h1 (z ▸ hy)
        rw [if_pos rfl, this]
        have z : (l.map fun _ => 0).sum = 0 := by
          clear ih h1 h2 this nd
          induction l with
          | nil => rfl
          | cons y l ih => rw [List.map_cons, List.sum_cons, ih]
        omega
      · rw [if_neg hx]; have := ih h2; omega
  have all : ∀ l : List Int, (l.map g).sum ≤ (l.map f).sum + (l.map fun n => if n = a then 1 else 0).sum + (l.map fun n => if n = b then 1 else 0).sum := by
    intro l
    induction l with
    | nil => simp
    | cons x l ih =>
      simp only [List.map_cons, List.sum_cons]
      have := h x
      omega
  have h1 := one a ns hnd
  have h2 := one b ns hnd
  have h3 := all ns
  omega
theorem webF_link {ns : List Int} {j j' : Nat} {en : Int → List Nd} {L : Nat} (w : WebF ns j en L) (hnd : ns.Nodup) {a b pr : Int} {c : Bool} {r1 r2 : Nat} (hj : ∀ x ∈ ns.take j, x ∈ ns.take j') (hj' : ∀ x ∈ ns.take j', x ∈ ns.take j ∨ x = a) (ha : a ∈ ns.take j') (hb : b ∈ ns.take j) (hab : a ≠ b)
    (hnb : b ∉ (en a).map (·.1)) : WebF ns j' (lkF en a b pr c r1 r2) (L + 1) := by
  have hna : a ∉ (en b).map (·.1) := fun h => by
    obtain ⟨e, he, hx⟩ := List.mem_map.mp h
    have := (w.sym b e he).2.2
    rw [hx] at this
    exact hnb this
  have memN : ∀ m x, x ∈ (lkF en a b pr c r1 r2 m).map (·.1) ↔ x ∈ (en m).map (·.1) ∨ (m = a ∧ x = b) ∨ (m = b ∧ x = a) := fun m x => by
    unfold lkF
    by_cases h1 : m = a
    · subst h1
      rw [if_pos rfl, ((insL_perm _ _ _).map _).mem_iff, List.map_cons, List.mem_cons]
      constructor
      · rintro (h | h)
        · exact .inr (.inl ⟨rfl, h⟩)
        · exact .inl h
      · rintro (h | ⟨_, h⟩ | ⟨h, _⟩)
        · exact .inr h
        · exact .inl h
        · exact absurd h hab
    · rw [if_neg h1]
      by_cases h2 : m = b
      · subst h2
        rw [if_pos rfl, ((insL_perm _ _ _).map _).mem_iff, List.map_cons, List.mem_cons]
        constructor
        · rintro (h | h)
          · exact .inr (.inr ⟨rfl, h⟩)
          · exact .inl h
        · rintro (h | ⟨h, _⟩ | ⟨_, h⟩)
          · exact .inr h
          · exact absurd h h1
          · exact .inl h
      · rw [if_neg h2]
        exact ⟨.inl, fun h => h.elim id fun h => h.elim (fun z => absurd z.1 h1) fun z => absurd z.1 h2⟩
  have memE : ∀ m, ∀ e ∈ lkF en a b pr c r1 r2 m, (e ∈ en m) ∨ (m = a ∧ e.1 = b) ∨ (m = b ∧ e.1 = a) := fun m e he => by
    unfold lkF at he
    by_cases h1 : m = a
    · rw [if_pos h1, insL_mem] at he
      rcases he with rfl | he
      · exact .inr (.inl ⟨h1, rfl⟩)
      · rw [h1]; exact .inl he
    · rw [if_neg h1] at he
      by_cases h2 : m = b
      · rw [if_pos h2, insL_mem] at he
        rcases he with rfl | he
        · exact .inr (.inr ⟨h2, rfl⟩)
        · rw [h2]; exact .inl he
      · rw [if_neg h2] at he; exact .inl he
  refine ⟨fun n e he => ?_, fun n => ?_, fun n h => ?_, fun φ hφ x hx y hy => ?_, fun n => ?_, ?_⟩
  · rcases memE n e he with h | ⟨rfl, h⟩ | ⟨rfl, h⟩
    · obtain ⟨h1, h2, h3⟩ := w.sym n e h
      exact ⟨hj _ h1, hj _ h2, (memN _ _).mpr (.inl h3)⟩
    · rw [h]; exact ⟨ha, hj _ hb, (memN _ _).mpr (.inr (.inr ⟨rfl, rfl⟩))⟩
    · rw [h]; exact ⟨hj _ hb, ha, (memN _ _).mpr (.inr (.inl ⟨rfl, rfl⟩))⟩
  · unfold lkF
    by_cases h1 : n = a
    · rw [if_pos h1, ((insL_perm _ _ _).map _).nodup_iff, List.map_cons, List.nodup_cons]
      exact ⟨hnb, w.nd a⟩
    · rw [if_neg h1]
      by_cases h2 : n = b
      · rw [if_pos h2, ((insL_perm _ _ _).map _).nodup_iff, List.map_cons, List.nodup_cons]
        exact ⟨hna, w.nd b⟩
      · rw [if_neg h2]; exact w.nd n
  · rcases (memN n n).mp h with h | ⟨h1, h2⟩ | ⟨h1, h2⟩
    · exact w.irr n h
    · exact hab (h1.symm.trans h2)
    · exact hab (h2.symm.trans h1)
  · have hfl : ∀ n, ∀ e ∈ en n, φ e.1 = φ n := fun n e he => by
      by_cases h1 : n = a
      · have : e ∈ lkF en a b pr c r1 r2 n := by unfold lkF; rw [if_pos h1, insL_mem]; rw [h1] at he; exact .inr he
        exact hφ n e this
      · by_cases h2 : n = b
        · have : e ∈ lkF en a b pr c r1 r2 n := by unfold lkF; rw [if_neg h1, if_pos h2, insL_mem]; rw [h2] at he; exact .inr he
          exact hφ n e this
        · have : e ∈ lkF en a b pr c r1 r2 n := by unfold lkF; rw [if_neg h1, if_neg h2]; exact he
          exact hφ n e this
    have hab' : φ b = φ a := hφ a (b, pr, c) (by unfold lkF; rw [if_pos rfl, insL_mem]; exact .inl rfl)
    have toB : ∀ x ∈ ns.take j', φ x = φ b := fun x hx => by
      rcases hj' x hx with h | rfl
      · exact w.conn φ hfl x h b hb
      · exact hab'.symm
    rw [toB x hx, toB y hy]
  · have := w.cnt n
    have ha' := w.cnt a
    have hb' := w.cnt b
    unfold lkF
    split
    · rw [insL_len]; omega
    · split
      · rw [insL_len]; omega
      · omega
  · have h := sum_le_of (ns := ns) (f := fun n => (en n).length) (g := fun n => (lkF en a b pr c r1 r2 n).length) (a := a) (b := b) hnd fun n => by
      unfold lkF
      by_cases h1 : n = a
      · rw [if_pos h1, insL_len, if_pos h1, h1]; omega
      · rw [if_neg h1, if_neg h1]
        by_cases h2 : n = b
        · rw [if_pos h2, insL_len, if_pos h2, h2]; omega
        · rw [if_neg h2, if_neg h2]; omega
    have := w.tot
    omega
theorem webF_zero (ns : List Int) {en : Int → List Nd} (h : ∀ n, en n = []) : WebF ns 1 en 0 := by
  have no : ∀ n e, e ∈ en n → False := fun n e he => by rw [h n] at he; cases he
  refine ⟨fun n e he => (no n e he).elim, fun n => by rw [h n]; exact List.nodup_nil, fun n z => (by rw [h n] at z; cases z), fun φ _ x hx y hy => ?_, fun n => by rw [h n]; exact Nat.le_refl _, ?_⟩
  · match ns, hx, hy with
    | [], hx, _ => simp at hx
    | a :: r, hx, hy =>
      have h1 : x = a := by simpa using hx
      have h2 : y = a := by simpa using hy
      rw [h1, h2]
  · have : (ns.map fun n => (en n).length) = ns.map fun _ => 0 := List.map_congr_left fun n _ => by rw [h n]; rfl
    rw [this]
    induction ns with
    | nil => simp
    | cons a r ih => rw [List.map_cons, List.sum_cons]; have := ih (List.map_congr_left fun n _ => by rw [h n]; rfl); omega
theorem webMade_of {ns : List Int} {m : Nat} {en : Int → List Nd} {L : Nat} {W : Web} (w : WebF ns m en L) (hm : ns.length = m) (h1 : 1 ≤ m) (h8 : m ≤ 8) (hL : L ≤ 11) (hnd : ns.Nodup) (hr : ∀ n ∈ ns, 0 ≤ n ∧ n < 4096) (hk : W.map (·.1) = ns) (he : ∀ n, endsAt W n = en n) : WebMade W := by
  have htake : ns.take m = ns := by rw [← hm, List.take_length]
  have hWl : W.length = m := by rw [← hm, ← hk, List.length_map]
  have ho : ∀ n, orderOf W n = (en n).map (·.1) := fun n => by unfold orderOf; rw [he]
  have hs := w.sym
  rw [htake] at hs
  refine ⟨⟨⟨by rw [hk]; exact hnd, by omega, fun n => by rw [he]; have := w.cnt n; omega⟩, fun n e h => ?_, fun n e h => ?_, fun n => by rw [ho]; exact w.nd n⟩, by omega, by omega, fun n hn => hr n (by rw [← hk]; exact hn), fun n => by rw [ho]; exact w.irr n, fun φ hφ x hx y hy => ?_, ?_⟩
  · rw [he] at h
    rw [hk]
    exact ⟨(hs n e h).1, (hs n e h).2.1⟩
  · rw [he] at h
    rw [ho]
    exact (hs n e h).2.2
  · have hc := w.conn φ (fun n e h => hφ n e (by rw [he]; exact h))
    rw [htake] at hc
    rw [hk] at hx hy
    exact hc x hx y hy
  · have : (W.map fun p => (endsAt W p.1).length) = ns.map fun n => (en n).length := by
      rw [← hk, List.map_map]
      refine List.map_congr_left fun p _ => ?_
      show (endsAt W p.1).length = (en p.1).length
      rw [he]
    rw [this]
    have := w.tot
    omega
end Bs
namespace Bs
open PySem L2
section
variable {K : PySem.W.Frag} {ρ : List Cell} {te : TE} {tr : TA} {i : Nat}
theorem ga_consD {d : D} {P : List Cell → Prop} (h : EvD K te ρ d) (hr : EvA K tr ρ P) : EvA K (tCons te tr) ρ (fun cs => ∃ r, cs = .fro d :: r ∧ P r) :=
  (ga_cons h (fun _ _ => hr)).imp fun cs ⟨e, r, h1, h2, h3⟩ => ⟨r, by rw [h1, h2], h3⟩
theorem run_link {B B' F H : Hp} {p q0 : Addr} {a b : Int} {c : Bool} {ms : EndsM} {ts : TS} {DD : Ends} {N : List Str} {Q : VK} (hN : N.length = 6) (hd : DosX K p ts ms [.fro (.adr p), .pool, .fro (.int a), .fro (.int b), .fro (.bl c), .any] (fun ms' _ => LinkRes ms a b c ms'))
    (ea : EndsAt K B B' F p ms) (bs : Bse B' (some q0) F H) (q : ∀ F' H' B'' ms', LinkRes ms a b c ms' → EndsAt K B B'' F' p ms' → Bse B'' (some q0) F' H' → Gro B F F' → Q .non H') (hq : ∀ σ' H', Q .non H' → DD.nx σ' H') : ts DD (L2.start N [V.ref p, V.ref q0, V.int a, V.int b, V.bl c]) H := by
  have hst : L2.start N [V.ref p, V.ref q0, V.int a, V.int b, V.bl c] = [some (V.ref p), some (V.ref q0), some (V.int a), some (V.int b), some (V.bl c), none] := by
    unfold L2.start
    rw [hN]; rfl
  rw [hst]
  refine hd B (some q0) F H _ DD ⟨B', ea, ⟨⟨B', Le.refl _, bs, fun n cc hc => ?_, fun n n' r d1 d2 h1 _ _ _ => ?_⟩, fun n d r h1 _ => ?_⟩⟩ fun F' H' σ' ms' ρ' ⟨B2, ea2, ok2⟩ g res => ?_
  · match n, hc with
    | 0, hc => cases hc; exact ⟨_, rfl, _, rfl, by unfold Rdd; rfl⟩
    | 1, hc => cases hc; exact ⟨_, rfl, q0, rfl, rfl⟩
    | 2, hc => cases hc; exact ⟨_, rfl, _, rfl, by unfold Rdd; rfl⟩
    | 3, hc => cases hc; exact ⟨_, rfl, _, rfl, by unfold Rdd; rfl⟩
    | 4, hc => cases hc; exact ⟨_, rfl, _, rfl, by unfold Rdd; rfl⟩
    | 5, hc => cases hc; exact ⟨_, rfl, trivial⟩
    | n + 6, hc => simp at hc
  · exfalso
    match n, h1 with
    | 0, h => cases h
    | 1, h => cases h
    | 2, h => cases h
    | 3, h => cases h
    | 4, h => cases h
    | 5, h => cases h
    | n + 6, h => simp at h
  · exfalso
    match n, h1 with
    | 0, h => cases h
    | 1, h => cases h
    | 2, h => cases h
    | 3, h => cases h
    | 4, h => cases h
    | 5, h => cases h
    | n + 6, h => simp at h
  · obtain ⟨Bq, lq, ok3⟩ := ok2.ex
    exact hq σ' H' (q F' H' B2 ms' res ea2 ⟨ok3.bse.ext, lq.trans ok3.bse.base, fun r z => ⟨lq.none (ok3.bse.pool r z).1, (ok3.bse.pool r z).2⟩⟩ g)
end
theorem enM_lk {ms : EndsM} {n : Int} (h : n ∈ ms.map (·.1)) : lk (eM ms) n = some (enM ms n) := lk_at (by rw [eM_keys]; exact h) []
theorem enM_len {ms : EndsM} (h : ∀ t ∈ ms, t.2.2.length ≤ 100) (n : Int) : (enM ms n).length ≤ 100 := by
  unfold enM
  cases e : lk (eM ms) n with
  | none => exact Nat.zero_le _
  | some es => exact lk_len e h
section
variable {P : Program} {w : World} {K : PySem.W.Frag} {mg : Str → Option Value} {base : Heap}
theorem ok_link (Z : Blt mg) (T : Def K mg "_law_link" st_law_link ["_law_ends", "_law_pool_here", "_law_one", "_law_other", "_law_told_here"]) (D_law_take : OkDef P w K mg base 1 "_law_take" ["_law_pool_here", "_law_many"] ctTake) :
    OkDefS P w K mg base 2 "_law_link" ["_law_ends", "_law_pool_here", "_law_one", "_law_other", "_law_told_here"] (spLink K) := by
  obtain ⟨f, fd, Fn, hm, hb'⟩ := T
  refine ⟨f, fd, hm, Fn.kp, hb', Fn.ok (k := 1) sc_law_link (fun vs H Q E h => ?_) fun cdv A outer s H vs Q E hr h => ?_⟩
  · obtain ⟨B, B', F, p, q0, a, b, c, ms, rfl, _⟩ := h; rfl
  have hu1 := hu_of hr
  have hu : (A.deeper (PyProof.Rows.envOfC "_law_link" (defScope st_law_link) s.heap.objs.size f cdv)).units + 65 < cLine := by have := hr.un; omega
  obtain ⟨B, B', F, p, q0, a, b, c, ms, rfl, ea, bs, ⟨hnd, hka, hkb, hab, hll⟩, q⟩ := h
  refine ⟨_, (pss_cons (ps_set (i := 5) sc_law_link.nd rfl (by first | exact Or.inl rfl | exact Or.inr rfl) (pe_op (op_addK K rfl) pe_int (pe_fnK K D_law_take rfl rfl rfl rfl rfl hr (by rfl) (pa_cons (pv 1) (pa_cons (pe_ix (ix_anyK K hu1 rfl) (pe_lst (pa_cons pe_int (pa_cons pe_int pa_nil))) (pe_fnK K D_law_take rfl rfl rfl rfl rfl hr (by rfl) (pa_cons (pv 1) (pa_cons pe_int pa_nil))) (fun _ _ => rfl)) pa_nil)))))
      (pss_cons (ps_expr (pe_ins K rfl (pe_ix (ix_anyK K hu1 rfl) (pv 0) (pv 2) (fun _ _ => rfl)) (pa_cons (pe_fnK K D_law_take rfl rfl rfl rfl rfl hr (by rfl) (pa_cons (pv 1) (pa_cons (pe_op (op_addK K rfl) (pe_callB (call_lenAK K rfl) (by rfl) Z.len (by decide +kernel) (pa_cons (pe_ix (ix_anyK K hu1 rfl) (pv 0) (pv 2) (fun _ _ => rfl)) pa_nil)) pe_int) pa_nil))) (pa_cons (pe_tup (pa_cons (pv 3) (pa_cons (pv 5) (pa_cons (pv 4) pa_nil)))) pa_nil))))
      (pss_one (ps_expr (pe_ins K rfl (pe_ix (ix_anyK K hu1 rfl) (pv 0) (pv 3) (fun _ _ => rfl)) (pa_cons (pe_fnK K D_law_take rfl rfl rfl rfl rfl hr (by rfl) (pa_cons (pv 1) (pa_cons (pe_op (op_addK K rfl) (pe_callB (call_lenAK K rfl) (by rfl) Z.len (by decide +kernel) (pa_cons (pe_ix (ix_anyK K hu1 rfl) (pv 0) (pv 3) (fun _ _ => rfl)) pa_nil)) pe_int) pa_nil))) (pa_cons (pe_tup (pa_cons (pv 2) (pa_cons (pv 5) (pa_cons (pv 4) pa_nil)))) pa_nil))))))), ?_⟩
  refine run_link rfl ?_ ea bs q (fun _ _ h => h)
  refine x_seq (x_lift (gd_set (P := fun d => ∃ pr : Int, d = .int pr) (g_op (P' := fun _ d => ∃ v : Int, d = .int v) e_i (fun _ _ => (g_call (P := fun cs => ∃ m : Int, cs = [.pool, .fro (.int m)] ∧ 1 ≤ m ∧ m ≤ 100000) (R := fun d => ∃ v : Int, d = .int v) ((ga_pool rfl (ga_cons (P := fun d => ∃ m : Int, d = .int m ∧ 1 ≤ m ∧ m ≤ 100000) (g_op (P' := fun _ => Tk 2) (e_lstF (l_cons e_i (l_cons e_i l_nil))) (fun _ _ => e_take rfl e_i (by decide) (by decide)) (by
      rintro _ _ rfl ⟨r, rfl, h0, h1⟩
      have : r = 0 ∨ r = 1 := by omega
      rcases this with rfl | rfl
      · exact op_of (o_ixL (atD (j := 0) rfl rfl)) ⟨4, rfl, by decide, by decide⟩
      · exact op_of (o_ixL (atD (j := 1) rfl rfl)) ⟨60, rfl, by decide, by decide⟩)) (fun _ _ => a_nil))).imp (by
      rintro _ ⟨r, rfl, d, r2, rfl, ⟨m, rfl, h1, h2⟩, rfl⟩
      exact ⟨m, rfl, h1, h2⟩)) (by
      rintro _ ⟨m, rfl, h1, h2⟩
      exact ⟨m, rfl, h1, h2, fun r _ _ => ⟨_, .inl rfl, r, rfl⟩⟩))) (by rintro _ _ rfl ⟨v, rfl⟩; exact op_of o_add ⟨_, rfl⟩)) ?_))
  rintro _ ⟨pr, rfl⟩
  have hea := enM_lk hka
  refine x_seq (x_ins (i := 0) (j := 2) (n := a) (e := (b, pr, c)) rfl rfl hnd hea (by have := enM_len hll a; omega) (e_take (m := ((enM ms a).length + 1 : Nat)) rfl (EvD.to (e_op (e_cb (l_cons (e_op (e_v rfl) (e_v rfl) (o_ixM hea)) l_nil) c_lenL) e_i o_add) (by rw [List.length_map]; rfl)) (by omega) (by have := enM_len hll a; omega)) (e_tup (l_cons (e_v rfl) (l_cons (e_v rfl) (l_cons (e_v rfl) l_nil)))) ?_)
  intro r1 hr1
  have hnd1 : ((insAt ms a r1 (b, pr, c)).map (·.1)).Nodup := by rw [insAt_keys]; exact hnd
  have heb := enM_lk (ms := insAt ms a r1 (b, pr, c)) (n := b) (by rw [insAt_keys]; exact hkb)
  have hbl : (enM (insAt ms a r1 (b, pr, c)) b).length ≤ 101 := by
    have h2 := lk_insAt ms a b r1 (b, pr, c)
    rw [enM_lk hkb, heb] at h2
    have h3 : enM (insAt ms a r1 (b, pr, c)) b = if b = a then (enM ms b).take r1 ++ [(b, pr, c)] ++ (enM ms b).drop r1 else enM ms b := Option.some.inj h2
    rw [if_neg (Ne.symm hab)] at h3
    rw [h3]; have := enM_len hll b; omega
  refine x_ins (i := 0) (j := 3) (n := b) (e := (a, pr, c)) rfl rfl hnd1 heb (by omega) (e_take (m := ((enM (insAt ms a r1 (b, pr, c)) b).length + 1 : Nat)) rfl (EvD.to (e_op (e_cb (l_cons (e_op (e_v rfl) (e_v rfl) (o_ixM heb)) l_nil) c_lenL) e_i o_add) (by rw [List.length_map]; rfl)) (by omega) (by omega)) (e_tup (l_cons (e_v rfl) (l_cons (e_v rfl) (l_cons (e_v rfl) l_nil)))) ?_
  intro r2 hr2
  exact ⟨pr, r1, r2, rfl⟩
end
end Bs
namespace Bs
open PySem L2
theorem webF_mono {ns : List Int} {j : Nat} {en : Int → List Nd} {L L' : Nat} (w : WebF ns j en L) (h : L ≤ L') : WebF ns j en L' :=
  ⟨w.sym, w.nd, w.irr, w.conn, fun n => Nat.le_trans (w.cnt n) h, by have := w.tot; omega⟩
theorem linkPre_of {ns : List Int} {j L : Nat} {ms : EndsM} {a b : Int} (w : WebF ns j (enM ms) L) (hL : L ≤ 100) (hk : ms.map (·.1) = ns) (hnd : ns.Nodup) (ha : a ∈ ns) (hb : b ∈ ns) (hab : a ≠ b) : LinkPre ms a b := by
  refine ⟨by rw [hk]; exact hnd, by rw [hk]; exact ha, by rw [hk]; exact hb, hab, fun t ht => ?_⟩
  have h1 : lk (eM ms) t.1 = some t.2.2 := lk_mem (by rw [eM_keys, hk]; exact hnd) (by unfold eM; exact List.mem_map.mpr ⟨t, ht, rfl⟩)
  have h2 := w.cnt t.1
  unfold enM at h2
  rw [h1] at h2
  exact Nat.le_trans h2 hL
section
variable {P : Program} {w : World} {K : PySem.W.Frag} {mg : Str → Option Value} {base : Heap}
theorem ok_web (Z : Blt mg) (T : Def K mg "_law_web" st_law_web ["_law_pool_here", "_law_most", "_law_more"]) (D_law_take : OkDef P w K mg base 1 "_law_take" ["_law_pool_here", "_law_many"] ctTake) (D_law_names : OkDef P w K mg base 2 "_law_names" ["_law_pool_here", "_law_many"] ctNamesL)
    (D_law_told : OkDef P w K mg base 2 "_law_told" ["_law_pool_here", "_law_way", "_law_amid"] ctTold) (D_law_link : OkDefS P w K mg base 2 "_law_link" ["_law_ends", "_law_pool_here", "_law_one", "_law_other", "_law_told_here"] (spLink K)) :
    OkDef P w K mg base 4 "_law_web" ["_law_pool_here", "_law_most", "_law_more"] ctWeb := by
  refine ok_def (k := 3) (n := 14) T sc_law_web rfl (by rintro cs P ⟨rfl, _⟩; rfl) fun f cdv A outer s H E hr hu1 hu => ?_
  refine ⟨_, (pss_cons (ps_set (i := 3) sc_law_web.nd rfl (by first | exact Or.inl rfl | exact Or.inr rfl) (pe_op (op_addK K rfl) pe_int (pe_fnK K D_law_take rfl rfl rfl rfl rfl hr (by rfl) (pa_cons (pv 0) (pa_cons (pv 1) pa_nil)))))
      (pss_cons (ps_set (i := 4) sc_law_web.nd rfl (by first | exact Or.inl rfl | exact Or.inr rfl) (pe_fnK K D_law_take rfl rfl rfl rfl rfl hr (by rfl) (pa_cons (pv 0) (pa_cons pe_int pa_nil))))
      (pss_cons (ps_set (i := 5) sc_law_web.nd rfl (by first | exact Or.inl rfl | exact Or.inr rfl) (pe_fnK K D_law_names rfl rfl rfl rfl rfl hr (by rfl) (pa_cons (pv 0) (pa_cons (pv 3) pa_nil))))
      (pss_cons (ps_set (i := 6) sc_law_web.nd rfl (by first | exact Or.inl rfl | exact Or.inr rfl) (pe_callTy (call_dctK K rfl rfl) (by rfl) Z.dict (by decide +kernel) (pa_cons (pe_lc (own := [("_law_name", 14)]) (g := (gName 14)) (tt := tYes) rfl sc_law_web.nd (pi_listK K rfl (pv 5)) (blkOk_by (N := N_law_web) (sc := defScope st_law_web) (by decide +kernel)) (fun _ _ _ _ _ => (pg_name (i := 14) sc_law_web.nd rfl (by first | exact Or.inl rfl | exact Or.inr rfl))) (fun _ _ _ _ _ => pts_nil) (fun _ _ _ _ _ => (pe_tup (pa_cons (pv 14) (pa_cons (pe_lst pa_nil) pa_nil))))) pa_nil)))
      (pss_cons (ps_for PassesOwn.never rfl (pi_range2 (by rfl) Z.range (pa_cons pe_int (pa_cons (pv 3) pa_nil))) (pg_name (i := 7) sc_law_web.nd rfl (by first | exact Or.inl rfl | exact Or.inr rfl)) (pss_cons (ps_set (i := 8) sc_law_web.nd rfl (by first | exact Or.inl rfl | exact Or.inr rfl) (pe_ix (ix_anyK K hu1 rfl) (pv 5) (pe_fnK K D_law_take rfl rfl rfl rfl rfl hr (by rfl) (pa_cons (pv 0) (pa_cons (pv 7) pa_nil))) (fun _ _ => rfl)))
      (pss_cons (ps_if (pt_cmpR op_gt (pe_callB (call_lenAK K rfl) (by rfl) Z.len (by decide +kernel) (pa_cons (pe_ix (ix_anyK K hu1 rfl) (pv 6) (pv 8) (fun _ _ => rfl)) pa_nil)) pe_int (nomark _)) (pss_one (ps_set (i := 8) sc_law_web.nd rfl (by first | exact Or.inl rfl | exact Or.inr rfl) (pe_ix (ix_anyK K hu1 rfl) (pv 5) (pe_op op_sub (pv 7) pe_int) (fun _ _ => rfl)))) pss_nil)
      (pss_one (ps_expr (pe_fnS D_law_link rfl rfl rfl rfl rfl hr (by rfl) (pa_cons (pv 6) (pa_cons (pv 0) (pa_cons (pe_ix (ix_anyK K hu1 rfl) (pv 5) (pv 7) (fun _ _ => rfl)) (pa_cons (pv 8) (pa_cons (pe_fnK K D_law_told rfl rfl rfl rfl rfl hr (by rfl) (pa_cons (pv 0) (pa_cons (pv 4) (pa_cons pe_bl pa_nil)))) pa_nil)))))))))))
      (pss_cons (ps_for PassesOwn.never rfl (pi_range1 (by rfl) Z.range (pa_cons (pe_fnK K D_law_take rfl rfl rfl rfl rfl hr (by rfl) (pa_cons (pv 0) (pa_cons (pe_op (op_addK K rfl) (pv 2) pe_int) pa_nil))) pa_nil)) (pg_name (i := 7) sc_law_web.nd rfl (by first | exact Or.inl rfl | exact Or.inr rfl)) (pss_cons (ps_set (i := 9) sc_law_web.nd rfl (by first | exact Or.inl rfl | exact Or.inr rfl) (pe_ix (ix_anyK K hu1 rfl) (pv 5) (pe_fnK K D_law_take rfl rfl rfl rfl rfl hr (by rfl) (pa_cons (pv 0) (pa_cons (pv 3) pa_nil))) (fun _ _ => rfl)))
      (pss_cons (ps_set (i := 8) sc_law_web.nd rfl (by first | exact Or.inl rfl | exact Or.inr rfl) (pe_ix (ix_anyK K hu1 rfl) (pv 5) (pe_fnK K D_law_take rfl rfl rfl rfl rfl hr (by rfl) (pa_cons (pv 0) (pa_cons (pv 3) pa_nil))) (fun _ _ => rfl)))
      (pss_cons (ps_set (i := 10) sc_law_web.nd rfl (by first | exact Or.inl rfl | exact Or.inr rfl) (pe_cmpR op_gt (pe_callB (call_mx2 rfl) (by rfl) Z.max (by decide +kernel) (pa_cons (pe_callB (call_lenAK K rfl) (by rfl) Z.len (by decide +kernel) (pa_cons (pe_ix (ix_anyK K hu1 rfl) (pv 6) (pv 9) (fun _ _ => rfl)) pa_nil)) (pa_cons (pe_callB (call_lenAK K rfl) (by rfl) Z.len (by decide +kernel) (pa_cons (pe_ix (ix_anyK K hu1 rfl) (pv 6) (pv 8) (fun _ _ => rfl)) pa_nil)) pa_nil))) pe_int (nomark _)))
      (pss_one (ps_if (PW.pt (pw_and (pt_cmpR (op_neK K hr.units rfl) (pv 9) (pv 8) (nomark _)) (pw_and (pt_not (pt_val (pv 10))) (pw_and1 (pt_cmpR (op_ninA' K hu rfl) (pv 8) (pe_lc (own := [("_law_end", 16)]) (g := (gName 16)) (tt := tYes) rfl sc_law_web.nd (pi_listK K rfl (pe_ix (ix_anyK K hu1 rfl) (pv 6) (pv 9) (fun _ _ => rfl))) (blkOk_by (N := N_law_web) (sc := defScope st_law_web) (by decide +kernel)) (fun _ _ _ _ _ => (pg_name (i := 16) sc_law_web.nd rfl (by first | exact Or.inl rfl | exact Or.inr rfl))) (fun _ _ _ _ _ => pts_nil) (fun _ _ _ _ _ => (pe_ix (ix_anyK K hu1 rfl) (pv 16) pe_int (fun _ _ => rfl)))) (by rfl)))))) (pss_one (ps_expr (pe_fnS D_law_link rfl rfl rfl rfl rfl hr (by rfl) (pa_cons (pv 6) (pa_cons (pv 0) (pa_cons (pv 9) (pa_cons (pv 8) (pa_cons (pe_fnK K D_law_told rfl rfl rfl rfl rfl hr (by rfl) (pa_cons (pv 0) (pa_cons (pv 4) (pa_cons pe_bl pa_nil)))) pa_nil)))))))) pss_nil))))))
      (pss_cons (ps_set (i := 11) sc_law_web.nd rfl (by first | exact Or.inl rfl | exact Or.inr rfl) (pe_ix (ix_anyK K hu1 rfl) (pv 5) (pe_fnK K D_law_take rfl rfl rfl rfl rfl hr (by rfl) (pa_cons (pv 0) (pa_cons (pv 3) pa_nil))) (fun _ _ => rfl)))
      (pss_cons (ps_set (i := 12) sc_law_web.nd rfl (by first | exact Or.inl rfl | exact Or.inr rfl) (pe_fnK K D_law_take rfl rfl rfl rfl rfl hr (by rfl) (pa_cons (pv 0) (pa_cons pe_int pa_nil))))
      (pss_cons (ps_set (i := 13) sc_law_web.nd rfl (by first | exact Or.inl rfl | exact Or.inr rfl) pe_dnewK)
      (pss_cons (ps_for PassesOwn.never rfl (pi_listK K rfl (pv 5)) (pg_name (i := 14) sc_law_web.nd rfl (by first | exact Or.inl rfl | exact Or.inr rfl)) (pss_cons (ps_set (i := 15) sc_law_web.nd rfl (by first | exact Or.inl rfl | exact Or.inr rfl) (pe_ix (ix_anyK K hu1 rfl) (pe_lst (pa_cons (pe_callTy call_int (by rfl) Z.int (by decide +kernel) (pa_cons (pe_cmpR (op_eqK K hr.units rfl) (pv 14) (pv 11) (nomark _)) pa_nil)) (pa_cons (pe_callTy call_int (by rfl) Z.int (by decide +kernel) (pa_cons (pe_cmpR (op_eqK K hr.units rfl) (pv 14) (pv 11) (nomark _)) pa_nil)) (pa_cons (pe_fnK K D_law_take rfl rfl rfl rfl rfl hr (by rfl) (pa_cons (pv 0) (pa_cons pe_int pa_nil))) pa_nil)))) (pv 12) (fun _ _ => rfl)))
      (pss_one (ps_dput hu1 (pv 13) (pv 14) (pe_tup (pa_cons (pv 15) (pa_cons (pe_ix (ix_anyK K hu1 rfl) (pv 6) (pv 14) (fun _ _ => rfl)) pa_nil))) rfl))))
      (pss_one (ps_ret (pv 13))))))))))))), ?_⟩
  rintro cs R ⟨rfl, hR⟩
  refine d_seq (gd_set (P := fun d => ∃ m : Int, d = .int m ∧ 1 ≤ m ∧ m ≤ 8) (g_op (P' := fun _ => Tk 8) e_i (fun _ _ => e_take rfl (e_v rfl) (by decide) (by decide)) (by rintro _ _ rfl ⟨r, rfl, h0, h1⟩; exact op_of o_add ⟨_, rfl, by omega, by omega⟩)) ?_)
  rintro _ ⟨m, rfl, hm1, hm8⟩
  refine d_seq (gd_set (e_take (m := 4) rfl e_i (by decide) (by decide)) ?_)
  rintro _ ⟨wy, rfl, hw0, hw1⟩
  refine d_seq (gd_set (P := fun d => ∃ ns : List Int, d = dI ns ∧ (ns.length : Int) = m ∧ ns.Nodup ∧ ∀ n ∈ ns, 0 ≤ n ∧ n < 4096) (g_call (a_pool rfl (a_cons (e_v rfl) a_nil)) fun cs e => e ▸ ⟨m, rfl, hm1, hm8, fun ns h1 h2 h3 => ⟨_, .inr rfl, ns, rfl, h1, h2, h3⟩⟩) ?_)
  rintro _ ⟨ns, rfl, hnl, hnd, hrng⟩
  obtain ⟨mN, hmN⟩ : ∃ mN : Nat, ns.length = mN := ⟨_, rfl⟩
  refine d_mk (j := 5) (v := 14) (i := 6) (ns := ns) rfl hnd (by omega) (by exact Nat.le_of_ble_eq_true rfl) (by exact Nat.le_of_ble_eq_true rfl) fun p ms hk0 he0 => ?_
  have hz : ∀ n, enM ms n = [] := fun n => by
    unfold enM
    cases e : lk (eM ms) n with
    | none => rfl
    | some es =>
      have := lk_some e
      unfold eM at this
      obtain ⟨t, ht, e2⟩ := List.mem_map.mp this
      cases e2
      exact he0 t ht
  have told : ∀ (ρ : List Cell) (b : Bool), ρ[0]? = some .pool → ρ[4]? = some (.fro (.int wy)) → Ev K (tCall (spC K ctTold) [] E0 (tCons (tVar 0) (tCons (tVar 4) (tCons (tC (.bl b)) tNil)))) ρ (fun d => ∃ c : Bool, d = .bl c) := fun ρ b h1 h2 =>
    g_call (a_pool h1 (a_cons (e_v h2) (a_cons e_b a_nil))) fun cs e => e ▸ ⟨wy, b, rfl, hw0, hw1, fun c => ⟨_, .inl rfl, c, rfl⟩⟩
  have nm : ∀ (ρ : List Cell), ρ[0]? = some .pool → ρ[3]? = some (.fro (.int m)) → ρ[5]? = some (.fro (dI ns)) → Ev K (tOp (rIxA K) (tVar 5) (tCall (spC K ctTake) [] E0 (tCons (tVar 0) (tCons (tVar 3) tNil)))) ρ (fun d => ∃ n ∈ ns, d = .int n) := fun ρ h1 h2 h3 =>
    g_op (P' := fun _ => Tk (ns.length : Nat)) (e_v h3) (fun _ _ => (e_take h1 (e_v h2) hm1 (by omega)).imp fun d ⟨r, e, a, b⟩ => ⟨r, e, a, by omega⟩) (by rintro _ _ rfl h; exact o_ixTk (ρ := []) h)
  refine y_seq (x_for (P := fun ds => ds = (List.range (m - 1).toNat).map fun k => D.int (1 + (k : Nat))) (fun B0 σ => i_rng2 (l_cons e_i (l_cons (e_v rfl) l_nil)) (by decide) (by omega) B0 σ) ?_)
  rintro _ rfl
  refine ⟨fun k ms ρ => ∃ x7 x8 : Cell, ρ = [.pool, .fro (.int 8), .fro (.int 4), .fro (.int m), .fro (.int wy), .fro (dI ns), .fro (.adr p), x7, x8, .any, .any, .any, .any, .any, .any, .any, .any] ∧ WebF ns (k + 1) (enM ms) k ∧ ms.map (·.1) = ns, ⟨_, _, rfl, webF_zero ns hz, hk0⟩, ?_, ?_⟩
  · rintro k d ms ρ hd ⟨x7, x8, rfl, wf, hk⟩
    obtain ⟨hkl, rfl⟩ := rng_get hd
    have hkn : k + 1 < ns.length := by omega
    refine ⟨_, _, g_name, ?_⟩
    have inTake : ∀ r : Nat, r < k + 1 → ∃ o ∈ ns.take (k + 1), ns[r]? = some o := fun r h => by
      have hx : ns[r]? = some (ns[r]'(by omega)) := List.getElem?_eq_getElem (by omega)
      exact ⟨_, List.mem_of_getElem? (i := r) (by rw [List.getElem?_take, if_pos h]; exact hx), hx⟩
    refine x_seq (x_lift (gd_set (P := fun d => ∃ o ∈ ns.take (k + 1), d = .int o) (g_op (P' := fun _ => Tk (1 + (k : Nat))) (e_v rfl) (fun _ _ => e_take rfl (e_v rfl) (by omega) (by omega)) (by
      rintro _ _ rfl ⟨r, rfl, h0, h1⟩
      obtain ⟨o, ho, hx⟩ := inTake r.toNat (by omega)
      exact op_of (o_ixL (atD (j := r.toNat) (by omega) (by rw [List.getElem?_map, hx]; rfl))) ⟨o, ho, rfl⟩)) ?_))
    rintro _ ⟨o0, ho0, rfl⟩
    have hsub : ∀ x ∈ ns.take (k + 1), x ∈ ns := fun x hx => List.mem_of_mem_take hx
    refine x_seq (x_imp (E' := fun ms' ρ' => ms' = ms ∧ ∃ o ∈ ns.take (k + 1), ρ' = [.pool, .fro (.int 8), .fro (.int 4), .fro (.int m), .fro (.int wy), .fro (dI ns), .fro (.adr p), .fro (.int (1 + (k : Nat))), .fro (.int o), .any, .any, .any, .any, .any, .any, .any, .any]) (x_ifE (i := 6) (R := fun _ => True) rfl ((t_test (e_op (e_cb (l_cons (e_op (e_v rfl) (e_v rfl) (o_ixM (enM_lk (by rw [hk]; exact hsub o0 ho0)))) l_nil) c_lenL) e_i o_gt)).imp fun _ _ => trivial) (fun _ => x_lift ?_) fun _ => x_next ⟨rfl, o0, ho0, rfl⟩) ?_)
    · obtain ⟨o, ho, hx⟩ := inTake k (by omega)
      exact d_set (e_op (e_v rfl) (e_op (e_v rfl) e_i o_sub) (o_ixL (atD (j := k) (by omega) (by rw [List.getElem?_map, hx]; rfl)))) ⟨rfl, o, ho, rfl⟩
    rintro ms' ρ' ⟨hms', o, ho, rfl⟩
    subst hms'
    have hax : ns[k + 1]? = some (ns[k + 1]'hkn) := List.getElem?_eq_getElem hkn
    generalize ns[k + 1]'hkn = a at hax
    have ha : a ∈ ns := List.mem_of_getElem? hax
    have htk : ns.take (k + 1 + 1) = ns.take (k + 1) ++ [a] := by rw [List.take_add_one, hax]; rfl
    have hanew : a ∉ ns.take (k + 1) := fun h => by
      have := hnd.sublist (List.take_sublist (k + 1 + 1) ns)
      rw [htk] at this
      exact (List.nodup_append.mp this).2.2 a h a (List.mem_singleton.mpr rfl) rfl
    have hao : a ≠ o := fun z => hanew (z ▸ ho)
    refine x_link (a := a) (b := o) ((ga_consD (e_v rfl) (ga_pool rfl (ga_consD (d := .int a) (e_op (e_v rfl) (e_v rfl) (o_ixL (atD (j := k + 1) (by omega) (by rw [List.getElem?_map, hax]; rfl)))) (ga_consD (e_v rfl) (ga_cons (told _ true rfl rfl) fun _ _ => a_nil))))).imp ?_) (linkPre_of wf (by omega) hk hnd ha (hsub o ho) hao) fun c ms' hres => ⟨_, _, rfl, ?_, by rw [hres.keys]; exact hk⟩
    · rintro _ ⟨_, rfl, _, rfl, _, rfl, _, rfl, _, _, rfl, ⟨c, rfl⟩, rfl⟩
      exact ⟨c, rfl⟩
    · obtain ⟨pr, r1, r2, he⟩ := enM_link (by rw [hk]; exact ha) (by rw [hk]; exact hsub o ho) hao hres
      rw [he]
      refine webF_link wf hnd (fun x hx => by rw [htk]; exact List.mem_append_left _ hx) (fun x hx => ?_) (by rw [htk]; exact List.mem_append_right _ (List.mem_singleton.mpr rfl)) ho hao (fun h => ?_)
      · rw [htk, List.mem_append, List.mem_singleton] at hx; exact hx
      · obtain ⟨e, hem, _⟩ := List.mem_map.mp h
        exact hanew (wf.sym a e hem).1
  rintro ms ρ ⟨x7, x8, rfl, wf, hk⟩
  rw [List.length_map, List.length_range] at wf
  have hm1' : (m - 1).toNat + 1 = mN := by omega
  rw [hm1'] at wf
  have hL1 : (m - 1).toNat ≤ 7 := by omega
  generalize (m - 1).toNat = L0 at wf hL1
  have htake : ns.take mN = ns := by rw [← hmN, List.take_length]
  refine y_seq (x_for (P := fun ds => ∃ n : Nat, n ≤ 4 ∧ ds = (List.range n).map fun i => D.int (0 + (i : Nat))) (fun B0 σ => gi_rng1 (gl_one (e_take (m := 5) rfl (EvD.to (e_op (e_v rfl) e_i o_add) rfl) (by decide) (by decide))) (by
    rintro _ ⟨_, rfl, r, rfl, h0, h1⟩
    exact ⟨r.toNat, by rw [show ((r.toNat : Nat) : Int) = r by omega], by omega, r.toNat, by omega, rfl⟩)) ?_)
  rintro _ ⟨tn, htn, rfl⟩
  refine ⟨fun k ms ρ => ∃ x7 x8 x9 x10 : Cell, ρ = [.pool, .fro (.int 8), .fro (.int 4), .fro (.int m), .fro (.int wy), .fro (dI ns), .fro (.adr p), x7, x8, x9, x10, .any, .any, .any, .any, .any, .any] ∧ WebF ns mN (enM ms) (L0 + k) ∧ ms.map (·.1) = ns, ⟨_, _, _, _, rfl, wf, hk⟩, ?_, ?_⟩
  · rintro k d ms ρ hd ⟨x7, x8, x9, x10, rfl, wf, hk⟩
    obtain ⟨hkl, rfl⟩ := rng_get hd
    refine ⟨_, _, g_name, x_seq (x_lift (gd_set (nm _ rfl rfl rfl) ?_))⟩
    rintro _ ⟨a, ha, rfl⟩
    refine x_seq (x_lift (gd_set (nm _ rfl rfl rfl) ?_))
    rintro _ ⟨o, ho, rfl⟩
    have hla := enM_lk (ms := ms) (n := a) (by rw [hk]; exact ha)
    have hlo := enM_lk (ms := ms) (n := o) (by rw [hk]; exact ho)
    have hal : (enM ms a).length ≤ 100 := by have := wf.cnt a; omega
    refine x_seq (x_setE (i := 6) (P := fun d => ∃ b : Bool, d = .bl b) rfl ((e_op (e_cb (l_cons (e_cb (l_cons (e_op (e_v rfl) (e_v rfl) (o_ixM hla)) l_nil) c_lenL) (l_cons (e_cb (l_cons (e_op (e_v rfl) (e_v rfl) (o_ixM hlo)) l_nil) c_lenL) l_nil)) c_max) e_i o_gt).imp fun d e => ⟨_, e⟩) (by rintro _ ⟨b, rfl⟩; exact trivial) ?_)
    rintro _ ⟨fb, rfl⟩
    refine x_ifE (i := 6) (R := fun b => b = true → a ≠ o ∧ o ∉ (enM ms a).map (·.1)) rfl ((t_and (t_test (e_op (e_v rfl) (e_v rfl) o_nei)) fun _ => t_and (t_not (t_B (e_v rfl))) fun _ => t_test (e_op (e_v rfl) (n_order (es := enM ms a) (EvD.to (e_op (e_v rfl) (e_v rfl) (o_ixM (en := esD) hla)) rfl) (by exact Nat.le_of_ble_eq_true rfl) (by omega)).fz (o_nin (fl_int 0 _) (fl_dI _)))).imp ?_) (fun h => ?_) fun _ => x_next ⟨_, _, _, _, rfl, webF_mono wf (by omega), hk⟩
    · rintro b rfl h
      rw [Bool.and_eq_true, Bool.and_eq_true] at h
      refine ⟨of_decide_eq_false (nt_t h.1), fun hin => ?_⟩
      have h3 := nt_t h.2.2
      rw [List.any_map, List.any_eq_false] at h3
      refine h3 o hin ?_
      show eqD (.int o) (.int o) = true
      rw [eqD_int']; exact decide_eq_true rfl
    obtain ⟨hao, hno⟩ := h rfl
    refine x_link (a := a) (b := o) ((ga_consD (e_v rfl) (ga_pool rfl (ga_consD (e_v rfl) (ga_consD (e_v rfl) (ga_cons (told _ false rfl rfl) fun _ _ => a_nil))))).imp ?_) (linkPre_of wf (by omega) hk hnd ha ho hao) fun c ms' hres => ⟨_, _, _, _, rfl, ?_, by rw [hres.keys]; exact hk⟩
    · rintro _ ⟨_, rfl, _, rfl, _, rfl, _, rfl, _, _, rfl, ⟨c, rfl⟩, rfl⟩
      exact ⟨c, rfl⟩
    · obtain ⟨pr, r1, r2, he⟩ := enM_link (by rw [hk]; exact ha) (by rw [hk]; exact ho) hao hres
      rw [he]
      exact webF_link wf hnd (fun x hx => hx) (fun x hx => .inl hx) (by rw [htake]; exact ha) (by rw [htake]; exact ho) hao hno
  rintro ms ρ ⟨x7, x8, x9, x10, rfl, wf, hk⟩
  rw [List.length_map, List.length_range] at wf
  refine y_end (i := 6) rfl ?_
  refine d_seq (gd_set (nm _ rfl rfl rfl) ?_)
  rintro _ ⟨fi, _, rfl⟩
  refine d_seq (gd_set (e_take (m := 3) rfl e_i (by decide) (by decide)) ?_)
  rintro _ ⟨bg, rfl, hb0, hb1⟩
  refine d_seq (d_setN e_newK ?_)
  refine d_seq (d_for (i_listD (e_v rfl)) (fun i ρ => ∃ (W : Web) (x14 x15 : Cell), ρ = [.pool, .fro (.int 8), .fro (.int 4), .fro (.int m), .fro (.int wy), .fro (dI ns), .fro (dM esD (eM ms)), x7, x8, x9, x10, .fro (.int fi), .fro (.int bg), .own (wD W), x14, x15, .any] ∧ W.map (·.1) = ns.take i ∧ ∀ n ∈ ns.take i, endsAt W n = enM ms n) ⟨⟨[], _, _, rfl, rfl, fun n hn => absurd hn List.not_mem_nil⟩, ?_, ?_⟩)
  · rintro i d ρ hd ⟨W, x14, x15, rfl, hWk, hWe⟩
    obtain ⟨n, hn, hm, rfl⟩ := map_get hd
    have hin := (List.getElem?_eq_some_iff.mp hn).1
    have htk : ns.take (i + 1) = ns.take i ++ [n] := by rw [List.take_add_one, hn]; rfl
    have hnew : n ∉ W.map (·.1) := by
      rw [hWk]
      intro h
      have := hnd.sublist (List.take_sublist (i + 1) ns)
      rw [htk] at this
      exact (List.nodup_append.mp this).2.2 n h n (List.mem_singleton.mpr rfl) rfl
    have hWl : W.length ≤ 64 := by
      have := congrArg List.length hWk
      rw [List.length_map, List.length_take] at this
      omega
    refine ⟨_, _, g_name, d_seq (gd_set (P := fun d => ∃ z : Int, d = .int z) (g_op (P := fun d => ∃ v u : Int, d = .lst [.int v, .int v, .int u]) (P' := fun _ d => d = .int bg) (Ev.imp (g_lst (gl_two (P := fun d => d = .int (if decide (n = fi) then 1 else 0)) (e_cb (l_cons (e_op (e_v rfl) (e_v rfl) o_eqi) l_nil) c_intB) (gl_two (P := fun d => d = .int (if decide (n = fi) then 1 else 0)) (e_cb (l_cons (e_op (e_v rfl) (e_v rfl) o_eqi) l_nil) c_intB) (gl_one (e_take (m := 10) rfl e_i (by decide) (by decide))))) (by
      rintro _ ⟨d, r, rfl, _, d2, r2, rfl, _, d3, rfl, _⟩
      show 3 ≤ 100000
      decide)).fz (by
      rintro _ ⟨_, rfl, d, r, rfl, rfl, d2, r2, rfl, rfl, d3, rfl, u, rfl, _⟩
      exact ⟨_, u, rfl⟩)) (fun _ _ => e_v rfl) (by
      rintro _ _ ⟨v, u, rfl⟩ rfl
      have : bg = 0 ∨ bg = 1 ∨ bg = 2 := by omega
      rcases this with rfl | rfl | rfl
      · exact op_of (o_ixL (atD (j := 0) rfl rfl)) ⟨v, rfl⟩
      · exact op_of (o_ixL (atD (j := 1) rfl rfl)) ⟨v, rfl⟩
      · exact op_of (o_ixL (atD (j := 2) rfl rfl)) ⟨u, rfl⟩)) ?_)⟩
    rintro _ ⟨z, rfl⟩
    refine d_putM (en := pD) (v := (z, enM ms n)) rfl (e_tup (l_cons (e_v rfl) (l_cons (e_op (e_v rfl) (e_v rfl) (o_ixM (enM_lk (by rw [hk]; exact hm)))) l_nil))) (e_v rfl) (by omega) ⟨pt W n (z, enM ms n), _, _, rfl, ?_, fun n' hn' => ?_⟩
    · rw [pt_new _ hnew, List.map_append, hWk, htk]; rfl
    · unfold endsAt
      rw [lk_pt]
      by_cases e : n' = n
      · subst e; rw [if_pos rfl]
      · rw [if_neg e]
        rw [htk, List.mem_append, List.mem_singleton] at hn'
        exact hWe n' (hn'.resolve_right e)
  · rintro ρ ⟨W, x14, x15, rfl, hWk, hWe⟩
    rw [List.length_map, List.take_length] at hWk hWe
    refine d_retO rfl (hR W (webMade_of wf hmN (by omega) (by omega) (by omega) hnd hrng hWk fun n => ?_))
    by_cases hn : n ∈ ns
    · exact hWe n hn
    · have h1 : lk W n = none := lk_none.mpr (by rw [hWk]; exact hn)
      have h2 : lk (eM ms) n = none := lk_none.mpr (by rw [eM_keys, hk]; exact hn)
      unfold endsAt enM
      rw [h1, h2]; rfl
end
end Bs
namespace Bs
open PySem L2
/-- where a def of the text stands in what is written -/
def DefAt (K : PySem.W.Frag) (x : Str) (st : Stmt) : Prop := ∃ (f : Addr) (oc : Value) (od an : Option Addr) (osl : Array (Option Value)) (kV doc pm cdv ct : Value), PySem.W.nsIn K mainGlobals x = some (some (.ref f)) ∧
  K.lookup f = some ⟨oc, od, .func (PySem.W.fnOf x x (defArgs st) (defBody st) (defScope st) .none kV doc pm an cdv ct), osl⟩ ∧ PySem.W.codeIn K cdv x = true ∧ PySem.W.keepIn K (.ref f) = true
theorem def_at {K : PySem.W.Frag} {x : Str} {st : Stmt} {f : Addr} {oc : Value} {od an : Option Addr} {osl : Array (Option Value)} {kV doc pm cdv ct : Value} (a : PySem.W.nsIn K mainGlobals x = some (some (.ref f)))
    (l : K.lookup f = some ⟨oc, od, .func (PySem.W.fnOf x x (defArgs st) (defBody st) (defScope st) .none kV doc pm an cdv ct), osl⟩) (c : PySem.W.codeIn K cdv x = true) (k : PySem.W.keepIn K (.ref f) = true) : DefAt K x st := ⟨f, oc, od, an, osl, kV, doc, pm, cdv, ct, a, l, c, k⟩
theorem ref_at {K : PySem.W.Frag} {x : Str} {a : Addr} (h : PySem.W.nsIn K mainGlobals x = some (some (.ref a))) : ∃ a, PySem.W.nsIn K mainGlobals x = some (some (.ref a)) := ⟨a, h⟩
theorem int_at {K : PySem.W.Frag} {x : Str} {i : Int} {t : Tok} (h : PySem.W.nsIn K mainGlobals x = some (some (.int i t))) : ∃ t, PySem.W.nsIn K mainGlobals x = some (some (.int i t)) := ⟨t, h⟩
theorem def_of {K : PySem.W.Frag} {h : Heap} {mg : Str → Option Value} {x : Str} {st : Stmt} {ps : List Str} (X : K.In h) (G : h.Ns mainGlobals mg) (d : DefAt K x st)
    (hb : ∀ (kV doc pm : Value) (an : Option Addr) (cdv ct : Value) (us : List Value), us.length = ps.length → bindArgs (PySem.W.fnOf x x (defArgs st) (defBody st) (defScope st) .none kV doc pm an cdv ct) ⟨us, []⟩ = pure (ps.zip us)) : Def K mg x st ps := by
  obtain ⟨f, oc, od, an, osl, kV, doc, pm, cdv, ct, a, l, c, k⟩ := d
  exact ⟨f, _, fun_mk l c k, PySem.W.mg_of X G a, (fun_mk l c k).binds hb⟩
/-- all that must be seen of what is written -/
structure Seen (K : PySem.W.Frag) : Prop where
  d_is_mark : DefAt K "is_mark" st_is_mark
  d_number_in : DefAt K "number_in" st_number_in
  d_fields_of : DefAt K "fields_of" st_fields_of
  d_fields_beside : DefAt K "fields_beside" st_fields_beside
  d_goes_up : DefAt K "goes_up" st_goes_up
  d_below : DefAt K "below" st_below
  d_threes_of : DefAt K "threes_of" st_threes_of
  d_leaders_among : DefAt K "leaders_among" st_leaders_among
  d_are_threes_right : DefAt K "are_threes_right" st_are_threes_right
  d_says_ball : DefAt K "says_ball" st_says_ball
  d_says : DefAt K "says" st_says
  d_look_at_marks : DefAt K "look_at_marks" st_look_at_marks
  d_sight_of : DefAt K "sight_of" st_sight_of
  d_view_of : DefAt K "view_of" st_view_of
  d_names_of : DefAt K "names_of" st_names_of
  d_first_no : DefAt K "first_no" st_first_no
  d_law_cell_at : DefAt K "_law_cell_at" st_law_cell_at
  d_law_pool : DefAt K "_law_pool" st_law_pool
  d_law_take : DefAt K "_law_take" st_law_take
  d_law_names : DefAt K "_law_names" st_law_names
  d_law_told : DefAt K "_law_told" st_law_told
  d_law_copy : DefAt K "_law_copy" st_law_copy
  d_law_ties : DefAt K "_law_ties" st_law_ties
  d_law_pairs : DefAt K "_law_pairs" st_law_pairs
  d_law_both_ways : DefAt K "_law_both_ways" st_law_both_ways
  d_law_behind : DefAt K "_law_behind" st_law_behind
  d_law_faces : DefAt K "_law_faces" st_law_faces
  d_law_mark : DefAt K "_law_mark" st_law_mark
  d_law_tie : DefAt K "_law_tie" st_law_tie
  d_law_can : DefAt K "_law_can" st_law_can
  d_law_crossed : DefAt K "_law_crossed" st_law_crossed
  d_law_grown : DefAt K "_law_grown" st_law_grown
  d_law_root_parts : DefAt K "_law_root_parts" st_law_root_parts
  d_law_sums_of : DefAt K "_law_sums_of" st_law_sums_of
  d_law_labels : DefAt K "_law_labels" st_law_labels
  d_law_threes : DefAt K "_law_threes" st_law_threes
  d_law_goes_up : DefAt K "_law_goes_up" st_law_goes_up
  d_law_follow : DefAt K "_law_follow" st_law_follow
  d_law_says : DefAt K "_law_says" st_law_says
  d_law_is_flat : DefAt K "_law_is_flat" st_law_is_flat
  d_law_drawn : DefAt K "_law_drawn" st_law_drawn
  d_law_digits : DefAt K "_law_digits" st_law_digits
  d_law_spoilt : DefAt K "_law_spoilt" st_law_spoilt
  d_law_parts_of : DefAt K "_law_parts_of" st_law_parts_of
  d_law_right : DefAt K "_law_right" st_law_right
  d_law_crossed_right : DefAt K "_law_crossed_right" st_law_crossed_right
  d_law_rows : DefAt K "_law_rows" st_law_rows
  d_law_link : DefAt K "_law_link" st_law_link
  d_law_web : DefAt K "_law_web" st_law_web
  d_law : DefAt K "law" st_law
  b_len : PySem.W.nsIn K mainGlobals "len" = some none
  b_sum : PySem.W.nsIn K mainGlobals "sum" = some none
  b_sorted : PySem.W.nsIn K mainGlobals "sorted" = some none
  b_max : PySem.W.nsIn K mainGlobals "max" = some none
  b_min : PySem.W.nsIn K mainGlobals "min" = some none
  b_isinstance : PySem.W.nsIn K mainGlobals "isinstance" = some none
  b_dict : PySem.W.nsIn K mainGlobals "dict" = some none
  b_list : PySem.W.nsIn K mainGlobals "list" = some none
  b_tuple : PySem.W.nsIn K mainGlobals "tuple" = some none
  b_set : PySem.W.nsIn K mainGlobals "set" = some none
  b_int : PySem.W.nsIn K mainGlobals "int" = some none
  b_str : PySem.W.nsIn K mainGlobals "str" = some none
  b_bool : PySem.W.nsIn K mainGlobals "bool" = some none
  b_range : PySem.W.nsIn K mainGlobals "range" = some none
  b_enumerate : PySem.W.nsIn K mainGlobals "enumerate" = some none
  g_says_tree : ∃ a, PySem.W.nsIn K mainGlobals "says_tree" = some (some (.ref a))
  g_says_near : ∃ a, PySem.W.nsIn K mainGlobals "says_near" = some (some (.ref a))
  g_says_bare : ∃ a, PySem.W.nsIn K mainGlobals "says_bare" = some (some (.ref a))
  g_says_sides : ∃ a, PySem.W.nsIn K mainGlobals "says_sides" = some (some (.ref a))
  g_says_odd : ∃ a, PySem.W.nsIn K mainGlobals "says_odd" = some (some (.ref a))
  g_says_pairing : ∃ a, PySem.W.nsIn K mainGlobals "says_pairing" = some (some (.ref a))
  g_says_cheapest : ∃ a, PySem.W.nsIn K mainGlobals "says_cheapest" = some (some (.ref a))
  g_says_round : ∃ a, PySem.W.nsIn K mainGlobals "says_round" = some (some (.ref a))
  c_LONGEST : ∃ t, PySem.W.nsIn K mainGlobals "LONGEST" = some (some (.int 9000 t))
  c_WIDE : ∃ t, PySem.W.nsIn K mainGlobals "WIDE" = some (some (.int 12 t))
  c_HEAD : ∃ t, PySem.W.nsIn K mainGlobals "HEAD" = some (some (.int 7 t))
theorem all_mk (PF : PlainFacts) {P : Program} {w : World} {K : PySem.W.Frag} {h : Heap} {mg : Str → Option Value} {fa : Addr} (X : K.In h) (G : h.Ns mainGlobals mg) (hfa : mg "law" = some (.ref fa)) (S : Seen K) :
    ∃ fd : FuncData, (∀ (s : Shared) (v : Value), BindsTo s fd ⟨[v], []⟩ [("_law_script", v)]) ∧ ∀ base : Heap, K.In base → base.Ns mainGlobals mg → FnOk P w K mg base CX0 9 fa fd ["_law_script"] (spC K ctLaw) := by
  have Z : Blt mg := ⟨PySem.W.mg_none_of X G S.b_len, PySem.W.mg_none_of X G S.b_sum, PySem.W.mg_none_of X G S.b_sorted, PySem.W.mg_none_of X G S.b_max, PySem.W.mg_none_of X G S.b_min, PySem.W.mg_none_of X G S.b_isinstance, PySem.W.mg_none_of X G S.b_dict, PySem.W.mg_none_of X G S.b_list, PySem.W.mg_none_of X G S.b_tuple, PySem.W.mg_none_of X G S.b_set, PySem.W.mg_none_of X G S.b_int, PySem.W.mg_none_of X G S.b_str, PySem.W.mg_none_of X G S.b_bool, PySem.W.mg_none_of X G S.b_range, PySem.W.mg_none_of X G S.b_enumerate, (let ⟨t, h⟩ := S.c_LONGEST; ⟨t, PySem.W.mg_of X G h⟩), (let ⟨t, h⟩ := S.c_WIDE; ⟨t, PySem.W.mg_of X G h⟩), (let ⟨t, h⟩ := S.c_HEAD; ⟨t, PySem.W.mg_of X G h⟩)⟩
  have z_says_tree : ∃ a, mg "says_tree" = some (.ref a) := let ⟨a, h⟩ := S.g_says_tree; ⟨a, PySem.W.mg_of X G h⟩
  have z_says_near : ∃ a, mg "says_near" = some (.ref a) := let ⟨a, h⟩ := S.g_says_near; ⟨a, PySem.W.mg_of X G h⟩
  have z_says_bare : ∃ a, mg "says_bare" = some (.ref a) := let ⟨a, h⟩ := S.g_says_bare; ⟨a, PySem.W.mg_of X G h⟩
  have z_says_sides : ∃ a, mg "says_sides" = some (.ref a) := let ⟨a, h⟩ := S.g_says_sides; ⟨a, PySem.W.mg_of X G h⟩
  have z_says_odd : ∃ a, mg "says_odd" = some (.ref a) := let ⟨a, h⟩ := S.g_says_odd; ⟨a, PySem.W.mg_of X G h⟩
  have z_says_pairing : ∃ a, mg "says_pairing" = some (.ref a) := let ⟨a, h⟩ := S.g_says_pairing; ⟨a, PySem.W.mg_of X G h⟩
  have z_says_cheapest : ∃ a, mg "says_cheapest" = some (.ref a) := let ⟨a, h⟩ := S.g_says_cheapest; ⟨a, PySem.W.mg_of X G h⟩
  have z_says_round : ∃ a, mg "says_round" = some (.ref a) := let ⟨a, h⟩ := S.g_says_round; ⟨a, PySem.W.mg_of X G h⟩
  have T_is_mark : Def K mg "is_mark" st_is_mark ["thing"] := def_of X G S.d_is_mark fun _ _ _ _ _ _ us hl => match us, hl with | [_], _ => rfl
  have T_number_in : Def K mg "number_in" st_number_in ["field"] := def_of X G S.d_number_in fun _ _ _ _ _ _ us hl => match us, hl with | [_], _ => rfl
  have T_fields_of : Def K mg "fields_of" st_fields_of ["thing"] := def_of X G S.d_fields_of fun _ _ _ _ _ _ us hl => match us, hl with | [_], _ => rfl
  have T_fields_beside : Def K mg "fields_beside" st_fields_beside ["view", "least"] := def_of X G S.d_fields_beside fun _ _ _ _ _ _ us hl => match us, hl with | [_, _], _ => rfl
  have T_goes_up : Def K mg "goes_up" st_goes_up ["name", "own", "ends"] := def_of X G S.d_goes_up fun _ _ _ _ _ _ us hl => match us, hl with | [_, _, _], _ => rfl
  have T_below : Def K mg "below" st_below ["name", "own", "ends"] := def_of X G S.d_below fun _ _ _ _ _ _ us hl => match us, hl with | [_, _, _], _ => rfl
  have T_threes_of : Def K mg "threes_of" st_threes_of ["fields"] := def_of X G S.d_threes_of fun _ _ _ _ _ _ us hl => match us, hl with | [_], _ => rfl
  have T_leaders_among : Def K mg "leaders_among" st_leaders_among ["name", "threes"] := def_of X G S.d_leaders_among fun _ _ _ _ _ _ us hl => match us, hl with | [_, _], _ => rfl
  have T_are_threes_right : Def K mg "are_threes_right" st_are_threes_right ["name", "threes", "ends"] := def_of X G S.d_are_threes_right fun _ _ _ _ _ _ us hl => match us, hl with | [_, _, _], _ => rfl
  have T_says_ball : Def K mg "says_ball" st_says_ball ["view"] := def_of X G S.d_says_ball fun _ _ _ _ _ _ us hl => match us, hl with | [_], _ => rfl
  have T_says : Def K mg "says" st_says ["saying", "view"] := def_of X G S.d_says fun _ _ _ _ _ _ us hl => match us, hl with | [_, _], _ => rfl
  have T_look_at_marks : Def K mg "look_at_marks" st_look_at_marks ["web", "thing"] := def_of X G S.d_look_at_marks fun _ _ _ _ _ _ us hl => match us, hl with | [_, _], _ => rfl
  have T_sight_of : Def K mg "sight_of" st_sight_of ["thing"] := def_of X G S.d_sight_of fun _ _ _ _ _ _ us hl => match us, hl with | [_], _ => rfl
  have T_view_of : Def K mg "view_of" st_view_of ["web", "marks", "name"] := def_of X G S.d_view_of fun _ _ _ _ _ _ us hl => match us, hl with | [_, _, _], _ => rfl
  have T_names_of : Def K mg "names_of" st_names_of ["web"] := def_of X G S.d_names_of fun _ _ _ _ _ _ us hl => match us, hl with | [_], _ => rfl
  have T_first_no : Def K mg "first_no" st_first_no ["web", "saying", "marks"] := def_of X G S.d_first_no fun _ _ _ _ _ _ us hl => match us, hl with | [_, _, _], _ => rfl
  have T_law_cell_at : Def K mg "_law_cell_at" st_law_cell_at ["_law_script", "_law_k"] := def_of X G S.d_law_cell_at fun _ _ _ _ _ _ us hl => match us, hl with | [_, _], _ => rfl
  have T_law_pool : Def K mg "_law_pool" st_law_pool ["_law_script", "_law_k"] := def_of X G S.d_law_pool fun _ _ _ _ _ _ us hl => match us, hl with | [_, _], _ => rfl
  have T_law_take : Def K mg "_law_take" st_law_take ["_law_pool_here", "_law_many"] := def_of X G S.d_law_take fun _ _ _ _ _ _ us hl => match us, hl with | [_, _], _ => rfl
  have T_law_names : Def K mg "_law_names" st_law_names ["_law_pool_here", "_law_many"] := def_of X G S.d_law_names fun _ _ _ _ _ _ us hl => match us, hl with | [_, _], _ => rfl
  have T_law_told : Def K mg "_law_told" st_law_told ["_law_pool_here", "_law_way", "_law_amid"] := def_of X G S.d_law_told fun _ _ _ _ _ _ us hl => match us, hl with | [_, _, _], _ => rfl
  have T_law_copy : Def K mg "_law_copy" st_law_copy ["_law_web_here"] := def_of X G S.d_law_copy fun _ _ _ _ _ _ us hl => match us, hl with | [_], _ => rfl
  have T_law_ties : Def K mg "_law_ties" st_law_ties ["_law_web_here"] := def_of X G S.d_law_ties fun _ _ _ _ _ _ us hl => match us, hl with | [_], _ => rfl
  have T_law_pairs : Def K mg "_law_pairs" st_law_pairs ["_law_web_here"] := def_of X G S.d_law_pairs fun _ _ _ _ _ _ us hl => match us, hl with | [_], _ => rfl
  have T_law_both_ways : Def K mg "_law_both_ways" st_law_both_ways ["_law_web_here"] := def_of X G S.d_law_both_ways fun _ _ _ _ _ _ us hl => match us, hl with | [_], _ => rfl
  have T_law_behind : Def K mg "_law_behind" st_law_behind ["_law_web_here", "_law_pair"] := def_of X G S.d_law_behind fun _ _ _ _ _ _ us hl => match us, hl with | [_, _], _ => rfl
  have T_law_faces : Def K mg "_law_faces" st_law_faces ["_law_web_here"] := def_of X G S.d_law_faces fun _ _ _ _ _ _ us hl => match us, hl with | [_], _ => rfl
  have T_law_mark : Def K mg "_law_mark" st_law_mark ["_law_numbers"] := def_of X G S.d_law_mark fun _ _ _ _ _ _ us hl => match us, hl with | [_], _ => rfl
  have T_law_tie : Def K mg "_law_tie" st_law_tie ["_law_web_here", "_law_one", "_law_other"] := def_of X G S.d_law_tie fun _ _ _ _ _ _ us hl => match us, hl with | [_, _, _], _ => rfl
  have T_law_can : Def K mg "_law_can" st_law_can ["_law_web_here", "_law_four"] := def_of X G S.d_law_can fun _ _ _ _ _ _ us hl => match us, hl with | [_, _], _ => rfl
  have T_law_crossed : Def K mg "_law_crossed" st_law_crossed ["_law_web_here", "_law_four"] := def_of X G S.d_law_crossed fun _ _ _ _ _ _ us hl => match us, hl with | [_, _], _ => rfl
  have T_law_grown : Def K mg "_law_grown" st_law_grown ["_law_web_here", "_law_root"] := def_of X G S.d_law_grown fun _ _ _ _ _ _ us hl => match us, hl with | [_, _], _ => rfl
  have T_law_root_parts : Def K mg "_law_root_parts" st_law_root_parts ["_law_web_here", "_law_first", "_law_second"] := def_of X G S.d_law_root_parts fun _ _ _ _ _ _ us hl => match us, hl with | [_, _, _], _ => rfl
  have T_law_sums_of : Def K mg "_law_sums_of" st_law_sums_of ["_law_way", "_law_numbers"] := def_of X G S.d_law_sums_of fun _ _ _ _ _ _ us hl => match us, hl with | [_, _], _ => rfl
  have T_law_labels : Def K mg "_law_labels" st_law_labels ["_law_web_here", "_law_way"] := def_of X G S.d_law_labels fun _ _ _ _ _ _ us hl => match us, hl with | [_, _], _ => rfl
  have T_law_threes : Def K mg "_law_threes" st_law_threes ["_law_fields"] := def_of X G S.d_law_threes fun _ _ _ _ _ _ us hl => match us, hl with | [_], _ => rfl
  have T_law_goes_up : Def K mg "_law_goes_up" st_law_goes_up ["_law_name", "_law_own", "_law_beside"] := def_of X G S.d_law_goes_up fun _ _ _ _ _ _ us hl => match us, hl with | [_, _, _], _ => rfl
  have T_law_follow : Def K mg "_law_follow" st_law_follow ["_law_name", "_law_threes_here", "_law_beside"] := def_of X G S.d_law_follow fun _ _ _ _ _ _ us hl => match us, hl with | [_, _, _], _ => rfl
  have T_law_says : Def K mg "_law_says" st_law_says ["_law_web_here", "_law_name", "_law_rows_here"] := def_of X G S.d_law_says fun _ _ _ _ _ _ us hl => match us, hl with | [_, _, _], _ => rfl
  have T_law_is_flat : Def K mg "_law_is_flat" st_law_is_flat ["_law_web_here"] := def_of X G S.d_law_is_flat fun _ _ _ _ _ _ us hl => match us, hl with | [_], _ => rfl
  have T_law_drawn : Def K mg "_law_drawn" st_law_drawn ["_law_web_here", "_law_pool_here"] := def_of X G S.d_law_drawn fun _ _ _ _ _ _ us hl => match us, hl with | [_, _], _ => rfl
  have T_law_digits : Def K mg "_law_digits" st_law_digits ["_law_web_here", "_law_pool_here"] := def_of X G S.d_law_digits fun _ _ _ _ _ _ us hl => match us, hl with | [_, _], _ => rfl
  have T_law_spoilt : Def K mg "_law_spoilt" st_law_spoilt ["_law_rows_here", "_law_pool_here"] := def_of X G S.d_law_spoilt fun _ _ _ _ _ _ us hl => match us, hl with | [_, _], _ => rfl
  have T_law_parts_of : Def K mg "_law_parts_of" st_law_parts_of ["_law_web_here"] := def_of X G S.d_law_parts_of fun _ _ _ _ _ _ us hl => match us, hl with | [_], _ => rfl
  have T_law_right : Def K mg "_law_right" st_law_right ["_law_web_here", "_law_rows_here"] := def_of X G S.d_law_right fun _ _ _ _ _ _ us hl => match us, hl with | [_, _], _ => rfl
  have T_law_crossed_right : Def K mg "_law_crossed_right" st_law_crossed_right ["_law_web_here", "_law_rows_here", "_law_pool_here"] := def_of X G S.d_law_crossed_right fun _ _ _ _ _ _ us hl => match us, hl with | [_, _, _], _ => rfl
  have T_law_rows : Def K mg "_law_rows" st_law_rows ["_law_web_here", "_law_drawn_here", "_law_plan"] := def_of X G S.d_law_rows fun _ _ _ _ _ _ us hl => match us, hl with | [_, _, _], _ => rfl
  have T_law_link : Def K mg "_law_link" st_law_link ["_law_ends", "_law_pool_here", "_law_one", "_law_other", "_law_told_here"] := def_of X G S.d_law_link fun _ _ _ _ _ _ us hl => match us, hl with | [_, _, _, _, _], _ => rfl
  have T_law_web : Def K mg "_law_web" st_law_web ["_law_pool_here", "_law_most", "_law_more"] := def_of X G S.d_law_web fun _ _ _ _ _ _ us hl => match us, hl with | [_, _, _], _ => rfl
  obtain ⟨f, oc, od, an, osl, kV, doc, pm, cdv, ct, a, l, c, k⟩ := S.d_law
  have e := hfa.symm.trans (PySem.W.mg_of X G a)
  cases e
  refine ⟨PySem.W.fnOf "law" "law" (defArgs st_law) (defBody st_law) (defScope st_law) .none kV doc pm an cdv ct, fun s v => .of_eq rfl, fun base _ _ => ?_⟩
  have D_is_mark : OkDef P w K mg base 1 "is_mark" ["thing"] ctIsMark := ok_is_mark Z T_is_mark  
  have D_number_in : OkDef P w K mg base 1 "number_in" ["field"] ctNumber := ok_number_in Z T_number_in  
  have D_fields_of : OkDef P w K mg base 2 "fields_of" ["thing"] ctFields := ok_fields_of Z T_fields_of D_is_mark D_number_in 
  have D_fields_beside : OkDef P w K mg base 3 "fields_beside" ["view", "least"] ctBeside := ok_fields_beside Z T_fields_beside D_fields_of 
  have D_goes_up : OkDef P w K mg base 1 "goes_up" ["name", "own", "ends"] ctGoes := ok_goes_up Z T_goes_up  
  have D_below : OkDef P w K mg base 1 "below" ["name", "own", "ends"] ctBelow := ok_below Z T_below  
  have D_threes_of : OkDef P w K mg base 1 "threes_of" ["fields"] ctThreesOf := ok_threes_of Z T_threes_of  
  have D_leaders_among : OkDef P w K mg base 1 "leaders_among" ["name", "threes"] ctLeaders := ok_leaders_among Z T_leaders_among  
  have D_are_threes_right : OkDef P w K mg base 2 "are_threes_right" ["name", "threes", "ends"] ctThreesRight := ok_are_threes_right Z T_are_threes_right D_threes_of 
  have D_says_ball : OkDef P w K mg base 4 "says_ball" ["view"] ctBall := ok_says_ball Z T_says_ball D_fields_beside D_threes_of D_goes_up D_are_threes_right D_below D_leaders_among 
  have D_says : OkDef P w K mg base 5 "says" ["saying", "view"] ctSays := ok_says Z T_says D_says_ball z_says_tree z_says_near z_says_bare z_says_sides z_says_odd z_says_pairing z_says_cheapest z_says_round
  have D_look_at_marks : OkDef P w K mg base 1 "look_at_marks" ["web", "thing"] ctLook := ok_look_at_marks Z T_look_at_marks  
  have D_sight_of : OkDef P w K mg base 2 "sight_of" ["thing"] ctSight := ok_sight_of Z T_sight_of D_is_mark 
  have D_view_of : OkDef P w K mg base 3 "view_of" ["web", "marks", "name"] ctView := ok_view_of Z T_view_of D_look_at_marks D_sight_of 
  have D_names_of : OkDef P w K mg base 1 "names_of" ["web"] ctNames := ok_names_of Z T_names_of  
  have D_first_no : OkDef P w K mg base 6 "first_no" ["web", "saying", "marks"] ctFirstNo := ok_first_no Z T_first_no D_look_at_marks D_names_of D_says D_view_of 
  have D_law_cell_at : OkDef P w K mg base 1 "_law_cell_at" ["_law_script", "_law_k"] ctCellAt := ok_cell_at Z T_law_cell_at  
  have D_law_pool : OkDef P w K mg base 2 "_law_pool" ["_law_script", "_law_k"] ctPool := ok_pool Z T_law_pool D_law_cell_at 
  have D_law_take : OkDef P w K mg base 1 "_law_take" ["_law_pool_here", "_law_many"] ctTake := ok_take Z T_law_take  
  have D_law_names : OkDef P w K mg base 2 "_law_names" ["_law_pool_here", "_law_many"] ctNamesL := ok_names Z T_law_names D_law_take 
  have D_law_told : OkDef P w K mg base 2 "_law_told" ["_law_pool_here", "_law_way", "_law_amid"] ctTold := ok_told Z T_law_told D_law_take 
  have D_law_copy : OkDef P w K mg base 1 "_law_copy" ["_law_web_here"] ctCopy := ok_copy Z T_law_copy  
  have D_law_ties : OkDef P w K mg base 1 "_law_ties" ["_law_web_here"] ctTies := ok_ties Z T_law_ties  
  have D_law_pairs : OkDef P w K mg base 1 "_law_pairs" ["_law_web_here"] ctPairs := ok_pairs Z T_law_pairs  
  have D_law_both_ways : OkDef P w K mg base 1 "_law_both_ways" ["_law_web_here"] ctPairs := ok_both_ways Z T_law_both_ways  
  have D_law_behind : OkDef P w K mg base 1 "_law_behind" ["_law_web_here", "_law_pair"] ctBehind := ok_behind Z T_law_behind  
  have D_law_faces : OkDef P w K mg base 2 "_law_faces" ["_law_web_here"] ctFaces := ok_faces Z T_law_faces D_law_pairs D_law_behind 
  have D_law_mark : OkDef P w K mg base 1 "_law_mark" ["_law_numbers"] ctMark := ok_mark Z T_law_mark  
  have D_law_tie : OkDef P w K mg base 1 "_law_tie" ["_law_web_here", "_law_one", "_law_other"] ctTie := ok_tie Z T_law_tie  
  have D_law_can : OkDef P w K mg base 2 "_law_can" ["_law_web_here", "_law_four"] ctCan := ok_can Z T_law_can D_law_tie 
  have D_law_crossed : OkDef P w K mg base 1 "_law_crossed" ["_law_web_here", "_law_four"] ctCrossed := ok_crossed Z T_law_crossed  
  have D_law_grown : OkDef P w K mg base 1 "_law_grown" ["_law_web_here", "_law_root"] ctGrown := ok_grown Z T_law_grown  
  have D_law_root_parts : OkDef P w K mg base 2 "_law_root_parts" ["_law_web_here", "_law_first", "_law_second"] ctRootParts := ok_root_parts Z T_law_root_parts D_law_grown 
  have D_law_sums_of : OkDef P w K mg base 1 "_law_sums_of" ["_law_way", "_law_numbers"] ctSums := ok_sums_of Z T_law_sums_of  
  have D_law_labels : OkDef P w K mg base 3 "_law_labels" ["_law_web_here", "_law_way"] ctLabels := ok_labels Z T_law_labels D_law_faces 
  have D_law_threes : OkDef P w K mg base 1 "_law_threes" ["_law_fields"] ctLThrees := ok_law_threes Z T_law_threes  
  have D_law_goes_up : OkDef P w K mg base 1 "_law_goes_up" ["_law_name", "_law_own", "_law_beside"] ctGoes := ok_law_goes_up Z T_law_goes_up  
  have D_law_follow : OkDef P w K mg base 2 "_law_follow" ["_law_name", "_law_threes_here", "_law_beside"] ctFollow := ok_law_follow Z T_law_follow D_law_threes 
  have D_law_says : OkDef P w K mg base 3 "_law_says" ["_law_web_here", "_law_name", "_law_rows_here"] ctLSays := ok_law_says Z T_law_says D_law_threes D_law_goes_up D_law_follow 
  have D_law_is_flat : OkDef P w K mg base 3 "_law_is_flat" ["_law_web_here"] ctFlat := ok_is_flat Z T_law_is_flat D_law_ties D_law_faces 
  have D_law_drawn : OkDef P w K mg base 2 "_law_drawn" ["_law_web_here", "_law_pool_here"] ctDrawn := ok_drawn Z T_law_drawn D_law_take D_law_copy 
  have D_law_digits : OkDef P w K mg base 2 "_law_digits" ["_law_web_here", "_law_pool_here"] ctDigits := ok_digits Z T_law_digits D_law_take 
  have D_law_spoilt : OkDef P w K mg base 2 "_law_spoilt" ["_law_rows_here", "_law_pool_here"] ctSpoilt := ok_spoilt Z T_law_spoilt D_law_take 
  have D_law_parts_of : OkDef P w K mg base 1 "_law_parts_of" ["_law_web_here"] ctParts := ok_parts_of Z T_law_parts_of  
  have D_law_right : OkDef P w K mg base 7 "_law_right" ["_law_web_here", "_law_rows_here"] ctRight := ok_right Z T_law_right D_law_mark D_law_copy D_law_says D_first_no D_law_is_flat 
  have D_law_crossed_right : OkDef P w K mg base 8 "_law_crossed_right" ["_law_web_here", "_law_rows_here", "_law_pool_here"] ctCrossedRight := ok_crossed_right Z T_law_crossed_right D_law_both_ways D_law_take D_law_can D_law_crossed D_law_parts_of D_law_right 
  have D_law_rows : OkDef P w K mg base 4 "_law_rows" ["_law_web_here", "_law_drawn_here", "_law_plan"] ctRows := ok_rows Z T_law_rows D_law_root_parts D_law_labels D_law_sums_of 
  have D_law_link : OkDefS P w K mg base 2 "_law_link" ["_law_ends", "_law_pool_here", "_law_one", "_law_other", "_law_told_here"] (spLink K) := ok_link Z T_law_link D_law_take 
  have D_law_web : OkDef P w K mg base 4 "_law_web" ["_law_pool_here", "_law_most", "_law_more"] ctWeb := ok_web Z T_law_web D_law_take D_law_names D_law_told D_law_link 
  exact fn_law PF Z (fun_mk (st := st_law) l c k) D_law_pool D_law_web D_law_drawn D_law_take D_law_rows D_law_spoilt D_law_digits D_law_right D_law_crossed_right D_law_says D_law_is_flat
theorem spc_law (K : PySem.W.Frag) (H : Hp) (a : Addr) (ns : List Int) (hS : SqL K H a (ns.map V.int)) : spC K ctLaw [.ref a] H (fun v _ => v = .bl true) fun _ _ _ => False := by
  have ex : Ext (fun b => if b = a then H b else none) H := fun b u e => by
    have e : (if b = a then H b else none) = some u := e
    split at e
    · exact .inl e
    · cases e
  have hs : SqL K (fun b => if b = a then H b else none) a (ns.map V.int) := by
    rcases hS with (h | ⟨o, h⟩) | h
    · exact .inl (.inl ((if_pos rfl).trans h))
    · exact .inl (.inr ⟨o, (if_pos rfl).trans h⟩)
    · exact .inr h
  refine ⟨fun _ => none, fun _ => none, none, fun b => if b = a then H b else none, [.fro (.scr ns)], fun c => c = .fro (.bl true), ⟨ns, rfl, rfl⟩, fun _ _ h => h, ⟨⟨ex, (fun _ _ h => nomatch h), (fun _ h => nomatch h)⟩, fun i c hc => ?_, fun i j p d d' h1 _ _ _ => ?_⟩, rfl, fun i d p h1 _ => ?_, fun v c F' H' _ _ rv hc => ?_⟩
  · match i, hc with
    | 0, hc => cases hc; exact ⟨_, rfl, .ref a, rfl, by unfold Rdd; exact ⟨a, rfl, hs⟩⟩
    | i + 1, hc => simp at hc
  · match i, h1 with
    | 0, h => cases h
    | i + 1, h => simp at h
  · match i, h1 with
    | 0, h => cases h
    | i + 1, h => simp at h
  · subst hc
    have rv : Rdd K F' (.bl true) v := rv
    unfold Rdd at rv
    exact rv
theorem walk (PF : PlainFacts) {l : PySem.W.OpenLaw} {q : Program} {loose : List Str} {XP : (Str → Option Value) → Heap → Prop} {YP : World → Heap → Prop} {d : DefRec} {K : Params → PySem.W.Frag} (hn : l.most = some 63) (hdf : d.params.defaults = []) (hname : d.name = "law")
    (hY : ∀ (w : World) (h : Heap), YP w h → (K w.params).In h) (hS : ∀ w : World, Seen (K w.params)) : PySem.W.WalkO q loose XP YP l.row.toRowW d [] (fun f vs => PySem.call f vs) :=
  L2.walk_of (n := 63) (k := 9) (x := "_law_script") (CX := fun _ => CX0) (sp := fun w => spC (K w.params) ctLaw) hn (by decide) hdf ⟨rfl, by decide, by decide⟩ hY (fun w mg fa h KX G hmg => all_mk PF KX G (by rw [← hname]; exact hmg) (hS w)) (fun w H a ns _ _ hS => spc_law _ H a ns hS) fun _ _ _ _ _ z => z
end Bs
/-! Plain: pairs, the pair behind a pair, faces that close. -/
namespace Bs
/-! ### turns of a map -/
section
variable {α : Type}
def it (β : α → α) : Nat → α → α
  | 0, x => x
  | n + 1, x => it β n (β x)
theorem it_succ (β : α → α) : ∀ (n : Nat) (x : α), it β (n + 1) x = β (it β n x)
  | 0, x => rfl
  | n + 1, x => it_succ β n (β x)
variable [DecidableEq α]
theorem closes_of {β : α → α} {h : α} : ∀ (n : Nat) (x : α) (i : Nat), 1 ≤ i → i ≤ n → it β i x = h → Closes β h n x
  | 0, x, i, h1, h2, _ => by omega
  | n + 1, x, i, h1, h2, e => by
    match i, h1, e with
    | 1, _, e => exact .inl e
    | i + 2, _, e => exact .inr (closes_of n (β x) (i + 1) (by omega) (by omega) e)
theorem closes_all {β : α → α} {l : List α} (cl : ∀ p ∈ l, β p ∈ l) (inj : ∀ p ∈ l, ∀ q ∈ l, β p = β q → p = q) {p : α} (hp : p ∈ l) : Closes β p l.length p := by
  refine Classical.byContradiction fun hn => ?_
  have hno : ∀ i, 1 ≤ i → i ≤ l.length → it β i p ≠ p := fun i h1 h2 e => hn (closes_of _ _ i h1 h2 e)
  have mem : ∀ i, it β i p ∈ l := by
    intro i
    induction i with
    | zero => exact hp
    | succ i ih => rw [it_succ]; exact cl _ ih
  have ne : ∀ i j, i < j → j ≤ l.length → it β i p ≠ it β j p := by
    intro i
    induction i with
    | zero => intro j h1 h2 e; exact hno j h1 h2 e.symm
    | succ i ih =>
      intro j h1 h2 e
      match j, h1, h2, e with
      | j + 1, h1, h2, e =>
        rw [it_succ, it_succ] at e
        exact ih j (by omega) (by omega) (inj _ (mem i) _ (mem j) e)
  have nd : ((List.range (l.length + 1)).map fun i => it β i p).Nodup := by
    rw [List.Nodup, List.pairwise_map]
    refine List.Pairwise.imp_of_mem (fun {i j} hi hj h => ?_) List.pairwise_lt_range
    exact ne i j h (by have := List.mem_range.mp hj; omega)
  have := nd.length_le_of_subset (l₂ := l) (fun x hx => by
    obtain ⟨i, _, rfl⟩ := List.mem_map.mp hx
    exact mem i)
  rw [List.length_map, List.length_range] at this
  omega
end
/-! ### the next one round a place -/
theorem nextIn_eq {os : List Int} {a : Int} (h : a ∈ os) : os[(os.idxOf a + 1) % os.length]? = some (nextIn os a) := by
  have hlt := List.idxOf_lt_length_of_mem h
  have hg := nextIn_get h
  by_cases hc : os.idxOf a + 1 < os.length
  · rw [List.getElem?_append_left hc] at hg
    rw [Nat.mod_eq_of_lt hc]; exact hg
  · have e : os.idxOf a + 1 = os.length := by omega
    rw [List.getElem?_append_right (by omega), e, Nat.sub_self] at hg
    rw [e, Nat.mod_self]; exact hg
theorem nextIn_at {os : List Int} (nd : os.Nodup) {i : Nat} {a : Int} (h : os[i]? = some a) : os[(i + 1) % os.length]? = some (nextIn os a) := by
  have hm := List.mem_of_getElem? h
  have hi := (List.getElem?_eq_some_iff.mp h).1
  have hlt := List.idxOf_lt_length_of_mem hm
  have e : os.idxOf a = i := by
    refine (List.getElem?_inj hlt nd).mp ?_
    rw [h, List.getElem?_eq_getElem hlt, List.getElem_idxOf]
  have := nextIn_eq hm
  rw [e] at this; exact this
theorem nextIn_mem {os : List Int} {a : Int} (h : a ∈ os) : nextIn os a ∈ os := List.mem_of_getElem? (nextIn_eq h)
theorem nextIn_inj {os : List Int} (nd : os.Nodup) {a b : Int} (ha : a ∈ os) (hb : b ∈ os) (e : nextIn os a = nextIn os b) : a = b := by
  have h1 := nextIn_eq ha
  have h2 := nextIn_eq hb
  have l1 := List.idxOf_lt_length_of_mem ha
  have l2 := List.idxOf_lt_length_of_mem hb
  rw [e, ← h2] at h1
  have hpos : 0 < os.length := by omega
  have h3 := (List.getElem?_inj (Nat.mod_lt _ hpos) nd).mp h1
  have h4 : os.idxOf a = os.idxOf b := by
    by_cases c1 : os.idxOf a + 1 < os.length
    · by_cases c2 : os.idxOf b + 1 < os.length
      · rw [Nat.mod_eq_of_lt c1, Nat.mod_eq_of_lt c2] at h3; omega
      · rw [Nat.mod_eq_of_lt c1, show os.idxOf b + 1 = os.length by omega, Nat.mod_self] at h3; omega
    · by_cases c2 : os.idxOf b + 1 < os.length
      · rw [Nat.mod_eq_of_lt c2, show os.idxOf a + 1 = os.length by omega, Nat.mod_self] at h3; omega
      · omega
  have e1 := List.getElem_idxOf l1
  have e2 := List.getElem_idxOf l2
  rw [← e1, ← e2]
  congr 1
theorem nextIn_perm {os : List Int} (nd : os.Nodup) : (os.map (nextIn os)).Perm os := by
  have nd2 : (os.map (nextIn os)).Nodup := by
    rw [List.Nodup, List.pairwise_map]
    exact List.Pairwise.imp_of_mem (fun ha hb h e => h (nextIn_inj nd ha hb e)) nd
  have sub : ∀ x ∈ os.map (nextIn os), x ∈ os := fun x hx => by
    obtain ⟨a, ha, rfl⟩ := List.mem_map.mp hx
    exact nextIn_mem ha
  refine (List.perm_ext_iff_of_nodup nd2 nd).mpr fun x => ⟨sub x, fun hx => ?_⟩
  refine Classical.byContradiction fun hn => ?_
  have := nd2.length_le_of_subset (l₂ := os.erase x) (fun y hy => by
    rw [nd.mem_erase_iff]
    exact ⟨fun z => hn (z ▸ hy), sub y hy⟩)
  rw [List.length_map, List.length_erase_of_mem hx] at this
  have := List.length_pos_of_mem hx
  omega
/-! ### pairs -/
/-- webs whose ends point both ways -/
structure GW (W : Web) : Prop where
  sy : Sym W
  irr : ∀ n, n ∉ orderOf W n
  few : (W.map fun p => (endsAt W p.1).length).sum ≤ 22
theorem mem_pairs {W : Web} (g : Sym W) {p : Int × Int} : p ∈ pairsOf W ↔ p.2 ∈ orderOf W p.1 := by
  unfold pairsOf
  rw [List.mem_flatMap]
  constructor
  · rintro ⟨n, _, h⟩
    obtain ⟨o, ho, rfl⟩ := List.mem_map.mp h
    exact srt_mem.mp ho
  · intro h
    obtain ⟨e, he, h2⟩ := List.mem_map.mp h
    exact ⟨p.1, srt_mem.mpr (g.key p.1 e he).1, List.mem_map.mpr ⟨p.2, srt_mem.mpr h, rfl⟩⟩
theorem order_back {W : Web} (g : Sym W) {n o : Int} (h : o ∈ orderOf W n) : n ∈ orderOf W o := by
  obtain ⟨e, he, rfl⟩ := List.mem_map.mp h
  exact g.back n e he
theorem order_key {W : Web} (g : Sym W) {n o : Int} (h : o ∈ orderOf W n) : n ∈ W.map (·.1) ∧ o ∈ W.map (·.1) := by
  obtain ⟨e, he, rfl⟩ := List.mem_map.mp h
  exact g.key n e he
theorem pairs_nd {W : Web} (g : Sym W) : (pairsOf W).Nodup := by
  unfold pairsOf
  have key : ∀ l : List Int, l.Nodup → (l.flatMap fun n => (srt (orderOf W n)).map fun o => (n, o)).Nodup := by
    intro l
    induction l with
    | nil => intro _; exact List.nodup_nil
    | cons n l ih =>
      intro nd
      obtain ⟨h1, h2⟩ := List.nodup_cons.mp nd
      rw [List.flatMap_cons]
      refine List.nodup_append.mpr ⟨?_, ih h2, ?_⟩
      · refine List.Pairwise.map _ (fun a b h z => h (Prod.ext_iff.mp z).2) ((srt_perm _).nodup_iff.mpr (g.nd n))
      · intro x hx y hy z
        subst z
        obtain ⟨o, _, rfl⟩ := List.mem_map.mp hx
        obtain ⟨m, hm, hy⟩ := List.mem_flatMap.mp hy
        obtain ⟨o2, _, e⟩ := List.mem_map.mp hy
        cases e
        exact h1 hm
  exact key _ ((srt_perm _).nodup_iff.mpr g.fit.nd)
theorem behind_mem {W : Web} (g : Sym W) : ∀ p ∈ pairsOf W, behind W p ∈ pairsOf W := fun p hp => by
  rw [mem_pairs g] at hp ⊢
  exact nextIn_mem (order_back g hp)
theorem behind_inj {W : Web} (g : Sym W) : ∀ p ∈ pairsOf W, ∀ q ∈ pairsOf W, behind W p = behind W q → p = q := fun p hp q hq e => by
  rw [mem_pairs g] at hp hq
  have e1 : p.2 = q.2 := congrArg Prod.fst e
  have e2 : nextIn (orderOf W p.2) p.1 = nextIn (orderOf W q.2) q.1 := congrArg Prod.snd e
  rw [← e1] at e2
  have h2 := order_back g hq
  rw [← e1] at h2
  exact Prod.ext (nextIn_inj (g.nd p.2) (order_back g hp) h2 e2) e1
theorem perm_sum {l m : List Nat} (h : l.Perm m) : l.sum = m.sum := by
  induction h with
  | nil => rfl
  | cons x _ ih => rw [List.sum_cons, List.sum_cons, ih]
  | swap x y l => simp only [List.sum_cons]; omega
  | trans _ _ h1 h2 => rw [h1, h2]
theorem pairs_cnt {W : Web} (g : Sym W) : (pairsOf W).length = (W.map fun p => (endsAt W p.1).length).sum := by
  have key : ∀ l : List Int, (l.flatMap fun n => (srt (orderOf W n)).map fun o => (n, o)).length = (l.map fun n => (endsAt W n).length).sum := by
    intro l
    induction l with
    | nil => rfl
    | cons n l ih =>
      rw [List.flatMap_cons, List.length_append, ih, List.map_cons, List.sum_cons, List.length_map, srt_len]
      unfold orderOf
      rw [List.length_map]
  unfold pairsOf
  rw [key, perm_sum ((srt_perm (W.map (·.1))).map fun n => (endsAt W n).length), List.map_map]
  rfl
theorem face_ok {W : Web} (g : GW W) : FaceOk W := by
  refine ⟨g.sy.fit, ?_, fun p hp => ?_, behind_mem g.sy, fun p hp => closes_all (behind_mem g.sy) (behind_inj g.sy) hp⟩
  · rw [pairs_cnt g.sy]; have := g.few; omega
  · rw [mem_pairs g.sy] at hp
    exact ⟨(order_key g.sy hp).2, order_back g.sy hp⟩
theorem gw_of {W : Web} (m : WebMade W) : GW W := ⟨m.sy, m.irr, m.few⟩
end Bs
/-! Plain: faces part the pairs; a face's first pair as its label. -/
namespace Bs
section
variable {α : Type} [DecidableEq α] {β : α → α} {h : α}
theorem chase_next : ∀ (n : Nat) (x : α), Closes β h n x → ∀ y, (y = x ∨ y ∈ chase β h n x) → β y = h ∨ β y ∈ chase β h n x
  | 0, x, c, y, _ => c.elim
  | n + 1, x, c, y, hy => by
    unfold chase at hy ⊢
    by_cases e : β x = h
    · rw [if_pos e] at hy
      rcases hy with rfl | hy
      · exact .inl e
      · cases hy
    · rw [if_neg e] at hy ⊢
      have c' : Closes β h n (β x) := (show β x = h ∨ Closes β h n (β x) from c).resolve_left e
      rcases hy with rfl | hy
      · exact .inr List.mem_cons_self
      · exact (chase_next n (β x) c' y (List.mem_cons.mp hy)).imp id (List.mem_cons_of_mem _)
theorem chase_prev : ∀ (n : Nat) (x : α), ∀ w ∈ chase β h n x, ∃ z, (z = x ∨ z ∈ chase β h n x) ∧ β z = w
  | 0, x, w, hw => by cases hw
  | n + 1, x, w, hw => by
    unfold chase at hw ⊢
    by_cases e : β x = h
    · rw [if_pos e] at hw; cases hw
    · rw [if_neg e] at hw ⊢
      rcases List.mem_cons.mp hw with rfl | hw
      · exact ⟨x, .inl rfl, rfl⟩
      · obtain ⟨z, hz, e2⟩ := chase_prev n (β x) w hw
        exact ⟨z, .inr (List.mem_cons.mpr hz), e2⟩
theorem chase_last : ∀ (n : Nat) (x : α), Closes β h n x → ∃ z, (z = x ∨ z ∈ chase β h n x) ∧ β z = h
  | 0, x, c => c.elim
  | n + 1, x, c => by
    unfold chase
    by_cases e : β x = h
    · exact ⟨x, .inl rfl, e⟩
    · rw [if_neg e]
      have c' : Closes β h n (β x) := (show β x = h ∨ Closes β h n (β x) from c).resolve_left e
      obtain ⟨z, hz, e2⟩ := chase_last n (β x) c'
      exact ⟨z, .inr (List.mem_cons.mpr hz), e2⟩
theorem face_next {N : Nat} {p : α} (c : Closes β p N p) {y : α} (hy : y ∈ faceOf β N p) : β y ∈ faceOf β N p := by
  rcases chase_next N p c y (List.mem_cons.mp hy) with e | e
  · rw [e]; exact List.mem_cons_self
  · exact List.mem_cons_of_mem _ e
theorem face_prev {N : Nat} {p : α} (c : Closes β p N p) {w : α} (hw : w ∈ faceOf β N p) : ∃ z ∈ faceOf β N p, β z = w := by
  rcases List.mem_cons.mp hw with rfl | hw
  · obtain ⟨z, hz, e⟩ := chase_last N w c
    exact ⟨z, List.mem_cons.mpr hz, e⟩
  · obtain ⟨z, hz, e⟩ := chase_prev N p w hw
    exact ⟨z, List.mem_cons.mpr hz, e⟩
/-- what stays out of a set that nothing enters -/
theorem chase_out {L f0 : List α} (cl : ∀ p ∈ L, β p ∈ L) (ent : ∀ y ∈ L, β y ∈ f0 → y ∈ f0) : ∀ (n : Nat) (x : α), x ∈ L → x ∉ f0 → ∀ y ∈ chase β h n x, y ∈ L ∧ y ∉ f0
  | 0, x, _, _, y, hy => by cases hy
  | n + 1, x, hx, hn, y, hy => by
    unfold chase at hy
    split at hy
    · cases hy
    · have h1 : β x ∉ f0 := fun z => hn (ent x hx z)
      rcases List.mem_cons.mp hy with rfl | hy
      · exact ⟨cl x hx, h1⟩
      · exact chase_out cl ent n (β x) (cl x hx) h1 y hy
variable {L : List α} {N : Nat}
theorem go_out {f0 : List α} (cl : ∀ p ∈ L, β p ∈ L) (ent : ∀ y ∈ L, β y ∈ f0 → y ∈ f0) : ∀ (n : Nat) (l : List α), (∀ p ∈ l, p ∈ L ∧ p ∉ f0) → ∀ f ∈ facesGo β N n l, ∀ x ∈ f, x ∉ f0
  | 0, l, _, f, hf => by cases hf
  | n + 1, [], _, f, hf => by cases hf
  | n + 1, p :: l, hl, f, hf => by
    rw [facesGo_cons] at hf
    rcases List.mem_cons.mp hf with rfl | hf
    · intro x hx
      have hp := hl p List.mem_cons_self
      rcases List.mem_cons.mp hx with rfl | hx
      · exact hp.2
      · exact (chase_out cl ent N p hp.1 hp.2 x hx).2
    · exact go_out cl ent n _ (fun q hq => hl q (List.mem_filter.mp hq).1) f hf
theorem go_sep (cl : ∀ p ∈ L, β p ∈ L) (inj : ∀ p ∈ L, ∀ q ∈ L, β p = β q → p = q) (co : ∀ p ∈ L, Closes β p N p) (sub : ∀ p ∈ L, ∀ y ∈ faceOf β N p, y ∈ L) : ∀ (n : Nat) (l : List α), (∀ p ∈ l, p ∈ L) → (facesGo β N n l).Pairwise fun f g => ∀ x ∈ f, x ∉ g
  | 0, l, _ => List.Pairwise.nil
  | n + 1, [], _ => List.Pairwise.nil
  | n + 1, p :: l, hl => by
    rw [facesGo_cons]
    have hp := hl p List.mem_cons_self
    refine List.Pairwise.cons (fun g hg x hx hxg => ?_) (go_sep cl inj co sub n _ fun q hq => hl q (List.mem_filter.mp hq).1)
    refine go_out (f0 := faceOf β N p) cl (fun y hy hb => ?_) n _ (fun q hq => ⟨hl q (List.mem_filter.mp hq).1, notIn_t.mp (List.mem_filter.mp hq).2⟩) g hg x hxg hx
    obtain ⟨z, hz, e⟩ := face_prev (co p hp) hb
    rw [← inj z (sub p hp z hz) y hy e]; exact hz
theorem go_shape : ∀ (n : Nat) (l : List α), ∀ f ∈ facesGo β N n l, ∃ p ∈ l, f = faceOf β N p
  | 0, l, f, hf => by cases hf
  | n + 1, [], f, hf => by cases hf
  | n + 1, p :: l, f, hf => by
    rw [facesGo_cons] at hf
    rcases List.mem_cons.mp hf with rfl | hf
    · exact ⟨p, List.mem_cons_self, rfl⟩
    · obtain ⟨q, hq, e⟩ := go_shape n _ f hf
      exact ⟨q, (List.mem_filter.mp hq).1, e⟩
theorem sep_eq {fs : List (List α)} (s : fs.Pairwise fun f g => ∀ x ∈ f, x ∉ g) {f g : List α} (hf : f ∈ fs) (hg : g ∈ fs) {x : α} (h1 : x ∈ f) (h2 : x ∈ g) : f = g := by
  induction s with
  | nil => cases hf
  | cons a b ih =>
    rcases List.mem_cons.mp hf with e1 | hf'
    · rcases List.mem_cons.mp hg with e2 | hg'
      · rw [e1, e2]
      · rw [e1] at h1; exact absurd h2 (a g hg' x h1)
    · rcases List.mem_cons.mp hg with e2 | hg'
      · rw [e2] at h2; exact absurd h1 (a f hf' x h2)
      · exact ih hf' hg'
end
/-! ### labels -/
structure FaceW (W : Web) : Prop where
  sep : (facesOf W).Pairwise fun f g => ∀ x ∈ f, x ∉ g
  nxt : ∀ f ∈ facesOf W, ∀ p ∈ f, behind W p ∈ f
  mem : ∀ f ∈ facesOf W, ∀ p ∈ f, p ∈ pairsOf W
  ne : ∀ f ∈ facesOf W, f ≠ []
  cov : ∀ p ∈ pairsOf W, ∃ f ∈ facesOf W, p ∈ f
theorem face_w {W : Web} (g : GW W) (hne : pairsOf W ≠ []) : FaceW W := by
  have fo := face_ok g
  have e : facesOf W = facesGo (behind W) (pairsOf W).length (pairsOf W).length (pairsOf W) := by unfold facesOf; rw [if_neg hne]
  refine ⟨?_, fun f hf p hp => ?_, fun f hf => (faces_mem fo hf).1, fun f hf => (faces_mem fo hf).2.2 hne, fun p hp => faces_cover hp⟩
  · rw [e]
    refine go_sep (L := pairsOf W) (behind_mem g.sy) (behind_inj g.sy) fo.cl (fun p hp y hy => ?_) _ _ fun _ h => h
    rcases List.mem_cons.mp hy with rfl | hy
    · exact hp
    · exact chase_mem fo _ _ hp y hy
  · rw [e] at hf
    obtain ⟨q, hq, rfl⟩ := go_shape _ _ f hf
    exact face_next (fo.cl q hq) hp
def headF (f : List (Int × Int)) : Int × Int := f.headD (0, 0)
theorem headF_mem {f : List (Int × Int)} (h : f ≠ []) : headF f ∈ f := by
  cases f with
  | nil => exact absurd rfl h
  | cons p f => exact List.mem_cons_self
def labF (W : Web) (p : Int × Int) : Int × Int := match (facesOf W).find? fun f => decide (p ∈ f) with | some f => headF f | none => (0, 0)
theorem labF_of {W : Web} (w : FaceW W) {f : List (Int × Int)} (hf : f ∈ facesOf W) {p : Int × Int} (hp : p ∈ f) : labF W p = headF f := by
  unfold labF
  cases e : (facesOf W).find? fun f => decide (p ∈ f) with
  | none =>
    rw [List.find?_eq_none] at e
    exact absurd (decide_eq_true hp) (e f hf)
  | some g =>
    have h1 := List.mem_of_find?_eq_some e
    have h2 : decide (p ∈ g) = true := List.find?_some (p := fun f => decide (p ∈ f)) e
    have h2 := of_decide_eq_true h2
    rw [sep_eq w.sep hf h1 hp h2]
theorem labF_behind {W : Web} (w : FaceW W) {p : Int × Int} (hp : p ∈ pairsOf W) : labF W (behind W p) = labF W p := by
  obtain ⟨f, hf, hpf⟩ := w.cov p hp
  rw [labF_of w hf hpf, labF_of w hf (w.nxt f hf p hpf)]
def heads (W : Web) : List (Int × Int) := (facesOf W).map headF
theorem heads_nd {W : Web} (w : FaceW W) : (heads W).Nodup := by
  have key : ∀ fs : List (List (Int × Int)), (∀ f ∈ fs, f ≠ []) → fs.Pairwise (fun f g => ∀ x ∈ f, x ∉ g) → (fs.map headF).Nodup := by
    intro fs
    induction fs with
    | nil => intro _ _; exact List.nodup_nil
    | cons f fs ih =>
      intro hn hp
      obtain ⟨h1, h2⟩ := List.pairwise_cons.mp hp
      rw [List.map_cons]
      refine List.nodup_cons.mpr ⟨fun hm => ?_, ih (fun g hg => hn g (List.mem_cons_of_mem _ hg)) h2⟩
      obtain ⟨g, hg, e⟩ := List.mem_map.mp hm
      have h3 := headF_mem (hn g (List.mem_cons_of_mem _ hg))
      rw [e] at h3
      exact h1 g hg _ (headF_mem (hn f List.mem_cons_self)) h3
  exact key _ w.ne w.sep
theorem mem_heads {W : Web} (w : FaceW W) {p : Int × Int} (hp : p ∈ pairsOf W) : labF W p = p ↔ p ∈ heads W := by
  obtain ⟨f, hf, hpf⟩ := w.cov p hp
  rw [labF_of w hf hpf]
  constructor
  · intro e; rw [← e]; exact List.mem_map.mpr ⟨f, hf, rfl⟩
  · intro h
    obtain ⟨g, hg, e⟩ := List.mem_map.mp h
    have h3 := headF_mem (w.ne g hg)
    rw [e] at h3
    rw [sep_eq w.sep hf hg hpf h3, e]
theorem labF_heads {W : Web} (w : FaceW W) {p : Int × Int} (hp : p ∈ pairsOf W) : labF W p ∈ heads W := by
  obtain ⟨f, hf, hpf⟩ := w.cov p hp
  rw [labF_of w hf hpf]; exact List.mem_map.mpr ⟨f, hf, rfl⟩
theorem heads_pairs {W : Web} (w : FaceW W) {p : Int × Int} (hp : p ∈ heads W) : p ∈ pairsOf W := by
  obtain ⟨f, hf, rfl⟩ := List.mem_map.mp hp
  exact w.mem f hf _ (headF_mem (w.ne f hf))
/-- the faces are as many as the pairs that lead -/
theorem leaders_cnt {W : Web} (g : GW W) (w : FaceW W) : ((pairsOf W).filter fun p => decide (labF W p = p)).length = (facesOf W).length := by
  have h : ((pairsOf W).filter fun p => decide (labF W p = p)).Perm (heads W) := (List.perm_ext_iff_of_nodup ((pairs_nd g.sy).sublist List.filter_sublist) (heads_nd w)).mpr fun p => by
    rw [List.mem_filter, decide_eq_true_eq]
    exact ⟨fun h => (mem_heads w h.1).mp h.2, fun h => ⟨heads_pairs w h, (mem_heads w (heads_pairs w h)).mpr h⟩⟩
  rw [h.length_eq]
  unfold heads
  rw [List.length_map]
theorem labOf_F {W : Web} (w : FaceW W) {Lb : Lab} (h : LabOk W 0 Lb (pairsOf W)) {p : Int × Int} (hp : p ∈ pairsOf W) : labOf Lb p = labF W p := by
  obtain ⟨q, h1, _, h3⟩ := h p hp
  obtain ⟨f, hf, hpf, hq⟩ := h3 rfl
  rw [labF_of w hf hpf]
  unfold labOf headF
  rw [h1]
  cases f with
  | nil => cases hpf
  | cons x f => cases hq; rfl
end Bs
/-! Plain: places - ties + faces is 2 at most, where a tree spans. -/
namespace Bs
def xorL : List Bool → Bool
  | [] => false
  | b :: l => xor b (xorL l)
theorem xorL_perm {l m : List Bool} (h : l.Perm m) : xorL l = xorL m := by
  induction h with
  | nil => rfl
  | cons x _ ih => show xor x _ = xor x _; rw [ih]
  | swap x y l => show xor y (xor x _) = xor x (xor y _); cases x <;> cases y <;> simp
  | trans _ _ h1 h2 => rw [h1, h2]
theorem xorL_xor {α : Type} (f g : α → Bool) : ∀ l : List α, xorL (l.map fun x => xor (f x) (g x)) = xor (xorL (l.map f)) (xorL (l.map g))
  | [] => rfl
  | x :: l => by
    show xor (xor (f x) (g x)) (xorL (l.map _)) = xor (xor (f x) (xorL (l.map f))) (xor (g x) (xorL (l.map g)))
    rw [xorL_xor f g l]
    cases f x <;> cases g x <;> cases xorL (l.map f) <;> cases xorL (l.map g) <;> rfl
theorem xorL_zero {α : Type} {f : α → Bool} : ∀ {l : List α}, (∀ x ∈ l, f x = false) → xorL (l.map f) = false
  | [], _ => rfl
  | x :: l, h => by
    show xor (f x) (xorL (l.map f)) = false
    rw [h x List.mem_cons_self, xorL_zero fun y hy => h y (List.mem_cons_of_mem _ hy)]; rfl
theorem xorL_one {α : Type} {f : α → Bool} {u : α} : ∀ {l : List α}, l.Nodup → u ∈ l → (∀ x ∈ l, x ≠ u → f x = false) → xorL (l.map f) = f u
  | [], _, h, _ => by cases h
  | x :: l, nd, hu, h => by
    obtain ⟨h1, h2⟩ := List.nodup_cons.mp nd
    show xor (f x) (xorL (l.map f)) = f u
    by_cases e : x = u
    · subst e
      rw [xorL_zero fun y hy => h y (List.mem_cons_of_mem _ hy) fun z => h1 (z ▸ hy), Bool.xor_false]
    · have hul : u ∈ l := (List.mem_cons.mp hu).resolve_left fun z => e z.symm
      rw [h x List.mem_cons_self e, xorL_one h2 hul fun y hy => h y (List.mem_cons_of_mem _ hy), Bool.false_xor]
/-! ### a graph that hangs together -/
theorem graph {α : Type} [DecidableEq α] : ∀ (es : List (α × α)) (vs : List α), vs.Nodup → (∀ φ : α → Bool, (∀ e ∈ es, φ e.1 = φ e.2) → ∀ a ∈ vs, ∀ b ∈ vs, φ a = φ b) → vs.length ≤ es.length + 1
  | [], vs, nd, h => by
    match vs, nd, h with
    | [], _, _ => simp
    | [a], _, _ => simp
    | a :: b :: vs, nd, h =>
      have := h (fun z => decide (z = a)) (fun e he => by cases he) a List.mem_cons_self b (List.mem_cons_of_mem _ List.mem_cons_self)
      rw [decide_eq_true rfl] at this
      have e := of_decide_eq_true this.symm
      exact absurd (e ▸ List.mem_cons_self) (List.nodup_cons.mp nd).1
  | (x, y) :: es, vs, nd, h => by
    have ih := graph (es.map fun e => (if e.1 = y then x else e.1, if e.2 = y then x else e.2)) (vs.filter fun z => decide (z ≠ y)) (nd.sublist List.filter_sublist) (fun φ hφ a ha b hb => by
      have ha' := List.mem_filter.mp ha
      have hb' := List.mem_filter.mp hb
      have := h (fun z => φ (if z = y then x else z)) (fun e he => by
        rcases List.mem_cons.mp he with rfl | he
        · show φ (if x = y then x else x) = φ (if y = y then x else y)
          rw [if_pos rfl]
          split <;> rfl
        · exact hφ _ (List.mem_map.mpr ⟨e, he, rfl⟩)) a ha'.1 b hb'.1
      rw [if_neg (of_decide_eq_true ha'.2), if_neg (of_decide_eq_true hb'.2)] at this
      exact this)
    have h2 : vs.length ≤ (vs.filter fun z => decide (z ≠ y)).length + 1 := by
      clear h ih
      induction vs with
      | nil => simp
      | cons z vs ih =>
        obtain ⟨n1, n2⟩ := List.nodup_cons.mp nd
        rw [List.filter_cons]
        by_cases e : z = y
        · rw [if_neg (by simp [e])]
          have : vs.filter (fun z => decide (z ≠ y)) = vs := List.filter_eq_self.mpr fun w hw => decide_eq_true fun q => n1 (by rw [e, ← q]; exact hw)
          rw [this, List.length_cons]
          exact Nat.le_refl _
        · rw [if_pos (decide_eq_true e), List.length_cons, List.length_cons]
          have := ih n2
          omega
    rw [List.length_map] at ih
    rw [List.length_cons]
    omega
termination_by es => es.length
decreasing_by simp
/-! ### a tree that spans -/
structure TreeW (W : Web) (r : Int) (fr up : Int → Int) : Prop where
  root : r ∈ W.map (·.1)
  up : ∀ n ∈ W.map (·.1), n ≠ r → up n ∈ orderOf W n ∧ fr (up n) < fr n
  bnd : ∃ B : Int, ∀ n ∈ W.map (·.1), fr n ≤ B
def Conn (W : Web) : Prop := ∀ φ, Flow W φ → ∀ x ∈ W.map (·.1), ∀ y ∈ W.map (·.1), φ x = φ y
def isT (r : Int) (up : Int → Int) (n o : Int) : Bool := (decide (n ≠ r) && decide (up n = o)) || (decide (o ≠ r) && decide (up o = n))
theorem isT_comm (r : Int) (up : Int → Int) (n o : Int) : isT r up n o = isT r up o n := by unfold isT; rw [Bool.or_comm]
section
variable {W : Web} {r : Int} {fr up : Int → Int} {f : Int × Int → Bool}
theorem round_zero (g : Sym W) (hb : ∀ p ∈ pairsOf W, f (behind W p) = f p) (n : Int) : xorL ((orderOf W n).map fun o => xor (f (o, n)) (f (n, o))) = false := by
  rw [xorL_xor (fun o => f (o, n)) (fun o => f (n, o))]
  have h1 : (orderOf W n).map (fun o => f (o, n)) = ((orderOf W n).map (nextIn (orderOf W n))).map fun c => f (n, c) := by
    rw [List.map_map]
    refine List.map_congr_left fun a ha => ?_
    have := hb (a, n) ((mem_pairs g).mpr (order_back g ha))
    exact this.symm
  rw [h1, xorL_perm ((nextIn_perm (g.nd n)).map fun c => f (n, c))]
  cases xorL ((orderOf W n).map fun c => f (n, c)) <;> rfl
theorem delta_zero (g : Sym W) (t : TreeW W r fr up) (hb : ∀ p ∈ pairsOf W, f (behind W p) = f p) (hn : ∀ n o, o ∈ orderOf W n → isT r up n o = false → f (n, o) = f (o, n)) :
    ∀ n ∈ W.map (·.1), n ≠ r → xor (f (up n, n)) (f (n, up n)) = false := by
  obtain ⟨B, hB⟩ := t.bnd
  have key : ∀ (k : Nat) (n : Int), n ∈ W.map (·.1) → n ≠ r → fr n > B - (k : Int) → xor (f (up n, n)) (f (n, up n)) = false := by
    intro k
    induction k with
    | zero => intro n hk _ h; have := hB n hk; omega
    | succ k ih =>
      intro n hk hr hf
      obtain ⟨hu, hlt⟩ := t.up n hk hr
      have h0 := round_zero g hb n
      rw [xorL_one (u := up n) (g.nd n) hu fun o ho hne => ?_] at h0
      · exact h0
      · by_cases ht : isT r up n o = true
        · unfold isT at ht
          rw [Bool.or_eq_true, Bool.and_eq_true, Bool.and_eq_true] at ht
          rcases ht with ⟨_, h2⟩ | ⟨h1, h2⟩
          · exact absurd (of_decide_eq_true h2).symm hne
          · have h1 := of_decide_eq_true h1
            have h2 := of_decide_eq_true h2
            have hok := (order_key g ho).2
            have h3 := (t.up o hok h1).2
            rw [h2] at h3
            have := ih o hok h1 (by omega)
            rw [h2] at this
            rw [Bool.xor_comm]; exact this
        · have := hn n o ho (by simpa using ht)
          rw [this]; cases f (o, n) <;> rfl
  intro n hk hr
  exact key (B - fr n + 1).toNat n hk hr (by have := hB n hk; omega)
theorem all_same (g : Sym W) (c : Conn W) (t : TreeW W r fr up) (hb : ∀ p ∈ pairsOf W, f (behind W p) = f p) (hn : ∀ n o, o ∈ orderOf W n → isT r up n o = false → f (n, o) = f (o, n)) :
    ∀ p ∈ pairsOf W, ∀ q ∈ pairsOf W, f p = f q := by
  have dz := delta_zero g t hb hn
  have sw : ∀ n o, o ∈ orderOf W n → f (n, o) = f (o, n) := fun n o ho => by
    by_cases ht : isT r up n o = true
    · unfold isT at ht
      rw [Bool.or_eq_true, Bool.and_eq_true, Bool.and_eq_true] at ht
      obtain ⟨k1, k2⟩ := order_key g ho
      rcases ht with ⟨h1, h2⟩ | ⟨h1, h2⟩
      · have := dz n k1 (of_decide_eq_true h1)
        rw [of_decide_eq_true h2] at this
        cases e1 : f (n, o) <;> cases e2 : f (o, n) <;> simp_all
      · have := dz o k2 (of_decide_eq_true h1)
        rw [of_decide_eq_true h2] at this
        cases e1 : f (n, o) <;> cases e2 : f (o, n) <;> simp_all
    · exact hn n o ho (by simpa using ht)
  have out : ∀ n o, o ∈ orderOf W n → f (n, o) = f (n, (orderOf W n).getD 0 0) := fun n o ho => by
    have hlen : 0 < (orderOf W n).length := List.length_pos_of_mem ho
    have step : ∀ (i : Nat) (a : Int), (orderOf W n)[i]? = some a → f (n, a) = f (n, (orderOf W n).getD 0 0) := by
      intro i
      induction i with
      | zero => intro a ha; rw [List.getD_eq_getElem?_getD, ha]; rfl
      | succ i ih =>
        intro a ha
        have hlt := (List.getElem?_eq_some_iff.mp ha).1
        have hx : (orderOf W n)[i]? = some ((orderOf W n)[i]'(by omega)) := List.getElem?_eq_getElem (by omega)
        have h1 := ih _ hx
        have h2 := nextIn_at (g.nd n) hx
        rw [Nat.mod_eq_of_lt hlt, ha] at h2
        have h3 : a = nextIn (orderOf W n) ((orderOf W n)[i]'(by omega)) := Option.some.inj h2
        have hm := List.mem_of_getElem? hx
        have h4 := hb ((orderOf W n)[i]'(by omega), n) ((mem_pairs g).mpr (order_back g hm))
        have h5 : f (n, a) = f ((orderOf W n)[i]'(by omega), n) := by rw [h3]; exact h4
        rw [h5, ← sw n _ hm]; exact h1
    obtain ⟨i, hi⟩ := List.getElem?_of_mem ho
    exact step i o hi
  have fl : Flow W (fun n => f (n, (orderOf W n).getD 0 0)) := fun n e he => by
    have ho : e.1 ∈ orderOf W n := List.mem_map.mpr ⟨e, he, rfl⟩
    show f (e.1, _) = f (n, _)
    rw [← out n e.1 ho, ← out e.1 n (order_back g ho), sw n e.1 ho]
  intro p hp q hq
  have hp' := (mem_pairs g).mp hp
  have hq' := (mem_pairs g).mp hq
  have h1 := out p.1 p.2 hp'
  have h2 := out q.1 q.2 hq'
  have h3 := c _ fl p.1 (order_key g hp').1 q.1 (order_key g hq').1
  exact h1.trans (h3.trans h2.symm)
end
/-! ### ties -/
def ties2 (W : Web) : List (Int × Int) := (pairsOf W).filter fun p => decide (p.1 < p.2)
theorem ties_len (W : Web) : (tiesL W).length = (ties2 W).length := by
  unfold tiesL ties2 pairsOf
  induction srt (W.map (·.1)) with
  | nil => rfl
  | cons n l ih =>
    rw [List.flatMap_cons, List.flatMap_cons, List.filter_append, List.length_append, List.length_append, ih, List.length_map]
    congr 1
    rw [List.filter_map, List.length_map]
    have h1 : ((srt (orderOf W n)).filter ((fun p : Int × Int => decide (p.1 < p.2)) ∘ fun o => (n, o))).length = ((orderOf W n).filter fun o => decide (n < o)).length := ((srt_perm _).filter _).length_eq
    rw [h1]
    unfold orderOf
    rw [List.filter_map, List.length_map]
    rfl
theorem euler {W : Web} (g : GW W) (c : Conn W) (hne : pairsOf W ≠ []) {r : Int} {fr up : Int → Int} (t : TreeW W r fr up) : (facesOf W).length + W.length ≤ (tiesL W).length + 2 := by
  have w := face_w g hne
  have sy := g.sy
  have h1 := graph (((ties2 W).filter fun p => !isT r up p.1 p.2).map fun p => (labF W p, labF W (p.2, p.1))) (heads W) (heads_nd w) (fun φ hφ a ha b hb => by
    have hh := all_same (f := fun p => φ (labF W p)) sy c t (fun p hp => by show φ (labF W (behind W p)) = _; rw [labF_behind w hp]) (fun n o ho ht => by
      have hp : (n, o) ∈ pairsOf W := (mem_pairs sy).mpr ho
      have hq : (o, n) ∈ pairsOf W := (mem_pairs sy).mpr (order_back sy ho)
      have hno : n ≠ o := fun z => g.irr n (z ▸ ho)
      by_cases hlt : n < o
      · exact hφ (labF W (n, o), labF W (o, n)) (List.mem_map.mpr ⟨(n, o), List.mem_filter.mpr ⟨List.mem_filter.mpr ⟨hp, decide_eq_true hlt⟩, by rw [ht]; rfl⟩, rfl⟩)
      · have hgt : o < n := by omega
        exact (hφ (labF W (o, n), labF W (n, o)) (List.mem_map.mpr ⟨(o, n), List.mem_filter.mpr ⟨List.mem_filter.mpr ⟨hq, decide_eq_true hgt⟩, by rw [isT_comm, ht]; rfl⟩, rfl⟩)).symm) a (heads_pairs w ha) b (heads_pairs w hb)
    have e1 := (mem_heads w (heads_pairs w ha)).mpr ha
    have e2 := (mem_heads w (heads_pairs w hb)).mpr hb
    have hh : φ (labF W a) = φ (labF W b) := hh
    rw [e1, e2] at hh; exact hh)
  rw [List.length_map] at h1
  have hhl : (heads W).length = (facesOf W).length := by unfold heads; rw [List.length_map]
  have hnt : ((W.map (·.1)).erase r).Nodup := g.sy.fit.nd.erase r
  have nm : ∀ n ∈ (W.map (·.1)).erase r, n ∈ W.map (·.1) ∧ n ≠ r := fun n hn => by
    rw [g.sy.fit.nd.mem_erase_iff] at hn
    exact ⟨hn.2, hn.1⟩
  have h2 : (((W.map (·.1)).erase r).map fun n => if n < up n then (n, up n) else (up n, n)).Nodup := by
    rw [List.Nodup, List.pairwise_map]
    refine List.Pairwise.imp_of_mem (fun {a b} ha hb h e => h ?_) hnt
    obtain ⟨ka, na⟩ := nm a ha
    obtain ⟨kb, nb⟩ := nm b hb
    have fa := (t.up a ka na).2
    have fb := (t.up b kb nb).2
    by_cases c1 : a < up a
    · by_cases c2 : b < up b
      · rw [if_pos c1, if_pos c2] at e; exact (Prod.ext_iff.mp e).1
      · rw [if_pos c1, if_neg c2] at e
        obtain ⟨e1, e2⟩ := Prod.ext_iff.mp e
        have e1 : a = up b := e1
        have e2 : up a = b := e2
        rw [e2] at fa; rw [← e1] at fb; omega
    · by_cases c2 : b < up b
      · rw [if_neg c1, if_pos c2] at e
        obtain ⟨e1, e2⟩ := Prod.ext_iff.mp e
        have e1 : up a = b := e1
        have e2 : a = up b := e2
        rw [e1] at fa; rw [← e2] at fb; omega
      · rw [if_neg c1, if_neg c2] at e; exact (Prod.ext_iff.mp e).2
  have h3 := h2.length_le_of_subset (l₂ := (ties2 W).filter fun p => isT r up p.1 p.2) (fun x hx => by
    obtain ⟨n, hn, rfl⟩ := List.mem_map.mp hx
    obtain ⟨k, nr⟩ := nm n hn
    obtain ⟨hu, _⟩ := t.up n k nr
    have hne : n ≠ up n := fun z => g.irr n (by rw [← z] at hu; exact hu)
    by_cases c1 : n < up n
    · rw [if_pos c1]
      refine List.mem_filter.mpr ⟨List.mem_filter.mpr ⟨(mem_pairs sy).mpr hu, decide_eq_true c1⟩, ?_⟩
      show isT r up n (up n) = true
      unfold isT; rw [decide_eq_true nr, decide_eq_true rfl]; rfl
    · rw [if_neg c1]
      have hlt : up n < n := by omega
      refine List.mem_filter.mpr ⟨List.mem_filter.mpr ⟨(mem_pairs sy).mpr (order_back sy hu), decide_eq_true hlt⟩, ?_⟩
      show isT r up (up n) n = true
      rw [isT_comm]
      unfold isT; rw [decide_eq_true nr, decide_eq_true rfl]; rfl)
  rw [List.length_map, List.length_erase_of_mem t.root, List.length_map] at h3
  have h4 : (ties2 W).length = ((ties2 W).filter fun p => isT r up p.1 p.2).length + ((ties2 W).filter fun p => !isT r up p.1 p.2).length := by
    induction ties2 W with
    | nil => rfl
    | cons p l ih =>
      rw [List.filter_cons, List.filter_cons, List.length_cons, ih]
      cases isT r up p.1 p.2 <;> simp <;> omega
  have hpos : 0 < W.length := by
    have := List.length_pos_of_mem t.root
    rwa [List.length_map] at this
  rw [ties_len]
  omega
end Bs
/-! Plain: sums over a tree. -/
namespace Bs
def sm {α : Type} (l : List α) (f : α → Int) : Int := (l.map f).sum
theorem sm_nil {α : Type} (f : α → Int) : sm [] f = 0 := rfl
theorem sm_cons {α : Type} (x : α) (l : List α) (f : α → Int) : sm (x :: l) f = f x + sm l f := by unfold sm; rw [List.map_cons, List.sum_cons]
theorem sm_add {α : Type} (f g : α → Int) : ∀ l : List α, sm l (fun x => f x + g x) = sm l f + sm l g
  | [] => rfl
  | x :: l => by rw [sm_cons, sm_cons, sm_cons, sm_add f g l]; omega
theorem sm_zero {α : Type} : ∀ l : List α, sm l (fun _ => (0 : Int)) = 0
  | [] => rfl
  | x :: l => by rw [sm_cons, sm_zero l]; rfl
theorem sm_congr {α : Type} {f g : α → Int} : ∀ {l : List α}, (∀ x ∈ l, f x = g x) → sm l f = sm l g
  | [], _ => rfl
  | x :: l, h => by rw [sm_cons, sm_cons, h x List.mem_cons_self, sm_congr fun y hy => h y (List.mem_cons_of_mem _ hy)]
theorem sm_perm {α : Type} {f : α → Int} {l m : List α} (h : l.Perm m) : sm l f = sm m f := by
  induction h with
  | nil => rfl
  | cons x _ ih => rw [sm_cons, sm_cons, ih]
  | swap x y l => simp only [sm_cons]; omega
  | trans _ _ h1 h2 => rw [h1, h2]
theorem sm_filter {α : Type} (p : α → Bool) (f : α → Int) : ∀ l : List α, sm (l.filter p) f = sm l (fun x => if p x = true then f x else 0)
  | [] => rfl
  | x :: l => by
    rw [List.filter_cons, sm_cons]
    by_cases h : p x = true
    · rw [if_pos h, if_pos h, sm_cons, sm_filter p f l]
    · rw [if_neg h, if_neg h, sm_filter p f l]; omega
theorem sm_swap {α β : Type} (f : α → β → Int) (m : List β) : ∀ l : List α, sm l (fun x => sm m (f x)) = sm m (fun y => sm l (fun x => f x y))
  | [] => by simp only [sm_nil]; exact (sm_zero m).symm
  | x :: l => by
    rw [sm_cons, sm_swap f m l, ← sm_add]
    exact sm_congr fun y _ => (sm_cons x l fun x => f x y).symm
theorem sm_one {α : Type} {p : α → Bool} {u : α} {c : Int} : ∀ {l : List α}, l.Nodup → u ∈ l → (∀ x ∈ l, p x = true ↔ x = u) → sm l (fun x => if p x = true then c else 0) = c
  | [], _, h, _ => by cases h
  | x :: l, nd, hu, h => by
    obtain ⟨h1, h2⟩ := List.nodup_cons.mp nd
    rw [sm_cons]
    by_cases e : x = u
    · rw [if_pos ((h x List.mem_cons_self).mpr e)]
      have : sm l (fun x => if p x = true then c else 0) = 0 := by
        refine (sm_congr fun y hy => if_neg fun z => ?_).trans (sm_zero l)
        have := (h y (List.mem_cons_of_mem _ hy)).mp z
        exact h1 (e.trans this.symm ▸ hy)
      rw [this]; omega
    · have hul : u ∈ l := (List.mem_cons.mp hu).resolve_left fun z => e z.symm
      rw [if_neg fun z => e ((h x List.mem_cons_self).mp z), sm_one h2 hul fun y hy => h y (List.mem_cons_of_mem _ hy)]; omega
theorem sm_but {α : Type} [DecidableEq α] {r : α} {v : α → Int} : ∀ {l : List α}, l.Nodup → r ∈ l → sm l (fun x => if x = r then 0 else v x) = sm l v - v r
  | [], _, h => by cases h
  | x :: l, nd, hr => by
    obtain ⟨h1, h2⟩ := List.nodup_cons.mp nd
    rw [sm_cons, sm_cons]
    by_cases e : x = r
    · rw [if_pos e]
      have : sm l (fun x => if x = r then 0 else v x) = sm l v := sm_congr fun y hy => if_neg fun z : y = r => h1 (by rw [e, ← z]; exact hy)
      rw [this, e]; omega
    · have hrl : r ∈ l := (List.mem_cons.mp hr).resolve_left fun z => e z.symm
      rw [if_neg e, sm_but h2 hrl]; omega
/-- each but the root comes up once -/
theorem tele {K : List Int} (nd : K.Nodup) {r : Int} (hr : r ∈ K) {up : Int → Int} (hu : ∀ o ∈ K, o ≠ r → up o ∈ K) {rel : Int → Int → Bool} (h : ∀ n ∈ K, ∀ o ∈ K, rel n o = true ↔ (o ≠ r ∧ n = up o)) (v : Int → Int) :
    sm K (fun n => sm (K.filter (rel n)) v) = sm K v - v r := by
  have h1 : sm K (fun n => sm (K.filter (rel n)) v) = sm K (fun n => sm K (fun o => if rel n o = true then v o else 0)) := sm_congr fun n _ => sm_filter _ _ _
  rw [h1, sm_swap, ← sm_but nd hr]
  refine sm_congr fun o ho => ?_
  by_cases e : o = r
  · rw [if_pos e]
    exact (sm_congr fun n hn => if_neg fun z => ((h n hn o ho).mp z).1 e).trans (sm_zero K)
  · rw [if_neg e]
    exact sm_one (p := fun n => rel n o) nd (hu o ho e) fun n hn => ⟨fun z => ((h n hn o ho).mp z).2, fun z => (h n hn o ho).mpr ⟨e, z⟩⟩
end Bs
/-! Plain: what it is to say yes; where all say yes the web is flat. -/
namespace Bs
structure Says (n : Int) (own : Row) (es : List Row) : Prop where
  a0 : g own 0 = n
  a1 : ∀ r ∈ es, g r 1 = g own 1
  root : g own 1 = n → g own 2 = 0 ∧ g own 3 = n
  nonr : g own 1 ≠ n → 0 < g own 2 ∧ ∃ r ∈ es, g r 0 = g own 3 ∧ g r 2 = g own 2 - 1
  t1 : (thr own).map (g · 0) = es.map (g · 0)
  t2 : (es.map (g · 0)).Nodup
  t3 : ∀ k, k < es.length → backs n (es.getD k []) = [((thr own).getD ((k + 1) % (thr own).length) []).drop 1]
  s : ∀ p, p < 3 → g own (4 + p) = g (headsL n own es) p + sumOf p (belowL n own es)
  z : g own 1 = n → 2 * g own 4 + 2 * g own 6 = g own 5 + 4
theorem guB_iff (n : Int) (own : Row) (es : List Row) : guB n own es = true ↔ g own 0 = n ∧ (∀ r ∈ es, g r 1 = g own 1) ∧ (g own 1 = n → g own 2 = 0 ∧ g own 3 = n) ∧ (g own 1 ≠ n → 0 < g own 2 ∧ ∃ r ∈ es, g r 0 = g own 3 ∧ g r 2 = g own 2 - 1) := by
  have hf : (es.filter fun r => !decide (g r 1 = g own 1)).isEmpty = true ↔ ∀ r ∈ es, g r 1 = g own 1 := by
    rw [List.isEmpty_iff, List.filter_eq_nil_iff]
    simp
  have hu : (!(es.filter fun r => decide (g r 0 = g own 3) && decide (g r 2 = g own 2 - 1)).isEmpty) = true ↔ ∃ r ∈ es, g r 0 = g own 3 ∧ g r 2 = g own 2 - 1 := by
    rw [Bool.not_eq_true', ← Bool.not_eq_true, List.isEmpty_iff, List.filter_eq_nil_iff]
    simp
  unfold guB
  by_cases h0 : g own 0 = n
  · by_cases h1 : ∀ r ∈ es, g r 1 = g own 1
    · rw [decide_eq_true h0, hf.mpr h1]
      rw [if_neg (by decide)]
      by_cases h2 : g own 1 = n
      · rw [if_pos h2, Bool.and_eq_true, decide_eq_true_eq, decide_eq_true_eq]
        exact ⟨fun h => ⟨h0, h1, fun _ => h, fun z => absurd h2 z⟩, fun h => h.2.2.1 h2⟩
      · rw [if_neg h2, Bool.and_eq_true, decide_eq_true_eq, hu]
        exact ⟨fun h => ⟨h0, h1, fun z => absurd z h2, fun _ => h⟩, fun h => h.2.2.2 h2⟩
    · have : (es.filter fun r => !decide (g r 1 = g own 1)).isEmpty = false := by
        cases e : (es.filter fun r => !decide (g r 1 = g own 1)).isEmpty with
        | false => rfl
        | true => exact absurd (hf.mp e) h1
      rw [this, if_pos (by simp)]
      exact ⟨fun h => by simp at h, fun h => absurd h.2.1 h1⟩
  · rw [decide_eq_false h0, if_pos (by simp)]
    exact ⟨fun h => by simp at h, fun h => absurd h.1 h0⟩
theorem sayB_iff (n : Int) (own : Row) (es : List Row) : sayB n own es = true ↔ Says n own es := by
  unfold sayB trB sumsB
  rw [Bool.and_eq_true, Bool.and_eq_true, Bool.and_eq_true, guB_iff, Bool.and_eq_true, Bool.and_eq_true, List.all_eq_true, List.all_eq_true, Bool.or_eq_true]
  simp only [decide_eq_true_eq, List.mem_range, Bool.not_eq_true', decide_eq_false_iff_not]
  constructor
  · rintro ⟨⟨h1, h2, h3, h4⟩, ⟨⟨h5, h6⟩, h7⟩, h8, h9⟩
    exact ⟨h1, h2, h3, h4, h5, h6, h7, h8, fun z => h9.resolve_left fun y => y z⟩
  · intro h
    refine ⟨⟨h.a0, h.a1, h.root, h.nonr⟩, ⟨⟨h.t1, h.t2⟩, h.t3⟩, h.s, ?_⟩
    by_cases e : g own 1 = n
    · exact .inr (h.z e)
    · exact .inl e
/-! ### a web where all say yes -/
/-- the label that a row gives its pair -/
def rlab (row : Int → Row) (p : Int × Int) : Int × Int := match (thr (row p.1)).find? fun t => decide (g t 0 = p.2) with | some t => (g t 1, g t 2) | none => (0, 0)
theorem find_nd {l : List Row} (nd : (l.map (g · 0)).Nodup) {t : Row} (ht : t ∈ l) : l.find? (fun u => decide (g u 0 = g t 0)) = some t := by
  induction l with
  | nil => cases ht
  | cons u l ih =>
    rw [List.map_cons, List.nodup_cons] at nd
    rw [List.find?_cons]
    rcases List.mem_cons.mp ht with rfl | h
    · rw [decide_eq_true rfl]
    · have hne : g u 0 ≠ g t 0 := fun e => nd.1 (by rw [e]; exact List.mem_map.mpr ⟨t, h, rfl⟩)
      rw [decide_eq_false hne]
      exact ih nd.2 h
structure AllYes (W : Web) (row : Int → Row) : Prop where
  gw : GW W
  conn : Conn W
  fit : ∀ n ∈ W.map (·.1), RowOk (row n) ∧ (row n).length = 7 + 3 * (endsAt W n).length
  yes : ∀ n ∈ W.map (·.1), Says n (row n) ((endsAt W n).map fun e => row e.1)
section
variable {W : Web} {row : Int → Row}
theorem AllYes.names (h : AllYes W row) {n : Int} (hn : n ∈ W.map (·.1)) : ((endsAt W n).map fun e => row e.1).map (g · 0) = orderOf W n := by
  unfold orderOf
  rw [List.map_map]
  refine List.map_congr_left fun e he => ?_
  exact (h.yes e.1 (h.gw.sy.key n e he).2).a0
theorem AllYes.thrn (h : AllYes W row) {n : Int} (hn : n ∈ W.map (·.1)) : (thr (row n)).map (g · 0) = orderOf W n := by
  rw [(h.yes n hn).t1, h.names hn]
theorem AllYes.thrl (h : AllYes W row) {n : Int} (hn : n ∈ W.map (·.1)) : (thr (row n)).length = (endsAt W n).length := thr_len (h.fit n hn).2
/-- the k-th three -/
theorem AllYes.at_ (h : AllYes W row) {n : Int} (hn : n ∈ W.map (·.1)) {k : Nat} {o : Int} (ho : (orderOf W n)[k]? = some o) : ∃ t, (thr (row n))[k]? = some t ∧ t ∈ thr (row n) ∧ g t 0 = o ∧ t = [o, (rlab row (n, o)).1, (rlab row (n, o)).2] := by
  have h1 := h.thrn hn
  rw [← h1, List.getElem?_map] at ho
  obtain ⟨t, ht, e⟩ := Option.map_eq_some_iff.mp ho
  have hm := List.mem_of_getElem? ht
  refine ⟨t, ht, hm, e, ?_⟩
  have nd : ((thr (row n)).map (g · 0)).Nodup := by rw [h1]; exact h.gw.sy.nd n
  have hf := find_nd nd hm
  have : rlab row (n, o) = (g t 1, g t 2) := by
    unfold rlab
    rw [show ((n, o) : Int × Int).2 = g t 0 from e.symm, hf]
  rw [this]
  have h3 := thr_3 (h.fit n hn).2 hm
  match t, h3, e with
  | [a, b, c], _, e => show [a, b, c] = [o, b, c]; rw [← e]; rfl
theorem AllYes.lab_behind (h : AllYes W row) : ∀ p ∈ pairsOf W, rlab row (behind W p) = rlab row p := fun p hp => by
  have sy := h.gw.sy
  obtain ⟨o, n⟩ := p
  have hop : n ∈ orderOf W o := (mem_pairs sy).mp hp
  have hno := order_back sy hop
  obtain ⟨kn, ko⟩ := order_key sy hno
  obtain ⟨k, hk⟩ := List.getElem?_of_mem hno
  have hkl := (List.getElem?_eq_some_iff.mp hk).1
  have hel : (orderOf W n).length = (endsAt W n).length := by unfold orderOf; rw [List.length_map]
  have hes : ((endsAt W n).map fun e => row e.1).length = (endsAt W n).length := by rw [List.length_map]
  have h3 := (h.yes n kn).t3 k (by omega)
  have hrow : ((endsAt W n).map fun e => row e.1).getD k [] = row o := by
    have : ((endsAt W n).map fun e => row e.1) = (orderOf W n).map row := by unfold orderOf; rw [List.map_map]; rfl
    rw [this, List.getD_eq_getElem?_getD, List.getElem?_map, hk]; rfl
  rw [hrow, h.thrl kn, ← hel] at h3
  have hnext := nextIn_at (sy.nd n) hk
  obtain ⟨t, ht, _, _, et⟩ := h.at_ kn hnext
  obtain ⟨i, hi⟩ := List.getElem?_of_mem hop
  obtain ⟨u, hu, hum, hu0, eu⟩ := h.at_ ko hi
  have hb : backs n (row o) = [u.drop 1] := by
    unfold backs
    have nd : ((thr (row o)).map (g · 0)).Nodup := by rw [h.thrn ko]; exact sy.nd o
    have : (thr (row o)).filter (fun t => decide (g t 0 = n)) = [u] := by
      have key : ∀ l : List Row, (l.map (g · 0)).Nodup → u ∈ l → l.filter (fun t => decide (g t 0 = n)) = [u] := by
        intro l
        induction l with
        | nil => intro _ h; cases h
        | cons x l ih =>
          intro nd hm
          rw [List.map_cons, List.nodup_cons] at nd
          rw [List.filter_cons]
          rcases List.mem_cons.mp hm with rfl | hm
          · rw [if_pos (decide_eq_true hu0)]
            congr 1
            refine List.filter_eq_nil_iff.mpr fun y hy z => nd.1 ?_
            rw [hu0, ← of_decide_eq_true z]
            exact List.mem_map.mpr ⟨y, hy, rfl⟩
          · have : g x 0 ≠ n := fun e => nd.1 (by rw [e, ← hu0]; exact List.mem_map.mpr ⟨u, hm, rfl⟩)
            rw [if_neg (by simp [this])]
            exact ih nd.2 hm
      exact key _ nd hum
    rw [this]; rfl
  rw [hb] at h3
  have hx : (thr (row n)).getD ((k + 1) % (orderOf W n).length) [] = t := getD_get ht
  rw [hx, et, eu] at h3
  have h4 := (List.cons.inj h3).1
  have h5 : [(rlab row (o, n)).1, (rlab row (o, n)).2] = [(rlab row (n, nextIn (orderOf W n) o)).1, (rlab row (n, nextIn (orderOf W n) o)).2] := h4
  have h6 := List.cons.inj h5
  have h7 := List.cons.inj h6.2
  exact (Prod.ext h6.1 h7.1).symm
end
end Bs
/-! Plain: where all say yes, the web is flat. -/
namespace Bs
theorem chase_const {α κ : Type} [DecidableEq α] {β : α → α} {h : α} {L : List α} {k : α → κ} (cl : ∀ p ∈ L, β p ∈ L) (hk : ∀ p ∈ L, k (β p) = k p) : ∀ (n : Nat) (x : α), x ∈ L → ∀ y ∈ chase β h n x, k y = k x
  | 0, x, _, y, hy => by cases hy
  | n + 1, x, hx, y, hy => by
    unfold chase at hy
    split at hy
    · cases hy
    · rcases List.mem_cons.mp hy with rfl | hy
      · exact hk x hx
      · rw [chase_const cl hk n (β x) (cl x hx) y hy, hk x hx]
theorem face_const {W : Web} (g : GW W) (hne : pairsOf W ≠ []) {κ : Type} {k : Int × Int → κ} (hk : ∀ p ∈ pairsOf W, k (behind W p) = k p) {f : List (Int × Int)} (hf : f ∈ facesOf W) {p : Int × Int} (hp : p ∈ f) : k p = k (headF f) := by
  have w := face_w g hne
  have e : facesOf W = facesGo (behind W) (pairsOf W).length (pairsOf W).length (pairsOf W) := by unfold facesOf; rw [if_neg hne]
  rw [e] at hf
  obtain ⟨q, hq, rfl⟩ := go_shape _ _ f hf
  show k p = k q
  rcases List.mem_cons.mp hp with rfl | hp
  · rfl
  · exact chase_const (behind_mem g.sy) hk _ _ hq p hp
/-- pairs that lead a label of their own: as many as faces, at most -/
theorem leaders_le {W : Web} (g : GW W) (hne : pairsOf W ≠ []) {k : Int × Int → Int × Int} (hk : ∀ p ∈ pairsOf W, k (behind W p) = k p) : ((pairsOf W).filter fun p => decide (k p = p)).length ≤ (facesOf W).length := by
  have w := face_w g hne
  have nd : (((pairsOf W).filter fun p => decide (k p = p)).map (labF W)).Nodup := by
    rw [List.Nodup, List.pairwise_map]
    refine List.Pairwise.imp_of_mem (fun {a b} ha hb hab e => hab ?_) ((pairs_nd g.sy).sublist List.filter_sublist)
    have ha' := List.mem_filter.mp ha
    have hb' := List.mem_filter.mp hb
    obtain ⟨f, hf, haf⟩ := w.cov a ha'.1
    obtain ⟨f', hf', hbf⟩ := w.cov b hb'.1
    rw [labF_of w hf haf, labF_of w hf' hbf] at e
    have hs := sep_eq w.sep hf hf' (headF_mem (w.ne f hf)) (e ▸ headF_mem (w.ne f' hf'))
    subst hs
    have h1 := face_const g hne hk hf haf
    have h2 := face_const g hne hk hf hbf
    rw [of_decide_eq_true ha'.2] at h1
    rw [of_decide_eq_true hb'.2] at h2
    rw [h1, h2]
  have := nd.length_le_of_subset (l₂ := heads W) (fun x hx => by
    obtain ⟨p, hp, rfl⟩ := List.mem_map.mp hx
    exact labF_heads w (List.mem_filter.mp hp).1)
  rw [List.length_map] at this
  unfold heads at this
  rw [List.length_map] at this
  exact this
theorem sm_nat {α : Type} (f : α → Nat) : ∀ l : List α, sm l (fun x => (f x : Int)) = ((l.map f).sum : Nat)
  | [] => rfl
  | x :: l => by rw [sm_cons, sm_nat f l, List.map_cons, List.sum_cons]; omega
theorem sm_const1 {α : Type} : ∀ l : List α, sm l (fun _ => (1 : Int)) = (l.length : Int)
  | [] => rfl
  | x :: l => by rw [sm_cons, sm_const1 l, List.length_cons]; omega
theorem pairs_two {W : Web} (g : GW W) : (pairsOf W).length = 2 * (ties2 W).length := by
  have nd := pairs_nd g.sy
  have h1 : (pairsOf W).length = ((pairsOf W).filter fun p => decide (p.1 < p.2)).length + ((pairsOf W).filter fun p => !decide (p.1 < p.2)).length := by
    induction pairsOf W with
    | nil => rfl
    | cons p l ih =>
      rw [List.filter_cons, List.filter_cons, List.length_cons, ih]
      cases decide (p.1 < p.2) <;> simp <;> omega
  have h2 : (((pairsOf W).filter fun p => decide (p.1 < p.2)).map fun p => (p.2, p.1)).Perm ((pairsOf W).filter fun p => !decide (p.1 < p.2)) := by
    refine (List.perm_ext_iff_of_nodup ?_ (nd.sublist List.filter_sublist)).mpr fun p => ?_
    · rw [List.Nodup, List.pairwise_map]
      exact List.Pairwise.imp (fun {a b} h e => h (Prod.ext (Prod.ext_iff.mp e).2 (Prod.ext_iff.mp e).1)) (nd.sublist List.filter_sublist)
    · rw [List.mem_map, List.mem_filter]
      constructor
      · rintro ⟨q, hq, rfl⟩
        obtain ⟨hq1, hq2⟩ := List.mem_filter.mp hq
        have := of_decide_eq_true hq2
        refine ⟨(mem_pairs g.sy).mpr (order_back g.sy ((mem_pairs g.sy).mp hq1)), ?_⟩
        show (!decide (q.2 < q.1)) = true
        rw [decide_eq_false (by omega)]; rfl
      · rintro ⟨h3, h4⟩
        have h5 := (mem_pairs g.sy).mp h3
        have hne : p.1 ≠ p.2 := fun z => g.irr p.1 (by rw [← z] at h5; exact h5)
        have h6 : ¬ p.1 < p.2 := of_decide_eq_false (nt_t h4)
        exact ⟨(p.2, p.1), List.mem_filter.mpr ⟨(mem_pairs g.sy).mpr (order_back g.sy h5), decide_eq_true (by show p.2 < p.1; omega)⟩, rfl⟩
  have h3 := h2.length_eq
  rw [List.length_map] at h3
  unfold ties2
  omega
theorem pairs_filter {W : Web} (k : Int × Int → Bool) : ((pairsOf W).filter k).length = ((W.map (·.1)).map fun n => ((orderOf W n).filter fun o => k (n, o)).length).sum := by
  have key : ∀ l : List Int, ((l.flatMap fun n => (srt (orderOf W n)).map fun o => (n, o)).filter k).length = (l.map fun n => ((orderOf W n).filter fun o => k (n, o)).length).sum := by
    intro l
    induction l with
    | nil => rfl
    | cons n l ih =>
      rw [List.flatMap_cons, List.filter_append, List.length_append, ih, List.map_cons, List.sum_cons, List.filter_map, List.length_map]
      congr 1
      exact ((srt_perm (orderOf W n)).filter _).length_eq
  unfold pairsOf
  rw [key, perm_sum ((srt_perm (W.map (·.1))).map fun n => ((orderOf W n).filter fun o => k (n, o)).length)]
section
variable {W : Web} {row : Int → Row}
theorem AllYes.root_ex (h : AllYes W row) {a : Int} (ha : a ∈ W.map (·.1)) : ∃ R ∈ W.map (·.1), ∀ n ∈ W.map (·.1), g (row n) 1 = R := by
  have sy := h.gw.sy
  have desc : ∀ (k : Nat) (n : Int), n ∈ W.map (·.1) → (g (row n) 2).toNat ≤ k → ∃ m ∈ W.map (·.1), g (row m) 1 = m := by
    intro k
    induction k with
    | zero =>
      intro n hn hk
      by_cases e : g (row n) 1 = n
      · exact ⟨n, hn, e⟩
      · have := ((h.yes n hn).nonr e).1
        omega
    | succ k ih =>
      intro n hn hk
      by_cases e : g (row n) 1 = n
      · exact ⟨n, hn, e⟩
      · obtain ⟨hp, r, hr, _, h2⟩ := (h.yes n hn).nonr e
        obtain ⟨x, hx, rfl⟩ := List.mem_map.mp hr
        exact ih x.1 (sy.key n x hx).2 (by omega)
  obtain ⟨m, hm, e⟩ := desc _ a ha (Nat.le_refl _)
  refine ⟨m, hm, fun n hn => ?_⟩
  have := h.conn (fun n => decide (g (row n) 1 = m)) (fun n x hx => by
    show decide (g (row x.1) 1 = m) = decide (g (row n) 1 = m)
    rw [(h.yes n (sy.key n x hx).1).a1 _ (List.mem_map.mpr ⟨x, hx, rfl⟩)]) n hn m hm
  have h2 : decide (g (row n) 1 = m) = decide (g (row m) 1 = m) := this
  rw [decide_eq_true e] at h2
  exact of_decide_eq_true h2
theorem AllYes.up_ (h : AllYes W row) {R : Int} (hR : ∀ n ∈ W.map (·.1), g (row n) 1 = R) {n : Int} (hn : n ∈ W.map (·.1)) (hne : n ≠ R) : g (row n) 3 ∈ orderOf W n ∧ g (row (g (row n) 3)) 2 = g (row n) 2 - 1 := by
  obtain ⟨_, r, hr, h1, h2⟩ := (h.yes n hn).nonr (by rw [hR n hn]; exact fun z => hne z.symm)
  obtain ⟨x, hx, rfl⟩ := List.mem_map.mp hr
  have h3 := (h.yes x.1 (h.gw.sy.key n x hx).2).a0
  rw [h3] at h1
  rw [← h1]
  exact ⟨List.mem_map.mpr ⟨x, hx, rfl⟩, h2⟩
theorem AllYes.tree (h : AllYes W row) {R : Int} (hRk : R ∈ W.map (·.1)) (hR : ∀ n ∈ W.map (·.1), g (row n) 1 = R) : TreeW W R (fun n => g (row n) 2) (fun n => g (row n) 3) :=
  ⟨hRk, fun n hn hne => ⟨(h.up_ hR hn hne).1, by have := (h.up_ hR hn hne).2; show g (row (g (row n) 3)) 2 < g (row n) 2; omega⟩, 4096, fun n hn => by have := rowok_g (h.fit n hn).1 2; show g (row n) 2 ≤ 4096; omega⟩
theorem AllYes.thr_eq (h : AllYes W row) {n : Int} (hn : n ∈ W.map (·.1)) : thr (row n) = (orderOf W n).map fun o => [o, (rlab row (n, o)).1, (rlab row (n, o)).2] := by
  refine List.ext_getElem? fun k => ?_
  rw [List.getElem?_map]
  cases e : (orderOf W n)[k]? with
  | none =>
    rw [List.getElem?_eq_none_iff] at e
    have : (thr (row n)).length = (orderOf W n).length := by rw [h.thrl hn]; unfold orderOf; rw [List.length_map]
    rw [List.getElem?_eq_none (by omega)]; rfl
  | some o =>
    obtain ⟨t, ht, _, _, et⟩ := h.at_ hn e
    rw [ht, et]; rfl
theorem AllYes.sum_root (h : AllYes W row) {R : Int} (hRk : R ∈ W.map (·.1)) (hR : ∀ n ∈ W.map (·.1), g (row n) 1 = R) {p : Nat} (hp : p < 3) :
    g (row R) (4 + p) = sm (W.map (·.1)) (fun n => g (headsL n (row n) ((endsAt W n).map fun e => row e.1)) p) := by
  have sy := h.gw.sy
  have nd := sy.fit.nd
  have hs : ∀ n ∈ W.map (·.1), g (row n) (4 + p) = g (headsL n (row n) ((endsAt W n).map fun e => row e.1)) p + sm ((W.map (·.1)).filter fun o => decide (o ∈ orderOf W n) && (decide (g (row o) 3 = n) && decide (g (row o) 2 = g (row n) 2 + 1))) (fun o => g (row o) (4 + p)) := fun n hn => by
    rw [(h.yes n hn).s p hp]
    congr 1
    unfold sumOf belowL
    have e1 : ((endsAt W n).map fun e => row e.1) = (orderOf W n).map row := by unfold orderOf; rw [List.map_map]; rfl
    rw [e1, List.filter_map, List.map_map]
    refine sm_perm (f := fun o => g (row o) (4 + p)) ((List.perm_ext_iff_of_nodup ((sy.nd n).sublist List.filter_sublist) (nd.sublist List.filter_sublist)).mpr fun o => ?_)
    rw [List.mem_filter, List.mem_filter, Bool.and_eq_true, decide_eq_true_eq]
    exact ⟨fun z => ⟨(order_key sy z.1).2, z.1, z.2⟩, fun z => z.2⟩
  have ht := tele nd hRk (up := fun o => g (row o) 3) (fun o ho hne => (order_key sy (h.up_ hR ho hne).1).2) (rel := fun n o => decide (o ∈ orderOf W n) && (decide (g (row o) 3 = n) && decide (g (row o) 2 = g (row n) 2 + 1))) (fun n hn o ho => by
    rw [Bool.and_eq_true, Bool.and_eq_true, decide_eq_true_eq, decide_eq_true_eq, decide_eq_true_eq]
    constructor
    · rintro ⟨_, h2, h3⟩
      refine ⟨fun z => ?_, h2.symm⟩
      have h4 := ((h.yes o ho).root (by rw [hR o ho, z])).1
      have h5 := rowok_g (h.fit n hn).1 2
      omega
    · rintro ⟨h1, h2⟩
      have h3 := h.up_ hR ho h1
      rw [← h2] at h3
      exact ⟨order_back sy h3.1, h2.symm, by omega⟩) (fun o => g (row o) (4 + p))
  have hsum := sm_congr (f := fun n => g (row n) (4 + p)) hs
  rw [sm_add, ht] at hsum
  omega
theorem all_yes_flat (h : AllYes W row) (hone : 1 ≤ W.length) : flatB W = true := by
  have sy := h.gw.sy
  obtain ⟨a, ha⟩ : ∃ a, a ∈ W.map (·.1) := by
    cases e : W with
    | nil => rw [e] at hone; simp at hone
    | cons p l => exact ⟨p.1, by simp⟩
  unfold flatB
  refine decide_eq_true ?_
  by_cases hne : pairsOf W = []
  · have hno : ∀ n, endsAt W n = [] := fun n => by
      cases e : endsAt W n with
      | nil => rfl
      | cons x l =>
        have : (n, x.1) ∈ pairsOf W := (mem_pairs sy).mpr (List.mem_map.mpr ⟨x, by rw [e]; exact List.mem_cons_self, rfl⟩)
        rw [hne] at this; cases this
    have hV : W.length ≤ 1 := by
      have : ∀ b ∈ W.map (·.1), b = a := fun b hb => by
        have := h.conn (fun n => decide (n = a)) (fun n x hx => by rw [hno n] at hx; cases hx) b hb a ha
        have h2 : decide (b = a) = decide (a = a) := this
        rw [decide_eq_true rfl] at h2
        exact of_decide_eq_true h2
      have := sy.fit.nd.length_le_of_subset (l₂ := [a]) (fun x hx => by rw [this x hx]; exact List.mem_singleton.mpr rfl)
      rw [List.length_map] at this
      exact this
    have hT : (tiesL W).length = 0 := by rw [ties_len]; unfold ties2; rw [hne]; rfl
    have hF : (facesOf W).length = 1 := by unfold facesOf; rw [if_pos hne]; rfl
    rw [hT, hF]; omega
  · obtain ⟨R, hRk, hR⟩ := h.root_ex ha
    have he := euler h.gw h.conn hne (h.tree hRk hR)
    have hz := (h.yes R hRk).z (hR R hRk)
    have s0 : g (row R) 4 = _ := h.sum_root hRk hR (p := 0) (by decide)
    have s1 : g (row R) 5 = _ := h.sum_root hRk hR (p := 1) (by decide)
    have s2 : g (row R) 6 = _ := h.sum_root hRk hR (p := 2) (by decide)
    have d0 : sm (W.map (·.1)) (fun n => g (headsL n (row n) ((endsAt W n).map fun e => row e.1)) 0) = (W.length : Int) := by
      refine (sm_congr (g := fun _ => (1 : Int)) fun n _ => rfl).trans ?_
      rw [sm_const1, List.length_map]
    have d1 : sm (W.map (·.1)) (fun n => g (headsL n (row n) ((endsAt W n).map fun e => row e.1)) 1) = 2 * ((tiesL W).length : Int) := by
      refine (sm_congr (g := fun n => ((endsAt W n).length : Int)) fun n _ => by show ((((endsAt W n).map fun e => row e.1).length : Nat) : Int) = _; rw [List.length_map]).trans ?_
      rw [sm_nat, List.map_map, ties_len]
      have h1 := pairs_cnt sy
      have h2 := pairs_two h.gw
      have h3 : (W.map ((fun n => (endsAt W n).length) ∘ fun p => p.1)).sum = (W.map fun p => (endsAt W p.1).length).sum := rfl
      rw [h3, ← h1, h2]; omega
    have ends : ∀ n ∈ W.map (·.1), orderOf W n ≠ [] := fun n hn he => by
      have hnon : endsAt W n = [] := List.map_eq_nil_iff.mp he
      have all : ∀ b ∈ W.map (·.1), b = n := fun b hb => by
        have := h.conn (fun m => decide (m = n)) (fun m x hx => by
          show decide (x.1 = n) = decide (m = n)
          have h1 : x.1 ≠ n := fun z => by
            have := sy.back m x hx
            rw [z, he] at this; cases this
          have h2 : m ≠ n := fun z => by rw [z, hnon] at hx; cases hx
          rw [decide_eq_false h1, decide_eq_false h2]) b hb n hn
        have h2 : decide (b = n) = decide (n = n) := this
        rw [decide_eq_true rfl] at h2
        exact of_decide_eq_true h2
      obtain ⟨p, hp⟩ := List.exists_mem_of_ne_nil _ hne
      have hp' := (mem_pairs sy).mp hp
      have := all p.1 (order_key sy hp').1
      rw [this, he] at hp'; cases hp'
    have d2 : sm (W.map (·.1)) (fun n => g (headsL n (row n) ((endsAt W n).map fun e => row e.1)) 2) = (((pairsOf W).filter fun p => decide (rlab row p = p)).length : Int) := by
      rw [pairs_filter, ← sm_nat]
      refine sm_congr fun n hn => ?_
      show leadL n (thr (row n)) = _
      rw [h.thr_eq hn]
      unfold leadL
      have : ((orderOf W n).map fun o => [o, (rlab row (n, o)).1, (rlab row (n, o)).2]).isEmpty = false := by
        cases e : orderOf W n with
        | nil => exact absurd e (ends n hn)
        | cons x l => rfl
      rw [this, if_neg Bool.false_ne_true, List.filter_map, List.length_map]
      congr 2
      refine List.filter_congr fun o _ => ?_
      show decide ([(rlab row (n, o)).1, (rlab row (n, o)).2] = [n, o]) = decide (rlab row (n, o) = (n, o))
      rw [Bool.eq_iff_iff, decide_eq_true_eq, decide_eq_true_eq]
      constructor
      · intro e
        have h1 := List.cons.inj e
        exact Prod.ext h1.1 (List.cons.inj h1.2).1
      · intro e; rw [e]
    have hl := leaders_le h.gw hne h.lab_behind
    rw [d0] at s0
    rw [d1] at s1
    rw [d2] at s2
    omega
end
end Bs
/-! Plain: rows on a web, webs crossed, parts. -/
namespace Bs
theorem right_of {W : Web} {RM : RowsM} (gw : GW W) (c : Conn W) (h1 : 1 ≤ W.length) (hk : ∀ k ∈ W.map (·.1), k ∈ RM.map (·.1)) (hr : ∀ n ∈ W.map (·.1), RowOk (rowOf RM n) ∧ (rowOf RM n).length = 7 + 3 * (endsAt W n).length) : RightOk W RM := by
  have sy := gw.sy
  refine ⟨face_ok gw, hk, ⟨fun n p hp e he => ?_, fun n p hp => ?_, sy.fit.len⟩, fun hno => ?_⟩
  · rw [← endsAt_lk hp] at he
    exact (sy.key n e he).2
  · have hn : n ∈ W.map (·.1) := lk_isSome.mp (by rw [hp]; rfl)
    obtain ⟨h2, h3⟩ := hr n hn
    have hd := sy.fit.deg n
    rw [endsAt_lk hp] at h3 hd
    exact ⟨h2, h3, hd⟩
  · refine all_yes_flat (row := rowOf RM) ⟨gw, c, hr, fun n hn => ?_⟩ h1
    unfold firstNo at hno
    rw [Option.isNone_iff_eq_none, List.find?_eq_none] at hno
    have := hno n (srt_mem.mpr hn)
    have h4 : sayN W (rowOf RM) n = true := by
      cases e : sayN W (rowOf RM) n with
      | true => rfl
      | false => exact absurd (show (!sayN W (rowOf RM) n) = true by rw [e]; rfl) this
    exact (sayB_iff _ _ _).mp h4
/-! ### crossed -/
theorem cross_keys (W : Web) (a b c d : Int) : (crossW W a b c d).map (·.1) = W.map (·.1) := by unfold crossW; rw [List.map_map]; rfl
theorem cross_ends (W : Web) (a b c d n : Int) : endsAt (crossW W a b c d) n = (endsAt W n).map fun e => (turn a b c d n e.1, e.2) := by
  unfold endsAt crossW
  rw [lk_map (fun k (p : Pl) => (p.1, p.2.map fun e => (turn a b c d k e.1, e.2)))]
  cases lk W n <;> rfl
theorem cross_order (W : Web) (a b c d n : Int) : orderOf (crossW W a b c d) n = (orderOf W n).map (turn a b c d n) := by
  unfold orderOf
  rw [cross_ends, List.map_map, List.map_map]; rfl
section
variable {W : Web} {a b c d : Int}
theorem turn_cases (n o : Int) : (n = a ∧ o = b ∧ turn a b c d n o = d) ∨ (n = d ∧ o = c ∧ ¬(n = a ∧ o = b) ∧ turn a b c d n o = a) ∨ (n = c ∧ o = d ∧ turn a b c d n o = b ∧ ¬(n = a ∧ o = b) ∧ ¬(n = d ∧ o = c)) ∨ (n = b ∧ o = a ∧ turn a b c d n o = c ∧ ¬(n = a ∧ o = b) ∧ ¬(n = d ∧ o = c) ∧ ¬(n = c ∧ o = d)) ∨
    (turn a b c d n o = o ∧ ¬(n = a ∧ o = b) ∧ ¬(n = d ∧ o = c) ∧ ¬(n = c ∧ o = d) ∧ ¬(n = b ∧ o = a)) := by
  unfold turn
  simp only [Prod.mk.injEq]
  by_cases h1 : n = a ∧ o = b
  · exact .inl ⟨h1.1, h1.2, if_pos h1⟩
  by_cases h2 : n = d ∧ o = c
  · exact .inr (.inl ⟨h2.1, h2.2, h1, by rw [if_neg h1, if_pos h2]⟩)
  by_cases h3 : n = c ∧ o = d
  · exact .inr (.inr (.inl ⟨h3.1, h3.2, by rw [if_neg h1, if_neg h2, if_pos h3], h1, h2⟩))
  by_cases h4 : n = b ∧ o = a
  · exact .inr (.inr (.inr (.inl ⟨h4.1, h4.2, by rw [if_neg h1, if_neg h2, if_neg h3, if_pos h4], h1, h2, h3⟩)))
  · exact .inr (.inr (.inr (.inr ⟨by rw [if_neg h1, if_neg h2, if_neg h3, if_neg h4], h1, h2, h3, h4⟩)))
structure CrossPre (W : Web) (a b c d : Int) : Prop where
  gw : GW W
  ab : b ∈ orderOf W a
  cd : d ∈ orderOf W c
  nd : [a, b, c, d].Nodup
  ad : d ∉ orderOf W a
  bc : c ∉ orderOf W b
theorem cross_gw (h : CrossPre W a b c d) : GW (crossW W a b c d) := by
  have sy := h.gw.sy
  have nd := h.nd
  simp only [List.nodup_cons, List.mem_cons, List.not_mem_nil, or_false, not_or, List.nodup_nil, and_true, not_false_eq_true] at nd
  obtain ⟨⟨nab, nac, nad⟩, ⟨nbc, nbd⟩, ncd⟩ := nd
  have ba := order_back sy h.ab
  have dc := order_back sy h.cd
  have da : a ∉ orderOf W d := fun z => h.ad (order_back sy z)
  have cb : b ∉ orderOf W c := fun z => h.bc (order_back sy z)
  have val : ∀ n o, o ∈ orderOf W n → n ∈ orderOf (crossW W a b c d) (turn a b c d n o) ∧ turn a b c d n o ∈ W.map (·.1) ∧ turn a b c d n o ≠ n := fun n o ho => by
    have ka := (order_key sy h.ab)
    have kc := (order_key sy h.cd)
    have put : ∀ m x, x ∈ orderOf W m → turn a b c d m x ∈ orderOf (crossW W a b c d) m := fun m x hx => by rw [cross_order]; exact List.mem_map.mpr ⟨x, hx, rfl⟩
    rcases turn_cases (a := a) (b := b) (c := c) (d := d) n o with ⟨rfl, rfl, e⟩ | ⟨rfl, rfl, _, e⟩ | ⟨rfl, rfl, e, _⟩ | ⟨rfl, rfl, e, _⟩ | ⟨e, h1, h2, h3, h4⟩
    · rw [e]
      refine ⟨?_, kc.2, Ne.symm nad⟩
      have := put d c dc
      have e2 : turn n o c d d c = n := by unfold turn; rw [if_neg (by simp; omega), if_pos rfl]
      rw [e2] at this; exact this
    · rw [e]
      refine ⟨?_, ka.1, nad⟩
      have := put a b h.ab
      have e2 : turn a b o n a b = n := by unfold turn; rw [if_pos rfl]
      rw [e2] at this; exact this
    · rw [e]
      refine ⟨?_, ka.2, nbc⟩
      have := put b a ba
      have e2 : turn a b n o b a = n := by unfold turn; rw [if_neg (by simp; omega), if_neg (by simp; omega), if_neg (by simp; omega), if_pos rfl]
      rw [e2] at this; exact this
    · rw [e]
      refine ⟨?_, kc.1, Ne.symm nbc⟩
      have := put c d h.cd
      have e2 : turn o n c d c d = n := by unfold turn; rw [if_neg (by simp; omega), if_neg (by simp; omega), if_pos rfl]
      rw [e2] at this; exact this
    · rw [e]
      refine ⟨?_, (order_key sy ho).2, fun z => h.gw.irr n (z ▸ ho)⟩
      have := put o n (order_back sy ho)
      have e2 : turn a b c d o n = n := by
        unfold turn
        simp only [Prod.mk.injEq]
        rw [if_neg (fun z => h4 ⟨z.2, z.1⟩), if_neg (fun z => h3 ⟨z.2, z.1⟩), if_neg (fun z => h2 ⟨z.2, z.1⟩), if_neg (fun z => h1 ⟨z.2, z.1⟩)]
      rw [e2] at this; exact this
  have mem : ∀ n e, e ∈ endsAt (crossW W a b c d) n → ∃ o ∈ orderOf W n, e.1 = turn a b c d n o := fun n e he => by
    rw [cross_ends] at he
    obtain ⟨x, hx, rfl⟩ := List.mem_map.mp he
    exact ⟨x.1, List.mem_map.mpr ⟨x, hx, rfl⟩, rfl⟩
  have few : ((crossW W a b c d).map fun p => (endsAt (crossW W a b c d) p.1).length) = W.map fun p => (endsAt W p.1).length := by
    have : ((crossW W a b c d).map fun p => (endsAt (crossW W a b c d) p.1).length) = ((crossW W a b c d).map (·.1)).map fun n => (endsAt (crossW W a b c d) n).length := by rw [List.map_map]; rfl
    rw [this, cross_keys, List.map_map]
    refine List.map_congr_left fun p _ => ?_
    show (endsAt (crossW W a b c d) p.1).length = _
    rw [cross_ends, List.length_map]
  refine ⟨⟨⟨by rw [cross_keys]; exact sy.fit.nd, by have := congrArg List.length (cross_keys W a b c d); rw [List.length_map, List.length_map] at this; have := sy.fit.len; omega, fun n => by rw [cross_ends, List.length_map]; exact sy.fit.deg n⟩, fun n e he => ?_, fun n e he => ?_, fun n => ?_⟩, fun n hn => ?_, by rw [few]; exact h.gw.few⟩
  · obtain ⟨o, ho, e1⟩ := mem n e he
    rw [cross_keys, e1]
    exact ⟨(order_key sy ho).1, (val n o ho).2.1⟩
  · obtain ⟨o, ho, e1⟩ := mem n e he
    rw [e1]; exact (val n o ho).1
  · rw [cross_order, List.Nodup, List.pairwise_map]
    refine List.Pairwise.imp_of_mem (fun {x y} hx hy hxy e => hxy ?_) (sy.nd n)
    rcases turn_cases (a := a) (b := b) (c := c) (d := d) n x with ⟨h1, h2, e1⟩ | ⟨h1, h2, _, e1⟩ | ⟨h1, h2, e1, _⟩ | ⟨h1, h2, e1, _⟩ | ⟨e1, _⟩ <;>
    rcases turn_cases (a := a) (b := b) (c := c) (d := d) n y with ⟨k1, k2, e2⟩ | ⟨k1, k2, _, e2⟩ | ⟨k1, k2, e2, _⟩ | ⟨k1, k2, e2, _⟩ | ⟨e2, _⟩ <;>
    rw [e1, e2] at e
    all_goals first
      | exact h2.trans k2.symm
      | (exfalso; omega)
      | exact e
      | (exfalso; rw [← e, h1] at hy; first | exact h.ad hy | exact da hy | exact cb hy | exact h.bc hy)
      | (exfalso; rw [e, k1] at hx; first | exact h.ad hx | exact da hx | exact cb hx | exact h.bc hx)
  · rw [cross_order] at hn
    obtain ⟨o, ho, e⟩ := List.mem_map.mp hn
    exact (val n o ho).2.2 e
end
end Bs
/-! Plain: parts of a web; a web drawn otherwise at one place. -/
namespace Bs
section
variable {V : Web} {ms : List Int}
theorem sub_keys (V : Web) (ms : List Int) : (subW V ms).map (·.1) = ms := by
  unfold subW; rw [List.map_map]
  show ms.map id = ms
  rw [List.map_id]
theorem sub_ends (nd : ms.Nodup) (n : Int) : endsAt (subW V ms) n = if n ∈ ms then endsAt V n else [] := by
  have hk := sub_keys V ms
  by_cases h : n ∈ ms
  · rw [if_pos h]
    have : lk (subW V ms) n = some ((lk V n).getD (0, [])) := lk_mem (by rw [hk]; exact nd) (List.mem_map.mpr ⟨n, h, rfl⟩)
    unfold endsAt
    rw [this]
    cases lk V n <;> rfl
  · rw [if_neg h]
    unfold endsAt
    rw [lk_none.mpr (by rw [hk]; exact h)]
theorem sub_gw (gw : GW V) (p : PartOk V ms) : GW (subW V ms) ∧ Conn (subW V ms) := by
  have sy := gw.sy
  have nd : ms.Nodup := p.pw.imp fun h e => by omega
  have hk := sub_keys V ms
  have he : ∀ n ∈ ms, endsAt (subW V ms) n = endsAt V n := fun n hn => by rw [sub_ends nd, if_pos hn]
  have hno : ∀ n, n ∉ ms → endsAt (subW V ms) n = [] := fun n hn => by rw [sub_ends nd, if_neg hn]
  have ho : ∀ n ∈ ms, orderOf (subW V ms) n = orderOf V n := fun n hn => by unfold orderOf; rw [he n hn]
  have inn : ∀ n e, e ∈ endsAt (subW V ms) n → n ∈ ms ∧ e ∈ endsAt V n := fun n e h => by
    by_cases hn : n ∈ ms
    · rw [he n hn] at h; exact ⟨hn, h⟩
    · rw [hno n hn] at h; cases h
  have hlen : (subW V ms).length = ms.length := by have := congrArg List.length hk; rwa [List.length_map] at this
  have hml : ms.length ≤ V.length := by
    have := nd.length_le_of_subset (l₂ := V.map (·.1)) fun x hx => p.key x hx
    rwa [List.length_map] at this
  have hVl := sy.fit.len
  have few : ((subW V ms).map fun p => (endsAt (subW V ms) p.1).length).sum ≤ (V.map fun p => (endsAt V p.1).length).sum := by
    have e1 : ((subW V ms).map fun p => (endsAt (subW V ms) p.1).length) = ms.map fun n => (endsAt V n).length := by
      have : ((subW V ms).map fun p => (endsAt (subW V ms) p.1).length) = ((subW V ms).map (·.1)).map fun n => (endsAt (subW V ms) n).length := by rw [List.map_map]; rfl
      rw [this, hk]
      exact List.map_congr_left fun n hn => by rw [he n hn]
    have e2 : (V.map fun p => (endsAt V p.1).length) = (V.map (·.1)).map fun n => (endsAt V n).length := by rw [List.map_map]; rfl
    rw [e1, e2]
    have hp : ms.Perm ((V.map (·.1)).filter fun n => decide (n ∈ ms)) := (List.perm_ext_iff_of_nodup nd (sy.fit.nd.sublist List.filter_sublist)).mpr fun n => by
      rw [List.mem_filter, decide_eq_true_eq]
      exact ⟨fun h => ⟨p.key n h, h⟩, fun h => h.2⟩
    rw [perm_sum (hp.map _)]
    induction V.map (·.1) with
    | nil => exact Nat.le_refl _
    | cons n l ih =>
      rw [List.filter_cons, List.map_cons, List.sum_cons]
      split
      · rw [List.map_cons, List.sum_cons]; omega
      · omega
  refine ⟨⟨⟨⟨by rw [hk]; exact nd, by omega, fun n => ?_⟩, fun n e h => ?_, fun n e h => ?_, fun n => ?_⟩, fun n h => ?_, Nat.le_trans few gw.few⟩, fun φ hφ x hx y hy => ?_⟩
  · rw [sub_ends nd]
    split
    · exact sy.fit.deg n
    · exact Nat.zero_le _
  · obtain ⟨h1, h2⟩ := inn n e h
    rw [hk]; exact ⟨h1, p.cl n h1 e h2⟩
  · obtain ⟨h1, h2⟩ := inn n e h
    rw [ho _ (p.cl n h1 e h2)]; exact sy.back n e h2
  · by_cases hn : n ∈ ms
    · rw [ho n hn]; exact sy.nd n
    · unfold orderOf; rw [hno n hn]; exact List.nodup_nil
  · by_cases hn : n ∈ ms
    · rw [ho n hn] at h; exact gw.irr n h
    · unfold orderOf at h; rw [hno n hn] at h; cases h
  · rw [hk] at hx hy
    have hfl : Flow V (fun n => decide (n ∈ ms) && φ n) := fun n e h => by
      show (decide (e.1 ∈ ms) && φ e.1) = (decide (n ∈ ms) && φ n)
      by_cases hn : n ∈ ms
      · have h1 := p.cl n hn e h
        rw [decide_eq_true hn, decide_eq_true h1, hφ n e (by rw [he n hn]; exact h)]
      · have h1 : e.1 ∉ ms := fun z => hn (by
          obtain ⟨e2, he2, h3⟩ := List.mem_map.mp (sy.back n e h)
          have := p.cl e.1 z e2 he2
          rw [h3] at this; exact this)
        rw [decide_eq_false hn, decide_eq_false h1]; rfl
    have := p.conn _ hfl x hx y hy
    have h2 : (decide (x ∈ ms) && φ x) = (decide (y ∈ ms) && φ y) := this
    rw [decide_eq_true hx, decide_eq_true hy] at h2
    exact h2
end
/-- the crossings of a web that the law made, on rows that fit it -/
theorem cross_ok {W : Web} {RM : RowsM} (gw : GW W) (h : RowsIn W RM) : CrossOk W RM := fun a b c d hab hcd nd had hbc => by
  have sy := gw.sy
  have cp : CrossPre W a b c d := ⟨gw, (mem_pairs sy).mp hab, (mem_pairs sy).mp hcd, nd, had, hbc⟩
  have gv := cross_gw cp
  refine ⟨gv.sy, fun ms p => ?_⟩
  obtain ⟨g2, c2⟩ := sub_gw gv p
  have hk := sub_keys (crossW W a b c d) ms
  have nd2 : ms.Nodup := p.pw.imp fun h e => by omega
  have hpk : ∀ n ∈ ms, n ∈ W.map (·.1) := fun n hn => by have := p.key n hn; rwa [cross_keys] at this
  refine right_of g2 c2 ?_ (fun k hk' => ?_) fun n hn => ?_
  · have hlen : (subW (crossW W a b c d) ms).length = ms.length := by have := congrArg List.length hk; rwa [List.length_map] at this
    rw [hlen]
    cases e : ms with
    | nil => exact absurd e p.ne
    | cons x l => simp
  · rw [hk] at hk'
    exact (h.2.1 k).mpr (hpk k hk')
  · rw [hk] at hn
    obtain ⟨h1, h2⟩ := h.2.2 n (hpk n hn)
    refine ⟨h1, ?_⟩
    rw [sub_ends nd2, if_pos hn, cross_ends, List.length_map]
    exact h2
theorem made_right {W : Web} {RM : RowsM} (m : WebMade W) (h : RowsIn W RM) : RightOk W RM :=
  right_of (gw_of m) m.conn m.one (fun k hk => (h.2.1 k).mpr hk) h.2.2
/-! ### drawn otherwise -/
section
variable {W : Web} {n : Int} {p : Pl} {es : List Nd}
theorem drawn_keys (h : lk W n = some p) (v : Pl) : (pt W n v).map (·.1) = W.map (·.1) := by
  rw [pt_keys, if_pos (lk_isSome.mp (by rw [h]; rfl))]
theorem drawn_ends (h : lk W n = some p) (m : Int) : endsAt (pt W n (p.1, es)) m = if m = n then es else endsAt W m := by
  unfold endsAt
  rw [lk_pt]
  by_cases e : m = n
  · rw [if_pos e, if_pos e]
  · rw [if_neg e, if_neg e]
theorem drawn_gw (gw : GW W) (h : lk W n = some p) (hp : es.Perm p.2) : GW (pt W n (p.1, es)) ∧ pairsOf (pt W n (p.1, es)) = pairsOf W := by
  have sy := gw.sy
  have hpe : ∀ m, (endsAt (pt W n (p.1, es)) m).Perm (endsAt W m) := fun m => by
    rw [drawn_ends h]
    split
    · rename_i e; rw [e, endsAt_lk h]; exact hp
    · exact List.Perm.refl _
  have hpo : ∀ m, (orderOf (pt W n (p.1, es)) m).Perm (orderOf W m) := fun m => (hpe m).map _
  have hk := drawn_keys h (p.1, es)
  have few : ((pt W n (p.1, es)).map fun q => (endsAt (pt W n (p.1, es)) q.1).length) = W.map fun q => (endsAt W q.1).length := by
    have e1 : ((pt W n (p.1, es)).map fun q => (endsAt (pt W n (p.1, es)) q.1).length) = ((pt W n (p.1, es)).map (·.1)).map fun m => (endsAt (pt W n (p.1, es)) m).length := by rw [List.map_map]; rfl
    rw [e1, hk, List.map_map]
    exact List.map_congr_left fun q _ => (hpe q.1).length_eq
  have hl : (pt W n (p.1, es)).length = W.length := by have := congrArg List.length hk; rwa [List.length_map, List.length_map] at this
  refine ⟨⟨⟨⟨by rw [hk]; exact sy.fit.nd, by rw [hl]; exact sy.fit.len, fun m => by rw [(hpe m).length_eq]; exact sy.fit.deg m⟩, fun m e he => ?_, fun m e he => ?_, fun m => (hpo m).nodup_iff.mpr (sy.nd m)⟩, fun m hm => gw.irr m ((hpo m).mem_iff.mp hm), by rw [few]; exact gw.few⟩, ?_⟩
  · rw [hk]; exact sy.key m e ((hpe m).mem_iff.mp he)
  · exact (hpo _).mem_iff.mpr (sy.back m e ((hpe m).mem_iff.mp he))
  · unfold pairsOf
    rw [hk]
    have hs : ∀ m, srt (orderOf (pt W n (p.1, es)) m) = srt (orderOf W m) := fun m => srt_uniq ((srt_perm _).trans (hpo m)) (srt_pw _)
    simp only [hs]
end
end Bs
/-! Plain: breadth first. -/
namespace Bs
theorem far_pt {L : Way} {k n : Int} {v : Int × Int} : far (pt L k v) n = if n = k then v.1 else far L n := by
  unfold far; rw [lk_pt]; split <;> rfl
theorem up_pt {L : Way} {k n : Int} {v : Int × Int} : up (pt L k v) n = if n = k then v.2 else up L n := by
  unfold up; rw [lk_pt]; split <;> rfl
structure BI (W : Web) (r : Int) (st : Way × List Int) : Prop where
  keys : st.1.map (·.1) = st.2
  nd : st.2.Nodup
  sub : ∀ x ∈ st.2, x ∈ W.map (·.1)
  root : r ∈ st.2 ∧ far st.1 r = 0 ∧ up st.1 r = r
  tree : ∀ x ∈ st.2, x ≠ r → up st.1 x ∈ st.2 ∧ x ∈ orderOf W (up st.1 x) ∧ far st.1 x = far st.1 (up st.1 x) + 1
  pos : ∀ x ∈ st.2, 0 ≤ far st.1 x ∧ far st.1 x < (st.2.length : Int)
theorem bi_step {W : Web} {r : Int} {st : Way × List Int} (h : BI W r st) {nm : Int} (hn : nm ∈ st.2) {e : Nd} (he : e.1 ∈ W.map (·.1)) (ho : e.1 ∈ orderOf W nm) : BI W r (growStep nm st e) ∧ (∀ x ∈ st.2, x ∈ (growStep nm st e).2) ∧ e.1 ∈ (growStep nm st e).2 ∧ ∃ t, (growStep nm st e).2 = st.2 ++ t := by
  unfold growStep
  by_cases hin : e.1 ∈ st.1.map (·.1)
  · rw [if_pos hin]
    exact ⟨h, fun _ h => h, by rw [← h.keys]; exact hin, [], by simp⟩
  · rw [if_neg hin]
    have hnew : e.1 ∉ st.2 := by rw [← h.keys]; exact hin
    have hne : ∀ x ∈ st.2, x ≠ e.1 := fun x hx z => hnew (z ▸ hx)
    have hlen : ((st.2 ++ [e.1]).length : Int) = (st.2.length : Int) + 1 := by rw [List.length_append, List.length_singleton]; omega
    refine ⟨⟨?_, ?_, ?_, ?_, ?_, ?_⟩, fun x hx => List.mem_append_left _ hx, List.mem_append_right _ (List.mem_singleton.mpr rfl), [e.1], rfl⟩
    · show (pt st.1 e.1 _).map (·.1) = st.2 ++ [e.1]
      rw [pt_new _ hin, List.map_append, h.keys]; rfl
    · show (st.2 ++ [e.1]).Nodup
      exact List.nodup_append.mpr ⟨h.nd, List.nodup_cons.mpr ⟨List.not_mem_nil, List.nodup_nil⟩, fun a ha b hb z => hnew (by rw [List.mem_singleton.mp hb] at z; exact z ▸ ha)⟩
    · intro x hx
      rcases List.mem_append.mp hx with hx | hx
      · exact h.sub x hx
      · rw [List.mem_singleton.mp hx]; exact he
    · refine ⟨List.mem_append_left _ h.root.1, ?_, ?_⟩
      · show far (pt st.1 e.1 _) r = 0
        rw [far_pt, if_neg (hne r h.root.1)]; exact h.root.2.1
      · show up (pt st.1 e.1 _) r = r
        rw [up_pt, if_neg (hne r h.root.1)]; exact h.root.2.2
    · intro x hx hxr
      show up (pt st.1 e.1 (far st.1 nm + 1, nm)) x ∈ st.2 ++ [e.1] ∧ x ∈ orderOf W (up (pt st.1 e.1 (far st.1 nm + 1, nm)) x) ∧ far (pt st.1 e.1 (far st.1 nm + 1, nm)) x = far (pt st.1 e.1 (far st.1 nm + 1, nm)) (up (pt st.1 e.1 (far st.1 nm + 1, nm)) x) + 1
      rcases List.mem_append.mp hx with hx | hx
      · obtain ⟨t1, t2, t3⟩ := h.tree x hx hxr
        rw [up_pt, if_neg (hne x hx), far_pt, if_neg (hne x hx), far_pt, if_neg (hne _ t1)]
        exact ⟨List.mem_append_left _ t1, t2, t3⟩
      · have : x = e.1 := List.mem_singleton.mp hx
        subst this
        rw [up_pt, if_pos rfl, far_pt, if_pos rfl, far_pt, if_neg (hne nm hn)]
        exact ⟨List.mem_append_left _ hn, ho, rfl⟩
    · intro x hx
      show 0 ≤ far (pt st.1 e.1 _) x ∧ far (pt st.1 e.1 _) x < ((st.2 ++ [e.1]).length : Int)
      rw [hlen]
      rcases List.mem_append.mp hx with hx | hx
      · have := h.pos x hx
        rw [far_pt, if_neg (hne x hx)]; omega
      · have : x = e.1 := List.mem_singleton.mp hx
        subst this
        have := h.pos nm hn
        rw [far_pt, if_pos rfl]
        show 0 ≤ far st.1 nm + 1 ∧ far st.1 nm + 1 < _
        omega
theorem bi_steps {W : Web} {r nm : Int} : ∀ (es : List Nd) (st : Way × List Int), BI W r st → nm ∈ st.2 → (∀ e ∈ es, e.1 ∈ W.map (·.1) ∧ e.1 ∈ orderOf W nm) →
    BI W r (es.foldl (growStep nm) st) ∧ (∀ e ∈ es, e.1 ∈ (es.foldl (growStep nm) st).2) ∧ ∃ t, (es.foldl (growStep nm) st).2 = st.2 ++ t
  | [], st, h, _, _ => ⟨h, fun e he => absurd he List.not_mem_nil, [], by simp⟩
  | e :: es, st, h, hn, he => by
    obtain ⟨b1, m1, i1, t1, e1⟩ := bi_step h hn (he e List.mem_cons_self).1 (he e List.mem_cons_self).2
    obtain ⟨b2, i2, t2, e2⟩ := bi_steps es _ b1 (m1 nm hn) fun x hx => he x (List.mem_cons_of_mem _ hx)
    rw [List.foldl_cons]
    refine ⟨b2, fun x hx => ?_, t1 ++ t2, by rw [e2, e1, List.append_assoc]⟩
    rcases List.mem_cons.mp hx with rfl | hx
    · rw [e2]; exact List.mem_append_left _ i1
    · exact i2 x hx
/-- with all that was walked through -/
structure BJ (W : Web) (r : Int) (i : Nat) (st : Way × List Int) : Prop where
  bi : BI W r st
  don : ∀ j, j < i → ∀ n, st.2[j]? = some n → ∀ o ∈ orderOf W n, o ∈ st.2
theorem closed_all {W : Web} (sy : Sym W) (c : Conn W) {row : List Int} {r : Int} (hr : r ∈ row) (hs : ∀ x ∈ row, x ∈ W.map (·.1)) (hc : ∀ n ∈ row, ∀ o ∈ orderOf W n, o ∈ row) : ∀ k ∈ W.map (·.1), k ∈ row := fun k hk => by
  have := c (fun n => decide (n ∈ row)) (fun n e he => by
    show decide (e.1 ∈ row) = decide (n ∈ row)
    have h1 : e.1 ∈ orderOf W n := List.mem_map.mpr ⟨e, he, rfl⟩
    rw [Bool.eq_iff_iff, decide_eq_true_eq, decide_eq_true_eq]
    exact ⟨fun z => hc _ z n (order_back sy h1), fun z => hc n z e.1 h1⟩) k hk r (hs r hr)
  have h2 : decide (k ∈ row) = decide (r ∈ row) := this
  rw [decide_eq_true hr] at h2
  exact of_decide_eq_true h2
theorem bj_all {W : Web} (sy : Sym W) (c : Conn W) {r : Int} (hr : r ∈ W.map (·.1)) : ∀ i, i ≤ W.length → BJ W r i (growSt W r i) ∧ (i < W.length → i < (growSt W r i).2.length)
  | i, hi => by
    have there : ∀ i, i < W.length → BJ W r i (growSt W r i) → i < (growSt W r i).2.length := fun i hi b => by
      refine Classical.byContradiction fun hn => ?_
      have cl : ∀ n ∈ (growSt W r i).2, ∀ o ∈ orderOf W n, o ∈ (growSt W r i).2 := fun n hn' o ho => by
        obtain ⟨j, hj⟩ := List.getElem?_of_mem hn'
        have := (List.getElem?_eq_some_iff.mp hj).1
        exact b.don j (by omega) n hj o ho
      have all := closed_all sy c b.bi.root.1 b.bi.sub cl
      have := sy.fit.nd.length_le_of_subset all
      rw [List.length_map] at this
      omega
    have b : BJ W r i (growSt W r i) := by
      induction i with
      | zero =>
        refine ⟨⟨rfl, List.nodup_cons.mpr ⟨List.not_mem_nil, List.nodup_nil⟩, fun x hx => by rw [List.mem_singleton.mp hx]; exact hr, ⟨List.mem_singleton.mpr rfl, ?_, ?_⟩, fun x hx hx2 => absurd (List.mem_singleton.mp hx) hx2, fun x hx => ?_⟩, fun j hj => absurd hj (Nat.not_lt_zero j)⟩
        · show far [(r, (0, r))] r = 0
          unfold far; rw [lk_cons_pos rfl]; rfl
        · show up [(r, (0, r))] r = r
          unfold up; rw [lk_cons_pos rfl]; rfl
        · rw [List.mem_singleton.mp hx]
          show 0 ≤ far [(r, (0, r))] r ∧ far [(r, (0, r))] r < 1
          unfold far; rw [lk_cons_pos rfl]
          show (0 : Int) ≤ 0 ∧ (0 : Int) < 1
          omega
      | succ i ih =>
        have b := ih (by omega)
        have hlt := there i (by omega) b
        rw [growSt_succ]
        unfold growTurn
        have hnm : (growSt W r i).2[i]? = some ((growSt W r i).2.getD i 0) := by rw [List.getD_eq_getElem?_getD, List.getElem?_eq_getElem hlt]; rfl
        generalize growSt W r i = st at b hlt hnm
        generalize st.2.getD i 0 = nm at hnm
        have hmem := List.mem_of_getElem? hnm
        obtain ⟨b2, i2, t, et⟩ := bi_steps (nm := nm) (endsAt W nm) st b.bi hmem fun e he => ⟨(sy.key nm e he).2, List.mem_map.mpr ⟨e, he, rfl⟩⟩
        refine ⟨b2, fun j hj n hn o ho => ?_⟩
        rw [et] at hn
        by_cases hjl : j < st.2.length
        · rw [List.getElem?_append_left hjl] at hn
          by_cases hji : j < i
          · rw [et]; exact List.mem_append_left _ (b.don j hji n hn o ho)
          · have : j = i := by omega
            subst this
            rw [hnm] at hn
            cases hn
            obtain ⟨e, he, rfl⟩ := List.mem_map.mp ho
            exact i2 e he
        · omega
    exact ⟨b, fun h => there i h b⟩
end Bs
/-! Plain: all of breadth first; roots, one or two. -/
namespace Bs
/-- the whole of it -/
structure GAll (W : Web) (r : Int) : Prop where
  nd : ((grown W r).map (·.1)).Nodup
  key : ∀ n, n ∈ (grown W r).map (·.1) ↔ n ∈ W.map (·.1)
  root : far (grown W r) r = 0 ∧ up (grown W r) r = r
  tree : ∀ x ∈ W.map (·.1), x ≠ r → up (grown W r) x ∈ W.map (·.1) ∧ x ∈ orderOf W (up (grown W r) x) ∧ far (grown W r) x = far (grown W r) (up (grown W r) x) + 1
  pos : ∀ x ∈ W.map (·.1), 0 ≤ far (grown W r) x ∧ far (grown W r) x < W.length
theorem g_all {W : Web} (sy : Sym W) (c : Conn W) {r : Int} (hr : r ∈ W.map (·.1)) : GAll W r := by
  have b := (bj_all sy c hr W.length (Nat.le_refl _)).1
  have hl : (growSt W r W.length).2.length ≤ W.length := by
    have := b.bi.nd.length_le_of_subset b.bi.sub
    rwa [List.length_map] at this
  have all : ∀ k ∈ W.map (·.1), k ∈ (growSt W r W.length).2 := closed_all sy c b.bi.root.1 b.bi.sub fun n hn o ho => by
    obtain ⟨j, hj⟩ := List.getElem?_of_mem hn
    have := (List.getElem?_eq_some_iff.mp hj).1
    exact b.don j (by omega) n hj o ho
  have hk : (grown W r).map (·.1) = (growSt W r W.length).2 := b.bi.keys
  refine ⟨hk ▸ b.bi.nd, fun n => by rw [hk]; exact ⟨b.bi.sub n, all n⟩, b.bi.root.2, fun x hx hne => ?_, fun x hx => ?_⟩
  · obtain ⟨t1, t2, t3⟩ := b.bi.tree x (all x hx) hne
    exact ⟨b.bi.sub _ t1, t2, t3⟩
  · have := b.bi.pos x (all x hx)
    exact ⟨this.1, by show far (growSt W r W.length).1 x < _; omega⟩
theorem grow_ok {W : Web} (sy : Sym W) (c : Conn W) {r : Int} (hr : r ∈ W.map (·.1)) : GrowOk W r :=
  ⟨hr, fun n p hp e he => (sy.key n e (by rw [endsAt_lk hp]; exact he)).2, fun i hi => (bj_all sy c hr i (by omega)).2 hi⟩
theorem far0 {W : Web} {r : Int} (a : GAll W r) {x : Int} (hx : x ∈ W.map (·.1)) : far (grown W r) x = 0 ↔ x = r := by
  refine ⟨fun h => Classical.byContradiction fun hne => ?_, fun h => h ▸ a.root.1⟩
  obtain ⟨t1, t2, t3⟩ := a.tree x hx hne
  have := (a.pos _ t1).1
  omega
theorem way_one {W : Web} (hf : Fit W) {r : Int} (hr : r ∈ W.map (·.1)) (a : GAll W r) : WayOk W (grown W r) := by
  refine ⟨a.nd, a.key, fun n hn => ?_, fun n hn h => ?_⟩
  · have h1 := a.pos n hn
    have := hf.len
    refine ⟨h1.1, by omega, ?_⟩
    by_cases e : n = r
    · rw [e, a.root.2]; exact hr
    · exact (a.tree n hn e).1
  · have : n ≠ r := fun e => by rw [e, a.root.1] at h; omega
    rw [(a.tree n hn this).2.2]; omega
theorem mix_lk {W : Web} {A B : Way} {n : Int} (hn : n ∈ W.map (·.1)) : lk (mixW W A B) n = some (if far B n < far A n then (lk B n).getD (0, 0) else (lk A n).getD (0, 0)) := by
  unfold mixW
  rw [lk_map (fun k (_ : Pl) => if far B k < far A k then (lk B k).getD (0, 0) else (lk A k).getD (0, 0))]
  obtain ⟨p, hp⟩ := lk_keys hn
  rw [hp]; rfl
theorem mix_far {W : Web} {A B : Way} {n : Int} (hn : n ∈ W.map (·.1)) : far (mixW W A B) n = if far B n < far A n then far B n else far A n := by
  show ((lk (mixW W A B) n).getD (0, 0)).1 = _
  rw [mix_lk hn]
  show (if far B n < far A n then (lk B n).getD (0, 0) else (lk A n).getD (0, 0)).1 = _
  split
  · rfl
  · rfl
theorem mix_up {W : Web} {A B : Way} {n : Int} (hn : n ∈ W.map (·.1)) : up (mixW W A B) n = if far B n < far A n then up B n else up A n := by
  unfold up
  rw [mix_lk hn]
  show (if far B n < far A n then (lk B n).getD (0, 0) else (lk A n).getD (0, 0)).2 = _
  split <;> rfl
theorem way_mix {W : Web} (hf : Fit W) {A B : Way} (a : WayOk W A) (b : WayOk W B) : WayOk W (mixW W A B) := by
  have hk : (mixW W A B).map (·.1) = W.map (·.1) := keys_mapW W _
  refine ⟨hk ▸ hf.nd, fun n => by rw [hk], fun n hn => ?_, fun n hn h => ?_⟩
  · have h1 := a.pos n hn
    have h2 := b.pos n hn
    rw [mix_far hn, mix_up hn]
    split
    · exact h2
    · exact h1
  · have h1 := a.pos n hn
    have h2 := b.pos n hn
    rw [mix_far hn] at h ⊢
    rw [mix_up hn]
    split
    · rename_i hc
      rw [if_pos hc] at h
      have := b.down n hn h
      rw [mix_far h2.2.2]
      split <;> omega
    · rename_i hc
      rw [if_neg hc] at h
      have := a.down n hn h
      rw [mix_far h1.2.2]
      split <;> omega
theorem way_parts {W : Web} (sy : Sym W) (c : Conn W) {a b : Int} (ha : a ∈ W.map (·.1)) (hb : b ∈ W.map (·.1)) : WayOk W (rootParts W a b) := by
  have h1 := way_one sy.fit ha (g_all sy c ha)
  have h2 := way_one sy.fit hb (g_all sy c hb)
  unfold rootParts
  split
  · exact h1
  · exact way_mix sy.fit h1 h2
theorem rows_pre {W Wd : Web} (m : WebMade W) (g : GW Wd) (hp : pairsOf Wd = pairsOf W) : RowsPre W Wd :=
  ⟨m.sy.fit, m.one, face_ok g, fun n hn e he => by rw [hp]; exact (mem_pairs m.sy).mpr (List.mem_map.mpr ⟨e, he, rfl⟩), fun r hr => ⟨grow_ok m.sy m.conn hr, fun n hn => ((g_all m.sy m.conn hr).key n).mpr hn⟩, fun a ha b hb => way_parts m.sy m.conn ha hb⟩
theorem pf_pre : ∀ W, WebMade W → RowsPre W W := fun W m => rows_pre m (gw_of m) rfl
theorem pf_drawn : ∀ W n p es, WebMade W → lk W n = some p → es.Perm p.2 → RowsPre W (pt W n (p.1, es)) := fun W n p es m h hp => rows_pre m (drawn_gw (gw_of m) h hp).1 (drawn_gw (gw_of m) h hp).2
theorem pf_sub0 : ∀ W, WebMade W → ∀ q ∈ pairsOf W, q.1 ∈ W.map (·.1) ∧ q.2 ∈ W.map (·.1) := fun W m q hq => order_key m.sy ((mem_pairs m.sy).mp hq)
theorem pf_sub : ∀ W n p es, WebMade W → lk W n = some p → es.Perm p.2 → ∀ q ∈ pairsOf (pt W n (p.1, es)), q.1 ∈ W.map (·.1) ∧ q.2 ∈ W.map (·.1) := fun W n p es m h hp q hq => pf_sub0 W m q ((drawn_gw (gw_of m) h hp).2 ▸ hq)
theorem pf_few : ∀ W, WebMade W → (pairsOf W).length ≤ 100 := fun W m => by
  rw [pairs_cnt m.sy]
  have := m.few
  omega
end Bs
/-! Plain: sums from below. -/
namespace Bs
theorem nv_pt {m : Nums} {k n v : Int} : nv (pt m k v) n = if n = k then v else nv m n := by
  unfold nv; rw [lk_pt]; split <;> rfl
/-- what is summed so far -/
def SumI (L : Way) (nums acc : Nums) (D : Int → Bool) : Prop := ∀ n ∈ L.map (·.1), nv acc n = nv nums n + sm (L.map (·.1)) (fun o => if (D o && decide (up L o = n)) = true then nv acc o else 0)
theorem sum_step {L : Way} (nd : (L.map (·.1)).Nodup) {nums acc : Nums} {D : Int → Bool} (h : SumI L nums acc D) {m : Int} (hm : m ∈ L.map (·.1)) (hD : D m = false) (hk : ∀ o ∈ L.map (·.1), D o = true → far L m ≤ far L o) (hup : far L (up L m) < far L m) :
    SumI L nums (pt acc (up L m) (nv acc (up L m) + nv acc m)) (fun o => D o || decide (o = m)) := fun n hn => by
  have e1 : sm (L.map (·.1)) (fun o => if ((D o || decide (o = m)) && decide (up L o = n)) = true then nv (pt acc (up L m) (nv acc (up L m) + nv acc m)) o else 0)
      = sm (L.map (·.1)) (fun o => (if (D o && decide (up L o = n)) = true then nv acc o else 0) + (if decide (o = m) = true then (if up L m = n then nv acc m else 0) else 0)) := by
    refine sm_congr fun o ho => ?_
    rw [nv_pt]
    by_cases e : o = m
    · subst e
      rw [if_neg (c := o = up L o) (fun z => by rw [← z] at hup; omega), hD]
      by_cases u : up L o = n <;> simp [u]
    · cases hd : D o with
      | false => simp [e]
      | true =>
        have := hk o ho hd
        rw [if_neg (c := o = up L m) (fun z => by rw [← z] at hup; omega)]
        simp [e]
  rw [e1, sm_add, sm_one (p := fun o => decide (o = m)) nd hm fun o _ => by rw [decide_eq_true_eq], nv_pt]
  have := h n hn
  by_cases u : n = up L m
  · rw [if_pos u, if_pos u.symm]
    subst u
    omega
  · rw [if_neg u, if_neg fun z => u z.symm]
    omega
theorem sum_names {L : Way} (nd : (L.map (·.1)).Nodup) (hup : ∀ m ∈ L.map (·.1), 0 < far L m → far L (up L m) < far L m) {nums : Nums} {k : Int} (hk : 0 < k) : ∀ (ns : List Int) (acc : Nums) (D : Int → Bool) (don : List Int), SumI L nums acc D →
    (∀ o ∈ L.map (·.1), D o = true ↔ k < far L o ∨ far L o = k ∧ o ∈ don) → (∀ x ∈ ns, x ∈ L.map (·.1) ∧ x ∉ don) → ns.Nodup →
    ∃ D', SumI L nums (ns.foldl (sumName L k) acc) D' ∧ ∀ o ∈ L.map (·.1), D' o = true ↔ k < far L o ∨ far L o = k ∧ (o ∈ don ∨ o ∈ ns)
  | [], acc, D, don, h, hD, _, _ => ⟨D, h, fun o ho => by rw [hD o ho]; simp⟩
  | m :: ns, acc, D, don, h, hD, hs, hnd => by
    obtain ⟨hm, hmd⟩ := hs m List.mem_cons_self
    obtain ⟨n1, n2⟩ := List.nodup_cons.mp hnd
    rw [List.foldl_cons]
    by_cases e : far L m = k
    · have h1 : sumName L k acc m = pt acc (up L m) (nv acc (up L m) + nv acc m) := by unfold sumName; rw [if_pos e]
      rw [h1]
      have hDm : D m = false := by
        cases hd : D m with
        | false => rfl
        | true =>
          rcases (hD m hm).mp hd with z | ⟨_, z⟩
          · omega
          · exact absurd z hmd
      obtain ⟨D', i1, i2⟩ := sum_names nd hup hk ns _ (fun o => D o || decide (o = m)) (m :: don) (sum_step nd h hm hDm (fun o ho hd => by rcases (hD o ho).mp hd with z | z <;> omega) (hup m hm (by omega)))
        (fun o ho => by
          rw [Bool.or_eq_true, decide_eq_true_eq, hD o ho, List.mem_cons]
          constructor
          · rintro ((z | ⟨z1, z2⟩) | rfl)
            · exact .inl z
            · exact .inr ⟨z1, .inr z2⟩
            · exact .inr ⟨e, .inl rfl⟩
          · rintro (z | ⟨z1, z2 | z2⟩)
            · exact .inl (.inl z)
            · exact .inr z2
            · exact .inl (.inr ⟨z1, z2⟩)) (fun x hx => ⟨(hs x (List.mem_cons_of_mem _ hx)).1, fun z => by
              rcases List.mem_cons.mp z with rfl | z
              · exact n1 hx
              · exact (hs x (List.mem_cons_of_mem _ hx)).2 z⟩) n2
      refine ⟨D', i1, fun o ho => ?_⟩
      rw [i2 o ho, List.mem_cons, List.mem_cons, or_assoc, or_left_comm]
    · have h1 : sumName L k acc m = acc := by unfold sumName; rw [if_neg e]
      rw [h1]
      obtain ⟨D', i1, i2⟩ := sum_names nd hup hk ns acc D don h hD (fun x hx => hs x (List.mem_cons_of_mem _ hx)) n2
      refine ⟨D', i1, fun o ho => ?_⟩
      rw [i2 o ho, List.mem_cons]
      constructor
      · rintro (z | ⟨z1, z2 | z2⟩)
        · exact .inl z
        · exact .inr ⟨z1, .inl z2⟩
        · exact .inr ⟨z1, .inr (.inr z2)⟩
      · rintro (z | ⟨z1, z2 | rfl | z2⟩)
        · exact .inl z
        · exact .inr ⟨z1, .inl z2⟩
        · exact absurd z1 e
        · exact .inr ⟨z1, .inr z2⟩
theorem sum_turn {L : Way} (nd : (L.map (·.1)).Nodup) (hup : ∀ m ∈ L.map (·.1), 0 < far L m → far L (up L m) < far L m) {nums acc : Nums} {k : Int} (hk : 0 < k) {D : Int → Bool} (h : SumI L nums acc D) (hD : ∀ o ∈ L.map (·.1), D o = true ↔ k < far L o) :
    ∃ D', SumI L nums (sumTurn L acc k) D' ∧ ∀ o ∈ L.map (·.1), D' o = true ↔ k - 1 < far L o := by
  obtain ⟨D', i1, i2⟩ := sum_names nd hup hk (L.map (·.1)) acc D [] h (fun o ho => by rw [hD o ho]; simp) (fun x hx => ⟨hx, List.not_mem_nil⟩) nd
  refine ⟨D', i1, fun o ho => ?_⟩
  rw [i2 o ho]
  constructor
  · rintro (z | ⟨z, _⟩) <;> omega
  · intro z
    by_cases e : far L o = k
    · exact .inr ⟨e, .inr ho⟩
    · exact .inl (by omega)
theorem sum_turns {L : Way} (nd : (L.map (·.1)).Nodup) (hup : ∀ m ∈ L.map (·.1), 0 < far L m → far L (up L m) < far L m) (hlt : ∀ m ∈ L.map (·.1), far L m ≤ L.length) (nums : Nums) : ∀ i, i ≤ L.length →
    ∃ D, SumI L nums ((List.range i).foldl (fun acc (i : Nat) => sumTurn L acc ((L.length : Int) - (i : Int))) nums) D ∧ ∀ o ∈ L.map (·.1), D o = true ↔ (L.length : Int) - i < far L o
  | 0, _ => ⟨fun _ => false, fun n hn => by
      rw [sm_congr (g := fun _ => 0) fun o _ => by simp, sm_zero]
      show nv nums n = _
      omega, fun o ho => by have := hlt o ho; simp; omega⟩
  | i + 1, hi => by
    obtain ⟨D, h, hD⟩ := sum_turns nd hup hlt nums i (by omega)
    rw [List.range_succ, List.foldl_append]
    obtain ⟨D', i1, i2⟩ := sum_turn nd hup (k := (L.length : Int) - (i : Int)) (by omega) h hD
    refine ⟨D', i1, fun o ho => ?_⟩
    rw [i2 o ho]
    have : (((i + 1 : Nat)) : Int) = (i : Int) + 1 := by omega
    rw [this]; omega
/-- each place's sum: its own and those right below -/
theorem sums_eq {L : Way} (nd : (L.map (·.1)).Nodup) (hup : ∀ m ∈ L.map (·.1), 0 < far L m → far L (up L m) < far L m) (hlt : ∀ m ∈ L.map (·.1), far L m ≤ L.length) (nums : Nums) {n : Int} (hn : n ∈ L.map (·.1)) :
    nv (sumsL L nums) n = nv nums n + sm ((L.map (·.1)).filter fun o => decide (0 < far L o) && decide (up L o = n)) (fun o => nv (sumsL L nums) o) := by
  obtain ⟨D, h, hD⟩ := sum_turns nd hup hlt nums L.length (Nat.le_refl _)
  have := h n hn
  rw [show nv (sumsL L nums) n = _ from this, sm_filter]
  congr 1
  refine sm_congr fun o ho => ?_
  have e : D o = decide (0 < far L o) := by
    rw [Bool.eq_iff_iff, hD o ho, decide_eq_true_eq]; omega
  rw [e]; rfl
end Bs
/-! Plain: the sums are small; the rows fit. -/
namespace Bs
theorem sm_nonneg {α : Type} {f : α → Int} : ∀ {l : List α}, (∀ x ∈ l, 0 ≤ f x) → 0 ≤ sm l f
  | [], _ => by rw [sm_nil]; omega
  | x :: l, h => by
    rw [sm_cons]
    have h1 := h x List.mem_cons_self
    have h2 := sm_nonneg fun y hy => h y (List.mem_cons_of_mem _ hy)
    omega
theorem sm_mem {α : Type} {f : α → Int} : ∀ {l : List α}, (∀ x ∈ l, 0 ≤ f x) → ∀ {x}, x ∈ l → f x ≤ sm l f
  | [], _, x, hx => absurd hx List.not_mem_nil
  | y :: l, h, x, hx => by
    rw [sm_cons]
    have h1 := h y List.mem_cons_self
    have h2 := sm_nonneg fun y hy => h y (List.mem_cons_of_mem _ hy)
    rcases List.mem_cons.mp hx with rfl | hx
    · omega
    · have := sm_mem (fun y hy => h y (List.mem_cons_of_mem _ hy)) hx
      omega
theorem sm_le {α : Type} {f g : α → Int} : ∀ {l : List α}, (∀ x ∈ l, f x ≤ g x) → sm l f ≤ sm l g
  | [], _ => by rw [sm_nil, sm_nil]; omega
  | x :: l, h => by
    rw [sm_cons, sm_cons]
    have h1 := h x List.mem_cons_self
    have h2 := sm_le fun y hy => h y (List.mem_cons_of_mem _ hy)
    omega
/-- a way with all its marks -/
structure WayS (L : Way) : Prop where
  nd : (L.map (·.1)).Nodup
  dn : ∀ m ∈ L.map (·.1), 0 < far L m → far L (up L m) < far L m
  upk : ∀ m ∈ L.map (·.1), up L m ∈ L.map (·.1)
  lt : ∀ m ∈ L.map (·.1), 0 ≤ far L m ∧ far L m ≤ L.length
theorem nn_step {L : Way} {k : Int} {acc : Nums} (h : ∀ n, 0 ≤ nv acc n) (m : Int) : ∀ n, 0 ≤ nv (sumName L k acc m) n := fun n => by
  unfold sumName
  split
  · rw [nv_pt]
    have h1 := h (up L m)
    have h2 := h m
    have h3 := h n
    split <;> omega
  · exact h n
theorem nn_names {L : Way} {k : Int} : ∀ (ns : List Int) (acc : Nums), (∀ n, 0 ≤ nv acc n) → ∀ n, 0 ≤ nv (ns.foldl (sumName L k) acc) n
  | [], _, h => h
  | m :: ns, acc, h => by rw [List.foldl_cons]; exact nn_names ns _ (nn_step h m)
theorem nn_turns {L : Way} : ∀ (is : List Nat) (acc : Nums), (∀ n, 0 ≤ nv acc n) → ∀ n, 0 ≤ nv (is.foldl (fun acc (i : Nat) => sumTurn L acc ((L.length : Int) - (i : Int))) acc) n
  | [], _, h => h
  | i :: is, acc, h => by rw [List.foldl_cons]; exact nn_turns is _ (nn_names _ _ h)
theorem sums_nn {L : Way} {nums : Nums} (h : ∀ n, 0 ≤ nv nums n) : ∀ n, 0 ≤ nv (sumsL L nums) n := nn_turns _ _ h
/-- what stands at the tops, in all -/
theorem sums_tops {L : Way} (w : WayS L) (nums : Nums) : sm ((L.map (·.1)).filter fun o => !decide (0 < far L o)) (nv (sumsL L nums)) = sm (L.map (·.1)) (nv nums) := by
  have h1 : sm (L.map (·.1)) (nv (sumsL L nums)) = sm (L.map (·.1)) (nv nums) + sm (L.map (·.1)) (fun n => sm ((L.map (·.1)).filter fun o => decide (0 < far L o) && decide (up L o = n)) (nv (sumsL L nums))) := by
    rw [← sm_add]
    exact sm_congr fun n hn => sums_eq w.nd w.dn (fun m hm => (w.lt m hm).2) nums hn
  have h2 : sm (L.map (·.1)) (fun n => sm ((L.map (·.1)).filter fun o => decide (0 < far L o) && decide (up L o = n)) (nv (sumsL L nums))) = sm (L.map (·.1)) (fun o => if decide (0 < far L o) = true then nv (sumsL L nums) o else 0) := by
    rw [sm_congr fun n _ => sm_filter _ _ _, sm_swap]
    refine sm_congr fun o ho => ?_
    by_cases e : 0 < far L o
    · rw [if_pos (decide_eq_true e)]
      refine sm_one (p := fun n => decide (0 < far L o) && decide (up L o = n)) w.nd (w.upk o ho) fun n _ => ?_
      rw [decide_eq_true e, Bool.true_and, decide_eq_true_eq]
      exact eq_comm
    · rw [decide_eq_false e]
      exact (sm_congr fun n _ => rfl).trans (sm_zero _)
  have h3 : sm (L.map (·.1)) (nv (sumsL L nums)) = sm (L.map (·.1)) (fun o => if decide (0 < far L o) = true then nv (sumsL L nums) o else 0) + sm ((L.map (·.1)).filter fun o => !decide (0 < far L o)) (nv (sumsL L nums)) := by
    rw [sm_filter, ← sm_add]
    refine sm_congr fun o _ => ?_
    cases decide (0 < far L o) <;> simp
  omega
theorem sums_le {L : Way} (w : WayS L) {nums : Nums} (h : ∀ n, 0 ≤ nv nums n) : ∀ (k : Nat) (n : Int), n ∈ L.map (·.1) → (far L n).toNat ≤ k → nv (sumsL L nums) n ≤ sm (L.map (·.1)) (nv nums)
  | k, n, hn, hk => by
    by_cases e : 0 < far L n
    · match k with
      | 0 => omega
      | k + 1 =>
        have h1 := w.dn n hn e
        have h2 := w.lt _ (w.upk n hn)
        have ih := sums_le w h k (up L n) (w.upk n hn) (by omega)
        have h3 := sums_eq w.nd w.dn (fun m hm => (w.lt m hm).2) nums (w.upk n hn)
        have h4 := sm_mem (f := nv (sumsL L nums)) (l := (L.map (·.1)).filter fun o => decide (0 < far L o) && decide (up L o = up L n)) (fun x _ => sums_nn h x) (x := n) (List.mem_filter.mpr ⟨hn, by rw [decide_eq_true e, decide_eq_true rfl]; rfl⟩)
        have h5 := h (up L n)
        have h6 : nv (sumsL L nums) (up L n) = nv nums (up L n) + sm ((L.map (·.1)).filter fun o => decide (0 < far L o) && decide (up L o = up L n)) (nv (sumsL L nums)) := h3
        omega
    · rw [← sums_tops w nums]
      exact sm_mem (fun x _ => sums_nn h x) (List.mem_filter.mpr ⟨hn, by rw [decide_eq_false e]; rfl⟩)
end Bs
/-! Plain: the rows fit. -/
namespace Bs
theorem far_len {W : Web} (m : WebMade W) {a b : Int} (ha : a ∈ W.map (·.1)) (hb : b ∈ W.map (·.1)) {n : Int} (hn : n ∈ W.map (·.1)) : far (rootParts W a b) n < W.length := by
  have h1 := ((g_all m.sy m.conn ha).pos n hn).2
  have h2 := ((g_all m.sy m.conn hb).pos n hn).2
  unfold rootParts
  split
  · exact h1
  · rw [mix_far hn]; split <;> assumption
theorem way_s {W : Web} (m : WebMade W) {a b : Int} (ha : a ∈ W.map (·.1)) (hb : b ∈ W.map (·.1)) : WayS (rootParts W a b) := by
  have w := way_parts m.sy m.conn ha hb
  have hl := wayOk_len m.sy.fit w
  refine ⟨w.nd, fun n hn h => w.down n ((w.key n).mp hn) h, fun n hn => (w.key _).mpr (w.pos n ((w.key n).mp hn)).2.2, fun n hn => ?_⟩
  have h1 := w.pos n ((w.key n).mp hn)
  have h2 := far_len m ha hb ((w.key n).mp hn)
  omega
theorem nv_mapW {W : Web} (f : Int → Int) (n : Int) : nv (W.map fun p => (p.1, f p.1)) n = if n ∈ W.map (·.1) then f n else 0 := by
  unfold nv
  rw [lk_map (fun k (_ : Pl) => f k)]
  split
  · rename_i h
    obtain ⟨p, hp⟩ := lk_keys h
    rw [hp]; rfl
  · rename_i h
    rw [lk_none.mpr h]; rfl
theorem sm_keys {W : Web} (f : Int → Int) : sm (W.map (·.1)) (nv (W.map fun p => (p.1, f p.1))) = sm (W.map (·.1)) f := sm_congr fun n hn => by rw [nv_mapW, if_pos hn]
theorem way_perm {W : Web} {L : Way} (hf : Fit W) (w : WayOk W L) : (L.map (·.1)).Perm (W.map (·.1)) := (List.perm_ext_iff_of_nodup w.nd hf.nd).mpr w.key
theorem degs_sum {W : Web} (m : WebMade W) : sm (W.map (·.1)) (fun n => ((endsAt W n).length : Int)) = (((W.map fun p => (endsAt W p.1).length).sum : Nat) : Int) := by
  rw [sm_nat (fun n => (endsAt W n).length), List.map_map]; rfl
theorem headN_le (W : Web) (Lb : Lab) (n : Int) : 0 ≤ headN W Lb n ∧ headN W Lb n ≤ 1 + ((endsAt W n).length : Int) := by
  unfold headN
  split
  · omega
  · have := List.length_filter_le (fun e : Nd => decide (labOf Lb (n, e.1) = (n, e.1))) (endsAt W n)
    omega
theorem heads_sum {W : Web} (m : WebMade W) (Lb : Lab) : 0 ≤ sm (W.map (·.1)) (headN W Lb) ∧ sm (W.map (·.1)) (headN W Lb) ≤ 30 := by
  refine ⟨sm_nonneg fun n _ => (headN_le W Lb n).1, ?_⟩
  have h1 := sm_le (l := W.map (·.1)) fun n _ => (headN_le W Lb n).2
  rw [sm_add, sm_const1, degs_sum m, List.length_map] at h1
  have := m.most
  have := m.few
  omega
theorem headsOf_nn {W : Web} (a : Int) (Lb : Lab) (p4 : Int) (n : Int) : 0 ≤ nv (headsOf W a Lb p4) n := by
  have h0 : 0 ≤ nv (heads0 W Lb) n := by
    unfold heads0
    rw [nv_mapW (headN W Lb)]
    split
    · exact (headN_le W Lb n).1
    · omega
  unfold headsOf
  split
  · rw [nv_pt]
    split
    · unfold mx0; split <;> omega
    · exact h0
  · exact h0
theorem headsOf_sum {W : Web} (m : WebMade W) {a : Int} (ha : a ∈ W.map (·.1)) (Lb : Lab) (p4 : Int) : sm (W.map (·.1)) (nv (headsOf W a Lb p4)) ≤ 100 := by
  have hs := heads_sum m Lb
  have e0 : sm (W.map (·.1)) (nv (heads0 W Lb)) = sm (W.map (·.1)) (headN W Lb) := sm_keys (headN W Lb)
  unfold headsOf
  split
  · have h1 : sm (W.map (·.1)) (nv (pt (heads0 W Lb) a (mx0 (nv (heads0 W Lb) a + lacks W (heads0 W Lb))))) ≤ sm (W.map (·.1)) (fun n => nv (heads0 W Lb) n + if decide (n = a) = true then 50 else 0) := by
      refine sm_le fun n hn => ?_
      have hle : nv (heads0 W Lb) a ≤ 30 := by
        have := sm_mem (f := nv (heads0 W Lb)) (l := W.map (·.1)) (fun x _ => by have := headsOf_nn (W := W) a Lb 1 x; unfold headsOf at this; rwa [if_neg (by decide)] at this) ha
        omega
      have hl : lacks W (heads0 W Lb) ≤ 13 - sm (W.map (·.1)) (nv (heads0 W Lb)) := by
        have h2 : (W.map fun p => ((endsAt W p.1).length : Int)).sum = (((W.map fun p => (endsAt W p.1).length).sum : Nat) : Int) := by
          rw [← degs_sum m]; unfold sm; rw [List.map_map]; rfl
        have h3 : (W.map fun p => nv (heads0 W Lb) p.1).sum = sm (W.map (·.1)) (nv (heads0 W Lb)) := by unfold sm; rw [List.map_map]; rfl
        unfold lacks
        rw [h2, h3]
        have := m.few
        have := m.one
        rw [Int.fdiv_eq_ediv_of_nonneg _ (by decide)]
        omega
      have hb : nv (heads0 W Lb) a ≤ sm (W.map (·.1)) (nv (heads0 W Lb)) := sm_mem (f := nv (heads0 W Lb)) (l := W.map (·.1)) (fun x _ => by have := headsOf_nn (W := W) a Lb 1 x; unfold headsOf at this; rwa [if_neg (by decide)] at this) ha
      have hnn : 0 ≤ nv (heads0 W Lb) a := by have := headsOf_nn (W := W) a Lb 1 a; unfold headsOf at this; rwa [if_neg (by decide)] at this
      rw [nv_pt]
      by_cases e : n = a
      · subst e
        rw [if_pos rfl, if_pos (decide_eq_true rfl)]
        unfold mx0
        split <;> omega
      · rw [if_neg e, if_neg (fun z => e (of_decide_eq_true z))]; omega
    rw [sm_add, sm_one (p := fun n => decide (n = a)) m.sy.fit.nd ha fun n _ => by rw [decide_eq_true_eq]] at h1
    omega
  · omega
theorem topGo_key {W : Web} {L : Way} (w : WayOk W L) : ∀ (k : Nat) (n : Int), n ∈ W.map (·.1) → topGo L k n ∈ W.map (·.1)
  | 0, n, hn => hn
  | k + 1, n, hn => by
    unfold topGo
    split
    · exact topGo_key w k _ (w.pos n hn).2.2
    · exact hn
theorem rowOf_L {W : Web} {L : Way} {Lb : Lab} {H : Nums} {n : Int} (hn : n ∈ W.map (·.1)) : rowOf (rowsL W L Lb H) n = rowL W L Lb (sums3 W L H) n := by
  unfold rowOf rowsL
  rw [lk_map (fun k (_ : Pl) => rowL W L Lb (sums3 W L H) k)]
  obtain ⟨p, hp⟩ := lk_keys hn
  rw [hp]; rfl
theorem row_len (W : Web) (L : Way) (Lb : Lab) (H : Nums) (n : Int) : (rowL W L Lb (sums3 W L H) n).length = 7 + 3 * (endsAt W n).length := by
  unfold rowL sums3
  rw [List.length_append, List.length_append, List.length_flatMap]
  have : ((endsAt W n).map fun e : Nd => ([e.1, (labOf Lb (n, e.1)).1, (labOf Lb (n, e.1)).2] : List Int).length) = (endsAt W n).map fun _ => 3 := rfl
  rw [this, List.map_const', List.sum_replicate_nat]
  show 4 + 3 + _ = _
  omega
theorem pf_rows : ∀ W Wd a b Lb p3 p4, WebMade W → RowsPre W Wd → (∀ q ∈ pairsOf Wd, q.1 ∈ W.map (·.1) ∧ q.2 ∈ W.map (·.1)) → a ∈ W.map (·.1) → b ∈ W.map (·.1) → LabOk Wd p3 Lb (pairsOf Wd) → RowsIn W (rowsL W (rootParts W a b) Lb (headsOf W a Lb p4)) := by
  intro W Wd a b Lb p3 p4 m pre hq ha hb hLb
  have w := way_parts m.sy m.conn ha hb
  have ws := way_s m ha hb
  have hk : (rowsL W (rootParts W a b) Lb (headsOf W a Lb p4)).map (·.1) = W.map (·.1) := keys_mapW W _
  have pm := way_perm m.sy.fit w
  refine ⟨hk ▸ m.sy.fit.nd, fun n => by rw [hk], fun n hn => ?_⟩
  rw [rowOf_L hn]
  refine ⟨fun x hx => ?_, row_len _ _ _ _ _⟩
  have rk : ∀ k ∈ W.map (·.1), 0 ≤ k ∧ k < 4096 := m.range
  have one : ∀ nums : Nums, (∀ n, 0 ≤ nv nums n) → sm (W.map (·.1)) (nv nums) ≤ 100 → 0 ≤ nv (sumsL (rootParts W a b) nums) n ∧ nv (sumsL (rootParts W a b) nums) n < 4096 := fun nums h1 h2 => by
    have h3 := sums_le ws h1 _ n ((w.key n).mpr hn) (Nat.le_refl _)
    rw [sm_perm pm] at h3
    have := sums_nn (L := rootParts W a b) h1 n
    omega
  unfold rowL at hx
  rw [List.mem_append, List.mem_append] at hx
  rcases hx with (hx | hx) | hx
  · have h1 := w.pos n hn
    simp only [List.mem_cons, List.not_mem_nil, or_false] at hx
    rcases hx with rfl | rfl | rfl | rfl
    · exact rk _ hn
    · exact rk _ (topGo_key w 64 n hn)
    · omega
    · exact rk _ h1.2.2
  · unfold sums3 at hx
    simp only [List.map_cons, List.map_nil, List.mem_cons, List.not_mem_nil, or_false] at hx
    rcases hx with rfl | rfl | rfl
    · refine one _ (fun k => ?_) ?_
      · unfold ones; rw [nv_mapW (fun _ => 1)]; split <;> omega
      · have : sm (W.map (·.1)) (nv (ones W)) = sm (W.map (·.1)) (fun _ => 1) := sm_keys (W := W) (fun _ => 1)
        rw [this, sm_const1, List.length_map]
        have := m.most
        omega
    · refine one _ (fun k => ?_) ?_
      · unfold degs; rw [nv_mapW (fun k => ((endsAt W k).length : Int))]; split <;> omega
      · have : sm (W.map (·.1)) (nv (degs W)) = sm (W.map (·.1)) (fun k => ((endsAt W k).length : Int)) := sm_keys (W := W) (fun k => ((endsAt W k).length : Int))
        rw [this, degs_sum m]
        have := m.few
        omega
    · exact one _ (headsOf_nn a Lb p4) (headsOf_sum m ha Lb p4)
  · obtain ⟨e, he, hx⟩ := List.mem_flatMap.mp hx
    have hp := pre.pairs n hn e he
    obtain ⟨q, hq1, hq2, _⟩ := hLb _ hp
    have hl : labOf Lb (n, e.1) = q := by unfold labOf; rw [hq1]; rfl
    rw [hl] at hx
    have h2 := hq q hq2
    simp only [List.mem_cons, List.not_mem_nil, or_false] at hx
    rcases hx with rfl | rfl | rfl
    · exact rk _ (m.sy.key n e he).2
    · exact rk _ h2.1
    · exact rk _ h2.2
end Bs
/-! Plain: on a flat web the plain rows get a yes from all. -/
namespace Bs
theorem drop_flat {α : Type} (f : α → Int × Int × Int) : ∀ (l : List α) (k : Nat), k < l.length → ((l.flatMap fun e => [(f e).1, (f e).2.1, (f e).2.2]).drop (3 * k)).take 3 = (l.map fun e => [(f e).1, (f e).2.1, (f e).2.2]).getD k []
  | [], k, h => absurd h (Nat.not_lt_zero k)
  | x :: l, 0, _ => rfl
  | x :: l, k + 1, h => by
    have ih := drop_flat f l k (Nat.lt_of_succ_lt_succ h)
    rw [List.flatMap_cons, Nat.mul_succ]
    exact ih
theorem thr_row {W : Web} (L : Way) (Lb : Lab) (H : Nums) (n : Int) : thr (rowL W L Lb (sums3 W L H) n) = (orderOf W n).map fun o => [o, (labOf Lb (n, o)).1, (labOf Lb (n, o)).2] := by
  unfold thr
  rw [row_len]
  refine List.ext_getElem? fun k => ?_
  by_cases hk : k < (endsAt W n).length
  · rw [List.getElem?_map, List.getElem?_range (by omega)]
    have hd : ((rowL W L Lb (sums3 W L H) n).drop (7 + 3 * k)).take 3 = (((endsAt W n).flatMap fun e => [e.1, (labOf Lb (n, e.1)).1, (labOf Lb (n, e.1)).2]).drop (3 * k)).take 3 := by
      rw [Nat.add_comm]; rfl
    have h2 := drop_flat (fun e : Nd => (e.1, (labOf Lb (n, e.1)).1, (labOf Lb (n, e.1)).2)) (endsAt W n) k hk
    show some (((rowL W L Lb (sums3 W L H) n).drop (7 + 3 * k)).take 3) = _
    rw [hd]
    refine (congrArg some h2).trans ?_
    rw [List.getD_eq_getElem?_getD, List.getElem?_map, List.getElem?_map]
    unfold orderOf
    rw [List.getElem?_map, List.getElem?_eq_getElem hk]
    rfl
  · rw [List.getElem?_eq_none (by rw [List.length_map, List.length_range]; omega), List.getElem?_eq_none (by unfold orderOf; rw [List.length_map, List.length_map]; omega)]
theorem filter_is {l : List Int} (nd : l.Nodup) {n : Int} (h : n ∈ l) : l.filter (fun m => decide (m = n)) = [n] := by
  refine List.perm_singleton.mp ((List.perm_ext_iff_of_nodup (nd.sublist List.filter_sublist) (List.nodup_cons.mpr ⟨List.not_mem_nil, List.nodup_nil⟩)).mpr fun x => ?_)
  rw [List.mem_filter, decide_eq_true_eq, List.mem_singleton]
  exact ⟨fun z => z.2, fun z => ⟨z ▸ h, z⟩⟩
section
variable {W : Web} {a : Int} {Lb : Lab}
/-- no pairs: one place alone -/
theorem alone (m : WebMade W) (hne : pairsOf W = []) : (∀ n, endsAt W n = []) := fun n => by
  cases e : endsAt W n with
  | nil => rfl
  | cons x l =>
    have : (n, x.1) ∈ pairsOf W := (mem_pairs m.sy).mpr (List.mem_map.mpr ⟨x, by rw [e]; exact List.mem_cons_self, rfl⟩)
    rw [hne] at this; cases this
theorem lab_next (m : WebMade W) (hLb : LabOk W 0 Lb (pairsOf W)) {n o : Int} (h : o ∈ orderOf W n) : labOf Lb (n, nextIn (orderOf W n) o) = labOf Lb (o, n) := by
  have hp : (o, n) ∈ pairsOf W := (mem_pairs m.sy).mpr (order_back m.sy h)
  have hb : behind W (o, n) = (n, nextIn (orderOf W n) o) := rfl
  have w := face_w (gw_of m) (fun z => by rw [z] at hp; cases hp)
  rw [← hb, labOf_F w hLb (behind_mem m.sy _ hp), labOf_F w hLb hp, labF_behind w hp]
/-- all heads: as many as faces -/
theorem heads_all (m : WebMade W) (hLb : LabOk W 0 Lb (pairsOf W)) (hc : pairsOf W = [] → W.length = 1) : sm (W.map (·.1)) (headN W Lb) = ((facesOf W).length : Int) := by
  by_cases hne : pairsOf W = []
  · have hno := alone m hne
    have hF : (facesOf W).length = 1 := by unfold facesOf; rw [if_pos hne]; rfl
    rw [hF, sm_congr (g := fun _ => 1) fun n _ => by unfold headN; rw [hno n]; rfl, sm_const1, List.length_map, hc hne]
  · have w := face_w (gw_of m) hne
    rw [← leaders_cnt (gw_of m) w, pairs_filter]
    have hone : ∀ n ∈ W.map (·.1), endsAt W n ≠ [] := fun n hn he => by
      refine hne (List.eq_nil_iff_forall_not_mem.mpr fun p hp => ?_)
      have hpo := (mem_pairs m.sy).mp hp
      have hk := order_key m.sy hpo
      have := m.conn (fun k => decide (k = n)) (fun k x hx => by
        show decide (x.1 = n) = decide (k = n)
        have h1 : k ≠ n := fun z => by rw [z, he] at hx; cases hx
        have h2 : x.1 ≠ n := fun z => by
          have := m.sy.back k x hx
          rw [z] at this
          unfold orderOf at this
          rw [he] at this
          cases this
        rw [decide_eq_false h1, decide_eq_false h2]) n hn p.1 hk.1
      have h3 : decide (n = n) = decide (p.1 = n) := this
      rw [decide_eq_true rfl] at h3
      have h4 : p.1 = n := of_decide_eq_true h3.symm
      rw [h4] at hpo
      unfold orderOf at hpo
      rw [he] at hpo
      cases hpo
    rw [← sm_nat]
    refine sm_congr fun n hn => ?_
    unfold headN
    rw [if_neg (fun z => hone n hn (List.isEmpty_iff.mp z))]
    unfold orderOf
    rw [List.filter_map, List.length_map]
    congr 2
    refine List.filter_congr fun e he => ?_
    show decide (labOf Lb (n, e.1) = (n, e.1)) = decide (labF W (n, e.1) = (n, e.1))
    rw [labOf_F w hLb ((mem_pairs m.sy).mpr (List.mem_map.mpr ⟨e, he, rfl⟩))]
end
end Bs
/-! Plain: on a flat web the plain rows get a yes from all; the end. -/
namespace Bs
section
variable {W : Web} {a : Int} {Lb : Lab}
theorem parts_one (W : Web) (a : Int) : rootParts W a a = grown W a := by unfold rootParts; rw [if_pos rfl]
theorem heads_one (W : Web) (a : Int) (Lb : Lab) : headsOf W a Lb 1 = heads0 W Lb := by unfold headsOf; rw [if_neg (by decide)]
theorem top_all (m : WebMade W) (ha : a ∈ W.map (·.1)) (k : Nat) : ∀ n : Int, n ∈ W.map (·.1) → (far (grown W a) n).toNat ≤ k → topOf (grown W a) n = a := by
  have G := g_all m.sy m.conn ha
  have w := way_one m.sy.fit ha G
  induction k with
  | zero =>
    intro n hn hk
    have h0 := (G.pos n hn).1
    have e : n = a := (far0 G hn).mp (by omega)
    subst e
    exact topOf_top (by rw [G.root.1]; omega)
  | succ k ih =>
    intro n hn hk
    by_cases e : n = a
    · subst e; exact topOf_top (by rw [G.root.1]; omega)
    · obtain ⟨t1, t2, t3⟩ := G.tree n hn e
      have p := (G.pos _ t1).1
      rw [topOf_up w hn (by omega)]
      exact ih _ t1 (by omega)
theorem way_s1 (m : WebMade W) (ha : a ∈ W.map (·.1)) : WayS (grown W a) := by
  have := way_s m ha ha
  rwa [parts_one] at this
/-- the one place on top -/
theorem tops_one (m : WebMade W) (ha : a ∈ W.map (·.1)) (nums : Nums) : nv (sumsL (grown W a) nums) a = sm (W.map (·.1)) (nv nums) := by
  have G := g_all m.sy m.conn ha
  have w := way_one m.sy.fit ha G
  have ws := way_s1 m ha
  have hp : (((grown W a).map (·.1)).filter fun o => !decide (0 < far (grown W a) o)).Perm [a] := by
    refine (List.perm_ext_iff_of_nodup (G.nd.sublist List.filter_sublist) (List.nodup_cons.mpr ⟨List.not_mem_nil, List.nodup_nil⟩)).mpr fun x => ?_
    rw [List.mem_filter, List.mem_singleton, Bool.not_eq_true', decide_eq_false_iff_not]
    constructor
    · rintro ⟨h1, h2⟩
      have hx := (G.key x).mp h1
      have := (G.pos x hx).1
      exact (far0 G hx).mp (by omega)
    · rintro rfl
      exact ⟨(G.key x).mpr ha, by rw [G.root.1]; omega⟩
  have h := sums_tops ws nums
  rw [sm_perm hp, sm_cons, sm_nil, sm_perm (way_perm m.sy.fit w)] at h
  omega
/-- one sum at one place -/
theorem sum_at (m : WebMade W) (ha : a ∈ W.map (·.1)) (R : Int → Row) (hR2 : ∀ o, g (R o) 2 = far (grown W a) o) (hR3 : ∀ o, g (R o) 3 = up (grown W a) o) {p : Nat} {nums : Nums} (hp : ∀ o, g (R o) (4 + p) = nv (sumsL (grown W a) nums) o) {n : Int} (hn : n ∈ W.map (·.1)) {x : Int} (hx : nv nums n = x) :
    g (R n) (4 + p) = x + sumOf p (belowL n (R n) ((endsAt W n).map fun e => R e.1)) := by
  have G := g_all m.sy m.conn ha
  have ws := way_s1 m ha
  rw [hp n, sums_eq ws.nd ws.dn (fun k hk => (ws.lt k hk).2) nums ((G.key n).mpr hn), hx]
  congr 1
  unfold sumOf belowL
  have e1 : ((endsAt W n).map fun e => R e.1) = (orderOf W n).map R := by unfold orderOf; rw [List.map_map]; rfl
  have e2 : ∀ (q : Row → Bool) (l : List Int), ((l.map R).filter q).map (fun r => g r (4 + p)) = (l.filter (q ∘ R)).map fun o => g (R o) (4 + p) := fun q l => by rw [List.filter_map, List.map_map]; rfl
  rw [e1, e2]
  refine (sm_congr fun o _ => (hp o).symm).trans (sm_perm (f := fun o => g (R o) (4 + p)) ((List.perm_ext_iff_of_nodup (G.nd.sublist List.filter_sublist) ((m.sy.nd n).sublist List.filter_sublist)).mpr fun o => ?_))
  rw [List.mem_filter, List.mem_filter]
  show _ ∧ _ ↔ _ ∧ (decide (g (R o) 3 = n) && decide (g (R o) 2 = g (R n) 2 + 1)) = true
  rw [Bool.and_eq_true, Bool.and_eq_true, decide_eq_true_eq, decide_eq_true_eq, decide_eq_true_eq, decide_eq_true_eq, hR2, hR2, hR3]
  constructor
  · rintro ⟨h1, h2, h3⟩
    have ho := (G.key o).mp h1
    have hne : o ≠ a := fun z => by rw [(far0 G ho).mpr z] at h2; omega
    obtain ⟨_, t2, t3⟩ := G.tree o ho hne
    rw [h3] at t2 t3
    exact ⟨t2, h3, t3⟩
  · rintro ⟨h1, h2, h3⟩
    have ho := (order_key m.sy h1).2
    have := (G.pos n hn).1
    exact ⟨(G.key o).mpr ho, by omega, h2⟩
theorem lone (m : WebMade W) (ha : a ∈ W.map (·.1)) (hne : pairsOf W = []) : W.length = 1 := by
  have hno := alone m hne
  have : ∀ b ∈ W.map (·.1), b = a := fun b hb => by
    have := m.conn (fun n => decide (n = a)) (fun n x hx => by rw [hno n] at hx; cases hx) b hb a ha
    have h2 : decide (b = a) = decide (a = a) := this
    rw [decide_eq_true rfl] at h2
    exact of_decide_eq_true h2
  have h := m.sy.fit.nd.length_le_of_subset (l₂ := [a]) (fun x hx => by rw [this x hx]; exact List.mem_singleton.mpr rfl)
  rw [List.length_map] at h
  have := m.one
  have : W.length ≤ 1 := h
  omega
theorem lead_head (L : Way) (H : Nums) (n : Int) : leadL n (thr (rowL W L Lb (sums3 W L H) n)) = headN W Lb n := by
  rw [thr_row]
  unfold leadL headN orderOf
  by_cases e : (endsAt W n).isEmpty = true
  · rw [if_pos e, if_pos (by rw [List.isEmpty_iff] at e ⊢; rw [e]; rfl)]
  · rw [if_neg e, if_neg (fun z => e (by rw [List.isEmpty_iff] at z ⊢; exact List.map_eq_nil_iff.mp (List.map_eq_nil_iff.mp z)))]
    rw [List.filter_map, List.length_map, List.filter_map, List.length_map]
    congr 2
    refine List.filter_congr fun x _ => ?_
    show decide ([(labOf Lb (n, x.1)).1, (labOf Lb (n, x.1)).2] = [n, x.1]) = decide (labOf Lb (n, x.1) = (n, x.1))
    rw [Bool.eq_iff_iff, decide_eq_true_eq, decide_eq_true_eq]
    constructor
    · intro e
      have h1 := List.cons.inj e
      exact Prod.ext h1.1 (List.cons.inj h1.2).1
    · intro e; rw [e]
theorem plain_says (m : WebMade W) (ha : a ∈ W.map (·.1)) (hLb : LabOk W 0 Lb (pairsOf W)) (hfl : flatB W = true) (R : Int → Row) (hR : R = rowL W (grown W a) Lb (sums3 W (grown W a) (heads0 W Lb))) {n : Int} (hn : n ∈ W.map (·.1)) :
    Says n (R n) ((endsAt W n).map fun e => R e.1) := by
  have sy := m.sy
  have G := g_all sy m.conn ha
  have ht : ∀ o ∈ W.map (·.1), topOf (grown W a) o = a := fun o ho => top_all m ha _ o ho (Nat.le_refl _)
  have r0 : ∀ o, g (R o) 0 = o := fun o => by rw [hR]; rfl
  have r1 : ∀ o, g (R o) 1 = topOf (grown W a) o := fun o => by rw [hR]; rfl
  have r2 : ∀ o, g (R o) 2 = far (grown W a) o := fun o => by rw [hR]; rfl
  have r3 : ∀ o, g (R o) 3 = up (grown W a) o := fun o => by rw [hR]; rfl
  have r4 : ∀ o, g (R o) (4 + 0) = nv (sumsL (grown W a) (ones W)) o := fun o => by rw [hR]; rfl
  have r5 : ∀ o, g (R o) (4 + 1) = nv (sumsL (grown W a) (degs W)) o := fun o => by rw [hR]; rfl
  have r6 : ∀ o, g (R o) (4 + 2) = nv (sumsL (grown W a) (heads0 W Lb)) o := fun o => by rw [hR]; rfl
  have tr : ∀ o, thr (R o) = (orderOf W o).map fun c => [c, (labOf Lb (o, c)).1, (labOf Lb (o, c)).2] := fun o => by rw [hR]; exact thr_row _ _ _ _
  have e1 : ((endsAt W n).map fun e => R e.1) = (orderOf W n).map R := by unfold orderOf; rw [List.map_map]; rfl
  have names : ((endsAt W n).map fun e => R e.1).map (g · 0) = orderOf W n := by
    rw [e1, List.map_map]
    refine (List.map_congr_left fun o _ => ?_).trans (List.map_id _)
    exact r0 o
  have len : ((endsAt W n).map fun e => R e.1).length = (orderOf W n).length := by rw [e1, List.length_map]
  refine ⟨r0 n, fun r hr => ?_, fun h => ?_, fun h => ?_, ?_, ?_, fun k hk => ?_, fun p hp => ?_, fun h => ?_⟩
  · rw [e1] at hr
    obtain ⟨o, ho, rfl⟩ := List.mem_map.mp hr
    rw [r1, r1, ht n hn, ht o (order_key sy ho).2]
  · rw [r1, ht n hn] at h
    subst h
    rw [r2, r3]
    exact G.root
  · rw [r1, ht n hn] at h
    obtain ⟨t1, t2, t3⟩ := G.tree n hn fun z => h z.symm
    have := (G.pos _ t1).1
    rw [r2, r3]
    refine ⟨by omega, R (up (grown W a) n), ?_, r0 _, by rw [r2]; omega⟩
    rw [e1]
    exact List.mem_map.mpr ⟨_, order_back sy t2, rfl⟩
  · rw [names, tr, List.map_map]
    exact (List.map_congr_left fun o _ => rfl).trans (List.map_id _)
  · rw [names]; exact sy.nd n
  · rw [len] at hk
    have ho : (orderOf W n)[k]? = some ((orderOf W n)[k]'hk) := List.getElem?_eq_getElem hk
    generalize (orderOf W n)[k]'hk = o at ho
    have hm := List.mem_of_getElem? ho
    have hrow : ((endsAt W n).map fun e => R e.1).getD k [] = R o := by
      rw [e1, List.getD_eq_getElem?_getD, List.getElem?_map, ho]; rfl
    have hnx := nextIn_at (sy.nd n) ho
    have hl : (thr (R n)).length = (orderOf W n).length := by rw [tr, List.length_map]
    have hr2 : (thr (R n)).getD ((k + 1) % (thr (R n)).length) [] = [nextIn (orderOf W n) o, (labOf Lb (n, nextIn (orderOf W n) o)).1, (labOf Lb (n, nextIn (orderOf W n) o)).2] := by
      rw [hl, List.getD_eq_getElem?_getD, tr, List.getElem?_map, hnx]; rfl
    rw [hrow, hr2, lab_next m hLb hm]
    unfold backs
    rw [tr, List.filter_map, List.map_map]
    have hf : (orderOf W o).filter ((fun t : Row => decide (g t 0 = n)) ∘ fun c => [c, (labOf Lb (o, c)).1, (labOf Lb (o, c)).2]) = [n] := (List.filter_congr fun c _ => rfl).trans (filter_is (sy.nd o) (order_back sy hm))
    rw [hf]; rfl
  · have hcase : p = 0 ∨ p = 1 ∨ p = 2 := by omega
    rcases hcase with rfl | rfl | rfl
    · refine sum_at m ha R r2 r3 r4 hn ?_
      unfold ones
      rw [nv_mapW (fun _ => 1), if_pos hn]; rfl
    · refine sum_at m ha R r2 r3 r5 hn ?_
      unfold degs
      rw [nv_mapW (fun k => ((endsAt W k).length : Int)), if_pos hn]
      show _ = ((((endsAt W n).map fun e => R e.1).length : Nat) : Int)
      rw [List.length_map]
    · refine sum_at m ha R r2 r3 r6 hn ?_
      unfold heads0
      rw [nv_mapW (headN W Lb), if_pos hn]
      show _ = leadL n (thr (R n))
      rw [hR, lead_head]
  · rw [r1, ht n hn] at h
    subst h
    have s0 : g (R a) 4 = _ := (r4 a).trans (tops_one m ha (ones W))
    have s1 : g (R a) 5 = _ := (r5 a).trans (tops_one m ha (degs W))
    have s2 : g (R a) 6 = _ := (r6 a).trans (tops_one m ha (heads0 W Lb))
    have d0 : sm (W.map (·.1)) (nv (ones W)) = (W.length : Int) := by
      have : sm (W.map (·.1)) (nv (ones W)) = sm (W.map (·.1)) (fun _ => 1) := sm_keys (W := W) (fun _ => 1)
      rw [this, sm_const1, List.length_map]
    have d1 : sm (W.map (·.1)) (nv (degs W)) = 2 * ((tiesL W).length : Int) := by
      have : sm (W.map (·.1)) (nv (degs W)) = sm (W.map (·.1)) (fun k => ((endsAt W k).length : Int)) := sm_keys (W := W) (fun k => ((endsAt W k).length : Int))
      rw [this, degs_sum m, ← pairs_cnt sy, pairs_two (gw_of m), ties_len]
      omega
    have d2 : sm (W.map (·.1)) (nv (heads0 W Lb)) = ((facesOf W).length : Int) := by
      have : sm (W.map (·.1)) (nv (heads0 W Lb)) = sm (W.map (·.1)) (headN W Lb) := sm_keys (headN W Lb)
      rw [this, heads_all m hLb (lone m ha)]
    have hf : ((W.length : Int) - (tiesL W).length + (facesOf W).length = 2) := of_decide_eq_true hfl
    rw [s0, s1, s2, d0, d1, d2]
    omega
theorem pf_plain : ∀ W a Lb, WebMade W → a ∈ W.map (·.1) → LabOk W 0 Lb (pairsOf W) → flatB W = true → ∀ n ∈ W.map (·.1), sayN W (rowOf (rowsL W (rootParts W a a) Lb (headsOf W a Lb 1))) n = true := by
  intro W a Lb m ha hLb hfl n hn
  rw [parts_one, heads_one]
  have h := plain_says m ha hLb hfl _ rfl hn
  have e : sayN W (rowOf (rowsL W (grown W a) Lb (heads0 W Lb))) n = sayB n (rowL W (grown W a) Lb (sums3 W (grown W a) (heads0 W Lb)) n) ((endsAt W n).map fun e => rowL W (grown W a) Lb (sums3 W (grown W a) (heads0 W Lb)) e.1) := by
    unfold sayN
    rw [rowOf_L hn]
    congr 1
    exact List.map_congr_left fun x hx => rowOf_L (m.sy.key n x hx).2
  rw [e]
  exact (sayB_iff _ _ _).mpr h
end
theorem plainFacts : PlainFacts :=
  ⟨pf_pre, pf_drawn, pf_rows, pf_sub, pf_sub0, fun _ _ m h => made_right m h, fun _ _ m h => cross_ok (gw_of m) h, pf_few, pf_plain⟩
end Bs
open PySem PySem.W PyProof.Rows in
set_option maxRecDepth 100000 in
set_option maxHeartbeats 0 in
theorem PySem.Challenge.cw_besidesay_k56_whole_no_marks_make_balls_holds : PySem.Challenge.rw_besidesay_k56_whole_no_marks_make_balls.Holds := by
  w_on; o_law; k_head; (case hw => w_witness2)
  k_fill
  refine Bs.walk (l := PySem.Challenge.rw_besidesay_k56_whole_no_marks_make_balls) Bs.plainFacts rfl rfl rfl (fun w h Y => PySem.W.kIn_of Y) ?F
  case F =>
    intro w
    refine Bs.Seen.mk ?d0 ?d1 ?d2 ?d3 ?d4 ?d5 ?d6 ?d7 ?d8 ?d9 ?d10 ?d11 ?d12 ?d13 ?d14 ?d15 ?d16 ?d17 ?d18 ?d19 ?d20 ?d21 ?d22 ?d23 ?d24 ?d25 ?d26 ?d27 ?d28 ?d29 ?d30 ?d31 ?d32 ?d33 ?d34 ?d35 ?d36 ?d37 ?d38 ?d39 ?d40 ?d41 ?d42 ?d43 ?d44 ?d45 ?d46 ?d47 ?d48 ?d49 ?b0 ?b1 ?b2 ?b3 ?b4 ?b5 ?b6 ?b7 ?b8 ?b9 ?b10 ?b11 ?b12 ?b13 ?b14 ?says0 ?says1 ?says2 ?says3 ?says4 ?says5 ?says6 ?says7 ?c0 ?c1 ?c2
    (case d0 => refine' Bs.def_at ?a ?l ?c ?k; (case a => k_is); (case l => k_is); (case c => k_is); (case k => k_is))
    (case d1 => refine' Bs.def_at ?a ?l ?c ?k; (case a => k_is); (case l => k_is); (case c => k_is); (case k => k_is))
    (case d2 => refine' Bs.def_at ?a ?l ?c ?k; (case a => k_is); (case l => k_is); (case c => k_is); (case k => k_is))
    (case d3 => refine' Bs.def_at ?a ?l ?c ?k; (case a => k_is); (case l => k_is); (case c => k_is); (case k => k_is))
    (case d4 => refine' Bs.def_at ?a ?l ?c ?k; (case a => k_is); (case l => k_is); (case c => k_is); (case k => k_is))
    (case d5 => refine' Bs.def_at ?a ?l ?c ?k; (case a => k_is); (case l => k_is); (case c => k_is); (case k => k_is))
    (case d6 => refine' Bs.def_at ?a ?l ?c ?k; (case a => k_is); (case l => k_is); (case c => k_is); (case k => k_is))
    (case d7 => refine' Bs.def_at ?a ?l ?c ?k; (case a => k_is); (case l => k_is); (case c => k_is); (case k => k_is))
    (case d8 => refine' Bs.def_at ?a ?l ?c ?k; (case a => k_is); (case l => k_is); (case c => k_is); (case k => k_is))
    (case d9 => refine' Bs.def_at ?a ?l ?c ?k; (case a => k_is); (case l => k_is); (case c => k_is); (case k => k_is))
    (case d10 => refine' Bs.def_at ?a ?l ?c ?k; (case a => k_is); (case l => k_is); (case c => k_is); (case k => k_is))
    (case d11 => refine' Bs.def_at ?a ?l ?c ?k; (case a => k_is); (case l => k_is); (case c => k_is); (case k => k_is))
    (case d12 => refine' Bs.def_at ?a ?l ?c ?k; (case a => k_is); (case l => k_is); (case c => k_is); (case k => k_is))
    (case d13 => refine' Bs.def_at ?a ?l ?c ?k; (case a => k_is); (case l => k_is); (case c => k_is); (case k => k_is))
    (case d14 => refine' Bs.def_at ?a ?l ?c ?k; (case a => k_is); (case l => k_is); (case c => k_is); (case k => k_is))
    (case d15 => refine' Bs.def_at ?a ?l ?c ?k; (case a => k_is); (case l => k_is); (case c => k_is); (case k => k_is))
    (case d16 => refine' Bs.def_at ?a ?l ?c ?k; (case a => k_is); (case l => k_is); (case c => k_is); (case k => k_is))
    (case d17 => refine' Bs.def_at ?a ?l ?c ?k; (case a => k_is); (case l => k_is); (case c => k_is); (case k => k_is))
    (case d18 => refine' Bs.def_at ?a ?l ?c ?k; (case a => k_is); (case l => k_is); (case c => k_is); (case k => k_is))
    (case d19 => refine' Bs.def_at ?a ?l ?c ?k; (case a => k_is); (case l => k_is); (case c => k_is); (case k => k_is))
    (case d20 => refine' Bs.def_at ?a ?l ?c ?k; (case a => k_is); (case l => k_is); (case c => k_is); (case k => k_is))
    (case d21 => refine' Bs.def_at ?a ?l ?c ?k; (case a => k_is); (case l => k_is); (case c => k_is); (case k => k_is))
    (case d22 => refine' Bs.def_at ?a ?l ?c ?k; (case a => k_is); (case l => k_is); (case c => k_is); (case k => k_is))
    (case d23 => refine' Bs.def_at ?a ?l ?c ?k; (case a => k_is); (case l => k_is); (case c => k_is); (case k => k_is))
    (case d24 => refine' Bs.def_at ?a ?l ?c ?k; (case a => k_is); (case l => k_is); (case c => k_is); (case k => k_is))
    (case d25 => refine' Bs.def_at ?a ?l ?c ?k; (case a => k_is); (case l => k_is); (case c => k_is); (case k => k_is))
    (case d26 => refine' Bs.def_at ?a ?l ?c ?k; (case a => k_is); (case l => k_is); (case c => k_is); (case k => k_is))
    (case d27 => refine' Bs.def_at ?a ?l ?c ?k; (case a => k_is); (case l => k_is); (case c => k_is); (case k => k_is))
    (case d28 => refine' Bs.def_at ?a ?l ?c ?k; (case a => k_is); (case l => k_is); (case c => k_is); (case k => k_is))
    (case d29 => refine' Bs.def_at ?a ?l ?c ?k; (case a => k_is); (case l => k_is); (case c => k_is); (case k => k_is))
    (case d30 => refine' Bs.def_at ?a ?l ?c ?k; (case a => k_is); (case l => k_is); (case c => k_is); (case k => k_is))
    (case d31 => refine' Bs.def_at ?a ?l ?c ?k; (case a => k_is); (case l => k_is); (case c => k_is); (case k => k_is))
    (case d32 => refine' Bs.def_at ?a ?l ?c ?k; (case a => k_is); (case l => k_is); (case c => k_is); (case k => k_is))
    (case d33 => refine' Bs.def_at ?a ?l ?c ?k; (case a => k_is); (case l => k_is); (case c => k_is); (case k => k_is))
    (case d34 => refine' Bs.def_at ?a ?l ?c ?k; (case a => k_is); (case l => k_is); (case c => k_is); (case k => k_is))
    (case d35 => refine' Bs.def_at ?a ?l ?c ?k; (case a => k_is); (case l => k_is); (case c => k_is); (case k => k_is))
    (case d36 => refine' Bs.def_at ?a ?l ?c ?k; (case a => k_is); (case l => k_is); (case c => k_is); (case k => k_is))
    (case d37 => refine' Bs.def_at ?a ?l ?c ?k; (case a => k_is); (case l => k_is); (case c => k_is); (case k => k_is))
    (case d38 => refine' Bs.def_at ?a ?l ?c ?k; (case a => k_is); (case l => k_is); (case c => k_is); (case k => k_is))
    (case d39 => refine' Bs.def_at ?a ?l ?c ?k; (case a => k_is); (case l => k_is); (case c => k_is); (case k => k_is))
    (case d40 => refine' Bs.def_at ?a ?l ?c ?k; (case a => k_is); (case l => k_is); (case c => k_is); (case k => k_is))
    (case d41 => refine' Bs.def_at ?a ?l ?c ?k; (case a => k_is); (case l => k_is); (case c => k_is); (case k => k_is))
    (case d42 => refine' Bs.def_at ?a ?l ?c ?k; (case a => k_is); (case l => k_is); (case c => k_is); (case k => k_is))
    (case d43 => refine' Bs.def_at ?a ?l ?c ?k; (case a => k_is); (case l => k_is); (case c => k_is); (case k => k_is))
    (case d44 => refine' Bs.def_at ?a ?l ?c ?k; (case a => k_is); (case l => k_is); (case c => k_is); (case k => k_is))
    (case d45 => refine' Bs.def_at ?a ?l ?c ?k; (case a => k_is); (case l => k_is); (case c => k_is); (case k => k_is))
    (case d46 => refine' Bs.def_at ?a ?l ?c ?k; (case a => k_is); (case l => k_is); (case c => k_is); (case k => k_is))
    (case d47 => refine' Bs.def_at ?a ?l ?c ?k; (case a => k_is); (case l => k_is); (case c => k_is); (case k => k_is))
    (case d48 => refine' Bs.def_at ?a ?l ?c ?k; (case a => k_is); (case l => k_is); (case c => k_is); (case k => k_is))
    (case d49 => refine' Bs.def_at ?a ?l ?c ?k; (case a => k_is); (case l => k_is); (case c => k_is); (case k => k_is))
    (case b0 => k_is)
    (case b1 => k_is)
    (case b2 => k_is)
    (case b3 => k_is)
    (case b4 => k_is)
    (case b5 => k_is)
    (case b6 => k_is)
    (case b7 => k_is)
    (case b8 => k_is)
    (case b9 => k_is)
    (case b10 => k_is)
    (case b11 => k_is)
    (case b12 => k_is)
    (case b13 => k_is)
    (case b14 => k_is)
    (case says0 => refine' Bs.ref_at ?a; (case a => k_is))
    (case says1 => refine' Bs.ref_at ?a; (case a => k_is))
    (case says2 => refine' Bs.ref_at ?a; (case a => k_is))
    (case says3 => refine' Bs.ref_at ?a; (case a => k_is))
    (case says4 => refine' Bs.ref_at ?a; (case a => k_is))
    (case says5 => refine' Bs.ref_at ?a; (case a => k_is))
    (case says6 => refine' Bs.ref_at ?a; (case a => k_is))
    (case says7 => refine' Bs.ref_at ?a; (case a => k_is))
    (case c0 => refine' Bs.int_at ?a; (case a => k_is))
    (case c1 => refine' Bs.int_at ?a; (case a => k_is))
    (case c2 => refine' Bs.int_at ?a; (case a => k_is))
