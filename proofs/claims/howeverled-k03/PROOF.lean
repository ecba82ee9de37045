import PyProof.Rows.All
import Wide.All
import OpenK.AllK
import Wide.FinOn
import HandS.Iter
import HandS.Zip
import HandS.Conv
import HandS.TupAny
import HandS.Style
import HandS.Wide
import HandS.IsInst
import HandS.ExcInit
import PyProof.EqAt
import PyProof.EqKinds
import PyProof.TupleCall
import HandS.Base
import HandS.Call
import HandS.List
import HandS.Comp
import HandS.Ends
import HandS.Exc
import HandS.ExcOwn
import HandS.WordsExc
import KE.KTupSum
import KE.GoesEnum
import KE.KRevSl
import HandS.Defaults
import HandS.OwnEq
import HandS.HotCalls
import HandS.ExcIs
import HandS.ExcField
import KE.KStateDown
import Lean
import HandS.Head0
import HandS.Head1
import HandS.Head2
import HandS.HeadEnd
import HandS.HeadHook1
import HandS.HeadHook2
import PyProof.GenQ
import HandS.GenList
import PySem.Challenge.RW_howeverled_k03_whole_splits_purses_and_w
set_option Elab.async false
set_option linter.all false
set_option maxRecDepth 100000
set_option maxHeartbeats 4000000
namespace DL
open PySem PySem.Spec PyProof.Rows L2
abbrev D := PyData
def Ex (H H' : Hp) : Prop := ∀ a o, H a = some o → H' a = some o
theorem Ex.refl (H : Hp) : Ex H H := fun _ _ h => h
theorem Ex.trans {H H1 H2 : Hp} (a : Ex H H1) (b : Ex H1 H2) : Ex H H2 := fun c o h => b c o (a c o h)
theorem Ex.none {H H' : Hp} (e : Ex H H') {a : Addr} (h : H' a = Option.none) : H a = Option.none := by
  cases q : H a with
  | none => rfl
  | some o => rw [e a o q] at h; cases h
theorem Ex.new {H : Hp} {p : Addr} {o : HO} (h : H p = Option.none) : Ex H (upd H p o) := fun a u q => by
  rw [upd_ne (ne_of_none q h)]; exact q
mutual
inductive Rv (G : Hp) : V → D → Prop
  | non : Rv G .non .none
  | bl (b : Bool) : Rv G (.bl b) (.bool b)
  | int (i : Int) : Rv G (.int i) (.int i)
  | str (x : Str) : Rv G (.str x) (.str x)
  | lst {a : Addr} {vs : List V} {ds : List D} : G a = some (.lst vs) → RvA G vs ds → Rv G (.ref a) (.list ds)
  | tup {a : Addr} {vs : List V} {ds : List D} : G a = some (.tup vs) → RvA G vs ds → Rv G (.ref a) (.tuple ds)
inductive RvA (G : Hp) : List V → List D → Prop
  | nil : RvA G [] []
  | cons {v : V} {vs : List V} {d : D} {ds : List D} : Rv G v d → RvA G vs ds → RvA G (v :: vs) (d :: ds)
end
mutual
theorem Rv.mono {G G' : Hp} (e : Ex G G') : ∀ {d : D} {v : V}, Rv G v d → Rv G' v d
  | _, _, .non => .non
  | _, _, .bl b => .bl b
  | _, _, .int i => .int i
  | _, _, .str x => .str x
  | .list ds, _, .lst h hs => .lst (e _ _ h) (RvA.mono e hs)
  | .tuple ds, _, .tup h hs => .tup (e _ _ h) (RvA.mono e hs)
theorem RvA.mono {G G' : Hp} (e : Ex G G') : ∀ {ds : List D} {vs : List V}, RvA G vs ds → RvA G' vs ds
  | [], _, .nil => .nil
  | _ :: _, _, .cons h hs => .cons (Rv.mono e h) (RvA.mono e hs)
end
mutual
theorem Rv.dp {K : PySem.W.Frag} {G H : Hp} (e : Ex G H) : ∀ {d : D} {v : V}, Rv G v d → Dp K H v d
  | _, _, .non => .non
  | _, _, .bl b => .bl b
  | _, _, .int i => .int i
  | _, _, .str x => .str x
  | .list ds, _, .lst h hs => .lst (SqL.of (e _ _ h)) (RvA.dp e hs)
  | .tuple ds, _, .tup h hs => .tup (SqT.of (e _ _ h)) (RvA.dp e hs)
theorem RvA.dp {K : PySem.W.Frag} {G H : Hp} (e : Ex G H) : ∀ {ds : List D} {vs : List V}, RvA G vs ds → DpAll K H vs ds
  | [], _, .nil => .nil
  | _ :: _, _, .cons h hs => .cons (Rv.dp e h) (RvA.dp e hs)
end
section
variable {G : Hp} {vs ws : List V} {ds es : List D} {v : V} {d : D}
theorem RvA.len : ∀ {vs : List V} {ds : List D}, RvA G vs ds → vs.length = ds.length
  | _, _, .nil => rfl
  | _, _, .cons _ t => by simp [RvA.len t]
theorem RvA.get : ∀ {vs : List V} {ds : List D} {i : Nat} {d : D}, RvA G vs ds → ds[i]? = some d → ∃ v, vs[i]? = some v ∧ Rv G v d
  | _, _, _, _, .nil, h => by simp at h
  | _, _, 0, _, .cons r _, h => by simp at h; subst h; exact ⟨_, rfl, r⟩
  | _, _, i + 1, _, .cons _ t, h => by simpa using RvA.get (i := i) t (by simpa using h)
theorem RvA.app : ∀ {vs : List V} {ds : List D}, RvA G vs ds → RvA G ws es → RvA G (vs ++ ws) (ds ++ es)
  | _, _, .nil, h => h
  | _, _, .cons r t, h => .cons r (RvA.app t h)
theorem RvA.one (h : Rv G v d) : RvA G [v] [d] := .cons h .nil
theorem RvA.take : ∀ {vs : List V} {ds : List D} (n : Nat), RvA G vs ds → RvA G (vs.take n) (ds.take n)
  | _, _, 0, _ => by simpa using RvA.nil
  | _, _, _ + 1, .nil => .nil
  | _, _, n + 1, .cons r t => .cons r (RvA.take n t)
theorem RvA.drop : ∀ {vs : List V} {ds : List D} (n : Nat), RvA G vs ds → RvA G (vs.drop n) (ds.drop n)
  | _, _, 0, h => h
  | _, _, _ + 1, .nil => .nil
  | _, _, n + 1, .cons r t => RvA.drop n t
theorem RvA.rev : ∀ {vs : List V} {ds : List D}, RvA G vs ds → RvA G vs.reverse ds.reverse
  | _, _, .nil => .nil
  | _, _, .cons r t => by simp only [List.reverse_cons]; exact (RvA.rev t).app (.one r)
theorem RvA.set : ∀ {vs : List V} {ds : List D} (i : Nat), RvA G vs ds → Rv G v d → RvA G (vs.set i v) (ds.set i d)
  | _, _, _, .nil, _ => .nil
  | _, _, 0, .cons _ t, r => .cons r t
  | _, _, i + 1, .cons q t, r => .cons q (RvA.set i t r)
theorem RvA.dropLast (h : RvA G vs ds) : RvA G vs.dropLast ds.dropLast := by
  rw [List.dropLast_eq_take, List.dropLast_eq_take, h.len]; exact h.take _
theorem RvA.ints : ∀ {ns : List Int} {vs : List V}, RvA G vs (ns.map .int) → vs = ns.map V.int
  | [], _, .nil => rfl
  | _ :: _, _, .cons r t => by cases r; simp [RvA.ints t]
theorem RvA.ofInts : ∀ {ns : List Int}, RvA G (ns.map V.int) (ns.map .int)
  | [] => .nil
  | _ :: _ => .cons (.int _) RvA.ofInts
theorem RvA.repl (r : Rv G v d) : ∀ n, RvA G (List.replicate n v) (List.replicate n d)
  | 0 => .nil
  | n + 1 => .cons r (RvA.repl r n)
end
/-- what stands in a slot: steady data, or a list of our own that may still change -/
inductive Bd where
  | im (d : D)
  | own (oa : Option Addr) (ds : List D)
  | raw (p : V → Prop)
abbrev Rho := List (Option Bd)
def del (H : Hp) (a : Addr) : Hp := fun b => if b = a then none else H b
theorem del_ne {H : Hp} {a b : Addr} (h : b ≠ a) : del H a b = H b := by unfold del; rw [if_neg h]
theorem del_same {H : Hp} {a : Addr} : del H a a = none := by unfold del; rw [if_pos rfl]
theorem del_some {H : Hp} {a b : Addr} {o : HO} (h : del H a b = some o) : b ≠ a ∧ H b = some o := by
  by_cases e : b = a
  · subst e; rw [del_same] at h; cases h
  · rw [del_ne e] at h; exact ⟨e, h⟩
/-- the slots σ and the heap H bear ρ; G: the steady part -/
structure EO (H0 G0 : Hp) (ρ : Rho) (σ : L2.St) (H G : Hp) : Prop where
  len : ρ.length = σ.length
  h0 : Ex H0 H
  g0 : Ex G0 G
  gh : Ex G H
  fr : ∀ b o, G b = some o → G0 b = none → H0 b = none
  im : ∀ (i : Nat) (d : D), ρ[i]? = some (some (.im d)) → ∃ v, σ[i]? = some (some v) ∧ Rv G v d
  own : ∀ {oa : Option Addr} (i : Nat) (ds : List D), ρ[i]? = some (some (.own oa ds)) → ∃ a vs, σ[i]? = some (some (.ref a)) ∧ H a = some (.lst vs) ∧ RvA G vs ds ∧ G a = none ∧ H0 a = none
  sep : ∀ {oa ob : Option Addr} (i j : Nat) (ds es : List D) (a : Addr), ρ[i]? = some (some (.own oa ds)) → ρ[j]? = some (some (.own ob es)) → σ[i]? = some (some (.ref a)) → σ[j]? = some (some (.ref a)) → i = j
  adr : ∀ (i : Nat) (b : Addr) (ds : List D), ρ[i]? = some (some (.own (some b) ds)) → σ[i]? = some (some (.ref b))
  raw : ∀ (i : Nat) (p : V → Prop), ρ[i]? = some (some (.raw p)) → ∃ v, σ[i]? = some (some v) ∧ p v
/-- what a call may do to the heap: all stands, the steady part grows by new things -/
structure Grow (H G G' H' : Hp) : Prop where
  g : Ex G G'
  gh : Ex G' H'
  fr : ∀ b o, G' b = some o → G b = none → H b = none
section
variable {H0 G0 H0' G0' : Hp} {ρ : Rho} {σ : L2.St} {H G H' G' : Hp} {i : Nat} {d : D} {v : V} {a p : Addr} {vs : List V} {ds : List D} {o : HO}
theorem EO.lt (e : EO H0 G0 ρ σ H G) {b : Option Bd} (h : ρ[i]? = some b) : i < σ.length := by
  rw [← e.len]; exact (List.getElem?_eq_some_iff.mp h).1
/-- a thing is laid that is not told of -/
theorem EO.alloc (e : EO H0 G0 ρ σ H G) (hp : H p = none) : EO H0 G0 ρ σ (upd H p o) G where
  len := e.len
  h0 := e.h0.trans (.new hp)
  g0 := e.g0
  gh := e.gh.trans (.new hp)
  fr := e.fr
  im := e.im
  own := fun i ds h => by
    obtain ⟨a, vs, h1, h2, h3, h4, h5⟩ := e.own i ds h
    exact ⟨a, vs, h1, by rw [upd_ne (ne_of_none h2 hp)]; exact h2, h3, h4, h5⟩
  sep := e.sep
  adr := e.adr
  raw := e.raw
theorem EO.allocG (e : EO H0 G0 ρ σ H G) (hp : H p = none) : EO H0 G0 ρ σ (upd H p o) (upd G p o) ∧ Ex G (upd G p o) := by
  have hg : G p = none := e.gh.none hp
  refine ⟨⟨e.len, e.h0.trans (.new hp), e.g0.trans (.new hg), fun b u q => ?_, fun b u q h => ?_, fun i d h => ?_, fun i ds h => ?_, e.sep, e.adr, e.raw⟩, .new hg⟩
  · by_cases hb : b = p
    · subst hb; rw [upd_same] at q ⊢; exact q
    · rw [upd_ne hb] at q ⊢; exact e.gh b u q
  · by_cases hb : b = p
    · subst hb; exact e.h0.none hp
    · rw [upd_ne hb] at q; exact e.fr b u q h
  · obtain ⟨v, h1, h2⟩ := e.im i d h
    exact ⟨v, h1, h2.mono (.new hg)⟩
  · obtain ⟨a, vs, h1, h2, h3, h4, h5⟩ := e.own i ds h
    have ne : a ≠ p := ne_of_none h2 hp
    exact ⟨a, vs, h1, by rw [upd_ne ne]; exact h2, h3.mono (.new hg), by rw [upd_ne ne]; exact h4, h5⟩
/-- behind a call that changes nothing of ours -/
theorem EO.ext (e : EO H0 G0 ρ σ H G) (hh : Ex H H') (g : Grow H G G' H') : EO H0 G0 ρ σ H' G' where
  len := e.len
  h0 := e.h0.trans hh
  g0 := e.g0.trans g.g
  gh := g.gh
  fr := fun b o q h => by
    cases w : G b with
    | some u => exact e.fr b u w h
    | none => exact e.h0.none (g.fr b o q w)
  im := fun i d h => by
    obtain ⟨v, h1, h2⟩ := e.im i d h
    exact ⟨v, h1, h2.mono g.g⟩
  own := fun i ds h => by
    obtain ⟨a, vs, h1, h2, h3, h4, h5⟩ := e.own i ds h
    refine ⟨a, vs, h1, hh _ _ h2, h3.mono g.g, ?_, h5⟩
    cases w : G' a with
    | none => rfl
    | some u => have := g.fr a u w h4; rw [h2] at this; cases this
  sep := e.sep
  adr := e.adr
  raw := e.raw
/-- the whole again, over another ground -/
def ownAt (ρ : Rho) (σ : L2.St) (a : Addr) : Prop := ∃ (i : Nat) (ds : List D) (oa : Option Addr), ρ[i]? = some (some (.own oa ds)) ∧ σ[i]? = some (some (.ref a))
open Classical in
noncomputable def noOwn (ρ : Rho) (σ : L2.St) (H : Hp) : Hp := fun a => if ownAt ρ σ a then none else H a
theorem noOwn_ex : Ex (noOwn ρ σ H) H := fun a o h => by
  unfold noOwn at h
  split at h
  · cases h
  · exact h
theorem noOwn_at {o : HO} (h : H a = some o) (n : ¬ ownAt ρ σ a) : noOwn ρ σ H a = some o := by
  unfold noOwn; rw [if_neg n]; exact h
theorem EO.notOwn0 (e : EO H0 G0 ρ σ H G) {o : HO} (h : H0 a = some o) : ¬ ownAt ρ σ a := by
  rintro ⟨i, ds, _, h1, h2⟩
  obtain ⟨b, vs, h3, h4, h5, h6, h7⟩ := e.own i ds h1
  rw [h2] at h3; cases h3; rw [h7] at h; cases h
theorem EO.notOwnG (e : EO H0 G0 ρ σ H G) {o : HO} (h : G a = some o) : ¬ ownAt ρ σ a := by
  rintro ⟨i, ds, _, h1, h2⟩
  obtain ⟨b, vs, h3, h4, h5, h6, h7⟩ := e.own i ds h1
  rw [h2] at h3; cases h3; rw [h6] at h; cases h
theorem EO.reframe (e : EO H0 G0 ρ σ H G) : EO (noOwn ρ σ H) G ρ σ H G where
  len := e.len
  h0 := noOwn_ex
  g0 := .refl _
  gh := e.gh
  fr := fun b o q h => by rw [h] at q; cases q
  im := e.im
  own := fun i ds h => by
    obtain ⟨a, vs, h1, h2, h3, h4, h5⟩ := e.own i ds h
    refine ⟨a, vs, h1, h2, h3, h4, ?_⟩
    unfold noOwn
    rw [if_pos ⟨i, ds, _, h, h1⟩]
  sep := e.sep
  adr := e.adr
  raw := e.raw
/-- back from another ground -/
theorem EO.back {ρ1 : Rho} {σ1 : L2.St} (e : EO H0 G0 ρ1 σ1 H G) (f : EO (noOwn ρ1 σ1 H) G ρ σ H' G') : EO H0 G0 ρ σ H' G' where
  len := f.len
  h0 := fun b o h => f.h0 b o (noOwn_at (e.h0 b o h) (e.notOwn0 h))
  g0 := e.g0.trans f.g0
  gh := f.gh
  fr := fun b o q h => by
    cases w : G b with
    | some u => exact e.fr b u w h
    | none =>
      have z := f.fr b o q w
      cases y : H0 b with
      | none => rfl
      | some u => rw [noOwn_at (e.h0 b u y) (e.notOwn0 y)] at z; cases z
  im := f.im
  own := fun i ds h => by
    obtain ⟨a, vs, h1, h2, h3, h4, h5⟩ := f.own i ds h
    refine ⟨a, vs, h1, h2, h3, h4, ?_⟩
    cases y : H0 a with
    | none => rfl
    | some u => rw [noOwn_at (e.h0 a u y) (e.notOwn0 y)] at h5; cases h5
  sep := f.sep
  adr := f.adr
  raw := f.raw
theorem EO.set_im (e : EO H0 G0 ρ σ H G) (r : Rv G v d) (i : Nat) : EO H0 G0 (ρ.set i (some (.im d))) (σ.set i (some v)) H G where
  len := by simp [e.len]
  h0 := e.h0
  g0 := e.g0
  gh := e.gh
  fr := e.fr
  im := fun j d' h => by
    by_cases hj : i = j
    · subst hj
      have hl : i < ρ.length := by have := (List.getElem?_eq_some_iff.mp h).1; simpa using this
      rw [List.getElem?_set_self hl] at h
      cases h
      exact ⟨v, List.getElem?_set_self (by rw [← e.len]; exact hl), r⟩
    · rw [List.getElem?_set_ne hj] at h ⊢
      exact e.im j d' h
  own := fun j ds h => by
    by_cases hj : i = j
    · subst hj
      have hl : i < ρ.length := by have := (List.getElem?_eq_some_iff.mp h).1; simpa using this
      rw [List.getElem?_set_self hl] at h; cases h
    · rw [List.getElem?_set_ne hj] at h ⊢
      exact e.own j ds h
  sep := fun j l ds es a h1 h2 h3 h4 => by
    have n1 : i ≠ j := by
      rintro rfl
      have hl : i < ρ.length := by have := (List.getElem?_eq_some_iff.mp h1).1; simpa using this
      rw [List.getElem?_set_self hl] at h1; cases h1
    have n2 : i ≠ l := by
      rintro rfl
      have hl : i < ρ.length := by have := (List.getElem?_eq_some_iff.mp h2).1; simpa using this
      rw [List.getElem?_set_self hl] at h2; cases h2
    rw [List.getElem?_set_ne n1] at h1 h3
    rw [List.getElem?_set_ne n2] at h2 h4
    exact e.sep j l ds es a h1 h2 h3 h4
  adr := fun j b ds h => by
    by_cases hj : i = j
    · subst hj
      have hl : i < ρ.length := by have := (List.getElem?_eq_some_iff.mp h).1; simpa using this
      rw [List.getElem?_set_self hl] at h; cases h
    · rw [List.getElem?_set_ne hj] at h ⊢
      exact e.adr j b ds h
  raw := fun j p h => by
    by_cases hj : i = j
    · subst hj
      have hl : i < ρ.length := by have := (List.getElem?_eq_some_iff.mp h).1; simpa using this
      rw [List.getElem?_set_self hl] at h; cases h
    · rw [List.getElem?_set_ne hj] at h ⊢
      exact e.raw j p h
/-- a slot is forgotten (and may hold anything) -/
theorem EO.forget (e : EO H0 G0 ρ σ H G) (i : Nat) (x : Option V) : EO H0 G0 (ρ.set i none) (σ.set i x) H G where
  len := by simp [e.len]
  h0 := e.h0
  g0 := e.g0
  gh := e.gh
  fr := e.fr
  im := fun j d' h => by
    by_cases hj : i = j
    · subst hj
      have hl : i < ρ.length := by have := (List.getElem?_eq_some_iff.mp h).1; simpa using this
      rw [List.getElem?_set_self hl] at h; cases h
    · rw [List.getElem?_set_ne hj] at h ⊢
      exact e.im j d' h
  own := fun j ds h => by
    by_cases hj : i = j
    · subst hj
      have hl : i < ρ.length := by have := (List.getElem?_eq_some_iff.mp h).1; simpa using this
      rw [List.getElem?_set_self hl] at h; cases h
    · rw [List.getElem?_set_ne hj] at h ⊢
      exact e.own j ds h
  sep := fun j l ds es a h1 h2 h3 h4 => by
    have n1 : i ≠ j := by
      rintro rfl
      have hl : i < ρ.length := by have := (List.getElem?_eq_some_iff.mp h1).1; simpa using this
      rw [List.getElem?_set_self hl] at h1; cases h1
    have n2 : i ≠ l := by
      rintro rfl
      have hl : i < ρ.length := by have := (List.getElem?_eq_some_iff.mp h2).1; simpa using this
      rw [List.getElem?_set_self hl] at h2; cases h2
    rw [List.getElem?_set_ne n1] at h1 h3
    rw [List.getElem?_set_ne n2] at h2 h4
    exact e.sep j l ds es a h1 h2 h3 h4
  adr := fun j b ds h => by
    by_cases hj : i = j
    · subst hj
      have hl : i < ρ.length := by have := (List.getElem?_eq_some_iff.mp h).1; simpa using this
      rw [List.getElem?_set_self hl] at h; cases h
    · rw [List.getElem?_set_ne hj] at h ⊢
      exact e.adr j b ds h
  raw := fun j p h => by
    by_cases hj : i = j
    · subst hj
      have hl : i < ρ.length := by have := (List.getElem?_eq_some_iff.mp h).1; simpa using this
      rw [List.getElem?_set_self hl] at h; cases h
    · rw [List.getElem?_set_ne hj] at h ⊢
      exact e.raw j p h
theorem EO.set_own (e : EO H0 G0 ρ σ H G) (h1 : H a = some (.lst vs)) (h2 : RvA G vs ds) (h3 : G a = none) (h4 : H0 a = none) (n : ¬ ownAt ρ σ a) (i : Nat) :
    EO H0 G0 (ρ.set i (some (.own none ds))) (σ.set i (some (.ref a))) H G where
  len := by simp [e.len]
  h0 := e.h0
  g0 := e.g0
  gh := e.gh
  fr := e.fr
  im := fun j d' h => by
    by_cases hj : i = j
    · subst hj
      have hl : i < ρ.length := by have := (List.getElem?_eq_some_iff.mp h).1; simpa using this
      rw [List.getElem?_set_self hl] at h; cases h
    · rw [List.getElem?_set_ne hj] at h ⊢
      exact e.im j d' h
  own := fun j es h => by
    by_cases hj : i = j
    · subst hj
      have hl : i < ρ.length := by have := (List.getElem?_eq_some_iff.mp h).1; simpa using this
      rw [List.getElem?_set_self hl] at h; cases h
      exact ⟨a, vs, List.getElem?_set_self (by rw [← e.len]; exact hl), h1, h2, h3, h4⟩
    · rw [List.getElem?_set_ne hj] at h ⊢
      exact e.own j es h
  sep := fun j l xs ys b e1 e2 e3 e4 => by
    by_cases hj : i = j
    · by_cases hl : i = l
      · rw [← hj, ← hl]
      · subst hj
        have hi : i < σ.length := by have := (List.getElem?_eq_some_iff.mp e3).1; simpa using this
        rw [List.getElem?_set_self hi] at e3; cases e3
        rw [List.getElem?_set_ne hl] at e2 e4
        exact (n ⟨l, ys, _, e2, e4⟩).elim
    · by_cases hl : i = l
      · subst hl
        have hi : i < σ.length := by have := (List.getElem?_eq_some_iff.mp e4).1; simpa using this
        rw [List.getElem?_set_self hi] at e4; cases e4
        rw [List.getElem?_set_ne hj] at e1 e3
        exact (n ⟨j, xs, _, e1, e3⟩).elim
      · rw [List.getElem?_set_ne hj] at e1 e3
        rw [List.getElem?_set_ne hl] at e2 e4
        exact e.sep j l xs ys b e1 e2 e3 e4
  adr := fun j b ds h => by
    by_cases hj : i = j
    · subst hj
      have hl : i < ρ.length := by have := (List.getElem?_eq_some_iff.mp h).1; simpa using this
      rw [List.getElem?_set_self hl] at h; cases h
    · rw [List.getElem?_set_ne hj] at h ⊢
      exact e.adr j b ds h
  raw := fun j p h => by
    by_cases hj : i = j
    · subst hj
      have hl : i < ρ.length := by have := (List.getElem?_eq_some_iff.mp h).1; simpa using this
      rw [List.getElem?_set_self hl] at h; cases h
    · rw [List.getElem?_set_ne hj] at h ⊢
      exact e.raw j p h
/-- a list of our own is changed -/
theorem EO.mut (e : EO H0 G0 ρ σ H G) {oa : Option Addr} (h : ρ[i]? = some (some (.own oa ds))) (hσ : σ[i]? = some (some (.ref a))) {vs' : List V} {ds' : List D} (r : RvA G vs' ds') :
    EO H0 G0 (ρ.set i (some (.own oa ds'))) σ (upd H a (.lst vs')) G := by
  obtain ⟨a', vs, g1, g2, g3, g4, g5⟩ := e.own i ds h
  rw [hσ] at g1; cases g1
  have hl : i < ρ.length := (List.getElem?_eq_some_iff.mp h).1
  refine ⟨by simp [e.len], fun b o q => ?_, e.g0, fun b o q => ?_, e.fr, fun j d' q => ?_, fun j es q => ?_, fun j l xs ys b e1 e2 e3 e4 => ?_, fun j b ds' q => ?_, fun j p' q => ?_⟩
  · rw [upd_ne (ne_of_none q g5)]; exact e.h0 b o q
  · rw [upd_ne (ne_of_none q g4)]; exact e.gh b o q
  · by_cases hj : i = j
    · subst hj; rw [List.getElem?_set_self hl] at q; cases q
    · rw [List.getElem?_set_ne hj] at q; exact e.im j d' q
  · by_cases hj : i = j
    · subst hj; rw [List.getElem?_set_self hl] at q; cases q
      exact ⟨a, vs', hσ, upd_same, r, g4, g5⟩
    · rw [List.getElem?_set_ne hj] at q
      obtain ⟨b, us, k1, k2, k3, k4, k5⟩ := e.own j es q
      refine ⟨b, us, k1, ?_, k3, k4, k5⟩
      rw [upd_ne]; exact k2
      rintro rfl
      exact hj (e.sep i j ds es b h q hσ k1)
  · have o1 : ∃ (z : List D) (w : Option Addr), ρ[j]? = some (some (.own w z)) := by
      by_cases hj : i = j
      · subst hj; exact ⟨_, _, h⟩
      · rw [List.getElem?_set_ne hj] at e1; exact ⟨_, _, e1⟩
    have o2 : ∃ (z : List D) (w : Option Addr), ρ[l]? = some (some (.own w z)) := by
      by_cases hj : i = l
      · subst hj; exact ⟨_, _, h⟩
      · rw [List.getElem?_set_ne hj] at e2; exact ⟨_, _, e2⟩
    obtain ⟨z1, w1, o1⟩ := o1
    obtain ⟨z2, w2, o2⟩ := o2
    exact e.sep j l z1 z2 b o1 o2 e3 e4
  · by_cases hj : i = j
    · subst hj; rw [List.getElem?_set_self hl] at q; cases q; exact e.adr i b ds h
    · rw [List.getElem?_set_ne hj] at q; exact e.adr j b ds' q
  · by_cases hj : i = j
    · subst hj; rw [List.getElem?_set_self hl] at q; cases q
    · rw [List.getElem?_set_ne hj] at q; exact e.raw j p' q
/-- a list of our own is let be from now on -/
theorem EO.freeze (e : EO H0 G0 ρ σ H G) {oa : Option Addr} (h : ρ[i]? = some (some (.own oa ds))) : ∃ a vs, σ[i]? = some (some (.ref a)) ∧ H a = some (.lst vs) ∧ Ex G (upd G a (.lst vs)) ∧ RvA (upd G a (.lst vs)) vs ds ∧
    EO H0 G0 (ρ.set i (some (.im (.list ds)))) σ H (upd G a (.lst vs)) := by
  obtain ⟨a, vs, g1, g2, g3, g4, g5⟩ := e.own i ds h
  have hl : i < ρ.length := (List.getElem?_eq_some_iff.mp h).1
  have x : Ex G (upd G a (.lst vs)) := .new g4
  refine ⟨a, vs, g1, g2, x, g3.mono x, by simp [e.len], e.h0, e.g0.trans x, fun b o q => ?_, fun b o q w => ?_, fun j d' q => ?_, fun j es q => ?_, fun j l xs ys b e1 e2 e3 e4 => ?_, fun j b ds' q => ?_, fun j p' q => ?_⟩
  · by_cases hb : b = a
    · subst hb; rw [upd_same] at q; cases q; exact g2
    · rw [upd_ne hb] at q; exact e.gh b o q
  · by_cases hb : b = a
    · subst hb; exact g5
    · rw [upd_ne hb] at q; exact e.fr b o q w
  · by_cases hj : i = j
    · subst hj; rw [List.getElem?_set_self hl] at q; cases q
      exact ⟨_, g1, .lst upd_same (g3.mono x)⟩
    · rw [List.getElem?_set_ne hj] at q
      obtain ⟨v, k1, k2⟩ := e.im j d' q
      exact ⟨v, k1, k2.mono x⟩
  · by_cases hj : i = j
    · subst hj; rw [List.getElem?_set_self hl] at q; cases q
    · rw [List.getElem?_set_ne hj] at q
      obtain ⟨b, us, k1, k2, k3, k4, k5⟩ := e.own j es q
      have ne : b ≠ a := by
        rintro rfl
        exact hj (e.sep i j ds es b h q g1 k1)
      exact ⟨b, us, k1, k2, k3.mono x, by rw [upd_ne ne]; exact k4, k5⟩
  · have n1 : i ≠ j := by rintro rfl; rw [List.getElem?_set_self hl] at e1; cases e1
    have n2 : i ≠ l := by rintro rfl; rw [List.getElem?_set_self hl] at e2; cases e2
    rw [List.getElem?_set_ne n1] at e1
    rw [List.getElem?_set_ne n2] at e2
    exact e.sep j l xs ys b e1 e2 e3 e4
  · by_cases hj : i = j
    · subst hj; rw [List.getElem?_set_self hl] at q; cases q
    · rw [List.getElem?_set_ne hj] at q; exact e.adr j b ds' q
  · by_cases hj : i = j
    · subst hj; rw [List.getElem?_set_self hl] at q; cases q
    · rw [List.getElem?_set_ne hj] at q; exact e.raw j p' q
/-- a new list that is not ours yet joins the steady part -/
theorem EO.join (e : EO H0 G0 ρ σ H G) (h1 : H a = some (.lst vs)) (h2 : RvA G vs ds) (h3 : G a = none) (h4 : H0 a = none) (n : ¬ ownAt ρ σ a) :
    EO H0 G0 ρ σ H (upd G a (.lst vs)) ∧ Ex G (upd G a (.lst vs)) ∧ Rv (upd G a (.lst vs)) (.ref a) (.list ds) := by
  have x : Ex G (upd G a (.lst vs)) := .new h3
  refine ⟨⟨e.len, e.h0, e.g0.trans x, fun b o q => ?_, fun b o q w => ?_, fun j d' q => ?_, fun j es q => ?_, e.sep, e.adr, e.raw⟩, x, .lst upd_same (h2.mono x)⟩
  · by_cases hb : b = a
    · subst hb; rw [upd_same] at q; cases q; exact h1
    · rw [upd_ne hb] at q; exact e.gh b o q
  · by_cases hb : b = a
    · subst hb; exact h4
    · rw [upd_ne hb] at q; exact e.fr b o q w
  · obtain ⟨v, k1, k2⟩ := e.im j d' q
    exact ⟨v, k1, k2.mono x⟩
  · obtain ⟨b, us, k1, k2, k3, k4, k5⟩ := e.own j es q
    have ne : b ≠ a := by rintro rfl; exact n ⟨j, es, _, q, k1⟩
    exact ⟨b, us, k1, k2, k3.mono x, by rw [upd_ne ne]; exact k4, k5⟩
/-- a new object at p is no list of ours -/
theorem EO.newNot (e : EO H0 G0 ρ σ H G) (hp : H p = none) : ¬ ownAt ρ σ p := by
  rintro ⟨i, ds, _, h1, h2⟩
  obtain ⟨b, vs, h3, h4, _⟩ := e.own i ds h1
  rw [h2] at h3; cases h3; rw [h4] at hp; cases hp
end
end DL
namespace DL
open PySem PySem.Spec PyProof.Rows L2
/-- the dict of a NotUsable -/
def xdw (w : Str) : HO := .xd [("at", .int (-1)), ("word", .str w)]
/-- what stands around a derivation -/
structure Gm (X : Cx) (C : Addr) where
  H0 : Hp
  G0 : Hp
  E : L2.St → XK
  err : Str → Rho → Prop
  tk : Takes X (fun cls d σ H => E σ cls d H)
  hE : ∀ w dx ρ σ H G, err w ρ → EO H0 G0 ρ σ H G → H dx = some (xdw w) → E σ (.ref C) (some dx) H
  pown : PassesOwn (model X.prog X.w) X.A X.env X.xe
  nd : X.N.Nodup
variable {X : Cx} {C : Addr}
theorem Gm.pass (Γ : Gm X C) : ∀ σ, PassesAt (L2.CX X.prog X.w) X σ (Γ.E σ) := passAt Γ.tk
abbrev Gm.eo (Γ : Gm X C) (ρ : Rho) (σ : L2.St) (H G : Hp) : Prop := EO Γ.H0 Γ.G0 ρ σ H G
/-! ### judgements -/
structure DE (Γ : Gm X C) (e : Expr) (ρ : Rho) (k : D → Rho → Prop) : Prop where
  run : ∀ (pins : List (Addr × Obj)) (s : Shared) (σ : L2.St) (H G : Hp) (Q : VK), Inv X pins σ H s → Γ.eo ρ σ H G →
    (∀ d ρ' v H' G', k d ρ' → Γ.eo ρ' σ H' G' → Ex G G' → Rv G' v d → Q v H') → wpAny (model X.prog X.w) X.A (eval e X.env) (EP X pins σ Q) X.xe s
/-- a new list -/
structure DN (Γ : Gm X C) (e : Expr) (ρ : Rho) (k : List D → Rho → Prop) : Prop where
  run : ∀ (pins : List (Addr × Obj)) (s : Shared) (σ : L2.St) (H G : Hp) (Q : VK), Inv X pins σ H s → Γ.eo ρ σ H G →
    (∀ ds ρ' a vs H' G', k ds ρ' → Γ.eo ρ' σ H' G' → Ex G G' → H' a = some (.lst vs) → RvA G' vs ds → G' a = none → Γ.H0 a = none → ¬ ownAt ρ' σ a → Q (.ref a) H') →
    wpAny (model X.prog X.w) X.A (eval e X.env) (EP X pins σ Q) X.xe s
structure DA (Γ : Gm X C) (es : List Expr) (ρ : Rho) (k : List D → Rho → Prop) : Prop where
  run : ∀ (pos : Pos) (pins : List (Addr × Obj)) (s : Shared) (σ : L2.St) (H G : Hp) (Q : List V → Hp → Prop), Inv X pins σ H s → Γ.eo ρ σ H G →
    (∀ ds ρ' vs H' G', k ds ρ' → Γ.eo ρ' σ H' G' → Ex G G' → RvA G' vs ds → Q vs H') → wpAny (model X.prog X.w) X.A (spliced (backTo pos (starEach es X.env))) (AP X pins σ Q) X.xe s
structure DT (Γ : Gm X C) (e : Expr) (ρ : Rho) (k : Bool → Rho → Prop) : Prop where
  run : ∀ (pins : List (Addr × Obj)) (s : Shared) (σ : L2.St) (H G : Hp) (Q : Bool → Hp → Prop), Inv X pins σ H s → Γ.eo ρ σ H G →
    (∀ b ρ' H' G', k b ρ' → Γ.eo ρ' σ H' G' → Ex G G' → Q b H') → wpAny (model X.prog X.w) X.A (isTrue e X.env (eval e X.env)) (TP X pins σ Q) X.xe s
structure DW (Γ : Gm X C) (e : Expr) (ρ : Rho) (k : Bool → Rho → Prop) : Prop where
  run : ∀ (whole : Sem Value) (pins : List (Addr × Obj)) (s : Shared) (σ : L2.St) (H G : Hp) (Q : Bool → Hp → Prop), Inv X pins σ H s → Γ.eo ρ σ H G →
    (∀ b ρ' H' G', k b ρ' → Γ.eo ρ' σ H' G' → Ex G G' → Q b H') → wpAny (model X.prog X.w) X.A (isTrue e X.env whole) (TP X pins σ Q) X.xe s
structure Post where
  nx : Rho → Prop
  rt : D → Rho → Prop
  bk : Rho → Prop := fun _ => False
  ct : Rho → Prop := fun _ => False
structure DOk (Γ : Gm X C) (P : Post) (G0 : Hp) (Dd : Ends) : Prop where
  nx : ∀ ρ σ H G, P.nx ρ → Γ.eo ρ σ H G → Ex G0 G → Dd.nx σ H
  rt : ∀ d ρ v σ H G, P.rt d ρ → Γ.eo ρ σ H G → Ex G0 G → Rv G v d → Dd.rt v H
  bk : ∀ ρ σ H G, P.bk ρ → Γ.eo ρ σ H G → Ex G0 G → Dd.bk σ H
  ct : ∀ ρ σ H G, P.ct ρ → Γ.eo ρ σ H G → Ex G0 G → Dd.ct σ H
theorem DOk.up {Γ : Gm X C} {P : Post} {G0 G1 : Hp} {Dd : Ends} (h : DOk Γ P G0 Dd) (e : Ex G0 G1) : DOk Γ P G1 Dd :=
  ⟨fun ρ σ H G z y x => h.nx ρ σ H G z y (e.trans x), fun d ρ v σ H G z y x => h.rt d ρ v σ H G z y (e.trans x), fun ρ σ H G z y x => h.bk ρ σ H G z y (e.trans x), fun ρ σ H G z y x => h.ct ρ σ H G z y (e.trans x)⟩
structure DS (Γ : Gm X C) (st : Stmt) (ρ : Rho) (P : Post) : Prop where
  run : ∀ (pins : List (Addr × Obj)) (s : Shared) (σ : L2.St) (H G : Hp) (Dd : Ends), Inv X pins σ H s → Γ.eo ρ σ H G → DOk Γ P G Dd → wpAny (model X.prog X.w) X.A (exec st X.env) (SP X pins Dd) X.xe s
structure DSs (Γ : Gm X C) (st : List Stmt) (ρ : Rho) (P : Post) : Prop where
  run : ∀ (pins : List (Addr × Obj)) (s : Shared) (σ : L2.St) (H G : Hp) (Dd : Ends), Inv X pins σ H s → Γ.eo ρ σ H G → DOk Γ P G Dd → wpAny (model X.prog X.w) X.A (execs st X.env) (SP X pins Dd) X.xe s
/-! ### universal readings -/
section
variable (Γ : Gm X C)
def tU (e : Expr) : TE := fun σ H Q => ∃ ρ G k, DE Γ e ρ k ∧ Γ.eo ρ σ H G ∧ ∀ d ρ' v H' G', k d ρ' → Γ.eo ρ' σ H' G' → Ex G G' → Rv G' v d → Q v H'
def tUA (es : List Expr) : TA := fun σ H Q => ∃ ρ G k, DA Γ es ρ k ∧ Γ.eo ρ σ H G ∧ ∀ ds ρ' vs H' G', k ds ρ' → Γ.eo ρ' σ H' G' → Ex G G' → RvA G' vs ds → Q vs H'
def tUT (e : Expr) : TT := fun σ H Q => ∃ ρ G k, DT Γ e ρ k ∧ Γ.eo ρ σ H G ∧ ∀ b ρ' H' G', k b ρ' → Γ.eo ρ' σ H' G' → Ex G G' → Q b H'
def tUW (e : Expr) : TT := fun σ H Q => ∃ ρ G k, DW Γ e ρ k ∧ Γ.eo ρ σ H G ∧ ∀ b ρ' H' G', k b ρ' → Γ.eo ρ' σ H' G' → Ex G G' → Q b H'
def tUS (st : Stmt) : TS := fun Dd σ H => ∃ ρ G P, DS Γ st ρ P ∧ Γ.eo ρ σ H G ∧ DOk Γ P G Dd
def tUSs (st : List Stmt) : TS := fun Dd σ H => ∃ ρ G P, DSs Γ st ρ P ∧ Γ.eo ρ σ H G ∧ DOk Γ P G Dd
theorem pe_U (e : Expr) : PE X e (tU Γ e) := ⟨fun pins s σ H Q I ⟨ρ, G, k, h, eo, hk⟩ => h.run pins s σ H G Q I eo hk⟩
theorem pa_U (es : List Expr) : PA X es (tUA Γ es) := ⟨fun pos pins s σ H Q I ⟨ρ, G, k, h, eo, hk⟩ => h.run pos pins s σ H G Q I eo hk⟩
theorem pt_U (e : Expr) : PT X e (tUT Γ e) := ⟨fun pins s σ H Q I ⟨ρ, G, k, h, eo, hk⟩ => h.run pins s σ H G Q I eo hk⟩
theorem pw_U (e : Expr) : PW X e (tUW Γ e) := ⟨fun wh pins s σ H Q I ⟨ρ, G, k, h, eo, hk⟩ => h.run wh pins s σ H G Q I eo hk⟩
theorem ps_U (st : Stmt) : PS X st (tUS Γ st) := ⟨fun pins s σ H Dd I ⟨ρ, G, P, h, eo, hk⟩ => h.run pins s σ H G Dd I eo hk⟩
theorem pss_U (st : List Stmt) : PSs X st (tUSs Γ st) := ⟨fun pins s σ H Dd I ⟨ρ, G, P, h, eo, hk⟩ => h.run pins s σ H G Dd I eo hk⟩
end
section
variable {Γ : Gm X C} {e : Expr} {es : List Expr} {st : Stmt} {sts : List Stmt} {ρ : Rho}
theorem de_of {t : TE} {k : D → Rho → Prop} (h : PE X e t) (hr : ∀ σ H G (Q : VK), Γ.eo ρ σ H G → (∀ d ρ' v H' G', k d ρ' → Γ.eo ρ' σ H' G' → Ex G G' → Rv G' v d → Q v H') → t σ H Q) : DE Γ e ρ k :=
  .mk fun pins s σ H G Q I eo hk => h.run pins s σ H Q I (hr σ H G Q eo hk)
theorem dn_of {t : TE} {k : List D → Rho → Prop} (h : PE X e t) (hr : ∀ σ H G (Q : VK), Γ.eo ρ σ H G →
    (∀ ds ρ' a vs H' G', k ds ρ' → Γ.eo ρ' σ H' G' → Ex G G' → H' a = some (.lst vs) → RvA G' vs ds → G' a = none → Γ.H0 a = none → ¬ ownAt ρ' σ a → Q (.ref a) H') → t σ H Q) : DN Γ e ρ k :=
  .mk fun pins s σ H G Q I eo hk => h.run pins s σ H Q I (hr σ H G Q eo hk)
theorem dt_of {t : TT} {k : Bool → Rho → Prop} (h : PT X e t) (hr : ∀ σ H G (Q : Bool → Hp → Prop), Γ.eo ρ σ H G → (∀ b ρ' H' G', k b ρ' → Γ.eo ρ' σ H' G' → Ex G G' → Q b H') → t σ H Q) : DT Γ e ρ k :=
  .mk fun pins s σ H G Q I eo hk => h.run pins s σ H Q I (hr σ H G Q eo hk)
theorem dw_of {t : TT} {k : Bool → Rho → Prop} (h : PW X e t) (hr : ∀ σ H G (Q : Bool → Hp → Prop), Γ.eo ρ σ H G → (∀ b ρ' H' G', k b ρ' → Γ.eo ρ' σ H' G' → Ex G G' → Q b H') → t σ H Q) : DW Γ e ρ k :=
  .mk fun wh pins s σ H G Q I eo hk => h.run wh pins s σ H Q I (hr σ H G Q eo hk)
theorem da_of {t : TA} {k : List D → Rho → Prop} (h : PA X es t) (hr : ∀ σ H G (Q : List V → Hp → Prop), Γ.eo ρ σ H G → (∀ ds ρ' vs H' G', k ds ρ' → Γ.eo ρ' σ H' G' → Ex G G' → RvA G' vs ds → Q vs H') → t σ H Q) : DA Γ es ρ k :=
  .mk fun pos pins s σ H G Q I eo hk => h.run pos pins s σ H Q I (hr σ H G Q eo hk)
theorem ds_of {t : TS} {P : Post} (h : PS X st t) (hr : ∀ σ H G (Dd : Ends), Γ.eo ρ σ H G → DOk Γ P G Dd → t Dd σ H) : DS Γ st ρ P :=
  .mk fun pins s σ H G Dd I eo hk => h.run pins s σ H Dd I (hr σ H G Dd eo hk)
theorem dss_of {t : TS} {P : Post} (h : PSs X sts t) (hr : ∀ σ H G (Dd : Ends), Γ.eo ρ σ H G → DOk Γ P G Dd → t Dd σ H) : DSs Γ sts ρ P :=
  .mk fun pins s σ H G Dd I eo hk => h.run pins s σ H Dd I (hr σ H G Dd eo hk)
theorem DE.mono {k k' : D → Rho → Prop} (h : DE Γ e ρ k) (hk : ∀ d ρ', k d ρ' → k' d ρ') : DE Γ e ρ k' :=
  .mk fun pins s σ H G Q I eo q => h.run pins s σ H G Q I eo fun d ρ' v H' G' z => q d ρ' v H' G' (hk d ρ' z)
theorem DSs.mono {P P' : Post} (h : DSs Γ sts ρ P) (h1 : ∀ ρ, P.nx ρ → P'.nx ρ) (h2 : ∀ d ρ, P.rt d ρ → P'.rt d ρ) (h3 : ∀ ρ, P.bk ρ → P'.bk ρ) (h4 : ∀ ρ, P.ct ρ → P'.ct ρ) : DSs Γ sts ρ P' :=
  .mk fun pins s σ H G Dd I eo q => h.run pins s σ H G Dd I eo ⟨fun ρ σ H G z => q.nx ρ σ H G (h1 _ z), fun d ρ v σ H G z => q.rt d ρ v σ H G (h2 _ _ z), fun ρ σ H G z => q.bk ρ σ H G (h3 _ z), fun ρ σ H G z => q.ct ρ σ H G (h4 _ z)⟩
end
/-! ### expressions -/
section
variable {Γ : Gm X C} {a b c e : Expr} {es : List Expr} {ρ : Rho} {pos p p2 : Pos} {k : D → Rho → Prop} {x : Str}
theorem de_name (i : Nat) {d : D} (h : ρ[i]? = some (some (.im d))) (hk : k d ρ) (hN : X.N[i]? = some x := by rfl) (hv : Vis X.env.scope x := by first | exact Or.inl rfl | exact Or.inr (Or.inl rfl) | exact Or.inr (Or.inr rfl))
    (hd : (x == ("__debug__" : Str)) = false := by decide) (hcd : (x == ("__classdict__" : Str)) = false := by decide) : DE Γ (.Name x pos) ρ k :=
  de_of (pe_var hN hv hd hcd) fun σ H G Q eo hk' => by
    obtain ⟨v, h1, h2⟩ := eo.im i d h
    exact ⟨v, h1, hk' d ρ v H G hk eo (.refl _) h2⟩
/-- a list of our own, let be from now on -/
theorem de_own (i : Nat) {oa : Option Addr} {ds : List D} (h : ρ[i]? = some (some (.own oa ds))) (hk : k (.list ds) (ρ.set i (some (.im (.list ds))))) (hN : X.N[i]? = some x := by rfl) (hv : Vis X.env.scope x := by first | exact Or.inl rfl | exact Or.inr (Or.inl rfl) | exact Or.inr (Or.inr rfl))
    (hd : (x == ("__debug__" : Str)) = false := by decide) (hcd : (x == ("__classdict__" : Str)) = false := by decide) : DE Γ (.Name x pos) ρ k :=
  de_of (pe_var hN hv hd hcd) fun σ H G Q eo hk' => by
    obtain ⟨a, vs, h1, h2, h3, h4, h5⟩ := eo.freeze h
    exact ⟨_, h1, hk' _ _ _ H _ hk h5 h3 (.lst upd_same h4)⟩
theorem de_int {i : Int} {j : Nat} (hk : k (.int i) ρ) : DE Γ (.Constant (.int i) j pos) ρ k := de_of pe_int fun σ H G Q eo h => h _ _ _ _ _ hk eo (.refl _) (.int i)
theorem de_bl {i : Bool} {j : Nat} (hk : k (.bool i) ρ) : DE Γ (.Constant (.bool i) j pos) ρ k := de_of pe_bl fun σ H G Q eo h => h _ _ _ _ _ hk eo (.refl _) (.bl i)
theorem de_str {i : Str} {j : Nat} (hk : k (.str i) ρ) : DE Γ (.Constant (.str i) j pos) ρ k := de_of pe_str fun σ H G Q eo h => h _ _ _ _ _ hk eo (.refl _) (.str i)
theorem de_non {j : Nat} (hk : k .none ρ) : DE Γ (.Constant .none j pos) ρ k := de_of pe_non fun σ H G Q eo h => h _ _ _ _ _ hk eo (.refl _) .non
/-- two parts, then an operation on values -/
theorem two {r : R2} {σ : L2.St} {H G : Hp} {Q : VK} (eo : Γ.eo ρ σ H G)
    {m : D → D → Rho → Prop} (h : DE Γ a ρ (fun x ρ1 => DE Γ b ρ1 (fun y ρ2 => m x y ρ2)))
    (hr : ∀ x y ρ2 u v H2 G2, m x y ρ2 → Γ.eo ρ2 σ H2 G2 → Ex G G2 → Rv G2 u x → Rv G2 v y → r u v H2 Q) : tOp r (tU Γ a) (tU Γ b) σ H Q :=
  ⟨ρ, G, _, h, eo, fun x ρ1 u H1 G1 hb eo1 ex1 ru => ⟨ρ1, G1, _, hb, eo1, fun y ρ2 v H2 G2 hm eo2 ex2 rv => hr x y ρ2 u v H2 G2 hm eo2 (ex1.trans ex2) (ru.mono ex2) rv⟩⟩
theorem de_op {op : Operator} {r : R2} (ho : OpR X (binaryOp op) r) {m : D → D → Rho → Prop} (h : DE Γ a ρ (fun x ρ1 => DE Γ b ρ1 (fun y ρ2 => m x y ρ2)))
    (hr : ∀ x y ρ2 u v σ H2 G2 (Q : VK), m x y ρ2 → Γ.eo ρ2 σ H2 G2 → Rv G2 u x → Rv G2 v y → (∀ d ρ' v H' G', k d ρ' → Γ.eo ρ' σ H' G' → Ex G2 G' → Rv G' v d → Q v H') → r u v H2 Q) : DE Γ (.BinOp a op b pos) ρ k :=
  de_of (pe_op ho (pe_U Γ a) (pe_U Γ b)) fun σ H G Q eo hk => two eo h fun x y ρ2 u v H2 G2 hm eo2 ex ru rv => hr x y ρ2 u v σ H2 G2 Q hm eo2 ru rv fun d ρ' v H' G' z e1 e2 => hk d ρ' v H' G' z e1 (ex.trans e2)
theorem de_cmp {op : CmpOp} {r : R2} (ho : OpR X (compareOp op) r) {m : D → D → Rho → Prop} (h : DE Γ a ρ (fun x ρ1 => DE Γ b ρ1 (fun y ρ2 => m x y ρ2)))
    (hr : ∀ x y ρ2 u v σ H2 G2 (Q : VK), m x y ρ2 → Γ.eo ρ2 σ H2 G2 → Rv G2 u x → Rv G2 v y → (∀ d ρ' v H' G', k d ρ' → Γ.eo ρ' σ H' G' → Ex G2 G' → Rv G' v d → Q v H') → r u v H2 Q)
    (hm : behindInMarks op b = false) : DE Γ (.Compare a [op] [b] pos) ρ k :=
  de_of (pe_cmpR ho (pe_U Γ a) (pe_U Γ b) hm) fun σ H G Q eo hk => two eo h fun x y ρ2 u v H2 G2 hm eo2 ex ru rv => hr x y ρ2 u v σ H2 G2 Q hm eo2 ru rv fun d ρ' v H' G' z e1 e2 => hk d ρ' v H' G' z e1 (ex.trans e2)
theorem dt_cmp {op : CmpOp} {r : R2} {kb : Bool → Rho → Prop} (ho : OpR X (compareOp op) r) {m : D → D → Rho → Prop} (h : DE Γ a ρ (fun x ρ1 => DE Γ b ρ1 (fun y ρ2 => m x y ρ2)))
    (hr : ∀ x y ρ2 u v σ H2 G2 (Q : VK), m x y ρ2 → Γ.eo ρ2 σ H2 G2 → Rv G2 u x → Rv G2 v y → (∀ c ρ' H' G', kb c ρ' → Γ.eo ρ' σ H' G' → Ex G2 G' → Q (.bl c) H') → r u v H2 Q)
    (hm : behindInMarks op b = false) : DT Γ (.Compare a [op] [b] pos) ρ kb :=
  dt_of (pt_cmpR ho (pe_U Γ a) (pe_U Γ b) hm) fun σ H G Q eo hk => two eo h fun x y ρ2 u v H2 G2 hm eo2 ex ru rv => hr x y ρ2 u v σ H2 G2 _ hm eo2 ru rv fun c ρ' H' G' z e1 e2 => ⟨c, rfl, hk c ρ' H' G' z e1 (ex.trans e2)⟩
/-- ints -/
abbrev II (x y : D) (f : Int → Int → Prop) : Prop := ∃ i j, x = .int i ∧ y = .int j ∧ f i j
theorem de_add (h : DE Γ a ρ (fun x ρ1 => DE Γ b ρ1 (fun y ρ2 => II x y fun i j => k (.int (i + j)) ρ2))) : DE Γ (.BinOp a .Add b pos) ρ k :=
  de_op op_add h fun x y ρ2 u v σ H2 G2 Q ⟨i, j, e1, e2, hm⟩ eo ru rv hk => by subst e1; subst e2; cases ru; cases rv; exact ⟨i, j, rfl, rfl, hk _ _ _ _ _ hm eo (.refl _) (.int _)⟩
theorem de_sub (h : DE Γ a ρ (fun x ρ1 => DE Γ b ρ1 (fun y ρ2 => II x y fun i j => k (.int (i - j)) ρ2))) : DE Γ (.BinOp a .Sub b pos) ρ k :=
  de_op op_sub h fun x y ρ2 u v σ H2 G2 Q ⟨i, j, e1, e2, hm⟩ eo ru rv hk => by subst e1; subst e2; cases ru; cases rv; exact ⟨i, j, rfl, rfl, hk _ _ _ _ _ hm eo (.refl _) (.int _)⟩
theorem de_mul (h : DE Γ a ρ (fun x ρ1 => DE Γ b ρ1 (fun y ρ2 => II x y fun i j => CMul i j ∧ k (.int (i * j)) ρ2))) : DE Γ (.BinOp a .Mult b pos) ρ k :=
  de_op op_mul h fun x y ρ2 u v σ H2 G2 Q ⟨i, j, e1, e2, hc, hm⟩ eo ru rv hk => by subst e1; subst e2; cases ru; cases rv; exact ⟨i, j, rfl, rfl, hc, hk _ _ _ _ _ hm eo (.refl _) (.int _)⟩
theorem de_fdiv (h : DE Γ a ρ (fun x ρ1 => DE Γ b ρ1 (fun y ρ2 => II x y fun i j => CDiv i j ∧ k (.int (i / j)) ρ2))) : DE Γ (.BinOp a .FloorDiv b pos) ρ k :=
  de_op op_fdiv h fun x y ρ2 u v σ H2 G2 Q ⟨i, j, e1, e2, hc, hm⟩ eo ru rv hk => by subst e1; subst e2; cases ru; cases rv; exact ⟨i, j, rfl, rfl, hc, hk _ _ _ _ _ hm eo (.refl _) (.int _)⟩
theorem de_mod (h : DE Γ a ρ (fun x ρ1 => DE Γ b ρ1 (fun y ρ2 => II x y fun i j => 0 < j ∧ k (.int (i % j)) ρ2))) : DE Γ (.BinOp a .Mod b pos) ρ k :=
  de_op op_mod h fun x y ρ2 u v σ H2 G2 Q ⟨i, j, e1, e2, hc, hm⟩ eo ru rv hk => by subst e1; subst e2; cases ru; cases rv; exact ⟨i, j, rfl, rfl, hc, hk _ _ _ _ _ hm eo (.refl _) (.int _)⟩
theorem de_pow (h : DE Γ a ρ (fun x ρ1 => DE Γ b ρ1 (fun y ρ2 => II x y fun i j => CPow i j ∧ k (.int (i ^ j.toNat)) ρ2))) : DE Γ (.BinOp a .Pow b pos) ρ k :=
  de_op op_pow h fun x y ρ2 u v σ H2 G2 Q ⟨i, j, e1, e2, hc, hm⟩ eo ru rv hk => by subst e1; subst e2; cases ru; cases rv; exact ⟨i, j, rfl, rfl, hc, hk _ _ _ _ _ hm eo (.refl _) (.int _)⟩
theorem de_neg (h : DE Γ a ρ (fun x ρ1 => ∃ i, x = .int i ∧ k (.int (-i)) ρ1)) : DE Γ (.UnaryOp .USub a pos) ρ k :=
  de_of (pe_un un_neg (pe_U Γ a)) fun σ H G Q eo hk => ⟨ρ, G, _, h, eo, fun x ρ1 u H1 G1 ⟨i, e, hm⟩ eo1 ex1 ru => by subst e; cases ru; exact ⟨i, rfl, hk _ _ _ _ _ hm eo1 ex1 (.int _)⟩⟩
/-- int comparisons -/
theorem de_lt (h : DE Γ a ρ (fun x ρ1 => DE Γ b ρ1 (fun y ρ2 => II x y fun i j => k (.bool (decide (i < j))) ρ2))) : DE Γ (.Compare a [.Lt] [b] pos) ρ k :=
  de_cmp op_lt h (fun x y ρ2 u v σ H2 G2 Q ⟨i, j, e1, e2, hm⟩ eo ru rv hk => by subst e1; subst e2; cases ru; cases rv; exact ⟨i, j, rfl, rfl, hk _ _ _ _ _ hm eo (.refl _) (.bl _)⟩) (nomark _)
theorem de_le (h : DE Γ a ρ (fun x ρ1 => DE Γ b ρ1 (fun y ρ2 => II x y fun i j => k (.bool (decide (i ≤ j))) ρ2))) : DE Γ (.Compare a [.LtE] [b] pos) ρ k :=
  de_cmp op_le h (fun x y ρ2 u v σ H2 G2 Q ⟨i, j, e1, e2, hm⟩ eo ru rv hk => by subst e1; subst e2; cases ru; cases rv; exact ⟨i, j, rfl, rfl, hk _ _ _ _ _ hm eo (.refl _) (.bl _)⟩) (nomark _)
theorem de_gt (h : DE Γ a ρ (fun x ρ1 => DE Γ b ρ1 (fun y ρ2 => II x y fun i j => k (.bool (decide (j < i))) ρ2))) : DE Γ (.Compare a [.Gt] [b] pos) ρ k :=
  de_cmp op_gt h (fun x y ρ2 u v σ H2 G2 Q ⟨i, j, e1, e2, hm⟩ eo ru rv hk => by subst e1; subst e2; cases ru; cases rv; exact ⟨i, j, rfl, rfl, hk _ _ _ _ _ hm eo (.refl _) (.bl _)⟩) (nomark _)
theorem de_ge (h : DE Γ a ρ (fun x ρ1 => DE Γ b ρ1 (fun y ρ2 => II x y fun i j => k (.bool (decide (j ≤ i))) ρ2))) : DE Γ (.Compare a [.GtE] [b] pos) ρ k :=
  de_cmp op_ge h (fun x y ρ2 u v σ H2 G2 Q ⟨i, j, e1, e2, hm⟩ eo ru rv hk => by subst e1; subst e2; cases ru; cases rv; exact ⟨i, j, rfl, rfl, hk _ _ _ _ _ hm eo (.refl _) (.bl _)⟩) (nomark _)
theorem dt_lt {k : Bool → Rho → Prop} (h : DE Γ a ρ (fun x ρ1 => DE Γ b ρ1 (fun y ρ2 => II x y fun i j => k (decide (i < j)) ρ2))) : DT Γ (.Compare a [.Lt] [b] pos) ρ k :=
  dt_cmp op_lt h (fun x y ρ2 u v σ H2 G2 Q ⟨i, j, e1, e2, hm⟩ eo ru rv hk => by subst e1; subst e2; cases ru; cases rv; exact ⟨i, j, rfl, rfl, hk _ _ _ _ hm eo (.refl _)⟩) (nomark _)
theorem dt_le {k : Bool → Rho → Prop} (h : DE Γ a ρ (fun x ρ1 => DE Γ b ρ1 (fun y ρ2 => II x y fun i j => k (decide (i ≤ j)) ρ2))) : DT Γ (.Compare a [.LtE] [b] pos) ρ k :=
  dt_cmp op_le h (fun x y ρ2 u v σ H2 G2 Q ⟨i, j, e1, e2, hm⟩ eo ru rv hk => by subst e1; subst e2; cases ru; cases rv; exact ⟨i, j, rfl, rfl, hk _ _ _ _ hm eo (.refl _)⟩) (nomark _)
theorem dt_gt {k : Bool → Rho → Prop} (h : DE Γ a ρ (fun x ρ1 => DE Γ b ρ1 (fun y ρ2 => II x y fun i j => k (decide (j < i)) ρ2))) : DT Γ (.Compare a [.Gt] [b] pos) ρ k :=
  dt_cmp op_gt h (fun x y ρ2 u v σ H2 G2 Q ⟨i, j, e1, e2, hm⟩ eo ru rv hk => by subst e1; subst e2; cases ru; cases rv; exact ⟨i, j, rfl, rfl, hk _ _ _ _ hm eo (.refl _)⟩) (nomark _)
theorem dt_ge {k : Bool → Rho → Prop} (h : DE Γ a ρ (fun x ρ1 => DE Γ b ρ1 (fun y ρ2 => II x y fun i j => k (decide (j ≤ i)) ρ2))) : DT Γ (.Compare a [.GtE] [b] pos) ρ k :=
  dt_cmp op_ge h (fun x y ρ2 u v σ H2 G2 Q ⟨i, j, e1, e2, hm⟩ eo ru rv hk => by subst e1; subst e2; cases ru; cases rv; exact ⟨i, j, rfl, rfl, hk _ _ _ _ hm eo (.refl _)⟩) (nomark _)
theorem de_eqI (h : DE Γ a ρ (fun x ρ1 => DE Γ b ρ1 (fun y ρ2 => II x y fun i j => k (.bool (decide (i = j))) ρ2))) : DE Γ (.Compare a [.Eq] [b] pos) ρ k :=
  de_cmp op_eq h (fun x y ρ2 u v σ H2 G2 Q ⟨i, j, e1, e2, hm⟩ eo ru rv hk => by
    subst e1; subst e2; cases ru; cases rv
    refine ⟨rfl, ?_⟩
    have e : decide (V.int i = V.int j) = decide (i = j) := by simp
    rw [e]; exact hk _ _ _ _ _ hm eo (.refl _) (.bl _)) (nomark _)
theorem de_neI (h : DE Γ a ρ (fun x ρ1 => DE Γ b ρ1 (fun y ρ2 => II x y fun i j => k (.bool (decide (i ≠ j))) ρ2))) : DE Γ (.Compare a [.NotEq] [b] pos) ρ k :=
  de_cmp op_ne h (fun x y ρ2 u v σ H2 G2 Q ⟨i, j, e1, e2, hm⟩ eo ru rv hk => by
    subst e1; subst e2; cases ru; cases rv
    refine ⟨rfl, ?_⟩
    have e : (!decide (V.int i = V.int j)) = decide (i ≠ j) := by simp
    rw [e]; exact hk _ _ _ _ _ hm eo (.refl _) (.bl _)) (nomark _)
theorem dt_eqI {k : Bool → Rho → Prop} (h : DE Γ a ρ (fun x ρ1 => DE Γ b ρ1 (fun y ρ2 => II x y fun i j => k (decide (i = j)) ρ2))) : DT Γ (.Compare a [.Eq] [b] pos) ρ k :=
  dt_cmp op_eq h (fun x y ρ2 u v σ H2 G2 Q ⟨i, j, e1, e2, hm⟩ eo ru rv hk => by
    subst e1; subst e2; cases ru; cases rv
    refine ⟨rfl, ?_⟩
    have e : decide (V.int i = V.int j) = decide (i = j) := by simp
    rw [e]; exact hk _ _ _ _ hm eo (.refl _)) (nomark _)
theorem dt_neI {k : Bool → Rho → Prop} (h : DE Γ a ρ (fun x ρ1 => DE Γ b ρ1 (fun y ρ2 => II x y fun i j => k (decide (i ≠ j)) ρ2))) : DT Γ (.Compare a [.NotEq] [b] pos) ρ k :=
  dt_cmp op_ne h (fun x y ρ2 u v σ H2 G2 Q ⟨i, j, e1, e2, hm⟩ eo ru rv hk => by
    subst e1; subst e2; cases ru; cases rv
    refine ⟨rfl, ?_⟩
    have e : (!decide (V.int i = V.int j)) = decide (i ≠ j) := by simp
    rw [e]; exact hk _ _ _ _ hm eo (.refl _)) (nomark _)
/-- texts -/
theorem dt_eqS {k : Bool → Rho → Prop} (h : DE Γ a ρ (fun x ρ1 => DE Γ b ρ1 (fun y ρ2 => ∃ i j, x = .str i ∧ y = .str j ∧ k (decide (i = j)) ρ2))) : DT Γ (.Compare a [.Eq] [b] pos) ρ k :=
  dt_cmp op_eq h (fun x y ρ2 u v σ H2 G2 Q ⟨i, j, e1, e2, hm⟩ eo ru rv hk => by
    subst e1; subst e2; cases ru; cases rv
    refine ⟨rfl, ?_⟩
    have e : decide (V.str i = V.str j) = decide (i = j) := by simp
    rw [e]; exact hk _ _ _ _ hm eo (.refl _)) (nomark _)
/-- data -/
theorem de_eqD (hu : X.A.units + 64 < cLine) (h : DE Γ a ρ (fun x ρ1 => DE Γ b ρ1 (fun y ρ2 => SeqAt.shaped x = true ∧ SeqAt.shaped y = true ∧ k (.bool (PyData.eqv x y)) ρ2))) : DE Γ (.Compare a [.Eq] [b] pos) ρ k :=
  de_cmp (op_eqD hu) h (fun x y ρ2 u v σ H2 G2 Q ⟨e1, e2, hm⟩ eo ru rv hk => ⟨x, y, ru.dp eo.gh, rv.dp eo.gh, e1, e2, hk _ _ _ _ _ hm eo (.refl _) (.bl _)⟩) (nomark _)
theorem dt_neD {k : Bool → Rho → Prop} (hu : X.A.units + 64 < cLine) (h : DE Γ a ρ (fun x ρ1 => DE Γ b ρ1 (fun y ρ2 => SeqAt.shaped x = true ∧ SeqAt.shaped y = true ∧ k (!PyData.eqv x y) ρ2))) : DT Γ (.Compare a [.NotEq] [b] pos) ρ k :=
  dt_cmp (op_neD hu) h (fun x y ρ2 u v σ H2 G2 Q ⟨e1, e2, hm⟩ eo ru rv hk => ⟨x, y, ru.dp eo.gh, rv.dp eo.gh, e1, e2, hk _ _ _ _ hm eo (.refl _)⟩) (nomark _)
/-- is None, is not None; is True, is False -/
def isNon : D → Bool
  | .none => true
  | _ => false
theorem Rv.isNon {G : Hp} {v : V} {d : D} (r : Rv G v d) : decide (v = .non) = DL.isNon d := by cases r <;> rfl
theorem de_isN {j : Nat} {q : Pos} (h : DE Γ a ρ (fun x ρ1 => k (.bool (isNon x)) ρ1)) : DE Γ (.Compare a [.Is] [.Constant .none j q] pos) ρ k :=
  de_of (pe_cmp (pc_isN (pe_U Γ a))) fun σ H G Q eo hk => ⟨ρ, G, _, h, eo, fun x ρ1 u H1 G1 hm eo1 ex1 ru => by show Q (.bl (decide (u = .non))) H1; rw [ru.isNon]; exact hk _ _ _ _ _ hm eo1 ex1 (.bl _)⟩
theorem de_notN {j : Nat} {q : Pos} (h : DE Γ a ρ (fun x ρ1 => k (.bool (!isNon x)) ρ1)) : DE Γ (.Compare a [.IsNot] [.Constant .none j q] pos) ρ k :=
  de_of (pe_cmp (pc_notN (pe_U Γ a))) fun σ H G Q eo hk => ⟨ρ, G, _, h, eo, fun x ρ1 u H1 G1 hm eo1 ex1 ru => by show Q (.bl (!decide (u = .non))) H1; rw [ru.isNon]; exact hk _ _ _ _ _ hm eo1 ex1 (.bl _)⟩
theorem dt_isN {kb : Bool → Rho → Prop} {j : Nat} {q : Pos} (h : DE Γ a ρ (fun x ρ1 => kb (isNon x) ρ1)) : DT Γ (.Compare a [.Is] [.Constant .none j q] pos) ρ kb :=
  dt_of (pt_cmp (pc_isN (pe_U Γ a))) fun σ H G Q eo hk => ⟨ρ, G, _, h, eo, fun x ρ1 u H1 G1 hm eo1 ex1 ru => ⟨_, rfl, by rw [ru.isNon]; exact hk _ _ _ _ hm eo1 ex1⟩⟩
theorem de_isB (h : DE Γ a ρ (fun x ρ1 => DE Γ b ρ1 (fun y ρ2 => ∃ i j, x = .bool i ∧ y = .bool j ∧ k (.bool (decide (i = j))) ρ2))) : DE Γ (.Compare a [.Is] [b] pos) ρ k :=
  de_cmp op_isBl h (fun x y ρ2 u v σ H2 G2 Q ⟨i, j, e1, e2, hm⟩ eo ru rv hk => by subst e1; subst e2; cases ru; cases rv; exact ⟨i, j, rfl, rfl, hk _ _ _ _ _ hm eo (.refl _) (.bl _)⟩) (nomark _)
/-! and, or, not -/
theorem dt_val {k : Bool → Rho → Prop} (h : DE Γ a ρ (fun x ρ1 => ∃ b, x = .bool b ∧ k b ρ1)) (he : ∀ whole, isTrue a X.env whole = (do let v ← whole; standAt a.pos; holding [v] (truthy v)) := by intro _; rfl) : DT Γ a ρ k :=
  dt_of (pt_val (pe_U Γ a) he) fun σ H G Q eo hk => ⟨ρ, G, _, h, eo, fun x ρ1 u H1 G1 ⟨c, e, hm⟩ eo1 ex1 ru => by subst e; cases ru; exact ⟨c, rfl, hk _ _ _ _ hm eo1 ex1⟩⟩
theorem dt_not {k : Bool → Rho → Prop} (h : DT Γ a ρ (fun b ρ1 => k (!b) ρ1)) : DT Γ (.UnaryOp .Not a pos) ρ k :=
  dt_of (pt_not (pt_U Γ a)) fun σ H G Q eo hk => ⟨ρ, G, _, h, eo, fun c ρ1 H1 G1 hm eo1 ex1 => hk _ _ _ _ hm eo1 ex1⟩
theorem dt_bool {op : BoolOp} {k : Bool → Rho → Prop} (h : DW Γ (.BoolOp op es pos) ρ k) : DT Γ (.BoolOp op es pos) ρ k := dt_of (pw_U Γ _).pt fun σ H G Q eo hk => ⟨ρ, G, k, h, eo, hk⟩
theorem dw_and1 {k : Bool → Rho → Prop} (h : DT Γ a ρ k) : DW Γ (.BoolOp .And [a] pos) ρ k := dw_of (pw_and1 (pt_U Γ a)) fun σ H G Q eo hk => ⟨ρ, G, k, h, eo, hk⟩
theorem dw_or1 {k : Bool → Rho → Prop} (h : DT Γ a ρ k) : DW Γ (.BoolOp .Or [a] pos) ρ k := dw_of (pw_or1 (pt_U Γ a)) fun σ H G Q eo hk => ⟨ρ, G, k, h, eo, hk⟩
theorem dw_and {k : Bool → Rho → Prop} (h : DT Γ a ρ (fun c ρ1 => (c = true → DW Γ (.BoolOp .And (b :: es) pos) ρ1 k) ∧ (c = false → k false ρ1))) : DW Γ (.BoolOp .And (a :: b :: es) pos) ρ k :=
  dw_of (pw_and (pt_U Γ a) (pw_U Γ _)) fun σ H G Q eo hk => ⟨ρ, G, _, h, eo, fun c ρ1 H1 G1 hm eo1 ex1 => by
    cases c with
    | true => rw [if_pos rfl]; exact ⟨ρ1, G1, _, hm.1 rfl, eo1, fun c ρ2 H2 G2 hm eo2 ex2 => hk _ _ _ _ hm eo2 (ex1.trans ex2)⟩
    | false => rw [if_neg Bool.false_ne_true]; exact hk _ _ _ _ (hm.2 rfl) eo1 ex1⟩
theorem dw_or {k : Bool → Rho → Prop} (h : DT Γ a ρ (fun c ρ1 => (c = true → k true ρ1) ∧ (c = false → DW Γ (.BoolOp .Or (b :: es) pos) ρ1 k))) : DW Γ (.BoolOp .Or (a :: b :: es) pos) ρ k :=
  dw_of (pw_or (pt_U Γ a) (pw_U Γ _)) fun σ H G Q eo hk => ⟨ρ, G, _, h, eo, fun c ρ1 H1 G1 hm eo1 ex1 => by
    cases c with
    | false => rw [if_neg Bool.false_ne_true]; exact ⟨ρ1, G1, _, hm.2 rfl, eo1, fun c ρ2 H2 G2 hm eo2 ex2 => hk _ _ _ _ hm eo2 (ex1.trans ex2)⟩
    | true => rw [if_pos rfl]; exact hk _ _ _ _ (hm.1 rfl) eo1 ex1⟩
theorem de_one {op : BoolOp} (h : DE Γ a ρ k) : DE Γ (.BoolOp op [a] pos) ρ k := de_of (pe_one (pe_U Γ a)) fun σ H G Q eo hk => ⟨ρ, G, k, h, eo, hk⟩
theorem de_and (h : DE Γ a ρ (fun x ρ1 => ∃ c, x = .bool c ∧ (c = true → DE Γ (.BoolOp .And (b :: es) pos) ρ1 k) ∧ (c = false → k (.bool false) ρ1))) : DE Γ (.BoolOp .And (a :: b :: es) pos) ρ k :=
  de_of (pe_and (pe_U Γ a) (pe_U Γ _)) fun σ H G Q eo hk => ⟨ρ, G, _, h, eo, fun x ρ1 u H1 G1 ⟨c, e, h1, h2⟩ eo1 ex1 ru => by
    subst e; cases ru
    refine ⟨c, rfl, ?_⟩
    cases c with
    | true => rw [if_pos rfl]; exact ⟨ρ1, G1, _, h1 rfl, eo1, fun c ρ2 v H2 G2 hm eo2 ex2 r => hk _ _ _ _ _ hm eo2 (ex1.trans ex2) r⟩
    | false => rw [if_neg Bool.false_ne_true]; exact hk _ _ _ _ _ (h2 rfl) eo1 ex1 (.bl _)⟩
theorem de_or (h : DE Γ a ρ (fun x ρ1 => ∃ c, x = .bool c ∧ (c = true → k (.bool true) ρ1) ∧ (c = false → DE Γ (.BoolOp .Or (b :: es) pos) ρ1 k))) : DE Γ (.BoolOp .Or (a :: b :: es) pos) ρ k :=
  de_of (pe_or (pe_U Γ a) (pe_U Γ _)) fun σ H G Q eo hk => ⟨ρ, G, _, h, eo, fun x ρ1 u H1 G1 ⟨c, e, h1, h2⟩ eo1 ex1 ru => by
    subst e; cases ru
    refine ⟨c, rfl, ?_⟩
    cases c with
    | false => rw [if_neg Bool.false_ne_true]; exact ⟨ρ1, G1, _, h2 rfl, eo1, fun c ρ2 v H2 G2 hm eo2 ex2 r => hk _ _ _ _ _ hm eo2 (ex1.trans ex2) r⟩
    | true => rw [if_pos rfl]; exact hk _ _ _ _ _ (h1 rfl) eo1 ex1 (.bl _)⟩
theorem de_not (h : DE Γ a ρ (fun x ρ1 => ∃ c, x = .bool c ∧ k (.bool (!c)) ρ1)) : DE Γ (.UnaryOp .Not a pos) ρ k :=
  de_of (pe_not (pe_U Γ a)) fun σ H G Q eo hk => ⟨ρ, G, _, h, eo, fun x ρ1 u H1 G1 ⟨c, e, hm⟩ eo1 ex1 ru => by subst e; cases ru; exact ⟨c, rfl, hk _ _ _ _ _ hm eo1 ex1 (.bl _)⟩⟩
/-! arguments, displays -/
theorem da_nil {k : List D → Rho → Prop} (h : k [] ρ) : DA Γ [] ρ k := da_of pa_nil fun σ H G Q eo hk => hk _ _ _ _ _ h eo (.refl _) .nil
theorem da_cons {k : List D → Rho → Prop} (h : DE Γ a ρ (fun x ρ1 => DA Γ es ρ1 (fun xs ρ2 => k (x :: xs) ρ2))) (hs : starEach (a :: es) X.env = (false, eval a X.env) :: starEach es X.env := by rfl) : DA Γ (a :: es) ρ k :=
  da_of (pa_cons (pe_U Γ a) (pa_U Γ es) hs) fun σ H G Q eo hk => ⟨ρ, G, _, h, eo, fun x ρ1 u H1 G1 hm eo1 ex1 ru => ⟨ρ1, G1, _, hm, eo1, fun xs ρ2 us H2 G2 hm eo2 ex2 rs => hk _ _ _ _ _ hm eo2 (ex1.trans ex2) (.cons (ru.mono ex2) rs)⟩⟩
theorem de_tup {j} (h : DA Γ es ρ (fun xs ρ1 => xs.length ≤ sizeLine ∧ k (.tuple xs) ρ1)) : DE Γ (.Tuple es j pos) ρ k :=
  de_of (pe_tup (pa_U Γ es)) fun σ H G Q eo hk => ⟨ρ, G, _, h, eo, fun xs ρ1 us H1 G1 ⟨hl, hm⟩ eo1 ex1 rs => ⟨by rw [rs.len]; exact hl, fun p hp => by
    obtain ⟨e2, x2⟩ := eo1.allocG (o := .tup us) hp
    exact hk _ _ _ _ _ hm e2 (ex1.trans x2) (.tup upd_same (rs.mono x2))⟩⟩
theorem dn_list {k : List D → Rho → Prop} (h : DA Γ es ρ (fun xs ρ1 => xs.length ≤ sizeLine ∧ k xs ρ1)) : DN Γ (.List es pos) ρ k :=
  dn_of (pe_lst (pa_U Γ es)) fun σ H G Q eo hk => ⟨ρ, G, _, h, eo, fun xs ρ1 us H1 G1 ⟨hl, hm⟩ eo1 ex1 rs => ⟨by rw [rs.len]; exact hl, fun p hp =>
    hk _ _ _ _ _ _ hm (eo1.alloc hp) ex1 upd_same rs (eo1.gh.none hp) (eo1.h0.none hp) (eo1.newNot hp)⟩⟩
theorem de_new (h : DN Γ a ρ (fun ds ρ1 => k (.list ds) ρ1)) : DE Γ a ρ k := .mk fun pins s σ H G Q I eo hk =>
  h.run pins s σ H G Q I eo fun ds ρ' a vs H' G' hm eo1 ex1 h1 h2 h3 h4 h5 => by
    obtain ⟨e2, x2, r⟩ := eo1.join h1 h2 h3 h4 h5
    exact hk _ _ _ _ _ hm e2 (ex1.trans x2) r
/-! items -/
theorem de_ixL (h : DE Γ a ρ (fun x ρ1 => DE Γ b ρ1 (fun y ρ2 => ∃ ds i d, x = .list ds ∧ y = .int i ∧ atI ds i = some d ∧ k d ρ2))) (hs : PlainIx b := by exact fun _ _ => rfl) : DE Γ (.Subscript a b pos) ρ k :=
  de_of (pe_ix ix_list (pe_U Γ a) (pe_U Γ b) hs) fun σ H G Q eo hk => two eo h fun x y ρ2 u v H2 G2 ⟨ds, i, d, e1, e2, e3, hm⟩ eo2 ex ru rv => by
    subst e1; subst e2; cases rv
    cases ru with
    | lst hg hs =>
      obtain ⟨j, hj, hd⟩ := Option.bind_eq_some_iff.mp e3
      obtain ⟨v, hv, r⟩ := hs.get hd
      exact ⟨_, _, i, v, rfl, rfl, SqL.of (eo2.gh _ _ hg), Option.bind_eq_some_iff.mpr ⟨j, by rw [hs.len]; exact hj, hv⟩, hk _ _ _ _ _ hm eo2 ex r⟩
theorem de_ixT (h : DE Γ a ρ (fun x ρ1 => DE Γ b ρ1 (fun y ρ2 => ∃ ds i d, x = .tuple ds ∧ y = .int i ∧ atI ds i = some d ∧ k d ρ2))) (hs : PlainIx b := by exact fun _ _ => rfl) : DE Γ (.Subscript a b pos) ρ k :=
  de_of (pe_ix ix_tup (pe_U Γ a) (pe_U Γ b) hs) fun σ H G Q eo hk => two eo h fun x y ρ2 u v H2 G2 ⟨ds, i, d, e1, e2, e3, hm⟩ eo2 ex ru rv => by
    subst e1; subst e2; cases rv
    cases ru with
    | tup hg hs =>
      obtain ⟨j, hj, hd⟩ := Option.bind_eq_some_iff.mp e3
      obtain ⟨v, hv, r⟩ := hs.get hd
      exact ⟨_, _, i, v, rfl, rfl, SqT.of (eo2.gh _ _ hg), Option.bind_eq_some_iff.mpr ⟨j, by rw [hs.len]; exact hj, hv⟩, hk _ _ _ _ _ hm eo2 ex r⟩
/-- of a list of our own -/
theorem de_ixO (l : Nat) {oa : Option Addr} {ds0 : List D} (hl : ρ[l]? = some (some (.own oa ds0))) (h : DE Γ b ρ (fun y ρ2 => ∃ ds i d, ρ2[l]? = some (some (.own oa ds)) ∧ y = .int i ∧ atI ds i = some d ∧ k d ρ2)) (hs : PlainIx b := by exact fun _ _ => rfl) (hN : X.N[l]? = some x := by rfl) (hv : Vis X.env.scope x := by first | exact Or.inl rfl | exact Or.inr (Or.inl rfl) | exact Or.inr (Or.inr rfl))
    (hd : (x == ("__debug__" : Str)) = false := by decide) (hcd : (x == ("__classdict__" : Str)) = false := by decide) : DE Γ (.Subscript (.Name x p) b pos) ρ k :=
  de_of (pe_ix ix_list (pe_var hN hv hd hcd) (pe_U Γ b) hs) fun σ H G Q eo hk => by
    obtain ⟨a, vs, h1, _⟩ := eo.own l ds0 hl
    refine ⟨_, h1, ρ, G, _, h, eo, fun y ρ2 v H2 G2 ⟨ds, i, d, e1, e2, e3, hm⟩ eo2 ex rv => ?_⟩
    subst e2; cases rv
    obtain ⟨a', vs', g1, g2, g3, _⟩ := eo2.own l ds e1
    rw [h1] at g1; cases g1
    obtain ⟨j, hj, hd⟩ := Option.bind_eq_some_iff.mp e3
    obtain ⟨v, hv, r⟩ := g3.get hd
    exact ⟨_, _, i, v, rfl, rfl, SqL.of g2, Option.bind_eq_some_iff.mpr ⟨j, by rw [g3.len]; exact hj, hv⟩, hk _ _ _ _ _ hm eo2 ex r⟩
end
end DL
namespace PySem
open Sem (wp)
set_option maxHeartbeats 4000000 in
theorem dl_enum_new1 {v : Value} {o : Obj} {H : Heap → Prop} (B : Begins v o H) :
    Meets (Builtin.«enumerate.__new__» ⟨[.type "enumerate", v], []⟩) (fun _ R s => H s.heap ∧
      R (.ok (.ret (.ref (s.heap.push o).objs.size))) { s with heap := (s.heap.push o).push { cls := .type "enumerate", data := .fields #[.none, .bool false, .ref s.heap.objs.size, rawInt 0, .none, .none] } }) :=
  .of_wp fun prog w A R s h => by
    obtain ⟨hp, g, d, tk, os⟩ := s; obtain ⟨h1, h⟩ := h
    have hsub := sub_enumerate
    have q1 : ∀ {A' : Around} {E : Value → Shared → Prop} {Q : Value → Shared → Prop}, Q (.ref hp.objs.size) ⟨hp.push o, g, d, tk, os⟩ → wpAny (model prog w) A' (pyIter v) Q E ⟨hp, g, d, tk, os⟩ :=
      fun q => B.iter prog w _ _ ⟨hp, g, d, tk, os⟩ _ h1 q
    wp_walk using q1
    refine wpAny_stack_any fun st => wpAny_pure ?_
    split
    · rename_i c _ _ _ _ _
      cases (c == Value.type "enumerate")
      · wp_walk using q1
        exact ⟨_, rfl, h⟩
      · wp_walk using q1
        exact ⟨_, rfl, h⟩
    · wp_walk using q1
      exact ⟨_, rfl, h⟩
theorem dl_enum1 {prog : Program} {w : World} {A : Around} {E : Value → Shared → Prop} {s : Shared} {v : Value} {o : Obj} {H : Heap → Prop} {Q : Value → Shared → Prop} (B : Begins v o H) (h1 : H s.heap)
    (h : ∀ h', IsEnum h' (s.heap.objs.size + 1) s.heap.objs.size 0 .none → h'.get? s.heap.objs.size = some o → h'.objs.size = s.heap.objs.size + 2 →
      (∀ b o, s.heap.get? b = some o → h'.get? b = some o) → Q (.ref (s.heap.objs.size + 1)) { s with heap := h' }) :
    wpAny (model prog w) A (call (.type "enumerate") [v]) Q E s := by
  refine callType_new F.called_enumerate (by decide) (F.typeCall_enumerate_1 _) (F.newCall_enumerate_1 _) (fun obj => F.args_object_init_2 obj _) F.entry_enumerate_new
    (dl_enum_new1 B) ⟨h1, ?_⟩
  have hz : (s.heap.push o).objs.size = s.heap.objs.size + 1 := Heap.size_push ..
  show _ ∧ _
  rw [hz]
  have he : IsEnum ((s.heap.push o).push { cls := .type "enumerate", data := .fields #[.none, .bool false, .ref s.heap.objs.size, rawInt 0, .none, .none] }) (s.heap.objs.size + 1) s.heap.objs.size 0 .none := by
    have := Heap.get?_push_size (s.heap.push o) (o := { cls := .type "enumerate", data := .fields #[.none, .bool false, .ref s.heap.objs.size, rawInt 0, .none, .none] }) rfl
    rw [hz] at this; exact this
  refine ⟨⟨_, he, rfl⟩, h _ he (Heap.get?_push_of_some _ (Heap.get?_push_size _ B.free)) (by rw [Heap.size_push, hz]) fun b o x => Heap.get?_push_of_some _ (Heap.get?_push_of_some _ x)⟩
end PySem
namespace HT
open PySem PyProof.Rows
section
variable {prog : Program} {w : World} {A : Around} {E : Value → Shared → Prop} {s : Shared}
theorem dl_rev_applied {sl : Addr} {vl vu vs : Value} {n : Nat} {Q : Int × Int × Nat → Shared → Prop} (hs : s.heap.IsSliceOf sl vl vu vs) (pl : IsPart vl none) (pu : IsPart vu none) (ps : IsPart vs (some (-1)))
    (h : Q ((n : Int) - 1, -1, n) s) : wpAny (model prog w) A (Builtin.Slice.sliceApplied (.ref sl) (pure (n : Int))) Q E s := by
  obtain ⟨os, hos, hcs, hds⟩ := id hs
  unfold Builtin.Slice.sliceApplied Builtin.Slice.sliceFields
  refine wpAny_bind (wpAny_bind (wpAny_field hos hds (x := vl) rfl (wpAny_bind (wpAny_field hos hds (x := vu) rfl (wpAny_bind (wpAny_field hos hds (x := vs) rfl (wpAny_pure ?_)))))))
  refine wpAny_bind (slicePart_ ps ?_)
  show wpAny _ _ (if ((-1 : Int) == 0) = true then _ else _) _ _ s
  rw [if_neg (by decide)]
  refine wpAny_bind (slicePart_ pl (wpAny_bind (slicePart_ pu (wpAny_bind (wpAny_pure ?_)))))
  show wpAny _ _ (match Builtin.Slice.sliceAdjust none none (-1) (n : Int) with | (lo, hi) => pure (lo, (-1 : Int), Builtin.Slice.slicePlaces lo hi (-1))) _ _ s
  have e : Builtin.Slice.sliceAdjust none none (-1) (n : Int) = ((n : Int) - 1, -1) := by
    unfold Builtin.Slice.sliceAdjust
    simp
  rw [e]
  have e2 : Builtin.Slice.slicePlaces ((n : Int) - 1) (-1) (-1) = n := by
    unfold Builtin.Slice.slicePlaces
    simp
    omega
  show wpAny _ _ (pure ((n : Int) - 1, (-1 : Int), Builtin.Slice.slicePlaces ((n : Int) - 1) (-1) (-1))) _ _ s
  rw [e2]
  exact wpAny_pure h
theorem dl_fm_congr {α β : Type} {f g : α → Option β} : ∀ {l : List α}, (∀ x ∈ l, f x = g x) → l.filterMap f = l.filterMap g
  | [], _ => rfl
  | a :: l, h => by
    rw [List.filterMap_cons, List.filterMap_cons, h a (by simp), dl_fm_congr fun x hx => h x (by simp [hx])]
theorem dl_rev_pick (xs : Array Value) : ((List.range xs.size).filterMap fun (m : Nat) => xs[((xs.size : Int) - 1 + (m : Int) * (-1)).toNat]?).toArray = xs.toList.reverse.toArray := by
  have e : (List.range xs.size).filterMap (fun (m : Nat) => xs[((xs.size : Int) - 1 + (m : Int) * (-1)).toNat]?) = (List.range xs.size).filterMap ((fun x => xs[x]?) ∘ fun k => xs.size - 1 - k) := by
    refine dl_fm_congr fun m hm => ?_
    have hm' : m < xs.size := List.mem_range.mp hm
    have : ((xs.size : Int) - 1 + (m : Int) * (-1)).toNat = xs.size - 1 - m := by omega
    rw [this]; rfl
  rw [e, ← List.filterMap_map, PySem.W.krv_range, List.filterMap_reverse, PySem.W.krv_all]
theorem dl_getItem_tuple_rev {t sl : Addr} {items : Array Value} {vl vu vs : Value} {Q : Value → Shared → Prop} (ht : IsTup s.heap t items) (hs : s.heap.IsSliceOf sl vl vu vs) (pl : IsPart vl none) (pu : IsPart vu none) (ps : IsPart vs (some (-1)))
    (h : Q (.ref s.heap.objs.size) { s with heap := s.heap.push { cls := .type "tuple", data := .seq items.toList.reverse.toArray } })
    (hsz : items.size ≤ sizeLine) : wpAny (model prog w) A (getItem (.ref t) (.ref sl)) Q E s := by
  have htake : sizeOk (.seq items.toList.reverse.toArray) := by
    show items.toList.reverse.toArray.size ≤ sizeLine
    rw [List.size_toArray, List.length_reverse, Array.length_toList]
    exact hsz
  obtain ⟨os, hos, hcs, hds⟩ := id hs
  have hTs : s.TypeIs (.ref sl) "slice" := ⟨os, hos, hcs⟩
  unfold getItem
  try with_reducible refine wpAny_holding ?_
  first | refine wpAny_bind (wpAny_pure ?_) | skip
  refine wpAny_bind (wpAny_sequenceKey ht.typeIs (by decide) ?_)
  refine wpAny_bind (wpAny_callSpecial?_slot (name := Str.ofString "__getitem__") ht.typeIs PyProof.Rows.slot_tuple_getitem
    (wpAny_call_entry PyProof.Rows.slot_tuple_getitem ht.typeIs entry_tuple_getitem ?_ (args_tuple_getitem _ _)))
  show wpAny _ _ (Builtin.Tuple.tupleItemsOf (.ref t) >>= _) _ _ s
  refine wpAny_bind (tupleItemsOf_ ht ?_)
  refine wpAny_bind (wpAny_typeOf hTs ?_)
  rw [if_pos (by decide)]
  refine wpAny_bind (dl_rev_applied hs pl pu ps ?_)
  show wpAny _ _ (if (((items.size : Int) - 1) == 0 && (-1 : Int) == 1 && items.size == items.size) = true then _ else _) _ _ s
  rw [if_neg (by simp), dl_rev_pick]
  first
    | exact wpAny_bind (m := Builtin.Tuple.tupleExact _) (wpAny_newObj_type (wpAny_pure ⟨_, rfl, wpAny_pure h⟩) htake)
    | exact wpAny_bind (m := Builtin.Tuple.tupleExact _) (wpAny_newObj_type (wpAny_bind (wpAny_pure (wpAny_pure ⟨_, rfl, wpAny_pure h⟩))) htake)
    | exact wpAny_bind (wpAny_bind (m := Builtin.Tuple.tupleExact _) (wpAny_newObj_type (wpAny_pure (wpAny_pure ⟨_, rfl, wpAny_pure h⟩)) htake))
    | exact wpAny_bind (wpAny_bind (m := Builtin.Tuple.tupleExact _) (wpAny_newObj_type (wpAny_pure ⟨_, rfl, wpAny_pure h⟩) htake))
end
end HT
namespace L2
open PySem PySem.Spec PyProof.Rows
section
variable {X : Cx}
/-- sum of a tuple of ints -/
def rSumT (K : PySem.W.Frag) : List V → Hp → VK → Prop := fun vs H Q => ∃ (a : Addr) (ns : List Int), vs = [V.ref a] ∧ SqT K H a (ns.map V.int) ∧ Q (.int ns.sum) H
theorem dl_cr_sumT (hc : X.calm = true) : CallR X (.builtin "sum") (rSumT X.K) := by
  intro pins s σ H xs us Q I r h
  obtain ⟨a, ns, rfl, hq, q⟩ := h
  obtain ⟨u, rfl, rx⟩ := vals1 r
  cases rx
  obtain ⟨its, rv, ht, hz⟩ := I.tuple hq
  have hi : IntsAre its ns := intsAre_of rv
  obtain ⟨ys, e⟩ := hi.allInts.items
  have hn : numsOf (intItems ys).toList = ns := by rw [← e]; exact hi.numsOf
  rw [nums_intItems] at hn
  have hl : s.heap.IsTuple a its.toArray := ht
  rw [e] at hl
  refine PySem.W.ktm_sumG (I.ok.hd hc) hl fun h' tk t' hk => ?_
  have e2 : preSum (numAt ys) ys.size = ns.sum := by
    rw [preSum_eq, List.take_of_length_le (by simp), hn]
  rw [e2]
  exact ⟨.int _, H, I.kept hk, ⟨_, rfl⟩, q⟩
/-- t[::-1] of a tuple -/
def tRevT (K : PySem.W.Frag) (te : TE) : TE := fun σ H Q => te σ H fun x H1 => ∃ a xs, x = .ref a ∧ SqT K H1 a xs ∧ ∀ p, H1 p = none → Q (.ref p) (upd H1 p (.tup xs.reverse))
theorem Vals.rev : ∀ {xs : List V} {us : List Value}, Vals xs us → Vals xs.reverse us.reverse
  | _, _, .nil => .nil
  | _, _, .cons r t => by
    rw [List.reverse_cons, List.reverse_cons]
    exact (Vals.rev t).append (.cons r .nil)
theorem dl_pe_revT {e : Expr} {te : TE} {k : Nat} {p1 p2 p3 pos : Pos} (he : PE X e te) : PE X (.Subscript e (.Slice none none (some (.UnaryOp .USub (.Constant (.int 1) k p1) p2)) p3) pos) (tRevT X.K te) := by
  refine ⟨fun pins s σ H Q I h => ?_⟩
  refine Subscript_ (thn (he.run pins s σ H _ I h) fun v s1 ⟨x, H1, I1, r1, q1⟩ => ?_)
  obtain ⟨a, xs, ex, hx, q⟩ := q1
  subst ex
  cases r1
  have hst : PO X (some (.UnaryOp .USub (.Constant (.int 1) k p1) p2)) (tPart (tUn (rU fun i => .int (-i)) (tC (.int 1)))) := po_some (pe_un un_neg pe_int)
  refine wpAny_Slice (thn (po_none.run pins s1 σ H1 (fun o H2 => o = none ∧ H2 = H1) I1 ⟨rfl, rfl⟩) fun vl s2 ⟨l, H2, I2, pl, el, e2⟩ => ?_)
  subst el e2
  refine thn (po_none.run pins s2 σ H2 (fun o H3 => o = none ∧ H3 = H2) I2 ⟨rfl, rfl⟩) fun vu s3 ⟨u, H3, I3, pu, eu, e3⟩ => ?_
  subst eu e3
  refine thn (hst.run pins s3 σ H3 (fun o H4 => o = some (-1) ∧ H4 = H3) I3 ⟨1, rfl, -1, rfl, rfl, rfl⟩) fun vs s4 ⟨o, H4, I4, ps, eo, e4⟩ => ?_
  subst eo e4
  have I5 : Inv X pins σ H4 { s4 with heap := s4.heap.push { cls := .type "slice", data := .fields #[vl, vu, vs] } } := I4.kept (t' := s4.toks) fun b ob q => Heap.get?_push_of_some _ q
  obtain ⟨its, r, ht, hz⟩ := I5.tuple hx
  have hlen := r.length
  show wpAny (model X.prog X.w) X.A (subscriptTail e (.Slice none none (some (.UnaryOp .USub (.Constant (.int 1) k p1) p2)) p3) (.ref a) (.ref s4.heap.objs.size)) (EP X pins σ Q) X.xe { s4 with heap := s4.heap.push { cls := .type "slice", data := .fields #[vl, vu, vs] } }
  refine tail_any (ops := [.ref a, .ref s4.heap.objs.size]) ht.typeIs (PyProof.Rows.slot_tuple_getitem.lookup) ?_ (by with_unfolding_all rfl)
  refine HT.dl_getItem_tuple_rev ht (Heap.IsSliceOf.new _ vl vu vs) pl pu ps ?_ (by rw [List.size_toArray]; omega)
  refine ⟨.ref _, _, I5.laid (t' := s4.toks) (o := .tup xs.reverse) (fun b ob q => Heap.get?_push_of_some _ q) (Nat.le_refl _) ?_, rfl, q _ (I5.hok.fresh (Nat.le_refl _))⟩
  exact ⟨by rw [List.length_reverse]; exact hz, _, r.rev, ⟨_, Heap.get?_push_size _ rfl, rfl, _, rfl⟩⟩
/-- len(set(xs)) of a list of ints, any -/
def uniq (ns : List Int) : List Int := PyProof.Rows.firstMet (fun i => ns.getD i 0) ns.length
def tLenSetA (K : PySem.W.Frag) (ta : TE) : TE := fun σ H Q => ta σ H fun x H1 => ∃ (l : Addr) (ns : List Int), x = .ref l ∧ SqL K H1 l (ns.map V.int) ∧ ns.length ≤ 4000 ∧ Q (.int ((uniq ns).length : Nat)) H1
theorem dl_pe_lenSet {a : Expr} {ta : TE} {p p2 q pos : Pos} (hg : Gl X "len") (hm : X.mg "len" = none) (hg2 : Gl X "set") (hm2 : X.mg "set" = none) (ha : PE X a ta) (hc : X.calm = true := by rfl)
    (na : starEach [a] X.env = (false, eval a X.env) :: starEach [] X.env := by rfl) : PE X (.Call (.Name "len" p) [.Call (.Name "set" p2) [a] [] q] [] pos) (tLenSetA X.K ta) := by
  refine ⟨fun pins s σ H Q I h => ?_⟩
  refine Call_ (ld_blt I hg hm PySem.boot_len ?_)
  refine PyProof.Rows.callWith_builtin1 (PyProof.Rows.args_cons ?_ rfl) rfl rfl
  refine Call_ (ld_blt I hg2 hm2 PyProof.Rows.boot_set ?_)
  refine PyProof.Rows.callWith_type1 (PyProof.Rows.args_cons (thn (ha.run pins s σ H _ I h) fun v s1 ⟨x, H1, I1, r1, q1⟩ => PyProof.Rows.args_nil ?_) na) na rfl
  obtain ⟨l, ns, rfl, hq, hl, q1⟩ := q1
  cases r1
  obtain ⟨its, r, pl, hz⟩ := I1.list hq
  have hlen : its.toArray.size = ns.length := by rw [List.size_toArray, ← r.length, List.length_map]
  refine call_set_list (I1.ok.hd hc) pl.isList (by simpa using RZ.intsAre_vals r) (by rw [hlen]; unfold scanBound; omega) fun h' tk hS hk => ?_
  refine PyProof.Rows.args_nil ?_
  rw [hlen] at hS
  have hle := PyProof.Rows.firstMet_length_le (fun i => ns.getD i 0) ns.length
  obtain ⟨o, es, ep, t, ho, hex, hd, _, _, _, hf, hn⟩ := hS
  have I2 : Inv X pins σ H1 { s1 with heap := h', toks := tk } := I1.kept fun b o e => hk b o (Heap.lt_size e) e
  exact call_len_set ho hex hd hf (by rw [hn] <;> omega) ⟨.int ((uniq ns).length : Nat), H1, I2.tok _, ⟨_, by rw [hn]; rfl⟩, q1⟩
/-- an item of a list, to be read on -/
def rGetL (K : PySem.W.Frag) : V → V → Hp → VK → Prop := rIxL K
theorem dl_pget_list : PGet X (rIxL X.K) := by
  intro pins s σ H o i ov iv Q I ro ri h
  obtain ⟨p, xs, k, v, rfl, rfl, hq, ha, q⟩ := h
  cases ro
  obtain ⟨t, rfl⟩ := ri
  obtain ⟨its, r, pl, hz⟩ := I.list hq
  obtain ⟨j, h1, h2, h3, h4, h5⟩ := atI_get ha
  obtain ⟨u, hu, ru⟩ := r.get h2
  have hl := r.length
  have hn := line63
  have fin : EP X pins σ Q u s := ⟨v, H, I, ru, q⟩
  by_cases h0 : 0 ≤ k
  · have hj : k.toNat = j := by
      rw [seqIndex_of h0 h5] at h1
      exact Option.some.inj h1
    exact wpAny_getItem_list pl.isList h0 (by omega) (by rw [hj]; simpa using hu) fin
  · have hj : (k + (its.toArray.size : Int)).toNat = j := by
      rw [seqIndex_neg (by omega) h4] at h1
      rw [List.size_toArray, ← hl]
      exact Option.some.inj h1
    exact wpAny_getItem_list_neg (Q := EP X pins σ Q) pl.isList (by omega) (by rw [List.size_toArray] <;> omega) (by omega) (by rw [hj]; simpa using hu) fin
theorem dl_run_fnkS {CX : CXT} {k : Nat} {f : Addr} {fd : FuncData} {ps ks : List Str} {sp : Sp} {E : XK} {g : List Value → List Value → List Value} {gV : List V → List V → List V} {pins : List (Addr × Obj)} {σ : L2.St} {H : Hp} {s : Shared} {Q : VK} {us ws : List Value} {vs zs : List V} (F : FnOk X.prog X.w X.K X.mg X.base CX k f fd ps sp) (hr : Room k X.A) (hb : KBinds X.K fd ps ks g gV) (hx : PassesAt CX X σ E)
    (I : Inv X pins σ H s) (r : Vals vs us) (rz : Vals zs ws) (h : sp (gV vs zs) H Q E) : wpAny (model X.prog X.w) X.A (call (.ref f) us (ks.zip ws)) (EP X pins σ Q) X.xe s := by
  have r2 := hb.rel r rz
  have hl : (g us ws).length = ps.length := by rw [← r2.length]; exact F.len _ _ _ _ h
  refine wpAny_call (codeAny_mono (F.run X.A X.stack s H ⟨us, ks.zip ws⟩ (g us ws) (gV vs zs) Q E hr I.env0 (hb.to s us ws I.kIn hl) r2 h) fun r s' hq => ?_)
  cases r with
  | error e => exact hx pins H s e s' I hq
  | ok fl =>
    cases fl with
    | ret u => exact I.after hq
    | next => exact False.elim hq
    | brk => exact False.elim hq
    | cont => exact False.elim hq
def tCallKS (sp : Sp) (gV : List V → List V → List V) (E : L2.St → XK) (tk : TA) : TE := fun σ H Q => tk σ H fun zs H2 => sp (gV [] zs) H2 Q (E σ)
/-- f(k = v, ..) -/
theorem dl_pe_callK0 {CX : CXT} {k : Nat} {f : Addr} {fd : FuncData} {ps ks : List Str} {sp : Sp} {E : L2.St → XK} {x : Str} {p pos : Pos} {kws : List Keyword} {tk : TA} {g : List Value → List Value → List Value} {gV : List V → List V → List V}
    (F : FnOk X.prog X.w X.K X.mg X.base CX k f fd ps sp) (hr : Room k X.A) (hg : Gl X x) (hm : X.mg x = some (.ref f)) (hk : PySem.W.keepIn X.K (.ref f) = true) (hb : KBinds X.K fd ps ks g gV) (hx : ∀ σ, PassesAt CX X σ (E σ))
    (hkw : PK X kws tk) (hall : (backToKw pos (keywordEach kws X.env)).all (·.1.isSome) = true := by rfl) (hks : (backToKw pos (keywordEach kws X.env)).filterMap (·.1) = ks := by rfl)
    (hdb : (x == ("__debug__" : Str)) = false := by decide)
    (hpl : ((backTo pos (starEach [] X.env)).any (·.1) || (backToKw pos (keywordEach kws X.env)).any (·.1.isNone)) = false := by rfl) :
    PE X (.Call (.Name x p) [] kws pos) (tCallKS sp gV E tk) := by
  refine ⟨fun pins s σ H Q I h => ?_⟩
  refine wpAny_Call_Name_kw (ld_glob I hg hm ?_ hdb)
  refine PySem.W.callWith_KW0 (h₀ := X.base) I.ok.mod.kin hk hall ?_ hpl
  refine thn (hkw.run pos pins s σ H _ I h) fun ws s2 ⟨zs, H2, I2, rz, q2⟩ => ⟨I2.kIn, ?_⟩
  rw [hks]
  exact dl_run_fnkS (us := []) (vs := []) F hr hb (hx σ) I2 .nil rz q2
end
/-! ### enumerate(tuple) -/
def IteT (K : PySem.W.Frag) (a : Addr) : It :=
  ⟨fun i H => ∃ (xs : List V) (x : V), SqT K H a xs ∧ xs[i]? = some x, fun i H v H' => ∃ T x, v = .ref T ∧ H T = none ∧ H' = upd H T (.tup [.int (i : Nat), x]) ∧ ∀ xs, SqT K H a xs → xs[i]? = some x, fun i H => ∃ xs : List V, SqT K H a xs ∧ xs.length ≤ i⟩
theorem dl_turn_enumT {P : Program} {w : World} {K : PySem.W.Frag} {elts : List Expr} {kk : Nat} {tpos : Pos} (a e it : Addr) :
    Turn P w K (.Tuple elts kk tpos) (IteT K a) [e, it] e (fun i h => (∃ old, IsEnum h e it ((i : Nat) : Int) old) ∧ h.IsTupleIter it a i ∧ e ≠ it ∧ a ≠ it ∧ a ≠ e) where
  mem := by simp
  obj := fun i h st b hb => by
    obtain ⟨⟨old, he⟩, ⟨o, ho, hc, hd⟩, _⟩ := st
    have e' : b = e ∨ b = it := by simpa using hb
    rcases e' with z | z
    · rw [z]; exact ⟨_, he, fun v q => nomatch q⟩
    · rw [z]; exact ⟨o, ho, fun v q => by rw [hd] at q; cases q⟩
  keep := fun i h h' st k => let ⟨⟨old, he⟩, hi, hne⟩ := st; ⟨⟨old, k e (by simp) _ he⟩, hi.at fun o q => k it (by simp) o q, hne⟩
  item := by
    intro X hP hw hK hc i pins s σ H E I hf st hg
    subst hP hw hK
    obtain ⟨⟨old, he⟩, hit, hne, ha1, ha2⟩ := st
    obtain ⟨xs, x, hq, hx⟩ := hg
    obtain ⟨its, rv, p, hz⟩ := I.tuple hq
    obtain ⟨u, hu, ru⟩ := rv.get hx
    have hlen := rv.length
    have hlt : i < its.toArray.size := by
      rw [List.size_toArray]; exact (List.getElem?_eq_some_iff.mp hu).1
    have hel : e < s.heap.objs.size := Heap.lt_size he
    have hil : it < s.heap.objs.size := by obtain ⟨_, q, _⟩ := hit; exact Heap.lt_size q
    have D := Draws.tuple (prog := X.prog) (w := X.w) (A := X.A.in1) (I.ok.hd hc) it a ha1 its.toArray
    refine wpAny_pyNext_enum_itemD D he ⟨hit, p⟩ hlt hne (by simp [hne, Ne.symm ha2]) fun u' h' tk hu' ho hst hT hsz hk => ?_
    have hu2 : u' = u := by
      have : its.toArray[i]? = some u' := hu'
      rw [List.getElem?_toArray, hu] at this
      exact (Option.some.inj this).symm
    subst hu2
    refine ⟨_, rfl, wpAny_letOwnedTupleGo_enum (s := { s with heap := h', toks := tk + 1 }) ho fun h'' he' sb => ?_⟩
    have hT2 : h''.get? s.heap.objs.size = some { cls := .type "tuple", data := .seq #[.int i tk, u'] } := (sb.2 _ (Nat.ne_of_gt hel)).trans hT
    have new : ObjOk X.prog X.w (upd H s.heap.objs.size (.tup [.int (i : Nat), x])) h'' s.heap.objs.size (.tup [.int (i : Nat), x]) :=
      ⟨by show 2 ≤ sizeLine; decide, [.int i tk, u'], .cons ⟨_, rfl⟩ (.cons ru .nil), ⟨_, hT2, rfl, _, rfl⟩⟩
    have I1 : Inv X pins σ (upd H s.heap.objs.size (.tup [.int (i : Nat), x])) { s with heap := h'', toks := tk + 1 } :=
      I.turnedNew (ch := [e, it]) (fun b ob hb q => (sb.2 b (fun z => hb (by simp [z]))).trans (hk b ob (fun z => hb (by simp [z])) (fun z => hb (by simp [z])) q)) hf (Nat.le_refl _) new
    refine ⟨.ref s.heap.objs.size, _, I1, rfl, ⟨_, x, rfl, I.hok.fresh (Nat.le_refl _), rfl, fun ys hy => by rw [I.tuple_inj hy hq]; exact hx⟩, ⟨⟨u', ?_⟩, hst.1.at fun o q => (sb.2 it (Ne.symm hne)).trans q, hne, ha1, ha2⟩, fun b hb => ?_⟩
    · have e1 : ((i + 1 : Nat) : Int) = (i : Int) + 1 := by omega
      rw [e1]; exact he'
    · have hb' : b < s.heap.objs.size := by
        have e' : b = e ∨ b = it := by simpa using hb
        rcases e' with z | z
        · rw [z]; exact hel
        · rw [z]; exact hil
      rw [upd_ne (Nat.ne_of_lt hb')]
      exact (hf b hb).1
  done := by
    intro X hP hw hK hc i pins s σ H E I hf st hg
    subst hP hw hK
    obtain ⟨⟨old, he⟩, hit, hne, ha1, ha2⟩ := st
    obtain ⟨xs, hq, hx⟩ := hg
    obtain ⟨its, rv, p, hz⟩ := I.tuple hq
    obtain ⟨f0, f1, f2, f3, f4, f5⟩ := hf it (by simp)
    have hl := rv.length
    have hT : s.TypeIs (.ref e) "enumerate" := ⟨_, he, rfl⟩
    unfold pyNext
    refine wpAny_bind (wpAny_attempt (wpAny_callSpecial?_slot (name := Str.ofString "__next__") hT F.slot_enumerate_next
      (wpAny_call_entry F.slot_enumerate_next hT F.entry_enumerate_next ?_ (F.args_enumerate_next_1 _))))
    show wpAny _ _ (field (.ref e) 2 >>= _) _ _ _
    refine wpAny_bind (wpAny_field he rfl (x := .ref it) rfl ?_)
    refine wpAny_bind (wpAny_nextOf_tuple_end (I.ok.hd hc) hit p (by simp; omega) fun h' x he' hx' => ?_)
    obtain ⟨o, ho, hc'⟩ := hx'
    refine wpAny_bind (wpAny_isInstance (T := "StopIteration") (b := true) ⟨o, ho, hc'⟩ isSubtype_stop ?_)
    exact wpAny_pure ⟨rfl, I.turned (t' := s.toks) (fun b o hb q => he' b o hb q) f0 f1 f3 f4 f5⟩
  self := fun A i s Q E st h => let ⟨⟨_, he⟩, _⟩ := st; wpAny_pyIter_enum he h
def iEnumT (K : PySem.W.Frag) (ta : TA) : TI := fun σ H R => ta σ H fun vs H1 => ∃ a xs, vs = [.ref a] ∧ SqT K H1 a xs ∧ R (IteT K a) H1
theorem dl_pi_enumT {X : Cx} {e : Expr} {ta : TA} {p pos tpos : Pos} {elts : List Expr} {kk : Nat} (hg : Gl X "enumerate") (hm : X.mg "enumerate" = none) (ha : PA X [e] ta) (hs : starEach [e] X.env = [(false, eval e X.env)] := by rfl) :
    PI X (.Tuple elts kk tpos) (.Call (.Name "enumerate" p) [e] [] pos) (iEnumT X.K ta) := by
  refine ⟨fun pins s σ H R I h => ?_⟩
  refine Call_ (ld_blt I hg hm PyProof.Rows.boot_enumerate (PyProof.Rows.callWith_type1 (thn (ha.run pos pins s σ H _ I h) fun us s1 ⟨vs, H1, I1, r1, q1⟩ => ?_) hs rfl))
  obtain ⟨a, xs, ex, hq, q⟩ := q1
  subst ex
  cases r1 with
  | cons r rr =>
    cases rr
    cases r
    obtain ⟨its, rv, p', hz⟩ := I1.tuple hq
    have hal : a < s1.heap.objs.size := p'.lt
    refine dl_enum1 (begins_tuple a its.toArray) p' fun h' he hit hsz hk => wpAny_pyIter_enum he ?_
    have I2 : Inv X pins σ H1 { s1 with heap := h' } := I1.kept (t' := s1.toks) hk
    refine ⟨s1.heap.objs.size + 1, [s1.heap.objs.size + 1, s1.heap.objs.size], _, _, H1, rfl, I2, dl_turn_enumT a (s1.heap.objs.size + 1) s1.heap.objs.size, ⟨⟨.none, he⟩, ⟨_, hit, rfl, rfl⟩, Nat.succ_ne_self _, Nat.ne_of_lt hal, Nat.ne_of_lt (Nat.lt_succ_of_lt hal)⟩, fun b hb => ?_, q⟩
    have e' : b = s1.heap.objs.size + 1 ∨ b = s1.heap.objs.size := by simpa using hb
    have hle : s1.heap.objs.size ≤ b := by
      rcases e' with z | z
      · rw [z]; exact Nat.le_add_right _ _
      · rw [z]; exact Nat.le_refl _
    exact I1.fpOk hle (I1.hok.fresh hle)
end L2
namespace DL
open PySem PySem.Spec PyProof.Rows L2
variable {X : Cx} {C : Addr}
section
variable {Γ : Gm X C} {a b c e : Expr} {es : List Expr} {ρ : Rho} {pos p p2 q : Pos} {k : D → Rho → Prop} {x : Str}
/-! ### built-in calls -/
theorem de_callB {id : String} {r : List V → Hp → VK → Prop} {m : List D → Rho → Prop} (hc : CallR X (.builtin id) r) (hg : Gl X x) (hm : X.mg x = none) (hv : bootBuiltins x = some (.builtin id)) (h : DA Γ (e :: es) ρ m)
    (hr : ∀ ds ρ1 vs σ H1 G1 (Q : VK), m ds ρ1 → Γ.eo ρ1 σ H1 G1 → RvA G1 vs ds → (∀ d ρ' v H' G', k d ρ' → Γ.eo ρ' σ H' G' → Ex G1 G' → Rv G' v d → Q v H') → r vs H1 Q)
    (hn : x ≠ "__name__" := by decide) (hdb : (x == ("__debug__" : Str)) = false := by decide)
    (he : starEach (e :: es) X.env = (false, eval e X.env) :: starEach es X.env := by rfl) (hpl : (backTo pos (starEach es X.env)).any (·.1) = false := by rfl) : DE Γ (.Call (.Name x p) (e :: es) [] pos) ρ k :=
  de_of (pe_callB hc hg hm hv (pa_U Γ _) hn hdb he hpl) fun σ H G Q eo hk => ⟨ρ, G, m, h, eo, fun ds ρ1 vs H1 G1 hm eo1 ex1 rs => hr ds ρ1 vs σ H1 G1 Q hm eo1 rs fun d ρ' v H' G' z e1 e2 => hk d ρ' v H' G' z e1 (ex1.trans e2)⟩
theorem de_callTy {T : String} {r : List V → Hp → VK → Prop} {m : List D → Rho → Prop} (hc : CallR X (.type T) r) (hg : Gl X x) (hm : X.mg x = none) (hv : bootBuiltins x = some (.type T)) (h : DA Γ (e :: es) ρ m)
    (hr : ∀ ds ρ1 vs σ H1 G1 (Q : VK), m ds ρ1 → Γ.eo ρ1 σ H1 G1 → RvA G1 vs ds → (∀ d ρ' v H' G', k d ρ' → Γ.eo ρ' σ H' G' → Ex G1 G' → Rv G' v d → Q v H') → r vs H1 Q)
    (hn : x ≠ "__name__" := by decide) (hdb : (x == ("__debug__" : Str)) = false := by decide)
    (he : starEach (e :: es) X.env = (false, eval e X.env) :: starEach es X.env := by rfl) (hpl : (backTo pos (starEach es X.env)).any (·.1) = false := by rfl) : DE Γ (.Call (.Name x p) (e :: es) [] pos) ρ k :=
  de_of (pe_callTy hc hg hm hv (pa_U Γ _) hn hdb he hpl) fun σ H G Q eo hk => ⟨ρ, G, m, h, eo, fun ds ρ1 vs H1 G1 hm eo1 ex1 rs => hr ds ρ1 vs σ H1 G1 Q hm eo1 rs fun d ρ' v H' G' z e1 e2 => hk d ρ' v H' G' z e1 (ex1.trans e2)⟩
theorem da_one {k : List D → Rho → Prop} (h : DE Γ a ρ (fun x ρ1 => k [x] ρ1)) (hs : starEach [a] X.env = (false, eval a X.env) :: starEach [] X.env := by rfl) : DA Γ [a] ρ k := da_cons (h.mono fun x ρ1 z => da_nil z) hs
theorem RvA.un {G : Hp} {vs : List V} {d : D} (r : RvA G vs [d]) : ∃ v, vs = [v] ∧ Rv G v d := by
  cases r with
  | cons r t => cases t; exact ⟨_, rfl, r⟩
theorem RvA.du {G : Hp} {vs : List V} {d d' : D} (r : RvA G vs [d, d']) : ∃ v v', vs = [v, v'] ∧ Rv G v d ∧ Rv G v' d' := by
  cases r with
  | cons r t => obtain ⟨v, rfl, r'⟩ := t.un; exact ⟨_, _, rfl, r, r'⟩
/-- len -/
theorem de_lenL (hm : X.mg "len" = none) (h : DE Γ a ρ (fun x ρ1 => ∃ ds, x = .list ds ∧ k (.int (ds.length : Nat)) ρ1)) (hg : Gl X "len" := by rfl)
    (hs : starEach [a] X.env = (false, eval a X.env) :: starEach [] X.env := by rfl) (hpl : (backTo pos (starEach [] X.env)).any (·.1) = false := by rfl) : DE Γ (.Call (.Name "len" p) [a] [] pos) ρ k :=
  de_callB (m := fun ds ρ1 => ∃ xs, ds = [.list xs] ∧ k (.int (xs.length : Nat)) ρ1) call_len hg hm PySem.boot_len (da_one (h.mono fun x ρ1 ⟨ds, e, z⟩ => ⟨ds, by rw [e], z⟩) hs)
    (fun ds ρ1 vs σ H1 G1 Q ⟨xs, e, z⟩ eo r hk => by
      subst e
      obtain ⟨v, rfl, r1⟩ := r.un
      cases r1 with
      | lst g rs => exact ⟨_, xs.length, rfl, .inl ⟨_, SqL.of (eo.gh _ _ g), rs.len.symm⟩, hk _ _ _ _ _ z eo (.refl _) (.int _)⟩) (he := hs) (hpl := hpl)
theorem de_lenT (hm : X.mg "len" = none) (h : DE Γ a ρ (fun x ρ1 => ∃ ds, x = .tuple ds ∧ k (.int (ds.length : Nat)) ρ1)) (hg : Gl X "len" := by rfl)
    (hs : starEach [a] X.env = (false, eval a X.env) :: starEach [] X.env := by rfl) (hpl : (backTo pos (starEach [] X.env)).any (·.1) = false := by rfl) : DE Γ (.Call (.Name "len" p) [a] [] pos) ρ k :=
  de_callB (m := fun ds ρ1 => ∃ xs, ds = [.tuple xs] ∧ k (.int (xs.length : Nat)) ρ1) call_len hg hm PySem.boot_len (da_one (h.mono fun x ρ1 ⟨ds, e, z⟩ => ⟨ds, by rw [e], z⟩) hs)
    (fun ds ρ1 vs σ H1 G1 Q ⟨xs, e, z⟩ eo r hk => by
      subst e
      obtain ⟨v, rfl, r1⟩ := r.un
      cases r1 with
      | tup g rs => exact ⟨_, xs.length, rfl, .inr ⟨_, SqT.of (eo.gh _ _ g), rs.len.symm⟩, hk _ _ _ _ _ z eo (.refl _) (.int _)⟩) (he := hs) (hpl := hpl)
/-- len of a list of our own -/
theorem de_lenO (l : Nat) {oa : Option Addr} {ds : List D} (hl : ρ[l]? = some (some (.own oa ds))) (hm : X.mg "len" = none) (hk : k (.int (ds.length : Nat)) ρ) (hg : Gl X "len" := by rfl) (hN : X.N[l]? = some x := by rfl) (hv : Vis X.env.scope x := by first | exact Or.inl rfl | exact Or.inr (Or.inl rfl) | exact Or.inr (Or.inr rfl))
    (hd : (x == ("__debug__" : Str)) = false := by decide) (hcd : (x == ("__classdict__" : Str)) = false := by decide)
    (hs : starEach [.Name x p2] X.env = (false, eval (.Name x p2) X.env) :: starEach [] X.env := by rfl) (hpl : (backTo pos (starEach [] X.env)).any (·.1) = false := by rfl) : DE Γ (.Call (.Name "len" p) [.Name x p2] [] pos) ρ k :=
  de_of (pe_callB call_len hg hm PySem.boot_len (pa_cons (pe_var hN hv hd hcd) pa_nil hs) (he := hs) (hpl := hpl)) fun σ H G Q eo hk' => by
    obtain ⟨b, vs, h1, h2, h3, _⟩ := eo.own l ds hl
    exact ⟨_, h1, _, ds.length, rfl, .inl ⟨_, SqL.of h2, h3.len.symm⟩, hk' _ _ _ _ _ hk eo (.refl _) (.int _)⟩
/-- int(x) -/
theorem de_intI (hm : X.mg "int" = none) (h : DE Γ a ρ (fun x ρ1 => ∃ i, x = .int i ∧ k (.int i) ρ1)) (hg : Gl X "int" := by rfl)
    (hs : starEach [a] X.env = (false, eval a X.env) :: starEach [] X.env := by rfl) (hpl : (backTo pos (starEach [] X.env)).any (·.1) = false := by rfl) : DE Γ (.Call (.Name "int" p) [a] [] pos) ρ k :=
  de_callTy (m := fun ds ρ1 => ∃ i, ds = [.int i] ∧ k (.int i) ρ1) call_int1 hg hm PyProof.Rows.boot_int (da_one (h.mono fun x ρ1 ⟨i, e, z⟩ => ⟨i, by rw [e], z⟩) hs)
    (fun ds ρ1 vs σ H1 G1 Q ⟨i, e, z⟩ eo r hk => by
      subst e
      obtain ⟨v, rfl, r1⟩ := r.un
      cases r1
      exact .inl ⟨i, rfl, hk _ _ _ _ _ z eo (.refl _) (.int _)⟩) (he := hs) (hpl := hpl)
def b2 (b : Bool) : Int := if b then 1 else 0
theorem de_intB (hm : X.mg "int" = none) (h : DE Γ a ρ (fun x ρ1 => ∃ i, x = .bool i ∧ k (.int (b2 i)) ρ1)) (hg : Gl X "int" := by rfl)
    (hs : starEach [a] X.env = (false, eval a X.env) :: starEach [] X.env := by rfl) (hpl : (backTo pos (starEach [] X.env)).any (·.1) = false := by rfl) : DE Γ (.Call (.Name "int" p) [a] [] pos) ρ k :=
  de_callTy (m := fun ds ρ1 => ∃ i, ds = [.bool i] ∧ k (.int (b2 i)) ρ1) call_int1 hg hm PyProof.Rows.boot_int (da_one (h.mono fun x ρ1 ⟨i, e, z⟩ => ⟨i, by rw [e], z⟩) hs)
    (fun ds ρ1 vs σ H1 G1 Q ⟨i, e, z⟩ eo r hk => by
      subst e
      obtain ⟨v, rfl, r1⟩ := r.un
      cases r1
      exact .inr ⟨i, rfl, hk _ _ _ _ _ z eo (.refl _) (.int _)⟩) (he := hs) (hpl := hpl)
/-- min, max of two -/
theorem de_min2 (hm : X.mg "min" = none) (h : DE Γ a ρ (fun x ρ1 => DE Γ b ρ1 (fun y ρ2 => II x y fun i j => k (.int (min i j)) ρ2))) (hg : Gl X "min" := by rfl)
    (hs : starEach [a, b] X.env = (false, eval a X.env) :: starEach [b] X.env := by rfl) (hs2 : starEach [b] X.env = (false, eval b X.env) :: starEach [] X.env := by rfl) (hpl : (backTo pos (starEach [b] X.env)).any (·.1) = false := by rfl) (hcalm : X.calm = true := by rfl) : DE Γ (.Call (.Name "min" p) [a, b] [] pos) ρ k :=
  de_callB (m := fun ds ρ1 => ∃ i j, ds = [.int i, .int j] ∧ k (.int (min i j)) ρ1) (call_min2 hcalm) hg hm PyProof.Rows.boot_min
    (da_cons (h.mono fun x ρ1 z => da_one (DE.mono z fun y ρ2 ⟨i, j, e1, e2, z⟩ => ⟨i, j, by rw [e1, e2], z⟩) hs2) hs)
    (fun ds ρ1 vs σ H1 G1 Q ⟨i, j, e, z⟩ eo r hk => by
      subst e
      obtain ⟨v, v', rfl, r1, r2⟩ := r.du
      cases r1; cases r2
      refine ⟨i, j, rfl, ?_⟩
      have e : (if j < i then j else i) = min i j := by split <;> omega
      rw [e]
      exact hk _ _ _ _ _ z eo (.refl _) (.int _)) (he := hs) (hpl := hpl)
theorem de_max2 (hm : X.mg "max" = none) (h : DE Γ a ρ (fun x ρ1 => DE Γ b ρ1 (fun y ρ2 => II x y fun i j => k (.int (max i j)) ρ2))) (hg : Gl X "max" := by rfl)
    (hs : starEach [a, b] X.env = (false, eval a X.env) :: starEach [b] X.env := by rfl) (hs2 : starEach [b] X.env = (false, eval b X.env) :: starEach [] X.env := by rfl) (hpl : (backTo pos (starEach [b] X.env)).any (·.1) = false := by rfl) (hcalm : X.calm = true := by rfl) : DE Γ (.Call (.Name "max" p) [a, b] [] pos) ρ k :=
  de_callB (m := fun ds ρ1 => ∃ i j, ds = [.int i, .int j] ∧ k (.int (max i j)) ρ1) (call_max2 hcalm) hg hm PyProof.Rows.boot_max
    (da_cons (h.mono fun x ρ1 z => da_one (DE.mono z fun y ρ2 ⟨i, j, e1, e2, z⟩ => ⟨i, j, by rw [e1, e2], z⟩) hs2) hs)
    (fun ds ρ1 vs σ H1 G1 Q ⟨i, j, e, z⟩ eo r hk => by
      subst e
      obtain ⟨v, v', rfl, r1, r2⟩ := r.du
      cases r1; cases r2
      refine ⟨i, j, rfl, ?_⟩
      have e : (if j > i then j else i) = max i j := by split <;> omega
      rw [e]
      exact hk _ _ _ _ _ z eo (.refl _) (.int _)) (he := hs) (hpl := hpl)
/-- sum of a list, of a tuple -/
theorem de_sumL (hm : X.mg "sum" = none) (h : DE Γ a ρ (fun x ρ1 => ∃ ns : List Int, x = .list (ns.map .int) ∧ k (.int ns.sum) ρ1)) (hg : Gl X "sum" := by rfl)
    (hs : starEach [a] X.env = (false, eval a X.env) :: starEach [] X.env := by rfl) (hpl : (backTo pos (starEach [] X.env)).any (·.1) = false := by rfl) (hcalm : X.calm = true := by rfl) : DE Γ (.Call (.Name "sum" p) [a] [] pos) ρ k :=
  de_callB (m := fun ds ρ1 => ∃ ns : List Int, ds = [.list (ns.map .int)] ∧ k (.int ns.sum) ρ1) (cr_sum hcalm) hg hm PyProof.Rows.boot_sum (da_one (h.mono fun x ρ1 ⟨i, e, z⟩ => ⟨i, by rw [e], z⟩) hs)
    (fun ds ρ1 vs σ H1 G1 Q ⟨ns, e, z⟩ eo r hk => by
      subst e
      obtain ⟨v, rfl, r1⟩ := r.un
      cases r1 with
      | lst g rs =>
        obtain rfl := rs.ints
        exact ⟨_, ns, rfl, SqL.of (eo.gh _ _ g), hk _ _ _ _ _ z eo (.refl _) (.int _)⟩) (he := hs) (hpl := hpl)
theorem de_sumT (hm : X.mg "sum" = none) (h : DE Γ a ρ (fun x ρ1 => ∃ ns : List Int, x = .tuple (ns.map .int) ∧ k (.int ns.sum) ρ1)) (hg : Gl X "sum" := by rfl)
    (hs : starEach [a] X.env = (false, eval a X.env) :: starEach [] X.env := by rfl) (hpl : (backTo pos (starEach [] X.env)).any (·.1) = false := by rfl) (hcalm : X.calm = true := by rfl) : DE Γ (.Call (.Name "sum" p) [a] [] pos) ρ k :=
  de_callB (m := fun ds ρ1 => ∃ ns : List Int, ds = [.tuple (ns.map .int)] ∧ k (.int ns.sum) ρ1) (dl_cr_sumT hcalm) hg hm PyProof.Rows.boot_sum (da_one (h.mono fun x ρ1 ⟨i, e, z⟩ => ⟨i, by rw [e], z⟩) hs)
    (fun ds ρ1 vs σ H1 G1 Q ⟨ns, e, z⟩ eo r hk => by
      subst e
      obtain ⟨v, rfl, r1⟩ := r.un
      cases r1 with
      | tup g rs =>
        obtain rfl := rs.ints
        exact ⟨_, ns, rfl, SqT.of (eo.gh _ _ g), hk _ _ _ _ _ z eo (.refl _) (.int _)⟩) (he := hs) (hpl := hpl)
/-- tuple(list), list(tuple), list(list) -/
theorem de_tupleL (hm : X.mg "tuple" = none) (h : DE Γ a ρ (fun x ρ1 => ∃ ds, x = .list ds ∧ k (.tuple ds) ρ1)) (hg : Gl X "tuple" := by rfl)
    (hs : starEach [a] X.env = (false, eval a X.env) :: starEach [] X.env := by rfl) : DE Γ (.Call (.Name "tuple" p) [a] [] pos) ρ k :=
  de_of (pe_tupleOf hg hm (pe_U Γ a) hs) fun σ H G Q eo hk => ⟨ρ, G, _, h, eo, fun x ρ1 u H1 G1 ⟨ds, e, z⟩ eo1 ex1 ru => by
    subst e
    cases ru with
    | lst g rs =>
      refine .inl ⟨_, _, rfl, SqL.of (eo1.gh _ _ g), fun l hl => ?_⟩
      obtain ⟨e2, x2⟩ := eo1.allocG (o := .tup _) hl
      exact hk _ _ _ _ _ z e2 (ex1.trans x2) (.tup upd_same (rs.mono x2))⟩
theorem dn_listT {k : List D → Rho → Prop} (hm : X.mg "list" = none) (h : DE Γ a ρ (fun x ρ1 => ∃ ds, (x = .tuple ds ∨ x = .list ds) ∧ k ds ρ1)) (hg : Gl X "list" := by rfl)
    (hs : starEach [a] X.env = (false, eval a X.env) :: starEach [] X.env := by rfl) (hpl : (backTo pos (starEach [] X.env)).any (·.1) = false := by rfl) : DN Γ (.Call (.Name "list" p) [a] [] pos) ρ k :=
  dn_of (pe_callTy call_list_of hg hm PyProof.Rows.boot_list (pa_cons (pe_U Γ a) pa_nil hs) (he := hs) (hpl := hpl)) fun σ H G Q eo hk => ⟨ρ, G, _, h, eo, fun x ρ1 u H1 G1 ⟨ds, e, z⟩ eo1 ex1 ru => by
    have fin : ∀ (p : Addr) (vs : List V), u = .ref p → (SqL X.K H1 p vs ∨ SqT X.K H1 p vs) → RvA G1 vs ds → ∃ p ys, [u] = [V.ref p] ∧ (SqL X.K H1 p ys ∨ SqT X.K H1 p ys) ∧ ∀ l, H1 l = none → Q (.ref l) (upd H1 l (.lst ys)) := fun p vs e1 e2 rs =>
      ⟨p, vs, by rw [e1], e2, fun l hl => hk _ _ _ _ _ _ z (eo1.alloc hl) ex1 upd_same rs (eo1.gh.none hl) (eo1.h0.none hl) (eo1.newNot hl)⟩
    rcases e with e | e
    · subst e
      cases ru with
      | tup g rs => exact fin _ _ rfl (.inr (SqT.of (eo1.gh _ _ g))) rs
    · subst e
      cases ru with
      | lst g rs => exact fin _ _ rfl (.inl (SqL.of (eo1.gh _ _ g))) rs⟩
/-- len(set(xs)) -/
theorem de_lenSet (hm : X.mg "len" = none) (hm2 : X.mg "set" = none) (h : DE Γ a ρ (fun x ρ1 => ∃ ns : List Int, x = .list (ns.map .int) ∧ ns.length ≤ 4000 ∧ k (.int ((uniq ns).length : Nat)) ρ1)) (hg : Gl X "len" := by rfl) (hg2 : Gl X "set" := by rfl)
    (hs : starEach [a] X.env = (false, eval a X.env) :: starEach [] X.env := by rfl) (hcalm : X.calm = true := by rfl) : DE Γ (.Call (.Name "len" p) [.Call (.Name "set" p2) [a] [] q] [] pos) ρ k :=
  de_of (dl_pe_lenSet hg hm hg2 hm2 (pe_U Γ a) hcalm hs) fun σ H G Q eo hk => ⟨ρ, G, _, h, eo, fun x ρ1 u H1 G1 ⟨ns, e, hl, z⟩ eo1 ex1 ru => by
    subst e
    cases ru with
    | lst g rs =>
      obtain rfl := rs.ints
      exact ⟨_, ns, rfl, SqL.of (eo1.gh _ _ g), hl, hk _ _ _ _ _ z eo1 ex1 (.int _)⟩⟩
/-! ### isinstance -/
def tyD : D → String
  | .none => "NoneType"
  | .bool _ => "bool"
  | .int _ => "int"
  | .str _ => "str"
  | .list _ => "list"
  | .tuple _ => "tuple"
  | .dict _ => "dict"
theorem Rv.ty {K : PySem.W.Frag} {G H : Hp} {v : V} {d : D} (e : Ex G H) (r : Rv G v d) : TyX K H v (.type (tyD d)) := by
  cases r with
  | non => exact .base .non
  | bl b => exact .base (.bl b)
  | int i => exact .base (.int i)
  | str x => exact .base (.str x)
  | lst g _ => exact .base (.lst (e _ _ g))
  | tup g _ => exact .base (.tup (e _ _ g))
def isInt : D → Bool
  | .bool _ => true
  | .int _ => true
  | _ => false
def isBool : D → Bool
  | .bool _ => true
  | _ => false
def isTup : D → Bool
  | .tuple _ => true
  | _ => false
theorem de_isi {T : Str} {tn : String} {f : D → Bool} (hm : X.mg "isinstance" = none) (hmT : X.mg T = none) (hb : bootBuiltins T = some (.type tn)) (hf : ∀ d G v, Rv G v d → kitB (tyD d) tn = some (f d)) (h : DE Γ a ρ (fun x ρ1 => k (.bool (f x)) ρ1)) (hg : Gl X "isinstance" := by rfl) (hgT : Gl X T := by rfl) (hT : T ≠ "__name__" := by decide) (hT2 : (T == ("__debug__" : Str)) = false := by decide)
    (hs : starEach [a, .Name T q] X.env = (false, eval a X.env) :: starEach [.Name T q] X.env := by rfl) (hs2 : starEach [.Name T q] X.env = (false, eval (.Name T q) X.env) :: starEach [] X.env := by rfl) (hpl : (backTo pos (starEach [.Name T q] X.env)).any (·.1) = false := by rfl) :
    DE Γ (.Call (.Name "isinstance" p) [a, .Name T q] [] pos) ρ k :=
  de_of (pe_callB call_isi hg hm PyProof.Rows.boot_isinstance (pa_cons (pe_U Γ a) (pa_cons (pe_bltn (v := .ty tn) hgT hmT hb rfl hT hT2) pa_nil hs2) hs) (he := hs) (hpl := hpl)) fun σ H G Q eo hk => ⟨ρ, G, _, h, eo, fun x ρ1 u H1 G1 z eo1 ex1 ru =>
    ⟨u, .ty tn, _, _, _, rfl, .ty tn, ru.ty eo1.gh, kit_ty (hf x G1 u ru), hk _ _ _ _ _ z eo1 ex1 (.bl _)⟩⟩
theorem kit_int : ∀ d G v, Rv G v d → kitB (tyD d) "int" = some (isInt d)
  | _, _, _, .non => by decide +kernel
  | _, _, _, .bl _ => by show kitB "bool" "int" = some true; decide +kernel
  | _, _, _, .int _ => by show kitB "int" "int" = some true; decide +kernel
  | _, _, _, .str _ => by show kitB "str" "int" = some false; decide +kernel
  | _, _, _, .lst _ _ => by show kitB "list" "int" = some false; decide +kernel
  | _, _, _, .tup _ _ => by show kitB "tuple" "int" = some false; decide +kernel
theorem kit_bool : ∀ d G v, Rv G v d → kitB (tyD d) "bool" = some (isBool d)
  | _, _, _, .non => by decide +kernel
  | _, _, _, .bl _ => by show kitB "bool" "bool" = some true; decide +kernel
  | _, _, _, .int _ => by show kitB "int" "bool" = some false; decide +kernel
  | _, _, _, .str _ => by show kitB "str" "bool" = some false; decide +kernel
  | _, _, _, .lst _ _ => by show kitB "list" "bool" = some false; decide +kernel
  | _, _, _, .tup _ _ => by show kitB "tuple" "bool" = some false; decide +kernel
theorem kit_tup : ∀ d G v, Rv G v d → kitB (tyD d) "tuple" = some (isTup d)
  | _, _, _, .non => by decide +kernel
  | _, _, _, .bl _ => by show kitB "bool" "tuple" = some false; decide +kernel
  | _, _, _, .int _ => by show kitB "int" "tuple" = some false; decide +kernel
  | _, _, _, .str _ => by show kitB "str" "tuple" = some false; decide +kernel
  | _, _, _, .lst _ _ => by show kitB "list" "tuple" = some false; decide +kernel
  | _, _, _, .tup _ _ => by show kitB "tuple" "tuple" = some true; decide +kernel
theorem de_isiI (hm : X.mg "isinstance" = none) (hmT : X.mg "int" = none) (h : DE Γ a ρ (fun x ρ1 => k (.bool (isInt x)) ρ1)) (hg : Gl X "isinstance" := by rfl) (hgT : Gl X "int" := by rfl)
    (hs : starEach [a, .Name "int" q] X.env = (false, eval a X.env) :: starEach [.Name "int" q] X.env := by rfl) (hs2 : starEach [.Name "int" q] X.env = (false, eval (.Name "int" q) X.env) :: starEach [] X.env := by rfl) (hpl : (backTo pos (starEach [.Name "int" q] X.env)).any (·.1) = false := by rfl) :
    DE Γ (.Call (.Name "isinstance" p) [a, .Name "int" q] [] pos) ρ k := de_isi hm hmT PyProof.Rows.boot_int kit_int h hg hgT (hs := hs) (hs2 := hs2) (hpl := hpl)
theorem de_isiB (hm : X.mg "isinstance" = none) (hmT : X.mg "bool" = none) (h : DE Γ a ρ (fun x ρ1 => k (.bool (isBool x)) ρ1)) (hg : Gl X "isinstance" := by rfl) (hgT : Gl X "bool" := by rfl)
    (hs : starEach [a, .Name "bool" q] X.env = (false, eval a X.env) :: starEach [.Name "bool" q] X.env := by rfl) (hs2 : starEach [.Name "bool" q] X.env = (false, eval (.Name "bool" q) X.env) :: starEach [] X.env := by rfl) (hpl : (backTo pos (starEach [.Name "bool" q] X.env)).any (·.1) = false := by rfl) :
    DE Γ (.Call (.Name "isinstance" p) [a, .Name "bool" q] [] pos) ρ k := de_isi hm hmT PyProof.Rows.boot_bool kit_bool h hg hgT (hs := hs) (hs2 := hs2) (hpl := hpl)
theorem de_isiT (hm : X.mg "isinstance" = none) (hmT : X.mg "tuple" = none) (h : DE Γ a ρ (fun x ρ1 => k (.bool (isTup x)) ρ1)) (hg : Gl X "isinstance" := by rfl) (hgT : Gl X "tuple" := by rfl)
    (hs : starEach [a, .Name "tuple" q] X.env = (false, eval a X.env) :: starEach [.Name "tuple" q] X.env := by rfl) (hs2 : starEach [.Name "tuple" q] X.env = (false, eval (.Name "tuple" q) X.env) :: starEach [] X.env := by rfl) (hpl : (backTo pos (starEach [.Name "tuple" q] X.env)).any (·.1) = false := by rfl) :
    DE Γ (.Call (.Name "isinstance" p) [a, .Name "tuple" q] [] pos) ρ k := de_isi hm hmT PyProof.Rows.boot_tuple kit_tup h hg hgT (hs := hs) (hs2 := hs2) (hpl := hpl)
/-! ### slices, joins -/
structure DPo (Γ : Gm X C) (o : Option Expr) (ρ : Rho) (k : Option Int → Rho → Prop) : Prop where
  run : ∀ (pins : List (Addr × Obj)) (s : Shared) (σ : L2.St) (H G : Hp) (Q : Option Int → Hp → Prop), Inv X pins σ H s → Γ.eo ρ σ H G →
    (∀ i ρ' H' G', k i ρ' → Γ.eo ρ' σ H' G' → Ex G G' → Q i H') → wpAny (model X.prog X.w) X.A (evalPart o X.env) (fun u s' => ∃ o H', Inv X pins σ H' s' ∧ IsPart u o ∧ Q o H') X.xe s
def tUP (Γ : Gm X C) (o : Option Expr) : TO := fun σ H Q => ∃ ρ G k, DPo Γ o ρ k ∧ Γ.eo ρ σ H G ∧ ∀ i ρ' H' G', k i ρ' → Γ.eo ρ' σ H' G' → Ex G G' → Q i H'
theorem po_U (Γ : Gm X C) (o : Option Expr) : PO X o (tUP Γ o) := ⟨fun pins s σ H Q I ⟨ρ, G, k, h, eo, hk⟩ => h.run pins s σ H G Q I eo hk⟩
theorem dpo_none {k : Option Int → Rho → Prop} (h : k none ρ) : DPo Γ none ρ k := .mk fun pins s σ H G Q I eo hk => po_none.run pins s σ H Q I (hk _ _ _ _ h eo (.refl _))
theorem dpo_some {k : Option Int → Rho → Prop} (h : DE Γ a ρ (fun x ρ1 => ∃ i, x = .int i ∧ k (some i) ρ1)) : DPo Γ (some a) ρ k := .mk fun pins s σ H G Q I eo hk =>
  (po_some (pe_U Γ a)).run pins s σ H Q I ⟨ρ, G, _, h, eo, fun x ρ1 u H1 G1 ⟨i, e, z⟩ eo1 ex1 ru => by subst e; cases ru; exact ⟨i, rfl, hk _ _ _ _ z eo1 ex1⟩⟩
def cutD {α : Type} (xs : List α) (lo hi : Option Int) : List α := (xs.drop (HT.sIx xs.length 0 lo)).take (HT.sIx xs.length xs.length hi - HT.sIx xs.length 0 lo)
theorem RvA.cut {G : Hp} {vs : List V} {ds : List D} (r : RvA G vs ds) (lo hi : Option Int) : RvA G (cutV vs lo hi) (cutD ds lo hi) := by
  unfold cutV cutD
  rw [r.len]
  exact (r.drop _).take _
theorem cutD_whole {α : Type} {xs : List α} {lo hi : Option Int} (h : HT.sIx xs.length 0 lo = 0 ∧ HT.sIx xs.length xs.length hi = xs.length) : cutD xs lo hi = xs := by
  unfold cutD
  rw [h.1, h.2]
  simp
theorem dn_slL {k : List D → Rho → Prop} {lo hi : Option Expr} (h : DE Γ a ρ (fun x ρ1 => DPo Γ lo ρ1 (fun l ρ2 => DPo Γ hi ρ2 (fun u ρ3 => ∃ ds, x = .list ds ∧ k (cutD ds l u) ρ3)))) : DN Γ (.Subscript a (.Slice lo hi none p2) pos) ρ k :=
  dn_of (pe_slice sl_list (pe_U Γ a) (po_U Γ lo) (po_U Γ hi)) fun σ H G Q eo hk => ⟨ρ, G, _, h, eo, fun x ρ1 u H1 G1 h1 eo1 ex1 ru => ⟨ρ1, G1, _, h1, eo1, fun l ρ2 H2 G2 h2 eo2 ex2 => ⟨ρ2, G2, _, h2, eo2, fun i ρ3 H3 G3 ⟨ds, e, z⟩ eo3 ex3 => by
    subst e
    cases ru with
    | lst g rs =>
      have x13 := ex2.trans ex3
      exact ⟨_, _, rfl, SqL.of (eo3.gh _ _ (x13 _ _ g)), fun q hq => hk _ _ _ _ _ _ z (eo3.alloc hq) (ex1.trans x13) upd_same ((rs.mono x13).cut l i) (eo3.gh.none hq) (eo3.h0.none hq) (eo3.newNot hq)⟩⟩⟩⟩
theorem de_slT {lo hi : Option Expr} (h : DE Γ a ρ (fun x ρ1 => DPo Γ lo ρ1 (fun l ρ2 => DPo Γ hi ρ2 (fun u ρ3 => ∃ ds, x = .tuple ds ∧ k (.tuple (cutD ds l u)) ρ3)))) : DE Γ (.Subscript a (.Slice lo hi none p2) pos) ρ k :=
  de_of (pe_slice sl_tupA (pe_U Γ a) (po_U Γ lo) (po_U Γ hi)) fun σ H G Q eo hk => ⟨ρ, G, _, h, eo, fun x ρ1 u H1 G1 h1 eo1 ex1 ru => ⟨ρ1, G1, _, h1, eo1, fun l ρ2 H2 G2 h2 eo2 ex2 => ⟨ρ2, G2, _, h2, eo2, fun i ρ3 H3 G3 ⟨ds, e, z⟩ eo3 ex3 => by
    subst e
    cases ru with
    | tup g rs =>
      have x13 := ex2.trans ex3
      refine ⟨_, _, rfl, SqT.of (eo3.gh _ _ (x13 _ _ g)), fun w => ?_, fun _ q hq => ?_⟩
      · rw [rs.len] at w
        rw [cutD_whole w] at z
        exact hk _ _ _ _ _ z eo3 (ex1.trans x13) (.tup (x13 _ _ g) (rs.mono x13))
      · obtain ⟨e2, x2⟩ := eo3.allocG (o := .tup _) hq
        exact hk _ _ _ _ _ z e2 ((ex1.trans x13).trans x2) (.tup upd_same (((rs.mono x13).cut l i).mono x2))⟩⟩⟩
theorem dn_revL {k : List D → Rho → Prop} {j : Nat} {q1 q2 : Pos} (h : DE Γ a ρ (fun x ρ1 => ∃ ds, x = .list ds ∧ k ds.reverse ρ1)) : DN Γ (.Subscript a (.Slice none none (some (.UnaryOp .USub (.Constant (.int 1) j q1) q2)) p2) pos) ρ k :=
  dn_of (pe_revL (pe_U Γ a)) fun σ H G Q eo hk => ⟨ρ, G, _, h, eo, fun x ρ1 u H1 G1 ⟨ds, e, z⟩ eo1 ex1 ru => by
    subst e
    cases ru with
    | lst g rs => exact ⟨_, _, rfl, SqL.of (eo1.gh _ _ g), fun q hq => hk _ _ _ _ _ _ z (eo1.alloc hq) ex1 upd_same rs.rev (eo1.gh.none hq) (eo1.h0.none hq) (eo1.newNot hq)⟩⟩
theorem de_revT {j : Nat} {q1 q2 : Pos} (h : DE Γ a ρ (fun x ρ1 => ∃ ds, x = .tuple ds ∧ k (.tuple ds.reverse) ρ1)) : DE Γ (.Subscript a (.Slice none none (some (.UnaryOp .USub (.Constant (.int 1) j q1) q2)) p2) pos) ρ k :=
  de_of (dl_pe_revT (pe_U Γ a)) fun σ H G Q eo hk => ⟨ρ, G, _, h, eo, fun x ρ1 u H1 G1 ⟨ds, e, z⟩ eo1 ex1 ru => by
    subst e
    cases ru with
    | tup g rs =>
      refine ⟨_, _, rfl, SqT.of (eo1.gh _ _ g), fun q hq => ?_⟩
      obtain ⟨e2, x2⟩ := eo1.allocG (o := .tup _) hq
      exact hk _ _ _ _ _ z e2 (ex1.trans x2) (.tup upd_same (rs.rev.mono x2))⟩
theorem dn_cat {k : List D → Rho → Prop} (h : DE Γ a ρ (fun x ρ1 => DE Γ b ρ1 (fun y ρ2 => ∃ xs ys, x = .list xs ∧ y = .list ys ∧ xs.length + ys.length ≤ sizeLine ∧ k (xs ++ ys) ρ2))) : DN Γ (.BinOp a .Add b pos) ρ k :=
  dn_of (pe_op op_cat (pe_U Γ a) (pe_U Γ b)) fun σ H G Q eo hk => two eo h fun x y ρ2 u v H2 G2 ⟨xs, ys, e1, e2, hl, z⟩ eo2 ex ru rv => by
    subst e1; subst e2
    cases ru with
    | lst g rs => cases rv with
      | lst g' rs' => exact ⟨_, _, _, _, rfl, rfl, eo2.gh _ _ g, eo2.gh _ _ g', by rw [rs.len, rs'.len]; exact hl, fun q hq => hk _ _ _ _ _ _ z (eo2.alloc hq) ex upd_same (rs.app rs') (eo2.gh.none hq) (eo2.h0.none hq) (eo2.newNot hq)⟩
theorem flat_repl {α : Type} (d : α) : ∀ n, (List.replicate n [d]).flatten = List.replicate n d
  | 0 => rfl
  | n + 1 => by rw [List.replicate_succ, List.flatten_cons, flat_repl d n, List.replicate_succ]; rfl
theorem dn_rep {k : List D → Rho → Prop} (h : DE Γ a ρ (fun x ρ1 => DE Γ b ρ1 (fun y ρ2 => ∃ d n, x = .list [d] ∧ y = .int n ∧ 0 ≤ n ∧ n ≤ 1000000 ∧ k (List.replicate n.toNat d) ρ2))) : DN Γ (.BinOp a .Mult b pos) ρ k :=
  dn_of (pe_op op_rep (pe_U Γ a) (pe_U Γ b)) fun σ H G Q eo hk => two eo h fun x y ρ2 u v H2 G2 ⟨d, n, e1, e2, hl, hu, z⟩ eo2 ex ru rv => by
    subst e1; subst e2
    cases rv
    cases ru with
    | lst g rs =>
      obtain ⟨w, rfl, r⟩ := rs.un
      refine ⟨_, _, _, rfl, rfl, eo2.gh _ _ g, by omega, by omega, ?_, fun q hq => ?_⟩
      · rw [sizeLine_eq]; simp; omega
      · rw [flat_repl]
        exact hk _ _ _ _ _ _ z (eo2.alloc hq) ex upd_same (RvA.repl r _) (eo2.gh.none hq) (eo2.h0.none hq) (eo2.newNot hq)
theorem de_catT (h : DE Γ a ρ (fun x ρ1 => DE Γ b ρ1 (fun y ρ2 => ∃ xs ys, x = .tuple xs ∧ y = .tuple ys ∧ xs.length + ys.length ≤ sizeLine ∧ k (.tuple (xs ++ ys)) ρ2))) : DE Γ (.BinOp a .Add b pos) ρ k :=
  de_of (pe_op op_catA (pe_U Γ a) (pe_U Γ b)) fun σ H G Q eo hk => two eo h fun x y ρ2 u v H2 G2 ⟨xs, ys, e1, e2, hl, z⟩ eo2 ex ru rv => by
    subst e1; subst e2
    cases ru with
    | tup g rs => cases rv with
      | tup g' rs' =>
        refine ⟨_, _, _, _, rfl, rfl, SqT.of (eo2.gh _ _ g), SqT.of (eo2.gh _ _ g'), by rw [rs.len, rs'.len]; exact hl, fun w => ?_, fun _ w => ?_, fun _ _ q hq => ?_⟩
        · subst w; cases rs
          exact hk _ _ _ _ _ z eo2 ex (.tup g' rs')
        · subst w; cases rs'
          rw [List.append_nil] at z
          exact hk _ _ _ _ _ z eo2 ex (.tup g rs)
        · obtain ⟨e2, x2⟩ := eo2.allocG (o := .tup _) hq
          exact hk _ _ _ _ _ z e2 (ex.trans x2) (.tup upd_same ((rs.app rs').mono x2))
/-! ### in, not in: ints -/
theorem inV_int (i : Int) (ns : List Int) : inV (.int i) (ns.map V.int) = decide (i ∈ ns) := by
  unfold inV
  rw [List.any_map]
  induction ns with
  | nil => simp
  | cons n ns ih =>
    rw [List.any_cons, ih]
    show ((n == i) || decide (i ∈ ns)) = decide (i ∈ n :: ns)
    by_cases h : i = n
    · subst h; simp
    · have h' : (n == i) = false := by simpa using fun e => h e.symm
      simp [h', h]
theorem flat_ints (ns : List Int) : (ns.map V.int).all flatV = true := by simp [List.all_map, flatV, Function.comp_def]
theorem dt_in {k : Bool → Rho → Prop} (hm : behindInMarks .In b = false) (h : DE Γ a ρ (fun x ρ1 => DE Γ b ρ1 (fun y ρ2 => ∃ (i : Int) (ns : List Int), x = .int i ∧ (y = .list (ns.map .int) ∨ y = .tuple (ns.map .int)) ∧ k (decide (i ∈ ns)) ρ2))) : DT Γ (.Compare a [.In] [b] pos) ρ k :=
  dt_cmp op_in_seq h (fun x y ρ2 u v σ H2 G2 Q ⟨i, ns, e1, e2, hm⟩ eo ru rv hk => by
    subst e1; cases ru
    rcases e2 with e2 | e2
    · subst e2
      cases rv with
      | lst g rs => obtain rfl := rs.ints; exact ⟨_, _, rfl, .inl (SqL.of (eo.gh _ _ g)), rfl, flat_ints ns, by rw [if_neg (by decide), inV_int]; exact hk _ _ _ _ hm eo (.refl _)⟩
    · subst e2
      cases rv with
      | tup g rs => obtain rfl := rs.ints; exact ⟨_, _, rfl, .inr (SqT.of (eo.gh _ _ g)), rfl, flat_ints ns, by rw [if_neg (by decide), inV_int]; exact hk _ _ _ _ hm eo (.refl _)⟩) hm
theorem dt_inO (l : Nat) {oa : Option Addr} {k : Bool → Rho → Prop} (hm : behindInMarks .In (.Name x p) = false := by rfl) (h : DE Γ a ρ (fun y ρ1 => ∃ (i : Int) (ns : List Int), y = .int i ∧ ρ1[l]? = some (some (.own oa (ns.map .int))) ∧ k (decide (i ∈ ns)) ρ1)) (hN : X.N[l]? = some x := by rfl) (hv : Vis X.env.scope x := by first | exact Or.inl rfl | exact Or.inr (Or.inl rfl) | exact Or.inr (Or.inr rfl))
    (hd : (x == ("__debug__" : Str)) = false := by decide) (hcd : (x == ("__classdict__" : Str)) = false := by decide) : DT Γ (.Compare a [.In] [.Name x p] pos) ρ k :=
  dt_of (pt_cmpR op_in_seq (pe_U Γ a) (pe_var hN hv hd hcd) hm) fun σ H G Q eo hk => ⟨ρ, G, _, h, eo, fun y ρ1 u H1 G1 ⟨i, ns, e, hl, z⟩ eo1 ex1 ru => by
    subst e; cases ru
    obtain ⟨b, vs, h1, h2, h3, _⟩ := eo1.own l _ hl
    obtain rfl := h3.ints
    exact ⟨_, h1, _, _, rfl, .inl (SqL.of h2), rfl, flat_ints ns, _, rfl, by rw [if_neg (by decide), inV_int]; exact hk _ _ _ _ z eo1 ex1⟩⟩
theorem dt_notInO (l : Nat) {oa : Option Addr} {k : Bool → Rho → Prop} (hm : behindInMarks .NotIn (.Name x p) = false := by rfl) (h : DE Γ a ρ (fun y ρ1 => ∃ (i : Int) (ns : List Int), y = .int i ∧ ρ1[l]? = some (some (.own oa (ns.map .int))) ∧ k (!decide (i ∈ ns)) ρ1)) (hN : X.N[l]? = some x := by rfl) (hv : Vis X.env.scope x := by first | exact Or.inl rfl | exact Or.inr (Or.inl rfl) | exact Or.inr (Or.inr rfl))
    (hd : (x == ("__debug__" : Str)) = false := by decide) (hcd : (x == ("__classdict__" : Str)) = false := by decide) : DT Γ (.Compare a [.NotIn] [.Name x p] pos) ρ k :=
  dt_of (pt_cmpR op_notIn_seq (pe_U Γ a) (pe_var hN hv hd hcd) hm) fun σ H G Q eo hk => ⟨ρ, G, _, h, eo, fun y ρ1 u H1 G1 ⟨i, ns, e, hl, z⟩ eo1 ex1 ru => by
    subst e; cases ru
    obtain ⟨b, vs, h1, h2, h3, _⟩ := eo1.own l _ hl
    obtain rfl := h3.ints
    exact ⟨_, h1, _, _, rfl, .inl (SqL.of h2), rfl, flat_ints ns, _, rfl, by rw [if_pos rfl, inV_int]; exact hk _ _ _ _ z eo1 ex1⟩⟩
/-! ### pop of a list of our own -/
theorem de_pop (l : Nat) {oa : Option Addr} {ds : List D} {d : D} (hl : ρ[l]? = some (some (.own oa ds))) (hd0 : ds[ds.length - 1]? = some d) (hk : k d (ρ.set l (some (.own oa ds.dropLast)))) {apos : Pos} (hN : X.N[l]? = some x := by rfl) (hv : Vis X.env.scope x := by first | exact Or.inl rfl | exact Or.inr (Or.inl rfl) | exact Or.inr (Or.inr rfl))
    (hd : (x == ("__debug__" : Str)) = false := by decide) (hcd : (x == ("__classdict__" : Str)) = false := by decide) (hbase : attributeBase (.Name x p) "pop" X.env (eval (.Name x p) X.env) = eval (.Name x p) X.env := by rfl) (hline : (apos.endLine == pos.line) = true := by rfl) :
    DE Γ (.Call (.Attribute (.Name x p) "pop" apos) [] [] pos) ρ k :=
  de_of (pe_bm0 PySem.F.plainAttrs_list PySem.F.slot_list_pop PySem.F.type_list_pop mt_pop (pe_var hN hv hd hcd) hbase hline) fun σ H G Q eo hk' => by
    obtain ⟨b, vs, h1, h2, h3, h4, h5⟩ := eo.own l ds hl
    obtain ⟨v, hv, r⟩ := h3.get hd0
    refine ⟨_, h1, .inl ⟨rfl, _, SqL.of h2⟩, b, vs, v, rfl, rfl, h2, by rw [h3.len]; exact hv, ?_⟩
    exact hk' _ _ _ _ _ hk (eo.mut hl h1 h3.dropLast) (.refl _) r
end
end DL
namespace DL
open PySem PySem.Spec PyProof.Rows L2
variable {X : Cx} {C : Addr}
/-! ### promises -/
/-- what a def answers: at the data ds an answer with r, or a refusal with a word of e -/
abbrev Tm := List D → (D → Prop) → (Str → Prop) → Prop
def spT (C : Addr) (T : Tm) : Sp := fun vs H Q E => ∃ G ds r e, T ds r e ∧ Ex G H ∧ RvA G vs ds ∧ (∀ d v H' G', r d → Ex H H' → Grow H G G' H' → Rv G' v d → Q v H') ∧
  (∀ w dx H', e w → Ex H H' → H' dx = some (xdw w) → E (.ref C) (some dx) H')
def noE : Str → Prop := fun _ => False
structure Pp where
  n : Nat
  pre : List Int → List D → Prop
  ok : List Int → List D → D → List Int → Prop
def spPl (p : Pp) : Sp := fun vs H Q _ => ∃ a ps ws G ds, vs = V.ref a :: ws ∧ H a = some (.lst (ps.map V.int)) ∧ Ex G (del H a) ∧ RvA G ws ds ∧ ds.length = p.n ∧ p.pre ps ds ∧
  ∀ d ps' v H' G', p.ok ps ds d ps' → Ex (del H a) H' → H' a = some (.lst (ps'.map V.int)) → Grow (del H a) G G' (del H' a) → Rv G' v d → Q v H'
/-- a def of the text that keeps its promise -/
structure Df (P : Program) (w : World) (K : PySem.W.Frag) (mg : Str → Option Value) (base : Heap) (x : Str) (ps : List Str) (k : Nat) (sp : Sp) : Prop where
  ex : ∃ f fd, mg x = some (.ref f) ∧ PySem.W.keepIn K (.ref f) = true ∧ Binds K fd ps [] ∧ FnOk P w K mg base (L2.CX P w) k f fd ps sp
/-- .. called by keywords, all of them, from the last to the first -/
structure Dk (P : Program) (w : World) (K : PySem.W.Frag) (mg : Str → Option Value) (base : Heap) (x : Str) (ps : List Str) (k : Nat) (sp : Sp) : Prop where
  ex : ∃ f fd, mg x = some (.ref f) ∧ PySem.W.keepIn K (.ref f) = true ∧ KBinds K fd ps ps.reverse (fun us ws => us ++ ws.reverse) (fun vs zs => vs ++ zs.reverse) ∧ FnOk P w K mg base (L2.CX P w) k f fd ps sp
section
variable {Γ : Gm X C} {a b c e : Expr} {es : List Expr} {ρ : Rho} {pos p p2 q : Pos} {k : D → Rho → Prop} {x : Str} {ps : List Str} {lv : Nat}
theorem EO.stay {H0 G0 H G H' : Hp} {σ : L2.St} {ρ : Rho} (e : EO H0 G0 ρ σ H G) (h : Ex H H') : EO H0 G0 ρ σ H' G := e.ext h ⟨.refl _, e.gh.trans h, fun b o p q => by rw [q] at p; cases p⟩
theorem de_call {T : Tm} (F : Df X.prog X.w X.K X.mg X.base x ps lv (spT C T)) (hr : Room lv X.A)
    (h : DA Γ (e :: es) ρ (fun ds ρ1 => ∃ r er, T ds r er ∧ (∀ w, er w → Γ.err w ρ1) ∧ ∀ d, r d → k d ρ1)) (hg : Gl X x := by rfl)
    (hdb : (x == ("__debug__" : Str)) = false := by decide) (he : starEach (e :: es) X.env = (false, eval e X.env) :: starEach es X.env := by rfl) (hpl : (backTo pos (starEach es X.env)).any (·.1) = false := by rfl) :
    DE Γ (.Call (.Name x p) (e :: es) [] pos) ρ k := by
  obtain ⟨f, fd, gm, kp, bd, fo⟩ := F.ex
  exact de_of (pe_callS fo hr hg gm kp bd Γ.pass (pa_U Γ _) hdb he hpl) fun σ H G Q eo hk => ⟨ρ, G, _, h, eo, fun ds ρ1 vs H1 G1 ⟨r, er, h1, h3, h4⟩ eo1 ex1 rs =>
    ⟨G1, ds, r, er, h1, eo1.gh, rs, fun d v H' G' z x1 g r => hk _ _ _ _ _ (h4 d z) (eo1.ext x1 g) (ex1.trans g.g) r, fun w dx H' z x1 hx => Γ.hE w dx ρ1 σ H' G1 (h3 w z) (eo1.stay x1) hx⟩⟩
/-- keyword arguments -/
structure DKw (Γ : Gm X C) (ks : List Keyword) (ρ : Rho) (k : List D → Rho → Prop) : Prop where
  run : ∀ (pos : Pos) (pins : List (Addr × Obj)) (s : Shared) (σ : L2.St) (H G : Hp) (Q : List V → Hp → Prop), Inv X pins σ H s → Γ.eo ρ σ H G →
    (∀ ds ρ' vs H' G', k ds ρ' → Γ.eo ρ' σ H' G' → Ex G G' → RvA G' vs ds → Q vs H') → wpAny (model X.prog X.w) X.A (evalAll ((backToKw pos (keywordEach ks X.env)).map (·.2))) (AP X pins σ Q) X.xe s
def tUK (Γ : Gm X C) (ks : List Keyword) : TA := fun σ H Q => ∃ ρ G k, DKw Γ ks ρ k ∧ Γ.eo ρ σ H G ∧ ∀ ds ρ' vs H' G', k ds ρ' → Γ.eo ρ' σ H' G' → Ex G G' → RvA G' vs ds → Q vs H'
theorem pk_U (Γ : Gm X C) (ks : List Keyword) : PK X ks (tUK Γ ks) := ⟨fun pos pins s σ H Q I ⟨ρ, G, k, h, eo, hk⟩ => h.run pos pins s σ H G Q I eo hk⟩
theorem dkw_nil {k : List D → Rho → Prop} (h : k [] ρ) : DKw Γ [] ρ k := .mk fun pos pins s σ H G Q I eo hk => pk_nil.run pos pins s σ H Q I (hk _ _ _ _ _ h eo (.refl _) .nil)
theorem dkw_cons {k : List D → Rho → Prop} {nm : Option Str} {kp : Pos} {kws : List Keyword} (h : DE Γ a ρ (fun x ρ1 => DKw Γ kws ρ1 (fun xs ρ2 => k (x :: xs) ρ2))) : DKw Γ (⟨nm, a, kp⟩ :: kws) ρ k :=
  .mk fun pos pins s σ H G Q I eo hk => (pk_cons (pe_U Γ a) (pk_U Γ kws)).run pos pins s σ H Q I ⟨ρ, G, _, h, eo, fun x ρ1 u H1 G1 hm eo1 ex1 ru => ⟨ρ1, G1, _, hm, eo1, fun xs ρ2 us H2 G2 hm eo2 ex2 rs => hk _ _ _ _ _ hm eo2 (ex1.trans ex2) (.cons (ru.mono ex2) rs)⟩⟩
theorem de_callKw {T : Tm} {kws : List Keyword} (F : Dk X.prog X.w X.K X.mg X.base x ps lv (spT C T)) (hr : Room lv X.A)
    (h : DKw Γ kws ρ (fun ds ρ1 => ∃ r er, T ds.reverse r er ∧ (∀ w, er w → Γ.err w ρ1) ∧ ∀ d, r d → k d ρ1)) (hg : Gl X x := by rfl)
    (hall : (backToKw pos (keywordEach kws X.env)).all (·.1.isSome) = true := by rfl) (hks : (backToKw pos (keywordEach kws X.env)).filterMap (·.1) = ps.reverse := by rfl)
    (hdb : (x == ("__debug__" : Str)) = false := by decide) (hpl : ((backTo pos (starEach [] X.env)).any (·.1) || (backToKw pos (keywordEach kws X.env)).any (·.1.isNone)) = false := by rfl) :
    DE Γ (.Call (.Name x p) [] kws pos) ρ k := by
  obtain ⟨f, fd, gm, kp, bd, fo⟩ := F.ex
  exact de_of (dl_pe_callK0 fo hr hg gm kp bd Γ.pass (pk_U Γ kws) hall hks hdb hpl) fun σ H G Q eo hk => ⟨ρ, G, _, h, eo, fun ds ρ1 vs H1 G1 ⟨r, er, h1, h3, h4⟩ eo1 ex1 rs =>
    ⟨G1, ds.reverse, r, er, h1, eo1.gh, rs.rev, fun d v H' G' z x1 g r => hk _ _ _ _ _ (h4 d z) (eo1.ext x1 g) (ex1.trans g.g) r, fun w dx H' z x1 hx => Γ.hE w dx ρ1 σ H' G1 (h3 w z) (eo1.stay x1) hx⟩⟩
/-- a def that takes a list of ours, a pool of ints, and changes it -/
theorem EO.pool {oa : Option Addr} {H0 G0 H G H' G' : Hp} {σ : L2.St} {i : Nat} {ps ps' : List Int} {a : Addr} (e : EO H0 G0 ρ σ H G) (hi : ρ[i]? = some (some (.own oa (ps.map .int)))) (hσ : σ[i]? = some (some (.ref a)))
    (hh : Ex (del H a) H') (ha : H' a = some (.lst (ps'.map V.int))) (g : Grow (del H a) G G' (del H' a)) : EO H0 G0 (ρ.set i (some (.own oa (ps'.map .int)))) σ H' G' := by
  obtain ⟨a', vs, g1, g2, g3, g4, g5⟩ := e.own i _ hi
  rw [hσ] at g1; cases g1
  have hl : i < ρ.length := (List.getElem?_eq_some_iff.mp hi).1
  refine ⟨by simp [e.len], fun b o q => ?_, e.g0.trans g.g, fun b o q => (del_some (g.gh b o q)).2, fun b o q w => ?_, fun j d' q => ?_, fun j es q => ?_, fun j l xs ys b e1 e2 e3 e4 => ?_, fun j b ds' q => ?_, fun j p' q => ?_⟩
  · exact hh b o (by rw [del_ne (ne_of_none q g5)]; exact e.h0 b o q)
  · have nb : b ≠ a := (del_some (g.gh b o q)).1
    cases y : G b with
    | some u => exact e.fr b u y w
    | none =>
      have z := g.fr b o q y
      rw [del_ne nb] at z
      exact e.h0.none z
  · by_cases hj : i = j
    · subst hj; rw [List.getElem?_set_self hl] at q; cases q
    · rw [List.getElem?_set_ne hj] at q
      obtain ⟨v, k1, k2⟩ := e.im j d' q
      exact ⟨v, k1, k2.mono g.g⟩
  · by_cases hj : i = j
    · subst hj; rw [List.getElem?_set_self hl] at q; cases q
      refine ⟨a, _, hσ, ha, RvA.ofInts, ?_, g5⟩
      cases y : G' a with
      | none => rfl
      | some u => exact ((del_some (g.gh a u y)).1 rfl).elim
    · rw [List.getElem?_set_ne hj] at q
      obtain ⟨b, us, k1, k2, k3, k4, k5⟩ := e.own j es q
      have nb : b ≠ a := by
        rintro rfl
        exact hj (e.sep i j _ es b hi q hσ k1)
      refine ⟨b, us, k1, hh b _ (by rw [del_ne nb]; exact k2), k3.mono g.g, ?_, k5⟩
      cases y : G' b with
      | none => rfl
      | some u =>
        have z := g.fr b u y k4
        rw [del_ne nb, k2] at z; cases z
  · have o1 : ∃ (z : List D) (w : Option Addr), ρ[j]? = some (some (.own w z)) := by
      by_cases hj : i = j
      · subst hj; exact ⟨_, _, hi⟩
      · rw [List.getElem?_set_ne hj] at e1; exact ⟨_, _, e1⟩
    have o2 : ∃ (z : List D) (w : Option Addr), ρ[l]? = some (some (.own w z)) := by
      by_cases hj : i = l
      · subst hj; exact ⟨_, _, hi⟩
      · rw [List.getElem?_set_ne hj] at e2; exact ⟨_, _, e2⟩
    obtain ⟨z1, w1, o1⟩ := o1
    obtain ⟨z2, w2, o2⟩ := o2
    exact e.sep j l z1 z2 b o1 o2 e3 e4
  · by_cases hj : i = j
    · subst hj; rw [List.getElem?_set_self hl] at q; injection q with q; injection q with q; injection q with q1 q2; subst q1; exact e.adr i b _ hi
    · rw [List.getElem?_set_ne hj] at q; exact e.adr j b ds' q
  · have hl : i < ρ.length := (List.getElem?_eq_some_iff.mp hi).1
    by_cases hj : i = j
    · subst hj; rw [List.getElem?_set_self hl] at q; cases q
    · rw [List.getElem?_set_ne hj] at q; exact e.raw j p' q
theorem de_callP {pm : Pp} {y : Str} (i : Nat) {oa : Option Addr} {ps0 : List Int} (hi0 : ρ[i]? = some (some (.own oa (ps0.map .int)))) (F : Df X.prog X.w X.K X.mg X.base x ps lv (spPl pm)) (hr : Room lv X.A)
    (h : DA Γ es ρ (fun ds ρ1 => ds.length = pm.n ∧ ∃ ps1 : List Int, ρ1[i]? = some (some (.own oa (ps1.map .int))) ∧ pm.pre ps1 ds ∧ ∀ d ps', pm.ok ps1 ds d ps' → k d (ρ1.set i (some (.own oa (ps'.map .int)))))) (hg : Gl X x := by rfl)
    (hN : X.N[i]? = some y := by rfl) (hv : Vis X.env.scope y := by first | exact Or.inl rfl | exact Or.inr (Or.inl rfl) | exact Or.inr (Or.inr rfl))
    (hd : (y == ("__debug__" : Str)) = false := by decide) (hcd : (y == ("__classdict__" : Str)) = false := by decide)
    (hdb : (x == ("__debug__" : Str)) = false := by decide) (he : starEach (.Name y p2 :: es) X.env = (false, eval (.Name y p2) X.env) :: starEach es X.env := by rfl) (hpl : (backTo pos (starEach es X.env)).any (·.1) = false := by rfl) :
    DE Γ (.Call (.Name x p) (.Name y p2 :: es) [] pos) ρ k := by
  obtain ⟨f, fd, gm, kp, bd, fo⟩ := F.ex
  exact de_of (pe_callS fo hr hg gm kp bd Γ.pass (pa_cons (pe_var hN hv hd hcd) (pa_U Γ es) he) hdb he hpl) fun σ H G Q eo hk => by
    obtain ⟨a, vs0, s1, s2, _⟩ := eo.own i _ hi0
    refine ⟨_, s1, ρ, G, _, h, eo, fun ds ρ1 vs H1 G1 ⟨h1, ps1, h2, h3, h4⟩ eo1 ex1 rs => ?_⟩
    obtain ⟨a', us, k1, k2, k3, k4, k5⟩ := eo1.own i _ h2
    rw [s1] at k1; cases k1
    obtain rfl := k3.ints
    refine ⟨a, ps1, vs, G1, ds, rfl, k2, fun b o z => ?_, rs, h1, h3, fun d ps' v H' G' z x1 x2 g r => ?_⟩
    · rw [del_ne (ne_of_none z k4)]; exact eo1.gh b o z
    · exact hk _ _ _ _ _ (h4 d ps' z) (eo1.pool h2 s1 x1 x2 g) (ex1.trans g.g) r
end
/-! ### targets -/
structure DG (Γ : Gm X C) (tg : Expr) (vs : List Nat) (d : D) (ρ : Rho) (k : Rho → Prop) : Prop where
  run : ∀ (pins : List (Addr × Obj)) (s : Shared) (σ : L2.St) (H G : Hp) (v : V) (u : Value) (Q : L2.St → Hp → Prop), Inv X pins σ H s → RelV v u → Γ.eo ρ σ H G → Rv G v d →
    (∀ ρ' σ', k ρ' → Γ.eo ρ' σ' H G → wipe σ' vs = wipe σ vs → Q σ' H) → wpAny (model X.prog X.w) X.A (assign tg X.env u) (fun _ s' => ∃ σ' H', Inv X pins σ' H' s' ∧ Q σ' H') X.xe s
def tUG (Γ : Gm X C) (tg : Expr) (vs : List Nat) : TG := fun v σ H Q => ∃ ρ G d k, DG Γ tg vs d ρ k ∧ Γ.eo ρ σ H G ∧ Rv G v d ∧ ∀ ρ' σ', k ρ' → Γ.eo ρ' σ' H G → wipe σ' vs = wipe σ vs → Q σ' H
theorem pg_U (Γ : Gm X C) (tg : Expr) (vs : List Nat) : PG X tg (tUG Γ tg vs) := ⟨fun pins s σ H v u Q I r ⟨ρ, G, d, k, h, eo, rv, hk⟩ => h.run pins s σ H G v u Q I r eo rv hk⟩
theorem wipe_set {σ : L2.St} {i : Nat} {x : Option V} : ∀ {vs : List Nat}, i ∈ vs → wipe (σ.set i x) vs = wipe σ vs
  | [], h => by simp at h
  | v :: vs, h => by
    show (wipe (σ.set i x) vs).set v none = (wipe σ vs).set v none
    by_cases hv : i ∈ vs
    · rw [wipe_set hv]
    · have e : i = v := by rcases List.mem_cons.mp h with z | z; exact z; exact (hv z).elim
      subst e
      have : ∀ vs : List Nat, i ∉ vs → wipe (σ.set i x) vs = (wipe σ vs).set i x := fun vs => by
        induction vs with
        | nil => intro _; rfl
        | cons v vs ih =>
          intro hn
          have h1 : i ∉ vs := fun z => hn (List.mem_cons_of_mem _ z)
          have h2 : i ≠ v := fun z => hn (by simp [z])
          show (wipe (σ.set i x) vs).set v none = ((wipe σ vs).set v none).set i x
          rw [ih h1, List.set_comm _ _ h2]
      rw [this vs hv, List.set_set]
theorem wipe_idem (σ : L2.St) (vs : List Nat) : wipe (wipe σ vs) vs = wipe σ vs := by
  have : ∀ ws : List Nat, (∀ w ∈ ws, w ∈ vs) → wipe (wipe σ ws) vs = wipe σ vs := fun ws => by
    induction ws with
    | nil => intro _; rfl
    | cons w ws ih =>
      intro h
      show wipe ((wipe σ ws).set w none) vs = wipe σ vs
      rw [wipe_set (h w (by simp)), ih fun z hz => h z (List.mem_cons_of_mem _ hz)]
  exact this vs fun w hw => hw
section
variable {Γ : Gm X C} {ρ : Rho} {pos p p1 p2 p3 : Pos} {x y z : Str} {vs : List Nat}
theorem dg_name (i : Nat) {d : D} {k : Rho → Prop} (h : k (ρ.set i (some (.im d)))) (hi : X.N[i]? = some x := by rfl) (hx : Loc X.env.scope x := by first | exact Or.inl rfl | exact Or.inr rfl) (hm : i ∈ vs := by decide)
    (hf : X.fn x = true ∨ X.env.scope.names.lookup x = some .local := by first | exact .inl rfl | exact .inr rfl) : DG Γ (.Name x pos) vs d ρ k :=
  .mk fun pins s σ H G v u Q I r eo rv hk => (pg_name Γ.nd hi hx hf).run pins s σ H v u Q I r (hk _ _ h (eo.set_im rv i) (wipe_set hm))
theorem dg_tup2 (i j : Nat) {d : D} {k : Rho → Prop} {n : Nat} (h : ∃ a b, d = .tuple [a, b] ∧ k ((ρ.set i (some (.im a))).set j (some (.im b)))) (hi : X.N[i]? = some x := by rfl) (hj : X.N[j]? = some y := by rfl)
    (hx : Loc X.env.scope x := by first | exact Or.inl rfl | exact Or.inr rfl) (hy : Loc X.env.scope y := by first | exact Or.inl rfl | exact Or.inr rfl) (hm : i ∈ vs := by decide) (hm2 : j ∈ vs := by decide)
    (hf : X.fn x = true ∨ X.env.scope.names.lookup x = some .local := by first | exact .inl rfl | exact .inr rfl) (hf2 : X.fn y = true ∨ X.env.scope.names.lookup y = some .local := by first | exact .inl rfl | exact .inr rfl)
    (hs1 : (assignEach [.Name x p1, .Name y p2] X.env).map (·.2) = assign (.Name x p1) X.env :: (assignEach [.Name y p2] X.env).map (·.2) := by rfl) (hs2 : (assignEach [.Name y p2] X.env).map (·.2) = assign (.Name y p2) X.env :: (assignEach [] X.env).map (·.2) := by rfl)
    (hn : (assignEach [.Name x p1, .Name y p2] X.env).length = 2 := by rfl) (hst : (assignEach [.Name x p1, .Name y p2] X.env).findIdx? (·.1) = none := by rfl) (hcalm : X.calm = true := by rfl) :
    DG Γ (.Tuple [.Name x p1, .Name y p2] n pos) vs d ρ k :=
  .mk fun pins s σ H G v u Q I r eo rv hk => by
    obtain ⟨a, b, rfl, hz⟩ := h
    refine (pg_tup hcalm (pgs_cons (pg_name Γ.nd hi hx hf) (pgs_cons (pg_name Γ.nd hj hy hf2) pgs_nil hs2) hs1) hn hst).run pins s σ H v u Q I r ?_
    cases rv with
    | tup g rs =>
      obtain ⟨va, vb, rfl, ra, rb⟩ := rs.du
      refine ⟨_, _, rfl, SqT.of (eo.gh _ _ g), rfl, va, [vb], rfl, vb, [], rfl, rfl, ?_⟩
      exact hk _ _ hz ((eo.set_im ra i).set_im rb j) ((wipe_set hm2).trans (wipe_set hm))
theorem RvA.tr {G : Hp} {vs : List V} {a b c : D} (r : RvA G vs [a, b, c]) : ∃ u v w, vs = [u, v, w] ∧ Rv G u a ∧ Rv G v b ∧ Rv G w c := by
  cases r with
  | cons r t => obtain ⟨v, w, rfl, r1, r2⟩ := t.du; exact ⟨_, _, _, rfl, r, r1, r2⟩
theorem dg_tup3 (i j l : Nat) {d : D} {k : Rho → Prop} {n : Nat} (h : ∃ a b c, d = .tuple [a, b, c] ∧ k (((ρ.set i (some (.im a))).set j (some (.im b))).set l (some (.im c)))) (hi : X.N[i]? = some x := by rfl) (hj : X.N[j]? = some y := by rfl) (hl : X.N[l]? = some z := by rfl)
    (hx : Loc X.env.scope x := by first | exact Or.inl rfl | exact Or.inr rfl) (hy : Loc X.env.scope y := by first | exact Or.inl rfl | exact Or.inr rfl) (hz : Loc X.env.scope z := by first | exact Or.inl rfl | exact Or.inr rfl) (hm : i ∈ vs := by decide) (hm2 : j ∈ vs := by decide) (hm3 : l ∈ vs := by decide)
    (hf : X.fn x = true ∨ X.env.scope.names.lookup x = some .local := by first | exact .inl rfl | exact .inr rfl) (hf2 : X.fn y = true ∨ X.env.scope.names.lookup y = some .local := by first | exact .inl rfl | exact .inr rfl) (hf3 : X.fn z = true ∨ X.env.scope.names.lookup z = some .local := by first | exact .inl rfl | exact .inr rfl)
    (hs1 : (assignEach [.Name x p1, .Name y p2, .Name z p3] X.env).map (·.2) = assign (.Name x p1) X.env :: (assignEach [.Name y p2, .Name z p3] X.env).map (·.2) := by rfl) (hs2 : (assignEach [.Name y p2, .Name z p3] X.env).map (·.2) = assign (.Name y p2) X.env :: (assignEach [.Name z p3] X.env).map (·.2) := by rfl)
    (hs3 : (assignEach [.Name z p3] X.env).map (·.2) = assign (.Name z p3) X.env :: (assignEach [] X.env).map (·.2) := by rfl)
    (hn : (assignEach [.Name x p1, .Name y p2, .Name z p3] X.env).length = 3 := by rfl) (hst : (assignEach [.Name x p1, .Name y p2, .Name z p3] X.env).findIdx? (·.1) = none := by rfl) (hcalm : X.calm = true := by rfl) :
    DG Γ (.Tuple [.Name x p1, .Name y p2, .Name z p3] n pos) vs d ρ k :=
  .mk fun pins s σ H G v u Q I r eo rv hk => by
    obtain ⟨a, b, c, rfl, hz'⟩ := h
    refine (pg_tup hcalm (pgs_cons (pg_name Γ.nd hi hx hf) (pgs_cons (pg_name Γ.nd hj hy hf2) (pgs_cons (pg_name Γ.nd hl hz hf3) pgs_nil hs3) hs2) hs1) hn hst).run pins s σ H v u Q I r ?_
    cases rv with
    | tup g rs =>
      obtain ⟨va, vb, vc, rfl, ra, rb, rc⟩ := rs.tr
      refine ⟨_, _, rfl, SqT.of (eo.gh _ _ g), rfl, va, [vb, vc], rfl, vb, [vc], rfl, vc, [], rfl, rfl, ?_⟩
      exact hk _ _ hz' (((eo.set_im ra i).set_im rb j).set_im rc l) ((wipe_set hm3).trans ((wipe_set hm2).trans (wipe_set hm)))
end
/-! ### what is walked -/
structure SW (J : It) (ds : List D) (G : Hp) : Prop where
  stop : ∀ H', Ex G H' → J.stop ds.length H'
  go : ∀ i H', i < ds.length → Ex G H' → J.go i H'
  yld : ∀ i d H' v H'', ds[i]? = some d → Ex G H' → J.yld i H' v H'' → Ex H' H'' ∧ ∀ H0 G0 ρ σ G1, EO H0 G0 ρ σ H' G1 → Ex G G1 → ∃ G2, EO H0 G0 ρ σ H'' G2 ∧ Ex G1 G2 ∧ Rv G2 v d
def DI (Γ : Gm X C) (tg it : Expr) (ρ : Rho) (k : List D → Rho → Prop) : Prop :=
  ∃ wi, PI X tg it wi ∧ ∀ σ H G (R : It → Hp → Prop), Γ.eo ρ σ H G → (∀ ds ρ' J H' G', k ds ρ' → Γ.eo ρ' σ H' G' → Ex G G' → SW J ds G' → R J H') → wi σ H R
section
variable {Γ : Gm X C} {a b tg : Expr} {ρ : Rho} {pos p tp : Pos} {k : List D → Rho → Prop}
theorem sw_list {K : PySem.W.Frag} {l : Addr} {vs : List V} {ds : List D} {G : Hp} (g : G l = some (.lst vs)) (rs : RvA G vs ds) : SW (Itl K l) ds G where
  stop := fun H' e => ⟨vs, SqL.of (e _ _ g), by rw [rs.len]; exact Nat.le_refl _⟩
  go := fun i H' hi e => by
    obtain ⟨v, hv, _⟩ := rs.get (i := i) (List.getElem?_eq_getElem hi)
    exact ⟨vs, v, SqL.of (e _ _ g), hv⟩
  yld := fun i d H' v H'' hd e ⟨e1, e2⟩ => by
    subst e1
    refine ⟨.refl _, fun H0 G0 ρ σ G1 eo x => ⟨G1, eo, .refl _, ?_⟩⟩
    obtain ⟨v', hv, r⟩ := rs.get hd
    have := e2 vs (SqL.of (e _ _ g))
    rw [hv] at this; cases this
    exact r.mono x
theorem sw_tup {K : PySem.W.Frag} {l : Addr} {vs : List V} {ds : List D} {G : Hp} (g : G l = some (.tup vs)) (rs : RvA G vs ds) : SW (Itt K l) ds G where
  stop := fun H' e => ⟨vs, SqT.of (e _ _ g), by rw [rs.len]; exact Nat.le_refl _⟩
  go := fun i H' hi e => by
    obtain ⟨v, hv, _⟩ := rs.get (i := i) (List.getElem?_eq_getElem hi)
    exact ⟨vs, v, SqT.of (e _ _ g), hv⟩
  yld := fun i d H' v H'' hd e ⟨e1, e2⟩ => by
    subst e1
    refine ⟨.refl _, fun H0 G0 ρ σ G1 eo x => ⟨G1, eo, .refl _, ?_⟩⟩
    obtain ⟨v', hv, r⟩ := rs.get hd
    have := e2 vs (SqT.of (e _ _ g))
    rw [hv] at this; cases this
    exact r.mono x
/-- 0, 1, .. -/
def upto (n : Nat) : List D := (List.range n).map fun i => PyData.int (i : Nat)
theorem upto_len (n : Nat) : (upto n).length = n := by simp [upto]
theorem upto_get {n i : Nat} {d : D} (h : (upto n)[i]? = some d) : i < n ∧ d = .int (i : Nat) := by
  unfold upto at h
  rw [List.getElem?_map, Option.map_eq_some_iff] at h
  obtain ⟨j, h1, h2⟩ := h
  obtain ⟨h3, h4⟩ := List.getElem?_eq_some_iff.mp h1
  simp at h3 h4
  subst h4
  exact ⟨h3, h2.symm⟩
theorem sw_range {n : Nat} {G : Hp} : SW (Itr 0 n) (upto n) G where
  stop := fun H' _ => by rw [upto_len]; exact Nat.le_refl n
  go := fun i H' hi _ => by rw [upto_len] at hi; exact hi
  yld := fun i d H' v H'' hd e ⟨e1, e2⟩ => by
    subst e1
    refine ⟨.refl _, fun H0 G0 ρ σ G1 eo x => ⟨G1, eo, .refl _, ?_⟩⟩
    obtain ⟨_, rfl⟩ := upto_get hd
    subst e2
    rw [Int.zero_add]
    exact .int _
theorem sw_pairs {J : It} {ds : List D} {G : Hp} (hstop : ∀ H', Ex G H' → J.stop ds.length H') (hgo : ∀ i H', i < ds.length → Ex G H' → J.go i H')
    (hy : ∀ i d H' v H'', ds[i]? = some d → Ex G H' → J.yld i H' v H'' → ∃ T x y dx dy, v = .ref T ∧ H' T = none ∧ H'' = upd H' T (.tup [x, y]) ∧ d = .tuple [dx, dy] ∧ Rv G x dx ∧ Rv G y dy) : SW J ds G where
  stop := hstop
  go := hgo
  yld := fun i d H' v H'' hd e z => by
    obtain ⟨T, x, y, dx, dy, rfl, hT, rfl, rfl, rx, ry⟩ := hy i d H' v H'' hd e z
    refine ⟨.new hT, fun H0 G0 ρ σ G1 eo xx => ?_⟩
    obtain ⟨e2, x2⟩ := eo.allocG (o := .tup [x, y]) hT
    exact ⟨_, e2, x2, .tup upd_same (.cons ((rx.mono xx).mono x2) (.cons ((ry.mono xx).mono x2) .nil))⟩
theorem di_list (h : DE Γ a ρ (fun x ρ1 => ∃ ds, x = .list ds ∧ k ds ρ1)) : DI Γ tg a ρ k :=
  ⟨_, pi_list (pe_U Γ a), fun σ H G R eo hk => ⟨ρ, G, _, h, eo, fun x ρ1 u H1 G1 ⟨ds, e, z⟩ eo1 ex1 ru => by
    subst e
    cases ru with
    | lst g rs => exact ⟨_, rfl, ⟨_, SqL.of (eo1.gh _ _ g)⟩, hk ds ρ1 _ H1 G1 z eo1 ex1 (sw_list g rs)⟩⟩⟩
theorem di_tup (h : DE Γ a ρ (fun x ρ1 => ∃ ds, x = .tuple ds ∧ k ds ρ1)) : DI Γ tg a ρ k :=
  ⟨_, pi_tup (pe_U Γ a), fun σ H G R eo hk => ⟨ρ, G, _, h, eo, fun x ρ1 u H1 G1 ⟨ds, e, z⟩ eo1 ex1 ru => by
    subst e
    cases ru with
    | tup g rs => exact ⟨_, rfl, ⟨_, SqT.of (eo1.gh _ _ g)⟩, hk ds ρ1 _ H1 G1 z eo1 ex1 (sw_tup g rs)⟩⟩⟩
theorem di_range (hm : X.mg "range" = none) (h : DE Γ a ρ (fun x ρ1 => ∃ n : Int, x = .int n ∧ 0 ≤ n ∧ n ≤ 1000000 ∧ k (upto n.toNat) ρ1)) (hg : Gl X "range" := by rfl) (hs : starEach [a] X.env = [(false, eval a X.env)] := by rfl) : DI Γ tg (.Call (.Name "range" p) [a] [] pos) ρ k :=
  ⟨_, pi_range1 hg hm (pa_cons (pe_U Γ a) pa_nil hs) hs, fun σ H G R eo hk => ⟨ρ, G, _, h, eo, fun x ρ1 u H1 G1 ⟨n, e, h0, h1, z⟩ eo1 ex1 ru => by
    subst e; cases ru
    exact ⟨n, rfl, by omega, by omega, hk _ ρ1 _ H1 G1 z eo1 ex1 sw_range⟩⟩⟩
theorem getz {α β : Type} : ∀ {xs : List α} {ys : List β} {i : Nat} {p : α × β}, (xs.zip ys)[i]? = some p → xs[i]? = some p.1 ∧ ys[i]? = some p.2
  | [], _, _, _, h => by simp at h
  | _ :: _, [], _, _, h => by simp at h
  | _ :: _, _ :: _, 0, _, h => by simp at h; subst h; exact ⟨rfl, rfl⟩
  | _ :: xs, _ :: ys, i + 1, p, h => by
    have := getz (xs := xs) (ys := ys) (i := i) (p := p) (by simpa using h)
    simpa using this
def pairs (xs ys : List D) : List D := (xs.zip ys).map fun p => .tuple [p.1, p.2]
theorem di_zipT {elts : List Expr} {n : Nat} (hm : X.mg "zip" = none) (h : DE Γ a ρ (fun x ρ1 => DE Γ b ρ1 (fun y ρ2 => ∃ xs ys, x = .tuple xs ∧ y = .tuple ys ∧ xs.length = ys.length ∧ k (pairs xs ys) ρ2))) (hg : Gl X "zip" := by rfl)
    (hs : starEach [a, b] X.env = (false, eval a X.env) :: starEach [b] X.env := by rfl) (hs2 : starEach [b] X.env = (false, eval b X.env) :: starEach [] X.env := by rfl) (hpl : (backTo pos (starEach [b] X.env)).any (·.1) = false := by rfl) : DI Γ (.Tuple elts n tp) (.Call (.Name "zip" p) [a, b] [] pos) ρ k :=
  ⟨_, RZ.pi_zipA hg hm (pa_cons (pe_U Γ a) (pa_cons (pe_U Γ b) pa_nil hs2) hs) hs hpl, fun σ H G R eo hk => ⟨ρ, G, _, h, eo, fun x ρ1 u H1 G1 h1 eo1 ex1 ru => ⟨ρ1, G1, _, h1, eo1, fun y ρ2 v H2 G2 ⟨xs, ys, e1, e2, hl, z⟩ eo2 ex2 rv => by
    subst e1; subst e2
    have ru := ru.mono ex2
    cases ru with
    | tup g rs => cases rv with
      | tup g' rs' =>
        refine ⟨_, _, _, _, rfl, .inr ⟨SqT.of (eo2.gh _ _ g), SqT.of (eo2.gh _ _ g'), hk _ ρ2 _ H2 G2 z eo2 (ex1.trans ex2) ?_⟩⟩
        have pl : (pairs xs ys).length = xs.length := by simp [pairs, hl]
        refine sw_pairs (fun H' e => ⟨_, _, SqT.of (e _ _ g), SqT.of (e _ _ g'), .inl (by rw [pl, rs.len]; exact Nat.le_refl _)⟩) (fun i H' hi e => ?_) (fun i d H' v H'' hd e ⟨T, x, y, ev, hT, eH, q1, q2⟩ => ?_)
        · rw [pl] at hi
          obtain ⟨va, ha, _⟩ := rs.get (i := i) (List.getElem?_eq_getElem hi)
          obtain ⟨vb, hb, _⟩ := rs'.get (i := i) (List.getElem?_eq_getElem (hl ▸ hi))
          exact ⟨_, _, va, vb, SqT.of (e _ _ g), SqT.of (e _ _ g'), ha, hb⟩
        · unfold pairs at hd
          rw [List.getElem?_map, Option.map_eq_some_iff] at hd
          obtain ⟨pp, hp, rfl⟩ := hd
          obtain ⟨h1, h2⟩ := getz hp
          obtain ⟨va, ha, ra⟩ := rs.get h1
          obtain ⟨vb, hb, rb⟩ := rs'.get h2
          have q1' := q1 _ (SqT.of (e _ _ g))
          have q2' := q2 _ (SqT.of (e _ _ g'))
          rw [ha] at q1'; cases q1'
          rw [hb] at q2'; cases q2'
          exact ⟨T, _, _, _, _, ev, hT, eH, rfl, ra, rb⟩⟩⟩⟩
def enumD (xs : List D) : List D := (upto xs.length).zip xs |>.map fun p => .tuple [p.1, p.2]
theorem di_enumT {elts : List Expr} {n : Nat} (hm : X.mg "enumerate" = none) (h : DE Γ a ρ (fun x ρ1 => ∃ xs, x = .tuple xs ∧ k (enumD xs) ρ1)) (hg : Gl X "enumerate" := by rfl) (hs : starEach [a] X.env = [(false, eval a X.env)] := by rfl) : DI Γ (.Tuple elts n tp) (.Call (.Name "enumerate" p) [a] [] pos) ρ k :=
  ⟨_, dl_pi_enumT hg hm (pa_cons (pe_U Γ a) pa_nil hs) hs, fun σ H G R eo hk => ⟨ρ, G, _, h, eo, fun x ρ1 u H1 G1 ⟨xs, e, z⟩ eo1 ex1 ru => by
    subst e
    cases ru with
    | tup g rs =>
      refine ⟨_, _, rfl, SqT.of (eo1.gh _ _ g), hk _ ρ1 _ H1 G1 z eo1 ex1 ?_⟩
      have pl : (enumD xs).length = xs.length := by simp [enumD, upto_len]
      refine sw_pairs (fun H' e => ⟨_, SqT.of (e _ _ g), by rw [pl, rs.len]; exact Nat.le_refl _⟩) (fun i H' hi e => ?_) (fun i d H' v H'' hd e ⟨T, x, ev, hT, eH, q1⟩ => ?_)
      · rw [pl] at hi
        obtain ⟨va, ha, _⟩ := rs.get (i := i) (List.getElem?_eq_getElem hi)
        exact ⟨_, va, SqT.of (e _ _ g), ha⟩
      · unfold enumD at hd
        rw [List.getElem?_map, Option.map_eq_some_iff] at hd
        obtain ⟨pp, hp, rfl⟩ := hd
        obtain ⟨h1, h2⟩ := getz hp
        obtain ⟨_, h1'⟩ := upto_get h1
        obtain ⟨va, ha, ra⟩ := rs.get h2
        have q1' := q1 _ (SqT.of (e _ _ g))
        rw [ha] at q1'; cases q1'
        exact ⟨T, _, _, _, _, ev, hT, eH, rfl, by rw [h1']; exact .int _, ra⟩⟩⟩
end
end DL
namespace DL
open PySem PySem.Spec PyProof.Rows L2
variable {X : Cx} {C : Addr}
section
variable {Γ : Gm X C} {a b c e tg : Expr} {st : Stmt} {rest body orelse : List Stmt} {ρ : Rho} {pos p p' p2 : Pos} {P : Post} {x : Str}
theorem dss_nil (h : P.nx ρ) : DSs Γ [] ρ P := dss_of pss_nil fun σ H G Dd eo hk => hk.nx _ _ _ _ h eo (.refl _)
theorem dss_cons (h : DS Γ st ρ { P with nx := fun ρ1 => DSs Γ rest ρ1 P }) : DSs Γ (st :: rest) ρ P :=
  dss_of (pss_cons (ps_U Γ st) (pss_U Γ rest)) fun σ H G Dd eo hk => ⟨ρ, G, _, h, eo, ⟨fun ρ1 σ1 H1 G1 z y x => ⟨ρ1, G1, P, z, y, hk.up x⟩, hk.rt, hk.bk, hk.ct⟩⟩
theorem dss_one (h : DS Γ st ρ P) : DSs Γ [st] ρ P := dss_of (pss_one (ps_U Γ st)) fun σ H G Dd eo hk => ⟨ρ, G, P, h, eo, hk⟩
theorem dss_cut (M : Rho → Prop) (h : DS Γ st ρ { P with nx := M }) (h2 : ∀ ρ1, M ρ1 → DSs Γ rest ρ1 P) : DSs Γ (st :: rest) ρ P :=
  dss_cons <| .mk fun pins s σ H G Dd I eo hk => h.run pins s σ H G Dd I eo ⟨fun ρ1 σ1 H1 G1 m e x => hk.nx ρ1 σ1 H1 G1 (h2 ρ1 m) e x, hk.rt, hk.bk, hk.ct⟩
theorem ds_set (i : Nat) (h : DE Γ e ρ (fun d ρ1 => P.nx (ρ1.set i (some (.im d))))) (hi : X.N[i]? = some x := by rfl) (hx : Loc X.env.scope x := by first | exact Or.inl rfl | exact Or.inr rfl) (hs : swapsWith e (some (.Name x p')) pos.line X.env = pure false := by rfl)
    (hf : X.fn x = true ∨ X.env.scope.names.lookup x = some .local := by first | exact .inl rfl | exact .inr rfl) : DS Γ (.Assign [.Name x p'] e pos) ρ P :=
  ds_of (ps_set Γ.nd hi hx (pe_U Γ e) hs hf) fun σ H G Dd eo hk => ⟨ρ, G, _, h, eo, fun d ρ1 v H1 G1 z eo1 ex1 r => hk.nx _ _ _ _ z (eo1.set_im r i) ex1⟩
/-- a new list of our own -/
theorem ds_setN (i : Nat) (h : DN Γ e ρ (fun ds ρ1 => P.nx (ρ1.set i (some (.own none ds))))) (hi : X.N[i]? = some x := by rfl) (hx : Loc X.env.scope x := by first | exact Or.inl rfl | exact Or.inr rfl) (hs : swapsWith e (some (.Name x p')) pos.line X.env = pure false := by rfl)
    (hf : X.fn x = true ∨ X.env.scope.names.lookup x = some .local := by first | exact .inl rfl | exact .inr rfl) : DS Γ (.Assign [.Name x p'] e pos) ρ P :=
  .mk fun pins s σ H G Dd I eo hk => (ps_set (te := fun σ H Q => ∃ ρ G k, DN Γ e ρ k ∧ Γ.eo ρ σ H G ∧ ∀ ds ρ' a vs H' G', k ds ρ' → Γ.eo ρ' σ H' G' → Ex G G' → H' a = some (.lst vs) → RvA G' vs ds → G' a = none → Γ.H0 a = none → ¬ ownAt ρ' σ a → Q (.ref a) H') Γ.nd hi hx
    ⟨fun pins s σ H Q I ⟨ρ, G, k, h, eo, hk⟩ => h.run pins s σ H G Q I eo hk⟩ hs hf).run pins s σ H Dd I ⟨ρ, G, _, h, eo, fun ds ρ1 a vs H1 G1 z eo1 ex1 h1 h2 h3 h4 h5 => hk.nx _ _ _ _ z (eo1.set_own h1 h2 h3 h4 h5 i) ex1⟩
theorem ds_unpack (vs : List Nat) (h : DE Γ e ρ (fun d ρ1 => DG Γ tg vs d ρ1 P.nx)) (hs : swapsWithSole [tg] e pos.line X.env = pure false := by rfl) (hw : swappedStores [tg] e X.env = pure none := by rfl)
    (h1 : (assignEach [tg] X.env).map (·.2) = [assign tg X.env] := by rfl) : DS Γ (.Assign [tg] e pos) ρ P :=
  ds_of (ps_asg (pe_U Γ e) (pg_U Γ tg vs) hs hw h1) fun σ H G Dd eo hk => ⟨ρ, G, _, h, eo, fun d ρ1 v H1 G1 z eo1 ex1 r => ⟨ρ1, G1, d, _, z, eo1, r, fun ρ2 σ2 z2 eo2 _ => hk.nx _ _ _ _ z2 eo2 ex1⟩⟩
theorem ds_ret (h : DE Γ e ρ (fun d ρ1 => P.rt d ρ1)) : DS Γ (.Return (some e) pos) ρ P :=
  ds_of (ps_ret (pe_U Γ e)) fun σ H G Dd eo hk => ⟨ρ, G, _, h, eo, fun d ρ1 v H1 G1 z eo1 ex1 r => hk.rt _ _ _ _ _ _ z eo1 ex1 r⟩
theorem ds_expr (h : DE Γ e ρ (fun d ρ1 => P.nx ρ1)) (hs : swapsWith e none pos.line X.env = pure false := by rfl) : DS Γ (.Expr e pos) ρ P :=
  ds_of (ps_expr (pe_U Γ e) hs) fun σ H G Dd eo hk => ⟨ρ, G, _, h, eo, fun d ρ1 v H1 G1 z eo1 ex1 r => hk.nx _ _ _ _ z eo1 ex1⟩
theorem ds_if (h : DT Γ c ρ (fun b ρ1 => (b = true → DSs Γ body ρ1 P) ∧ (b = false → DSs Γ orelse ρ1 P))) : DS Γ (.If c body orelse pos) ρ P :=
  ds_of (ps_if (pt_U Γ c) (pss_U Γ body) (pss_U Γ orelse)) fun σ H G Dd eo hk => ⟨ρ, G, _, h, eo, fun b ρ1 H1 G1 z eo1 ex1 => by
    cases b with
    | true => rw [if_pos rfl]; exact ⟨ρ1, G1, P, z.1 rfl, eo1, hk.up ex1⟩
    | false => rw [if_neg Bool.false_ne_true]; exact ⟨ρ1, G1, P, z.2 rfl, eo1, hk.up ex1⟩⟩
theorem ds_break (h : P.bk ρ) : DS Γ (.Break pos) ρ P := ds_of ps_break fun σ H G Dd eo hk => hk.bk _ _ _ _ h eo (.refl _)
theorem ds_cont (h : P.ct ρ) : DS Γ (.Continue pos) ρ P := ds_of ps_continue fun σ H G Dd eo hk => hk.ct _ _ _ _ h eo (.refl _)
/-- xs.append(e), xs a list of our own -/
theorem ds_append (l : Nat) {oa : Option Addr} {ds0 : List D} (hl : ρ[l]? = some (some (.own oa ds0))) (h : DE Γ a ρ (fun d ρ1 => ∃ ds, ρ1[l]? = some (some (.own oa ds)) ∧ ds.length < sizeLine ∧ P.nx (ρ1.set l (some (.own oa (ds ++ [d])))))) {apos cpos : Pos} (hN : X.N[l]? = some x := by rfl)
    (hv : Vis X.env.scope x := by first | exact Or.inl rfl | exact Or.inr (Or.inl rfl) | exact Or.inr (Or.inr rfl))
    (hd : (x == ("__debug__" : Str)) = false := by decide) (hcd : (x == ("__classdict__" : Str)) = false := by decide)
    (hbase : attributeBase (.Name x p) "append" X.env (eval (.Name x p) X.env) = eval (.Name x p) X.env := by rfl)
    (hfew : ((backTo cpos (starEach [a] X.env)).all (fun x => !x.1) && (backToKw cpos (keywordEach [] X.env)).all (fun x => x.1.isSome)
      && decide ([a].length + ([] : List Keyword).length + (if ([] : List Keyword).isEmpty then 0 else 1) < 30)) = true := by rfl)
    (hline : (apos.endLine == cpos.line) = true := by rfl) (hs : starEach [a] X.env = (false, eval a X.env) :: starEach [] X.env := by rfl) (hplain : (backTo cpos (starEach [] X.env)).any (·.1) = false := by rfl)
    (hsw : swapsWith (.Call (.Attribute (.Name x p) "append" apos) [a] [] cpos) none pos.line X.env = pure false := by rfl) : DS Γ (.Expr (.Call (.Attribute (.Name x p) "append" apos) [a] [] cpos) pos) ρ P :=
  ds_of (ps_expr (pe_bm PySem.F.plainAttrs_list PySem.F.slot_list_append PySem.F.type_list_append mt_append (pe_var hN hv hd hcd) (pa_cons (pe_U Γ a) pa_nil hs) hbase hfew hline hs hplain) hsw) fun σ H G Dd eo hk => by
    obtain ⟨b, vs0, h1, h2, _⟩ := eo.own l ds0 hl
    refine ⟨_, h1, .inl ⟨rfl, _, SqL.of h2⟩, ρ, G, _, h, eo, fun d ρ1 v H1 G1 ⟨ds, g1, g2, z⟩ eo1 ex1 r => ?_⟩
    obtain ⟨b', vs, k1, k2, k3, k4, k5⟩ := eo1.own l ds g1
    rw [h1] at k1; cases k1
    exact ⟨b, vs, v, rfl, rfl, k2, by rw [k3.len]; exact g2, hk.nx _ _ _ _ z (eo1.mut g1 h1 (k3.app (.one r))) ex1⟩
/-- xs[i] op= e, xs a list of our own, ints -/
theorem ds_augS (l : Nat) {op : Operator} {f : Int → Int → Int} (ho : PIp X op (ipI f)) {oa : Option Addr} {ds0 : List D} (hl : ρ[l]? = some (some (.own oa ds0)))
    (h : DE Γ a ρ (fun y ρ1 => ∃ (n : Int) (ds : List D) (j : Nat) (old : Int), y = .int n ∧ ρ1[l]? = some (some (.own oa ds)) ∧ ixN ds.length n = some j ∧ ds[j]? = some (.int old) ∧
      DE Γ e ρ1 (fun z ρ2 => ∃ m, z = .int m ∧ ρ2[l]? = some (some (.own oa ds)) ∧ P.nx (ρ2.set l (some (.own oa (ds.set j (.int (f old m))))))))) {tpos : Pos} (hN : X.N[l]? = some x := by rfl)
    (hv : Vis X.env.scope x := by first | exact Or.inl rfl | exact Or.inr (Or.inl rfl) | exact Or.inr (Or.inr rfl))
    (hd : (x == ("__debug__" : Str)) = false := by decide) (hcd : (x == ("__classdict__" : Str)) = false := by decide)
    (ha : ∀ ov iv new, augStore a ov iv new = (do holding [new, ov, iv] (setItem ov iv new); release [new, ov, iv] []; pure .next) := by intros; rfl) : DS Γ (.AugAssign (.Subscript (.Name x p) a tpos) op e pos) ρ P :=
  ds_of (ps_augS (pe_var hN hv hd hcd) (pe_U Γ a) dl_pget_list (pe_U Γ e) ho set_list ha) fun σ H G Dd eo hk => by
    obtain ⟨b, vs0, h1, h2, _⟩ := eo.own l ds0 hl
    refine ⟨_, h1, ρ, G, _, h, eo, fun y ρ1 u H1 G1 ⟨n, ds, j, old, e1, g1, g2, g3, z⟩ eo1 ex1 r => ?_⟩
    subst e1; cases r
    obtain ⟨b', vs, k1, k2, k3, k4, k5⟩ := eo1.own l ds g1
    rw [h1] at k1; cases k1
    obtain ⟨v, hv, rv⟩ := k3.get g3
    cases rv
    refine ⟨b, vs, n, .int old, rfl, rfl, SqL.of k2, Option.bind_eq_some_iff.mpr ⟨j, by rw [k3.len]; exact g2, hv⟩, ρ1, G1, _, z, eo1, fun z ρ2 w H2 G2 ⟨m, e2, q1, q2⟩ eo2 ex2 r2 => ?_⟩
    subst e2; cases r2
    obtain ⟨b2, us, m1, m2, m3, m4, m5⟩ := eo2.own l ds q1
    rw [h1] at m1; cases m1
    exact ⟨old, m, rfl, rfl, b, us, n, j, rfl, rfl, m2, by rw [m3.len]; exact g2, hk.nx _ _ _ _ q2 (eo2.mut q1 h1 (m3.set j (.int _))) (ex1.trans ex2)⟩
/-- xs[i] = e, xs a list of our own -/
theorem ds_setI (l : Nat) {oa : Option Addr} {ds0 : List D} (hl : ρ[l]? = some (some (.own oa ds0)))
    (h : DE Γ e ρ (fun z ρ1 => (∃ ds1, ρ1[l]? = some (some (.own oa ds1))) ∧ DE Γ a ρ1 (fun y ρ2 => ∃ (n : Int) (ds : List D) (j : Nat), y = .int n ∧ ρ2[l]? = some (some (.own oa ds)) ∧ ixN ds.length n = some j ∧ P.nx (ρ2.set l (some (.own oa (ds.set j z))))))) {tpos : Pos} (hN : X.N[l]? = some x := by rfl)
    (hv : Vis X.env.scope x := by first | exact Or.inl rfl | exact Or.inr (Or.inl rfl) | exact Or.inr (Or.inr rfl))
    (hd : (x == ("__debug__" : Str)) = false := by decide) (hcd : (x == ("__classdict__" : Str)) = false := by decide)
    (ha : ∀ v, assign (.Subscript (.Name x p) a tpos) X.env v = (do
      let ov ← holding [v] (eval (.Name x p) X.env)
      let iv ← holding [v, ov] (eval a X.env)
      standAt tpos
      holding [v, ov, iv] (setItem ov iv v)
      release [v, ov, iv] []) := by intro _; rfl)
    (hs : swapsWithSole [.Subscript (.Name x p) a tpos] e pos.line X.env = pure false := by rfl) (hw : swappedStores [.Subscript (.Name x p) a tpos] e X.env = pure none := by rfl)
    (h1 : (assignEach [.Subscript (.Name x p) a tpos] X.env).map (·.2) = [assign (.Subscript (.Name x p) a tpos) X.env] := by rfl) : DS Γ (.Assign [.Subscript (.Name x p) a tpos] e pos) ρ P :=
  ds_of (ps_asg (pe_U Γ e) (pg_sub (pe_var hN hv hd hcd) (pe_U Γ a) set_list ha) hs hw h1) fun σ H G Dd eo hk => ⟨ρ, G, _, h, eo, fun z ρ1 v H1 G1 ⟨⟨ds1, g0⟩, hz⟩ eo1 ex1 r => by
    obtain ⟨b, vs0, h1, h2, _⟩ := eo1.own l ds1 g0
    refine ⟨_, h1, ρ1, G1, _, hz, eo1, fun y ρ2 u H2 G2 ⟨n, ds, j, e1, g1, g2, z⟩ eo2 ex2 r2 => ?_⟩
    subst e1; cases r2
    obtain ⟨b', vs, k1, k2, k3, k4, k5⟩ := eo2.own l ds g1
    rw [h1] at k1; cases k1
    exact ⟨b, vs, n, j, rfl, rfl, k2, by rw [k3.len]; exact g2, hk.nx _ _ _ _ z (eo2.mut g1 h1 (k3.set j (r.mono ex2))) (ex1.trans ex2)⟩⟩
/-- x op= e, ints -/
theorem ds_aug (i : Nat) {op : Operator} {f : Int → Int → Int} (ho : PIp X op (ipI f)) {old : Int} (hl : ρ[i]? = some (some (.im (.int old)))) (h : DE Γ e ρ (fun z ρ1 => ∃ m, z = .int m ∧ P.nx (ρ1.set i (some (.im (.int (f old m))))))) (hi : X.N[i]? = some x := by rfl)
    (hx : Loc X.env.scope x := by first | exact Or.inl rfl | exact Or.inr rfl) (hf : X.fn x = true ∨ X.env.scope.names.lookup x = some .local := by first | exact .inl rfl | exact .inr rfl) : DS Γ (.AugAssign (.Name x p) op e pos) ρ P :=
  ds_of (ps_aug Γ.nd hi hx (pe_U Γ e) ho hf) fun σ H G Dd eo hk => by
    obtain ⟨v, h1, r⟩ := eo.im i _ hl
    cases r
    exact ⟨_, h1, ρ, G, _, h, eo, fun z ρ1 w H1 G1 ⟨m, e1, hz⟩ eo1 ex1 r1 => by subst e1; cases r1; exact ⟨old, m, rfl, rfl, hk.nx _ _ _ _ hz (eo1.set_im (.int _) i) ex1⟩⟩
theorem ds_while (W : Nat → Rho → Prop) (m0 : Nat) (w0 : W m0 ρ) (h : ∀ m ρ1, W m ρ1 → DT Γ c ρ1 (fun b ρ2 => (b = true → DSs Γ body ρ2 { nx := fun ρ3 => ∃ m', m' < m ∧ W m' ρ3, rt := P.rt, bk := P.nx, ct := fun ρ3 => ∃ m', m' < m ∧ W m' ρ3 }) ∧ (b = false → P.nx ρ2))) : DS Γ (.While c body [] pos) ρ P :=
  ds_of (ps_while Γ.pown (pt_U Γ c) (pss_U Γ body)) fun σ H G Dd eo hk => ⟨fun m σ1 H1 => ∃ ρ1 G1, W m ρ1 ∧ Γ.eo ρ1 σ1 H1 G1 ∧ Ex G G1, ⟨m0, ρ, G, w0, eo, .refl _⟩, fun m σ1 H1 ⟨ρ1, G1, w1, eo1, ex1⟩ => ⟨ρ1, G1, _, h m ρ1 w1, eo1, fun b ρ2 H2 G2 z eo2 ex2 => by
    cases b with
    | true =>
      rw [if_pos rfl]
      exact ⟨fun σ' H' => ∃ m', m' < m ∧ ∃ ρ1 G1, W m' ρ1 ∧ Γ.eo ρ1 σ' H' G1 ∧ Ex G G1, fun σ' H' q => q, ρ2, G2, _, z.1 rfl, eo2,
        ⟨fun ρ3 σ3 H3 G3 ⟨m', hm, w⟩ y x => ⟨m', hm, ρ3, G3, w, y, (ex1.trans ex2).trans x⟩, fun d ρ3 v σ3 H3 G3 q y x r => hk.rt _ _ _ _ _ _ q y ((ex1.trans ex2).trans x) r, fun ρ3 σ3 H3 G3 q y x => hk.nx _ _ _ _ q y ((ex1.trans ex2).trans x),
          fun ρ3 σ3 H3 G3 ⟨m', hm, w⟩ y x => ⟨m', hm, ρ3, G3, w, y, (ex1.trans ex2).trans x⟩⟩⟩
    | false => rw [if_neg Bool.false_ne_true]; exact hk.nx _ _ _ _ (z.2 rfl) eo2 (ex1.trans ex2)⟩⟩
/-- a loop over known items -/
structure Loop (Γ : Gm X C) (tg : Expr) (vs : List Nat) (body : List Stmt) (P : Post) (ds : List D) (Iv : Nat → Rho → Prop) : Prop where
  turn : ∀ i d ρ2, ds[i]? = some d → Iv i ρ2 → DG Γ tg vs d ρ2 (fun ρ3 => DSs Γ body ρ3 { nx := Iv (i + 1), rt := P.rt, bk := P.nx, ct := Iv (i + 1) })
  done : ∀ ρ2, Iv ds.length ρ2 → P.nx ρ2
theorem ds_for {it : Expr} (vs : List Nat) (hi : DI Γ tg it ρ (fun ds ρ1 => ∃ Iv : Nat → Rho → Prop, Iv 0 ρ1 ∧ Loop Γ tg vs body P ds Iv))
    (hs : ∀ x, foldedSetIterable it X.env x = pure x := by intro _; rfl) (hcalm : X.calm = true := by rfl) : DS Γ (.For tg it body [] pos) ρ P := by
  obtain ⟨wi, hp, hw⟩ := hi
  refine ds_of (ps_for Γ.pown hcalm hp (pg_U Γ tg vs) (pss_U Γ body) hs) fun σ H G Dd eo hk => hw σ H G _ eo fun ds ρ1 J H1 G1 ⟨Iv, i0, L⟩ eo1 ex1 sw => ?_
  refine ⟨fun i m σ2 H2 => m = ds.length - i ∧ i ≤ ds.length ∧ ∃ ρ2 G2, Iv i ρ2 ∧ Γ.eo ρ2 σ2 H2 G2 ∧ Ex G1 G2, ⟨ds.length, rfl, Nat.zero_le _, ρ1, G1, i0, eo1, .refl _⟩, ?_⟩
  rintro i m σ2 H2 ⟨rfl, hle, ρ2, G2, iv, eo2, ex2⟩
  by_cases hlt : i < ds.length
  · refine .inr ⟨sw.go i H2 hlt (ex2.trans eo2.gh), fun σ' H' => ∃ ρ2 G2, Iv (i + 1) ρ2 ∧ Γ.eo ρ2 σ' H' G2 ∧ Ex G1 G2, fun σ' H' ⟨ρ3, G3, z, y, x⟩ => ⟨ds.length - (i + 1), by omega, rfl, hlt, ρ3, G3, z, y, x⟩, fun v H3 hy => ?_⟩
    obtain ⟨x1, x2⟩ := sw.yld i ds[i] H2 v H3 (List.getElem?_eq_getElem hlt) (ex2.trans eo2.gh) hy
    obtain ⟨G3, eo3, ex3, r3⟩ := x2 _ _ ρ2 σ2 G2 eo2 ex2
    refine ⟨ρ2, G3, ds[i], _, L.turn i _ ρ2 (List.getElem?_eq_getElem hlt) iv, eo3, r3, fun ρ4 σ4 z eo4 _ => ⟨ρ4, G3, _, z, eo4, ?_⟩⟩
    have x13 := ex2.trans ex3
    exact ⟨fun ρ5 σ5 H5 G5 z y x => ⟨ρ5, G5, z, y, x13.trans x⟩, fun d ρ5 v σ5 H5 G5 z y x r => hk.rt _ _ _ _ _ _ z y (ex1.trans (x13.trans x)) r, fun ρ5 σ5 H5 G5 z y x => hk.nx _ _ _ _ z y (ex1.trans (x13.trans x)), fun ρ5 σ5 H5 G5 z y x => ⟨ρ5, G5, z, y, x13.trans x⟩⟩
  · have e : i = ds.length := by omega
    subst e
    exact .inl ⟨sw.stop H2 (ex2.trans eo2.gh), hk.nx _ _ _ _ (L.done ρ2 iv) eo2 (ex1.trans ex2)⟩
end
/-! ### comprehensions -/
def wipeR (ρ : Rho) : List Nat → Rho
  | [] => ρ
  | v :: vs => (wipeR ρ vs).set v none
section
variable {H0 G0 H G : Hp} {ρ : Rho} {σ : L2.St} {a : Addr} {o : HO}
theorem EO.wiped (e : EO H0 G0 ρ σ H G) : ∀ vs : List Nat, EO H0 G0 (wipeR ρ vs) (wipe σ vs) H G
  | [] => e
  | v :: vs => (EO.wiped e vs).forget v none
theorem EO.unwipe {vs : List Nat} (e : EO H0 G0 ρ (wipe σ vs) H G) : EO H0 G0 ρ σ H G where
  len := by rw [e.len, wipe_length]
  h0 := e.h0
  g0 := e.g0
  gh := e.gh
  fr := e.fr
  im := fun i d h => by
    obtain ⟨v, h1, h2⟩ := e.im i d h
    exact ⟨v, (wipe_some h1).1, h2⟩
  own := fun i ds h => by
    obtain ⟨a, vs', h1, h2⟩ := e.own i ds h
    exact ⟨a, vs', (wipe_some h1).1, h2⟩
  sep := fun i j ds es a h1 h2 h3 h4 => by
    obtain ⟨b, _, k1, _⟩ := e.own i ds h1
    obtain ⟨b', _, k2, _⟩ := e.own j es h2
    have e1 := (wipe_some k1).1
    have e2 := (wipe_some k2).1
    rw [h3] at e1; cases e1
    rw [h4] at e2; cases e2
    exact e.sep i j ds es a h1 h2 k1 k2
  adr := fun i b ds h => (wipe_some (e.adr i b ds h)).1
  raw := fun i p h => by
    obtain ⟨v, h1, h2⟩ := e.raw i p h
    exact ⟨v, (wipe_some h1).1, h2⟩
/-- a thing that nobody of ours knows changes -/
theorem EO.other (e : EO H0 G0 ρ σ H G) (h0 : H0 a = none) (hg : G a = none) (n : ¬ ownAt ρ σ a) : EO H0 G0 ρ σ (upd H a o) G where
  len := e.len
  h0 := fun b u q => by rw [upd_ne (ne_of_none q h0)]; exact e.h0 b u q
  g0 := e.g0
  gh := fun b u q => by rw [upd_ne (ne_of_none q hg)]; exact e.gh b u q
  fr := e.fr
  im := e.im
  own := fun i ds h => by
    obtain ⟨b, vs, h1, h2, h3⟩ := e.own i ds h
    have nb : b ≠ a := by rintro rfl; exact n ⟨i, ds, _, h, h1⟩
    exact ⟨b, vs, h1, by rw [upd_ne nb]; exact h2, h3⟩
  sep := e.sep
  adr := e.adr
  raw := e.raw
theorem EO.noOwnAt {ρ' : Rho} {σ' : L2.St} {vs' : List V} (e : EO H0 G0 ρ σ H G) (h : H0 a = some o) : ¬ ownAt ρ σ a := e.notOwn0 h
end
abbrev BX (X : Cx) (s : Shared) (H : Hp) (scope : Scope) (Ca : Addr) (cl : List (Str × Addr)) (fp : List Addr) : Cx := X.blk s H scope (compEnvC scope cl Ca X.env) fp
/-- the same for a block of X, over another ground -/
def Gm.block (Γ : Gm X C) (H0 G0 : Hp) (s : Shared) (H : Hp) (scope : Scope) (Ca : Addr) (cl : List (Str × Addr)) (fp : List Addr) : Gm (BX X s H scope Ca cl fp) C where
  H0 := H0
  G0 := G0
  E := fun _ => E0
  err := fun _ _ => False
  tk := fun _ _ ⟨_, _, _, _, _, _, _, _, _, _, _, _, _, _, _, _, w⟩ => w.elim
  hE := fun _ _ _ _ _ _ h => h.elim
  pown := PassesOwn.never
  nd := Γ.nd
/-- in every block -/
def Blk (X : Cx) (C : Addr) (scope : Scope) (f : ∀ X' : Cx, Gm X' C → Prop) : Prop := ∀ s H Ca cl fp (Γ' : Gm (BX X s H scope Ca cl fp) C), f _ Γ'
/-- what one item of a comprehension does -/
structure CTurn (X : Cx) (C : Addr) (scope : Scope) (tg elt : Expr) (ifs : List Expr) (vs : List Nat) (d : D) (ρ : Rho) (yes : D → Rho → Prop) (no : Rho → Prop) : Prop where
  ex : ∃ ρ3, Blk X C scope (fun X' Γ' => DG Γ' tg vs d ρ (fun ρ' => ρ' = ρ3)) ∧
    ((ifs = [] ∧ Blk X C scope (fun X' Γ' => DE Γ' elt ρ3 yes)) ∨ ∃ c b ρ4, ifs = [c] ∧ Blk X C scope (fun X' Γ' => DT Γ' c ρ3 (fun b' ρ' => b' = b ∧ ρ' = ρ4)) ∧ (b = true → Blk X C scope (fun X' Γ' => DE Γ' elt ρ4 yes)) ∧ (b = false → no ρ4))
section
variable {Γ : Gm X C} {tg elt it : Expr} {ifs : List Expr} {scope : Scope} {own : List (Str × Nat)} {ρ : Rho} {pos p : Pos}
def tBG (X : Cx) (C : Addr) (scope : Scope) (tg : Expr) (vs : List Nat) : TG := fun v σ H Q => ∀ s Hs Ca cl fp, ∃ Γ' : Gm (BX X s Hs scope Ca cl fp) C, tUG Γ' tg vs v σ H Q
def tBE (X : Cx) (C : Addr) (scope : Scope) (e : Expr) : TE := fun σ H Q => ∀ s Hs Ca cl fp, ∃ Γ' : Gm (BX X s Hs scope Ca cl fp) C, tU Γ' e σ H Q
def tBT (X : Cx) (C : Addr) (scope : Scope) (e : Expr) : TT := fun σ H Q => ∀ s Hs Ca cl fp, ∃ Γ' : Gm (BX X s Hs scope Ca cl fp) C, tUT Γ' e σ H Q
def tBTs (X : Cx) (C : Addr) (scope : Scope) : List Expr → TT
  | [] => tYes
  | c :: _ => tBT X C scope c
theorem pg_B (s : Shared) (Hs : Hp) (Ca : Addr) (cl : List (Str × Addr)) (fp : List Addr) (tg : Expr) (vs : List Nat) : PG (BX X s Hs scope Ca cl fp) tg (tBG X C scope tg vs) :=
  ⟨fun pins s' σ H v u Q I r h => let ⟨Γ', h⟩ := h s Hs Ca cl fp; (pg_U Γ' tg vs).run pins s' σ H v u Q I r h⟩
theorem pe_B (s : Shared) (Hs : Hp) (Ca : Addr) (cl : List (Str × Addr)) (fp : List Addr) (e : Expr) : PE (BX X s Hs scope Ca cl fp) e (tBE X C scope e) :=
  ⟨fun pins s' σ H Q I h => let ⟨Γ', h⟩ := h s Hs Ca cl fp; (pe_U Γ' e).run pins s' σ H Q I h⟩
theorem pt_B (s : Shared) (Hs : Hp) (Ca : Addr) (cl : List (Str × Addr)) (fp : List Addr) (e : Expr) : PT (BX X s Hs scope Ca cl fp) e (tBT X C scope e) :=
  ⟨fun pins s' σ H Q I h => let ⟨Γ', h⟩ := h s Hs Ca cl fp; (pt_U Γ' e).run pins s' σ H Q I h⟩
theorem pts_B (s : Shared) (Hs : Hp) (Ca : Addr) (cl : List (Str × Addr)) (fp : List Addr) : ∀ {ifs : List Expr}, ifs.length ≤ 1 → PTs (BX X s Hs scope Ca cl fp) ifs (tBTs X C scope ifs)
  | [], _ => pts_nil
  | [c], _ => pts_one (pt_B s Hs Ca cl fp c)
  | _ :: _ :: _, h => by simp at h
/-- the whole of a comprehension -/
def LcOk (Γ : Gm X C) (tg elt : Expr) (ifs : List Expr) (scope : Scope) (vs : List Nat) (k : List D → Rho → Prop) (ds : List D) (ρ1 : Rho) : Prop :=
  ∃ Iv : Nat → Rho → List D → Prop, Iv 0 (wipeR ρ1 vs) [] ∧ (∀ i d ρ2 acc, ds[i]? = some d → Iv i ρ2 acc → CTurn X C scope tg elt ifs vs d ρ2 (fun y ρ5 => acc.length < sizeLine ∧ Iv (i + 1) (wipeR ρ5 vs) (acc ++ [y])) (fun ρ4 => Iv (i + 1) (wipeR ρ4 vs) acc)) ∧
    ∀ ρ2 acc, Iv ds.length ρ2 acc → k acc ρ2
theorem lc_ok {vs : List Nat} {k : List D → Rho → Prop} {ds : List D} {ρ1 : Rho} {J : It} {σ : L2.St} {H1 G1 : Hp} {Q : VK} (L : LcOk Γ tg elt ifs scope vs k ds ρ1) (eo1 : Γ.eo ρ1 σ H1 G1) (sw : SW J ds G1)
    (hk : ∀ acc ρ' a us H' G', k acc ρ' → Γ.eo ρ' σ H' G' → Ex G1 G' → H' a = some (.lst us) → RvA G' us acc → G' a = none → Γ.H0 a = none → ¬ ownAt ρ' σ a → Q (.ref a) H') (D : Addr) (hD : H1 D = none) :
    ∃ W : Nat → Nat → Hp → Prop, (∃ m, W 0 m (upd H1 D (.lst []))) ∧ ∀ i m H, W i m H → (J.stop i H ∧ Q (.ref D) H) ∨ (J.go i H ∧ ∃ Nx : Hp → Prop, (∀ H', Nx H' → ∃ m', m' < m ∧ W (i + 1) m' H') ∧ ∀ x H', J.yld i H x H' → tBG X C scope tg vs x (wipe σ vs) H' fun σ2 H2 => wipe σ2 vs = wipe σ vs ∧ tBTs X C scope ifs σ2 H2 fun b H3 =>
    if b = true then tBE X C scope elt σ2 H3 fun y H4 => ∃ acc, H4 D = some (.lst acc) ∧ acc.length < sizeLine ∧ Nx (upd H4 D (.lst (acc ++ [y]))) else Nx H3) := by
  obtain ⟨Iv, i0, turn, fin⟩ := L
  have g1D : G1 D = none := eo1.gh.none hD
  have h0D : Γ.H0 D = none := eo1.h0.none hD
  refine ⟨fun i m H => m = ds.length - i ∧ i ≤ ds.length ∧ ∃ ρ2 G2 acc va, Iv i ρ2 acc ∧ Γ.eo ρ2 (wipe σ vs) H G2 ∧ Ex G1 G2 ∧ H D = some (.lst va) ∧ RvA G2 va acc ∧ G2 D = none ∧ ¬ ownAt ρ2 (wipe σ vs) D,
    ⟨ds.length, rfl, Nat.zero_le _, wipeR ρ1 vs, G1, [], [], i0, (eo1.alloc hD).wiped vs, .refl _, upd_same, .nil, g1D, (eo1.wiped vs).newNot hD⟩, ?_⟩
  rintro i m H2 ⟨rfl, hle, ρ2, G2, acc, va, iv, eo2, ex2, hDa, hva, g2D, nD⟩
  by_cases hlt : i < ds.length
  · refine .inr ⟨sw.go i H2 hlt (ex2.trans eo2.gh), fun H' => ∃ ρ2 G2 acc va, Iv (i + 1) ρ2 acc ∧ Γ.eo ρ2 (wipe σ vs) H' G2 ∧ Ex G1 G2 ∧ H' D = some (.lst va) ∧ RvA G2 va acc ∧ G2 D = none ∧ ¬ ownAt ρ2 (wipe σ vs) D,
      fun H' q => ⟨ds.length - (i + 1), by omega, rfl, hlt, q⟩, fun v H3 hy => ?_⟩
    have hd : ds[i]? = some ds[i] := List.getElem?_eq_getElem hlt
    obtain ⟨x1, x2⟩ := sw.yld i ds[i] H2 v H3 hd (ex2.trans eo2.gh) hy
    have er := eo2.reframe
    have d0 : noOwn ρ2 (wipe σ vs) H2 D = some (.lst va) := noOwn_at hDa nD
    obtain ⟨G3, eo3, ex3, r3⟩ := x2 _ _ ρ2 _ G2 er ex2
    obtain ⟨ρ3, hg, ht⟩ := (turn i _ ρ2 acc hd iv).ex
    have onward : ∀ {ρ' : Rho} {σ' : L2.St} {H' G' : Hp}, wipe σ' vs = wipe σ vs → EO (noOwn ρ2 (wipe σ vs) H2) G2 ρ' σ' H' G' → H' D = some (.lst va) ∧ G' D = none ∧ ¬ ownAt (wipeR ρ' vs) (wipe σ vs) D ∧ Γ.eo (wipeR ρ' vs) (wipe σ vs) H' G' := fun {ρ' σ' H' G'} hw eo' => by
      have a1 : H' D = some (.lst va) := eo'.h0 D _ d0
      have a2 : G' D = none := by
        cases y : G' D with
        | none => rfl
        | some u => have := eo'.fr D u y g2D; rw [d0] at this; cases this
      have ew := eo'.wiped vs
      rw [hw] at ew
      exact ⟨a1, a2, ew.notOwn0 d0, eo2.back ew⟩
    have goYes : ∀ {ρ' : Rho} {σ' : L2.St} {H' G' : Hp}, wipe σ' vs = wipe σ vs → EO (noOwn ρ2 (wipe σ vs) H2) G2 ρ' σ' H' G' → Ex G2 G' → Blk X C scope (fun X' Γ' => DE Γ' elt ρ' (fun y ρ5 => acc.length < sizeLine ∧ Iv (i + 1) (wipeR ρ5 vs) (acc ++ [y]))) →
        tBE X C scope elt σ' H' fun y H4 => ∃ acc, H4 D = some (.lst acc) ∧ acc.length < sizeLine ∧ ∃ ρ2 G2 acc' va', Iv (i + 1) ρ2 acc' ∧ Γ.eo ρ2 (wipe σ vs) (upd H4 D (.lst (acc ++ [y]))) G2 ∧ Ex G1 G2 ∧ (upd H4 D (.lst (acc ++ [y]))) D = some (.lst va') ∧ RvA G2 va' acc' ∧ G2 D = none ∧ ¬ ownAt ρ2 (wipe σ vs) D :=
      fun {ρ' σ' H' G'} hw eo' ex' he s Hs Ca cl fp => ⟨Γ.block (noOwn ρ2 (wipe σ vs) H2) G2 s Hs scope Ca cl fp, ρ', G', _, he s Hs Ca cl fp _, eo', fun y ρ5 u H5 G5 ⟨hl, iv5⟩ eo5 ex5 r5 => by
        obtain ⟨b1, b2, b3, b4⟩ := onward hw eo5
        have x25 := ex'.trans ex5
        exact ⟨va, b1, by rw [hva.len]; exact hl, _, G5, acc ++ [y], va ++ [u], iv5, b4.other h0D b2 b3, ex2.trans x25, upd_same, (hva.mono x25).app (.one r5), b2, b3⟩⟩
    intro s Hs Ca cl fp
    refine ⟨Γ.block (noOwn ρ2 (wipe σ vs) H2) G2 s Hs scope Ca cl fp, ρ2, G3, ds[i], _, hg s Hs Ca cl fp _, eo3, r3, fun ρ' σ' ez eo4 hw => ?_⟩
    subst ez
    rw [wipe_idem] at hw
    refine ⟨hw, ?_⟩
    rcases ht with ⟨e1, he⟩ | ⟨c, b, ρ4, e1, hc, hy1, hn1⟩
    · subst e1
      unfold tBTs tYes
      dsimp only
      rw [if_pos rfl]
      exact goYes hw eo4 ex3 he
    · subst e1
      intro s Hs Ca cl fp
      refine ⟨Γ.block (noOwn ρ2 (wipe σ vs) H2) G2 s Hs scope Ca cl fp, ρ', G3, _, hc s Hs Ca cl fp _, eo4, fun b' ρ'' H5 G5 ⟨eb, er⟩ eo5 ex5 => ?_⟩
      subst eb er
      cases b' with
      | true => rw [if_pos rfl]; exact goYes hw eo5 (ex3.trans ex5) (hy1 rfl)
      | false =>
        rw [if_neg Bool.false_ne_true]
        obtain ⟨b1, b2, b3, b4⟩ := onward hw eo5
        have x25 := ex3.trans ex5
        exact ⟨_, G5, acc, va, hn1 rfl, b4, ex2.trans x25, b1, hva.mono x25, b2, b3⟩
  · have e : i = ds.length := by omega
    subst e
    refine .inl ⟨sw.stop H2 (ex2.trans eo2.gh), hk acc ρ2 D va H2 G2 (fin ρ2 acc iv) eo2.unwipe ex2 hDa hva g2D h0D ?_⟩
    rintro ⟨j, es, _, q1, q2⟩
    obtain ⟨b, _, k1, _⟩ := eo2.own j es q1
    have e1 := (wipe_some k1).1
    rw [q2] at e1; cases e1
    exact nD ⟨j, es, _, q1, k1⟩
theorem dn_lc (own : List (Str × Nat)) {k : List D → Rho → Prop} (hif : ifs.length ≤ 1) (hb : blkC X.N X.env.scope scope own = true) (h : DI Γ tg it ρ (LcOk Γ tg elt ifs scope (own.map (·.2)) k)) (hs : ∀ x, foldedSetIterable it X.env x = pure x := by intro _; rfl) (hcalm : X.calm = true := by rfl) :
    DN Γ (.ListComp elt [⟨tg, it, ifs, 0⟩] scope pos) ρ k := by
  obtain ⟨wi, hp, hw⟩ := h
  exact dn_of (pe_lc hcalm Γ.nd hp (blkOk_by hb) (fun s Hs Ca cl fp => pg_B (C := C) s Hs Ca cl fp tg (own.map (·.2))) (fun s Hs Ca cl fp => pts_B (C := C) s Hs Ca cl fp hif) (fun s Hs Ca cl fp => pe_B (C := C) s Hs Ca cl fp elt) hs) fun σ H G Q eo hk =>
    hw σ H G _ eo fun ds ρ1 J H1 G1 L eo1 ex1 sw D hD => lc_ok L eo1 sw (fun acc ρ' a us H' G' z y x => hk acc ρ' a us H' G' z y (ex1.trans x)) D hD
/-- y = [..] on one line -/
theorem ds_setLc (i : Nat) (own : List (Str × Nat)) {y : Str} {py spos : Pos} {P : Post} (hif : ifs.length ≤ 1) (hb : blkC X.N X.env.scope scope own = true) (h : DI Γ tg it ρ (LcOk Γ tg elt ifs scope (own.map (·.2)) (fun acc ρ1 => P.nx (ρ1.set i (some (.own none acc))))))
    (hsw : swapsWith (.ListComp elt [⟨tg, it, ifs, 0⟩] scope pos) (some (.Name y py)) spos.line X.env = pure true) (hy : X.N[i]? = some y := by rfl) (hyl : X.env.scope.names.lookup y = some .local := by rfl) (hs : ∀ x, foldedSetIterable it X.env x = pure x := by intro _; rfl) (hcalm : X.calm = true := by rfl) :
    DS Γ (.Assign [.Name y py] (.ListComp elt [⟨tg, it, ifs, 0⟩] scope pos) spos) ρ P := by
  obtain ⟨wi, hp, hw⟩ := h
  exact ds_of (ps_setLc hcalm Γ.nd hy hyl hsw hp (blkOk_by hb) (fun s Hs Ca cl fp => pg_B (C := C) s Hs Ca cl fp tg (own.map (·.2))) (fun s Hs Ca cl fp => pts_B (C := C) s Hs Ca cl fp hif) (fun s Hs Ca cl fp => pe_B (C := C) s Hs Ca cl fp elt) hs) fun σ H G Dd eo hk =>
    hw σ H G _ eo fun ds ρ1 J H1 G1 L eo1 ex1 sw D hD => lc_ok (Q := fun v H' => Dd.nx (σ.set i (some v)) H') L eo1 sw (fun acc ρ' a us H' G' z y x h1 h2 h3 h4 h5 => hk.nx _ _ _ _ z (y.set_own h1 h2 h3 h4 h5 i) (ex1.trans x)) D hD
/-- the same, the list let be at once -/
theorem ds_setLcI (i : Nat) (own : List (Str × Nat)) {y : Str} {py spos : Pos} {P : Post} (hif : ifs.length ≤ 1) (hb : blkC X.N X.env.scope scope own = true) (h : DI Γ tg it ρ (LcOk Γ tg elt ifs scope (own.map (·.2)) (fun acc ρ1 => P.nx (ρ1.set i (some (.im (.list acc)))))))
    (hsw : swapsWith (.ListComp elt [⟨tg, it, ifs, 0⟩] scope pos) (some (.Name y py)) spos.line X.env = pure true) (hy : X.N[i]? = some y := by rfl) (hyl : X.env.scope.names.lookup y = some .local := by rfl) (hs : ∀ x, foldedSetIterable it X.env x = pure x := by intro _; rfl) (hcalm : X.calm = true := by rfl) :
    DS Γ (.Assign [.Name y py] (.ListComp elt [⟨tg, it, ifs, 0⟩] scope pos) spos) ρ P := by
  obtain ⟨wi, hp, hw⟩ := h
  exact ds_of (ps_setLc hcalm Γ.nd hy hyl hsw hp (blkOk_by hb) (fun s Hs Ca cl fp => pg_B (C := C) s Hs Ca cl fp tg (own.map (·.2))) (fun s Hs Ca cl fp => pts_B (C := C) s Hs Ca cl fp hif) (fun s Hs Ca cl fp => pe_B (C := C) s Hs Ca cl fp elt) hs) fun σ H G Dd eo hk =>
    hw σ H G _ eo fun ds ρ1 J H1 G1 L eo1 ex1 sw D hD => lc_ok (Q := fun v H' => Dd.nx (σ.set i (some v)) H') L eo1 sw (fun acc ρ' a us H' G' z y x h1 h2 h3 h4 h5 => by
      obtain ⟨e2, x2, r⟩ := y.join h1 h2 h3 h4 h5
      exact hk.nx _ _ _ _ z (e2.set_im r i) (ex1.trans (x.trans x2))) D hD
/-- each item gives one, nothing else changes -/
theorem lc_map {vs : List Nat} {k : List D → Rho → Prop} {ds : List D} {ρ1 : Rho} (f : D → D) (hn : ds.length ≤ 1000000) (hw : wipeR (wipeR ρ1 vs) vs = wipeR ρ1 vs)
    (turn : ∀ (i : Nat) (d : D), ds[i]? = some d → CTurn X C scope tg elt [] vs d (wipeR ρ1 vs) (fun y ρ5 => y = f d ∧ wipeR ρ5 vs = wipeR ρ1 vs) (fun _ => False)) (h : k (ds.map f) (wipeR ρ1 vs)) : LcOk Γ tg elt [] scope vs k ds ρ1 := by
  refine ⟨fun i ρ2 acc => i ≤ ds.length ∧ ρ2 = wipeR ρ1 vs ∧ acc = (ds.take i).map f, ⟨Nat.zero_le _, rfl, by simp⟩, fun i d ρ2 acc hd ⟨hi, e1, e2⟩ => ?_, fun ρ2 acc ⟨_, e1, e2⟩ => ?_⟩
  · subst e1 e2
    have hlt := (List.getElem?_eq_some_iff.mp hd).1
    obtain ⟨ρ3, hg, ht⟩ := (turn i d hd).ex
    refine ⟨ρ3, hg, ?_⟩
    rcases ht with ⟨e, he⟩ | ⟨c, b, ρ4, e, _⟩
    · refine .inl ⟨e, fun s H Ca cl fp Γ' => (he s H Ca cl fp Γ').mono fun y ρ5 ⟨z1, z2⟩ => ⟨?_, hlt, z2, ?_⟩⟩
      · rw [List.length_map, List.length_take, sizeLine_eq]; omega
      · rw [z1, List.take_add_one, hd]; simp
    · cases e
  · subst e1 e2
    rw [List.take_length]; exact h
end
end DL
namespace DL
open PySem PySem.Spec PyProof.Rows L2
def startR (N : List Str) (ds : List D) : Rho := ds.map (fun d => some (.im d)) ++ List.replicate (N.length - ds.length) none
theorem start_get {N : List Str} {vs : List V} {i : Nat} {v : V} (h : vs[i]? = some v) : (L2.start N vs)[i]? = some (some v) := by
  unfold L2.start
  have hl := (List.getElem?_eq_some_iff.mp h).1
  rw [List.getElem?_append_left (by simpa using hl), List.getElem?_map, h] <;> rfl
theorem startR_im {N : List Str} {ds : List D} {i : Nat} {d : D} (h : (startR N ds)[i]? = some (some (.im d))) : ds[i]? = some d := by
  unfold startR at h
  by_cases hl : i < ds.length
  · rw [List.getElem?_append_left (by simpa using hl), List.getElem?_map, Option.map_eq_some_iff] at h
    obtain ⟨e, h1, h2⟩ := h
    cases h2; exact h1
  · rw [List.getElem?_append_right (by simp; omega)] at h
    rw [List.getElem?_replicate] at h
    split at h <;> cases h
theorem startR_own {N : List Str} {ds : List D} {i : Nat} {oa : Option Addr} {es : List D} (h : (startR N ds)[i]? = some (some (.own oa es))) : False := by
  unfold startR at h
  by_cases hl : i < ds.length
  · rw [List.getElem?_append_left (by simpa using hl), List.getElem?_map, Option.map_eq_some_iff] at h
    obtain ⟨e, h1, h2⟩ := h
    cases h2
  · rw [List.getElem?_append_right (by simp; omega)] at h
    rw [List.getElem?_replicate] at h
    split at h <;> cases h
theorem startR_raw {N : List Str} {ds : List D} {i : Nat} {p : V → Prop} (h : (startR N ds)[i]? = some (some (.raw p))) : False := by
  unfold startR at h
  by_cases hl : i < ds.length
  · rw [List.getElem?_append_left (by simpa using hl), List.getElem?_map, Option.map_eq_some_iff] at h
    obtain ⟨e, h1, h2⟩ := h
    cases h2
  · rw [List.getElem?_append_right (by simp; omega)] at h
    rw [List.getElem?_replicate] at h
    split at h <;> cases h
theorem eo_start {N : List Str} {H G : Hp} {vs : List V} {ds : List D} (e : Ex G H) (r : RvA G vs ds) : EO H G (startR N ds) (L2.start N vs) H G where
  len := by simp [startR, L2.start, r.len]
  h0 := .refl _
  g0 := .refl _
  gh := e
  fr := fun b o h1 h2 => by rw [h2] at h1; cases h1
  im := fun i d h => by
    obtain ⟨v, h1, h2⟩ := r.get (startR_im h)
    exact ⟨v, start_get h1, h2⟩
  own := fun i ds h => (startR_own h).elim
  sep := fun i j ds es a h => (startR_own h).elim
  adr := fun i b ds h => (startR_own h).elim
  raw := fun i p h => (startR_raw h).elim
/-- the first parameter a pool of ints -/
def startP (N : List Str) (a : Addr) (ps : List Int) (ds : List D) : Rho := some (.own (some a) (ps.map .int)) :: (ds.map (fun d => some (.im d)) ++ List.replicate (N.length - (ds.length + 1)) none)
theorem eo_startP {N : List Str} {H G : Hp} {a : Addr} {ps : List Int} {vs : List V} {ds : List D} (ha : H a = some (.lst (ps.map V.int))) (e : Ex G (del H a)) (r : RvA G vs ds) : EO (del H a) G (startP N a ps ds) (L2.start N (.ref a :: vs)) H G := by
  have tl : ∀ (i : Nat), (startP N a ps ds)[i + 1]? = (startR (N.drop 1) ds)[i]? := fun i => by
    unfold startP startR
    rw [List.getElem?_cons_succ, List.length_drop, Nat.add_comm ds.length 1, Nat.sub_add_eq]
  have tv : ∀ (i : Nat) (v : V), vs[i]? = some v → (L2.start N (.ref a :: vs))[i + 1]? = some (some v) := fun i v h => start_get (i := i + 1) (by simpa using h)
  refine ⟨by simp [startP, L2.start, r.len, Nat.add_comm], fun b o h => (del_some h).2, .refl _, fun b o h => (del_some (e b o h)).2, fun b o h1 h2 => (by rw [h2] at h1; cases h1), fun i d h => ?_, fun i es h => ?_, fun i j es es' b h1 h2 h3 h4 => ?_, fun i b es h => ?_, fun i p h => ?_⟩
  · cases i with
    | zero => cases h
    | succ i =>
      rw [tl] at h
      obtain ⟨v, h1, h2⟩ := r.get (startR_im h)
      exact ⟨v, tv i v h1, h2⟩
  · cases i with
    | zero =>
      cases h
      refine ⟨a, _, rfl, ha, RvA.ofInts, ?_, del_same⟩
      cases y : G a with
      | none => rfl
      | some u => exact ((del_some (e a u y)).1 rfl).elim
    | succ i => rw [tl] at h; exact (startR_own h).elim
  · cases i with
    | succ i => rw [tl] at h1; exact (startR_own h1).elim
    | zero => cases j with
      | zero => rfl
      | succ j => rw [tl] at h2; exact (startR_own h2).elim
  · cases i with
    | zero => cases h; rfl
    | succ i => rw [tl] at h; exact (startR_own h).elim
  · cases i with
    | zero => cases h
    | succ i => rw [tl] at h; exact (startR_raw h).elim
abbrev FnP (K : PySem.W.Frag) (x : Str) (st : Stmt) (f : Addr) (fd : FuncData) : Prop := FunD K x x (defArgs st) (defBody st) (defScope st) [] [] f fd
section
variable {P : Program} {w : World} {K : PySem.W.Frag} {mg : Str → Option Value} {base : Heap} {x : Str} {st : Stmt} {f C : Addr} {fd : FuncData} {N ps : List Str} {k : Nat}
/-- the context of a def's body -/
abbrev CF (P : Program) (w : World) (K : PySem.W.Frag) (mg : Str → Option Value) (base : Heap) (N : List Str) (x : Str) (st : Stmt) (f : Addr) (cdv : Value) (A : Around) (outer : List Env) (s : Shared) (H : Hp) (E : XK) : Cx :=
  cxOf (L2.CX P w) P w K mg base N x (defScope st) f cdv A outer s H E
theorem fn_ok {T : Tm} (F : FnP K x st f fd) (S : FnScope N ps (defScope st)) (hn : ∀ ds r e, T ds r e → ds.length = ps.length)
    (body : ∀ (cdv : Value) (A : Around) (outer : List Env) (s : Shared) (H : Hp) (E : XK) (Γ : Gm (CF P w K mg base N x st f cdv A outer s H E) C), Room k (A.deeper (envOfC x (defScope st) s.heap.objs.size f cdv)) → ∀ ds r e, T ds r e → (∀ w ρ, e w → Γ.err w ρ) →
      DSs Γ (defBody st) (startR N ds) { nx := fun _ => r .none, rt := fun d _ => r d }) : FnOk P w K mg base (L2.CX P w) (k + 1) f fd ps (spT C T) := by
  refine F.ok S (fun vs H Q E h => ?_) (fun cdv A outer s H vs Q E hr h => ?_)
  · obtain ⟨G, ds, r, e, h1, h2, h3, _⟩ := h
    rw [h3.len, hn _ _ _ h1]
  · obtain ⟨G, ds, r, e, h4, h1, h2, h5, h6⟩ := h
    let Γ : Gm (CF P w K mg base N x st f cdv A outer s H E) C :=
      { H0 := H, G0 := G, E := fun _ => E, err := fun w _ => e w, tk := takes_of rfl rfl rfl rfl, hE := fun w dx ρ σ H' G' z eo hx => h6 w dx H' z eo.h0 hx, pown := passes_of rfl, nd := S.nd }
    exact ⟨tUSs Γ (defBody st), pss_U Γ _, startR N ds, G, _, body cdv A outer s H E Γ hr ds r e h4 (fun _ _ z => z), eo_start h1 h2,
      ⟨fun ρ σ H' G' z y _ => h5 _ _ H' G' z y.h0 ⟨y.g0, y.gh, y.fr⟩ .non, fun d ρ v σ H' G' z y _ r => h5 d v H' G' z y.h0 ⟨y.g0, y.gh, y.fr⟩ r, fun _ _ _ _ z => z.elim, fun _ _ _ _ z => z.elim⟩⟩
theorem fn_okP {pm : Pp} (F : FnP K x st f fd) (S : FnScope N ps (defScope st)) (hn : pm.n + 1 = ps.length)
    (body : ∀ (cdv : Value) (A : Around) (outer : List Env) (s : Shared) (H : Hp) (E : XK) (Γ : Gm (CF P w K mg base N x st f cdv A outer s H E) C), Room k (A.deeper (envOfC x (defScope st) s.heap.objs.size f cdv)) → ∀ a qs ds, ds.length = pm.n → pm.pre qs ds →
      DSs Γ (defBody st) (startP N a qs ds) { nx := fun _ => False, rt := fun d ρ => ∃ qs' : List Int, ρ[0]? = some (some (.own (some a) (qs'.map .int))) ∧ pm.ok qs ds d qs' }) : FnOk P w K mg base (L2.CX P w) (k + 1) f fd ps (spPl pm) := by
  refine F.ok S (fun vs H Q E h => ?_) (fun cdv A outer s H vs Q E hr h => ?_)
  · obtain ⟨a, qs, ws, G, ds, rfl, _, _, h2, h3, _⟩ := h
    rw [List.length_cons, h2.len, h3, hn]
  · obtain ⟨a, qs, ws, G, ds, rfl, ha, h1, h2, h3, h4, h5⟩ := h
    let Γ : Gm (CF P w K mg base N x st f cdv A outer s H E) C :=
      { H0 := del H a, G0 := G, E := fun _ => E, err := fun _ _ => False, tk := takes_of rfl rfl rfl rfl, hE := fun _ _ _ _ _ _ z => z.elim, pown := passes_of rfl, nd := S.nd }
    refine ⟨tUSs Γ (defBody st), pss_U Γ _, startP N a qs ds, G, _, body cdv A outer s H E Γ hr a qs ds h3 h4, eo_startP ha h1 h2,
      ⟨fun ρ σ H' G' z y _ => z.elim, fun d ρ v σ H' G' z y _ r => ?_, fun _ _ _ _ z => z.elim, fun _ _ _ _ z => z.elim⟩⟩
    obtain ⟨qs', e0, z⟩ := z
    obtain ⟨b, vs', k1, k2, k3, k4, k5⟩ := y.own 0 _ e0
    rw [y.adr 0 a _ e0] at k1; cases k1
    obtain rfl := k3.ints
    exact h5 d qs' v H' G' z y.h0 k2 ⟨y.g0, fun b o q => by rw [del_ne (ne_of_none q k4)]; exact y.gh b o q, y.fr⟩ r
end
end DL
namespace HL
open PySem PySem.Spec PyProof.Rows L2 DL
/-! ### the text by places -/
def topS (i : Nat) : Stmt := PySem.Challenge.pw_howeverled_k03_whole_splits_purses_and_w.main.body.getD i (.Pass ⟨0, 0, 0, 0⟩)
abbrev s_is_integer : Stmt := topS 6
abbrev N_is_integer : List Str := ["thing"]
abbrev P_is_integer : List Str := ["thing"]
theorem sc_is_integer : FnScope N_is_integer P_is_integer (defScope s_is_integer) := ⟨rfl, rfl, rfl, by decide +kernel, rfl, by decide +kernel, by decide +kernel⟩
abbrev s_is_number : Stmt := topS 7
abbrev N_is_number : List Str := ["thing"]
abbrev P_is_number : List Str := ["thing"]
theorem sc_is_number : FnScope N_is_number P_is_number (defScope s_is_number) := ⟨rfl, rfl, rfl, by decide +kernel, rfl, by decide +kernel, by decide +kernel⟩
abbrev s_is_split : Stmt := topS 8
abbrev N_is_split : List Str := ["web", "thing", "lines", "line", "near"]
abbrev P_is_split : List Str := ["web", "thing"]
theorem sc_is_split : FnScope N_is_split P_is_split (defScope s_is_split) := ⟨rfl, rfl, rfl, by decide +kernel, rfl, by decide +kernel, by decide +kernel⟩
abbrev s_is_purses : Stmt := topS 9
abbrev N_is_purses : List Str := ["size", "thing", "purse"]
abbrev P_is_purses : List Str := ["size", "thing"]
theorem sc_is_purses : FnScope N_is_purses P_is_purses (defScope s_is_purses) := ⟨rfl, rfl, rfl, by decide +kernel, rfl, by decide +kernel, by decide +kernel⟩
abbrev s_need : Stmt := topS 11
abbrev N_need : List Str := ["holds", "name"]
abbrev P_need : List Str := ["holds", "name"]
theorem sc_need : FnScope N_need P_need (defScope s_need) := ⟨rfl, rfl, rfl, by decide +kernel, rfl, by decide +kernel, by decide +kernel⟩
abbrev s_need_house : Stmt := topS 12
abbrev N_need_house : List Str := ["web", "house", "name"]
abbrev P_need_house : List Str := ["web", "house", "name"]
theorem sc_need_house : FnScope N_need_house P_need_house (defScope s_need_house) := ⟨rfl, rfl, rfl, by decide +kernel, rfl, by decide +kernel, by decide +kernel⟩
abbrev s_need_houses : Stmt := topS 13
abbrev N_need_houses : List Str := ["web", "here", "there"]
abbrev P_need_houses : List Str := ["web", "here", "there"]
theorem sc_need_houses : FnScope N_need_houses P_need_houses (defScope s_need_houses) := ⟨rfl, rfl, rfl, by decide +kernel, rfl, by decide +kernel, by decide +kernel⟩
abbrev s_need_split : Stmt := topS 14
abbrev N_need_split : List Str := ["web", "split"]
abbrev P_need_split : List Str := ["web", "split"]
theorem sc_need_split : FnScope N_need_split P_need_split (defScope s_need_split) := ⟨rfl, rfl, rfl, by decide +kernel, rfl, by decide +kernel, by decide +kernel⟩
abbrev s_is_place : Stmt := topS 15
abbrev N_is_place : List Str := ["web", "line"]
abbrev P_is_place : List Str := ["web", "line"]
theorem sc_is_place : FnScope N_is_place P_is_place (defScope s_is_place) := ⟨rfl, rfl, rfl, by decide +kernel, rfl, by decide +kernel, by decide +kernel⟩
abbrev s_far_house : Stmt := topS 16
abbrev N_far_house : List Str := ["line", "house"]
abbrev P_far_house : List Str := ["line", "house"]
theorem sc_far_house : FnScope N_far_house P_far_house (defScope s_far_house) := ⟨rfl, rfl, rfl, by decide +kernel, rfl, by decide +kernel, by decide +kernel⟩
abbrev s_hold_of : Stmt := topS 18
abbrev N_hold_of : List Str := ["web", "house", "one", "other", "room"]
abbrev P_hold_of : List Str := ["web", "house"]
theorem sc_hold_of : FnScope N_hold_of P_hold_of (defScope s_hold_of) := ⟨rfl, rfl, rfl, by decide +kernel, rfl, by decide +kernel, by decide +kernel⟩
abbrev s_purses_of : Stmt := topS 20
abbrev N_purses_of : List Str := ["web", "split", "purses", "line", "near"]
abbrev P_purses_of : List Str := ["web", "split"]
theorem sc_purses_of : FnScope N_purses_of P_purses_of (defScope s_purses_of) := ⟨rfl, rfl, rfl, by decide +kernel, rfl, by decide +kernel, by decide +kernel⟩
abbrev s_ends_at : Stmt := topS 21
abbrev N_ends_at : List Str := ["web", "split", "house", "ends", "line", "near"]
abbrev P_ends_at : List Str := ["web", "split", "house"]
theorem sc_ends_at : FnScope N_ends_at P_ends_at (defScope s_ends_at) := ⟨rfl, rfl, rfl, by decide +kernel, rfl, by decide +kernel, by decide +kernel⟩
abbrev s_turned_over : Stmt := topS 22
abbrev N_turned_over : List Str := ["web", "split", "line", "near"]
abbrev P_turned_over : List Str := ["web", "split"]
theorem sc_turned_over : FnScope N_turned_over P_turned_over (defScope s_turned_over) := ⟨rfl, rfl, rfl, by decide +kernel, rfl, by decide +kernel, by decide +kernel⟩
abbrev s_turned_purses : Stmt := topS 23
abbrev N_turned_purses : List Str := ["web", "purses", "turned", "house", "purse", "rest"]
abbrev P_turned_purses : List Str := ["web", "purses"]
theorem sc_turned_purses : FnScope N_turned_purses P_turned_purses (defScope s_turned_purses) := ⟨rfl, rfl, rfl, by decide +kernel, rfl, by decide +kernel, by decide +kernel⟩
abbrev s_all_splits : Stmt := topS 24
abbrev N_all_splits : List Str := ["web", "rooms", "split", "more", "place", "line"]
abbrev P_all_splits : List Str := ["web"]
abbrev s_houses_along : Stmt := topS 26
abbrev N_houses_along : List Str := ["web", "house", "thing", "houses", "line", "after"]
abbrev P_houses_along : List Str := ["web", "house", "thing"]
theorem sc_houses_along : FnScope N_houses_along P_houses_along (defScope s_houses_along) := ⟨rfl, rfl, rfl, by decide +kernel, rfl, by decide +kernel, by decide +kernel⟩
abbrev s_all_unlike : Stmt := topS 27
abbrev N_all_unlike : List Str := ["things"]
abbrev P_all_unlike : List Str := ["things"]
theorem sc_all_unlike : FnScope N_all_unlike P_all_unlike (defScope s_all_unlike) := ⟨rfl, rfl, rfl, by decide +kernel, rfl, by decide +kernel, by decide +kernel⟩
abbrev s_is_way : Stmt := topS 28
abbrev N_is_way : List Str := ["web", "here", "there", "thing", "houses"]
abbrev P_is_way : List Str := ["web", "here", "there", "thing"]
theorem sc_is_way : FnScope N_is_way P_is_way (defScope s_is_way) := ⟨rfl, rfl, rfl, by decide +kernel, rfl, by decide +kernel, by decide +kernel⟩
abbrev s_is_ring : Stmt := topS 29
abbrev N_is_ring : List Str := ["web", "house", "thing", "houses"]
abbrev P_is_ring : List Str := ["web", "house", "thing"]
theorem sc_is_ring : FnScope N_is_ring P_is_ring (defScope s_is_ring) := ⟨rfl, rfl, rfl, by decide +kernel, rfl, by decide +kernel, by decide +kernel⟩
abbrev s_leads_from : Stmt := topS 30
abbrev N_leads_from : List Str := ["web", "house", "thing", "houses"]
abbrev P_leads_from : List Str := ["web", "house", "thing"]
theorem sc_leads_from : FnScope N_leads_from P_leads_from (defScope s_leads_from) := ⟨rfl, rfl, rfl, by decide +kernel, rfl, by decide +kernel, by decide +kernel⟩
abbrev s_led_if : Stmt := topS 31
abbrev N_led_if : List Str := ["web", "split", "house", "way", "coins", "ends", "line", "one", "other", "room"]
abbrev P_led_if : List Str := ["web", "split", "house", "way", "coins"]
theorem sc_led_if : FnScope N_led_if P_led_if (defScope s_led_if) := ⟨rfl, rfl, rfl, by decide +kernel, rfl, by decide +kernel, by decide +kernel⟩
abbrev s_led_along : Stmt := topS 32
abbrev N_led_along : List Str := ["web", "split", "house", "way", "coins", "led"]
abbrev P_led_along : List Str := ["web", "split", "house", "way", "coins"]
theorem sc_led_along : FnScope N_led_along P_led_along (defScope s_led_along) := ⟨rfl, rfl, rfl, by decide +kernel, rfl, by decide +kernel, by decide +kernel⟩
abbrev s_law_pool : Stmt := topS 34
abbrev N_law_pool : List Str := ["_law_script", "_law_pool_here", "_law_state", "_law_cell", "_law_left", "_law_k"]
abbrev P_law_pool : List Str := ["_law_script"]
theorem sc_law_pool : FnScope N_law_pool P_law_pool (defScope s_law_pool) := ⟨rfl, rfl, rfl, by decide +kernel, rfl, by decide +kernel, by decide +kernel⟩
abbrev s_law_take : Stmt := topS 35
abbrev N_law_take : List Str := ["_law_pool_here", "_law_bound"]
abbrev P_law_take : List Str := ["_law_pool_here", "_law_bound"]
theorem sc_law_take : FnScope N_law_take P_law_take (defScope s_law_take) := ⟨rfl, rfl, rfl, by decide +kernel, rfl, by decide +kernel, by decide +kernel⟩
abbrev s_law_great : Stmt := topS 36
abbrev N_law_great : List Str := ["_law_pool_here", "_law_value", "_law_k"]
abbrev P_law_great : List Str := ["_law_pool_here"]
theorem sc_law_great : FnScope N_law_great P_law_great (defScope s_law_great) := ⟨rfl, rfl, rfl, by decide +kernel, rfl, by decide +kernel, by decide +kernel⟩
abbrev s_law_net : Stmt := topS 37
abbrev N_law_net : List Str := ["_law_pool_here", "_law_most", "_law_n", "_law_rows", "_law_total", "_law_k", "_law_low", "_law_high", "_law_room"]
abbrev P_law_net : List Str := ["_law_pool_here", "_law_most"]
theorem sc_law_net : FnScope N_law_net P_law_net (defScope s_law_net) := ⟨rfl, rfl, rfl, by decide +kernel, rfl, by decide +kernel, by decide +kernel⟩
abbrev s_law_int : Stmt := topS 38
abbrev N_law_int : List Str := ["_law_value"]
abbrev P_law_int : List Str := ["_law_value"]
theorem sc_law_int : FnScope N_law_int P_law_int (defScope s_law_int) := ⟨rfl, rfl, rfl, by decide +kernel, rfl, by decide +kernel, by decide +kernel⟩
abbrev s_law_row : Stmt := topS 39
abbrev N_law_row : List Str := ["_law_got", "_law_due", "_law_x"]
abbrev P_law_row : List Str := ["_law_got", "_law_due"]
theorem sc_law_row : FnScope N_law_row P_law_row (defScope s_law_row) := ⟨rfl, rfl, rfl, by decide +kernel, rfl, by decide +kernel, by decide +kernel⟩
abbrev s_law_purses : Stmt := topS 40
abbrev N_law_purses : List Str := ["_law_net_here", "_law_halves", "_law_due", "_law_k", "_law_row_here"]
abbrev P_law_purses : List Str := ["_law_net_here", "_law_halves"]
theorem sc_law_purses : FnScope N_law_purses P_law_purses (defScope s_law_purses) := ⟨rfl, rfl, rfl, by decide +kernel, rfl, by decide +kernel, by decide +kernel⟩
abbrev s_law_holds : Stmt := topS 41
abbrev N_law_holds : List Str := ["_law_net_here", "_law_h", "_law_row_here"]
abbrev P_law_holds : List Str := ["_law_net_here"]
theorem sc_law_holds : FnScope N_law_holds P_law_holds (defScope s_law_holds) := ⟨rfl, rfl, rfl, by decide +kernel, rfl, by decide +kernel, by decide +kernel⟩
abbrev s_law_checked : Stmt := topS 42
abbrev N_law_checked : List Str := ["_law_net_here", "_law_halves", "_law_named", "_law_due", "_law_k", "_law_back", "_law_holds_here", "_law_h", "_law_rest", "_law_got", "_law_ends", "_law_told", "_law_row_here"]
abbrev P_law_checked : List Str := ["_law_net_here", "_law_halves", "_law_named"]
theorem sc_law_checked : FnScope N_law_checked P_law_checked (defScope s_law_checked) := ⟨rfl, rfl, rfl, by decide +kernel, rfl, by decide +kernel, by decide +kernel⟩
abbrev s_law_listed : Stmt := topS 43
abbrev N_law_listed : List Str := ["_law_net_here", "_law_total", "_law_got", "_law_halves", "_law_at_place", "_law_k"]
abbrev P_law_listed : List Str := ["_law_net_here", "_law_total"]
theorem sc_law_listed : FnScope N_law_listed P_law_listed (defScope s_law_listed) := ⟨rfl, rfl, rfl, by decide +kernel, rfl, by decide +kernel, by decide +kernel⟩
abbrev s_law_turns : Stmt := topS 44
abbrev N_law_turns : List Str := ["_law_net_here", "_law_got", "_law_small", "_law_told", "_law_k", "_law_a", "_law_spot", "_law_b"]
abbrev P_law_turns : List Str := ["_law_net_here", "_law_got"]
theorem sc_law_turns : FnScope N_law_turns P_law_turns (defScope s_law_turns) := ⟨rfl, rfl, rfl, by decide +kernel, rfl, by decide +kernel, by decide +kernel⟩
abbrev s_law_deed : Stmt := topS 45
abbrev N_law_deed : List Str := ["_law_deed_here", "_law_row_here"]
abbrev P_law_deed : List Str := ["_law_deed_here", "_law_row_here"]
theorem sc_law_deed : FnScope N_law_deed P_law_deed (defScope s_law_deed) := ⟨rfl, rfl, rfl, by decide +kernel, rfl, by decide +kernel, by decide +kernel⟩
abbrev s_law_kin : Stmt := topS 46
abbrev N_law_kin : List Str := ["_law_e", "_law_due", "_law_kin_here"]
abbrev P_law_kin : List Str := ["_law_e", "_law_due"]
theorem sc_law_kin : FnScope N_law_kin P_law_kin (defScope s_law_kin) := ⟨rfl, rfl, rfl, by decide +kernel, rfl, by decide +kernel, by decide +kernel⟩
abbrev s_law_refused : Stmt := topS 47
abbrev N_law_refused : List Str := ["_law_deed_here", "_law_row_here", "_law_due", "_law_e"]
abbrev P_law_refused : List Str := ["_law_deed_here", "_law_row_here", "_law_due"]
theorem sc_law_refused : FnScope N_law_refused P_law_refused (defScope s_law_refused) := ⟨rfl, rfl, rfl, by decide +kernel, rfl, by decide +kernel, by decide +kernel⟩
abbrev s_law_bad_split : Stmt := topS 48
abbrev N_law_bad_split : List Str := ["_law_net_here", "_law_value", "_law_good"]
abbrev P_law_bad_split : List Str := ["_law_net_here", "_law_value"]
theorem sc_law_bad_split : FnScope N_law_bad_split P_law_bad_split (defScope s_law_bad_split) := ⟨rfl, rfl, rfl, by decide +kernel, rfl, by decide +kernel, by decide +kernel⟩
abbrev s_law_refusals : Stmt := topS 49
abbrev N_law_refusals : List Str := ["_law_pool_here", "_law_net_here", "_law_halves", "_law_bad", "_law_p", "_law_value", "_law_holds_here"]
abbrev P_law_refusals : List Str := ["_law_pool_here", "_law_net_here", "_law_halves"]
theorem sc_law_refusals : FnScope N_law_refusals P_law_refusals (defScope s_law_refusals) := ⟨rfl, rfl, rfl, by decide +kernel, rfl, by decide +kernel, by decide +kernel⟩
abbrev s_law_goal : Stmt := topS 50
abbrev N_law_goal : List Str := ["_law_net_here", "_law_begin", "_law_row_here", "_law_met", "_law_now", "_law_k"]
abbrev P_law_goal : List Str := ["_law_net_here", "_law_begin", "_law_row_here"]
theorem sc_law_goal : FnScope N_law_goal P_law_goal (defScope s_law_goal) := ⟨rfl, rfl, rfl, by decide +kernel, rfl, by decide +kernel, by decide +kernel⟩
abbrev s_law_truth : Stmt := topS 51
abbrev N_law_truth : List Str := ["_law_got", "_law_due"]
abbrev P_law_truth : List Str := ["_law_got", "_law_due"]
theorem sc_law_truth : FnScope N_law_truth P_law_truth (defScope s_law_truth) := ⟨rfl, rfl, rfl, by decide +kernel, rfl, by decide +kernel, by decide +kernel⟩
abbrev s_law_asked : Stmt := topS 52
abbrev N_law_asked : List Str := ["_law_net_here", "_law_a", "_law_b", "_law_row_here", "_law_named", "_law_goal_here", "_law_ring_now"]
abbrev P_law_asked : List Str := ["_law_net_here", "_law_a", "_law_b", "_law_row_here", "_law_named"]
theorem sc_law_asked : FnScope N_law_asked P_law_asked (defScope s_law_asked) := ⟨rfl, rfl, rfl, by decide +kernel, rfl, by decide +kernel, by decide +kernel⟩
abbrev s_law_walk : Stmt := topS 53
abbrev N_law_walk : List Str := ["_law_pool_here", "_law_net_here", "_law_begin", "_law_row_here", "_law_now", "_law_lap", "_law_ways_here", "_law_k", "_law_fresh"]
abbrev P_law_walk : List Str := ["_law_pool_here", "_law_net_here", "_law_begin"]
theorem sc_law_walk : FnScope N_law_walk P_law_walk (defScope s_law_walk) := ⟨rfl, rfl, rfl, by decide +kernel, rfl, by decide +kernel, by decide +kernel⟩
abbrev s_law_led : Stmt := topS 54
abbrev N_law_led : List Str := ["_law_net_here", "_law_halves", "_law_begin", "_law_row_here", "_law_many_coins", "_law_after", "_law_now", "_law_k"]
abbrev P_law_led : List Str := ["_law_net_here", "_law_halves", "_law_begin", "_law_row_here", "_law_many_coins"]
theorem sc_law_led : FnScope N_law_led P_law_led (defScope s_law_led) := ⟨rfl, rfl, rfl, by decide +kernel, rfl, by decide +kernel, by decide +kernel⟩
abbrev s_law_least : Stmt := topS 55
abbrev N_law_least : List Str := ["_law_net_here", "_law_halves", "_law_begin", "_law_row_here", "_law_least_here", "_law_now", "_law_k"]
abbrev P_law_least : List Str := ["_law_net_here", "_law_halves", "_law_begin", "_law_row_here"]
theorem sc_law_least : FnScope N_law_least P_law_least (defScope s_law_least) := ⟨rfl, rfl, rfl, by decide +kernel, rfl, by decide +kernel, by decide +kernel⟩
abbrev s_law_lead : Stmt := topS 56
abbrev N_law_lead : List Str := ["_law_net_here", "_law_halves", "_law_begin", "_law_row_here", "_law_many_coins", "_law_named", "_law_goal_here", "_law_fault", "_law_due", "_law_got", "_law_e"]
abbrev P_law_lead : List Str := ["_law_net_here", "_law_halves", "_law_begin", "_law_row_here", "_law_many_coins", "_law_named"]
theorem sc_law_lead : FnScope N_law_lead P_law_lead (defScope s_law_lead) := ⟨rfl, rfl, rfl, by decide +kernel, rfl, by decide +kernel, by decide +kernel⟩
abbrev s_law_ways : Stmt := topS 57
abbrev N_law_ways : List Str := ["_law_pool_here", "_law_net_here", "_law_n", "_law_m", "_law_row_here", "_law_halves", "_law_named", "_law_a", "_law_b", "_law_odd", "_law_k", "_law_walks", "_law_most", "_law_coins_now", "_law_begin", "_law_value", "_law_good", "_law_i"]
abbrev P_law_ways : List Str := ["_law_pool_here"]
theorem sc_law_ways : FnScope N_law_ways P_law_ways (defScope s_law_ways) := ⟨rfl, rfl, rfl, by decide +kernel, rfl, by decide +kernel, by decide +kernel⟩
abbrev s_law : Stmt := topS 58
abbrev N_law : List Str := ["_law_script", "_law_pool_here", "_law_scene", "_law_most", "_law_net_here", "_law_named", "_law_total", "_law_row_here", "_law_got", "_law_pace", "_law_begin", "_law_k", "_law_halves", "_law_holds_here", "_law_any_row", "_law_x", "_law_h"]
abbrev P_law : List Str := ["_law_script"]
theorem sc_law : FnScope N_law P_law (defScope s_law) := ⟨rfl, rfl, rfl, by decide +kernel, rfl, by decide +kernel, by decide +kernel⟩
/-- the built-ins that the text calls, unbound by its top -/
structure Bi (mg : Str → Option Value) : Prop where
  isinstance : mg "isinstance" = none
  int : mg "int" = none
  bool : mg "bool" = none
  str : mg "str" = none
  tuple : mg "tuple" = none
  list : mg "list" = none
  set : mg "set" = none
  len : mg "len" = none
  zip : mg "zip" = none
  range : mg "range" = none
  enumerate : mg "enumerate" = none
  sum : mg "sum" = none
  min : mg "min" = none
  max : mg "max" = none
  valueError : mg "ValueError" = none
end HL
namespace HL
open PySem L2 DL
abbrev Row := Int × Int × Int
structure Web where
  n : Nat
  rows : List Row
structure Web.Ok (w : Web) : Prop where
  n1 : 1 ≤ w.n
  n8 : w.n ≤ 8
  r7 : w.rows.length ≤ 7
  row : ∀ r ∈ w.rows, 0 ≤ r.1 ∧ r.1 < r.2.1 ∧ r.2.1 < (w.n : Int) ∧ 1 ≤ r.2.2
def encR (r : Row) : D := .tuple [.int r.1, .int r.2.1, .int r.2.2]
def encL (rows : List Row) : D := .tuple (rows.map encR)
def encW (w : Web) : D := .tuple [.int (w.n : Nat), encL w.rows]
def encT (s : List Int) : D := .tuple (s.map .int)
def encI (s : List Int) : D := .list (s.map .int)
/-- an int that is no bool -/
def isI : D → Bool
  | .int _ => true
  | _ => false
theorem isI_eq (x : D) : (isInt x && !isBool x) = isI x := by cases x <;> rfl
theorem isI_int {x : D} (h : isI x = true) : ∃ i, x = .int i := by
  cases x with
  | int i => exact ⟨i, rfl⟩
  | _ => cases h
/-- a number -/
def isN : D → Bool
  | .int i => decide (0 ≤ i)
  | _ => false
theorem isN_int {x : D} (h : isN x = true) : ∃ i : Int, x = .int i ∧ 0 ≤ i := by
  cases x with
  | int i => exact ⟨i, rfl, of_decide_eq_true h⟩
  | _ => cases h
theorem isTup_tup {x : D} (h : isTup x = true) : ∃ ds, x = .tuple ds := by
  cases x with
  | tuple ds => exact ⟨ds, rfl⟩
  | _ => cases h
/-- a house of n -/
def isH (n : Nat) : D → Bool
  | .int i => decide (0 ≤ i) && decide (i < (n : Int))
  | _ => false
theorem isH_int {n : Nat} {x : D} (h : isH n x = true) : ∃ i : Int, x = .int i ∧ 0 ≤ i ∧ i < n := by
  cases x with
  | int i =>
    have := (Bool.and_eq_true_iff.mp h)
    exact ⟨i, rfl, of_decide_eq_true this.1, of_decide_eq_true this.2⟩
  | _ => cases h
/-- between 0 and the room -/
def okN (r : Row) : D → Bool
  | .int i => decide (0 ≤ i) && decide (i ≤ r.2.2)
  | _ => false
def isSplit (rows : List Row) : D → Bool
  | .tuple ds => decide (ds.length = rows.length) && (rows.zip ds).all fun p => okN p.1 p.2
  | _ => false
def Sok (rows : List Row) (s : List Int) : Prop := s.length = rows.length ∧ ∀ p ∈ rows.zip s, 0 ≤ p.2 ∧ p.2 ≤ p.1.2.2
theorem isSplit_of : ∀ {rows : List Row} {ds : List D}, ds.length = rows.length → ((rows.zip ds).all fun p => okN p.1 p.2) = true → ∃ s, ds = s.map .int ∧ Sok rows s
  | [], [], _, _ => ⟨[], rfl, rfl, by simp⟩
  | [], _ :: _, h, _ => by simp at h
  | _ :: _, [], h, _ => by simp at h
  | r :: rows, d :: ds, h, h2 => by
    simp only [List.zip_cons_cons, List.all_cons, Bool.and_eq_true] at h2
    obtain ⟨s, rfl, h3, h4⟩ := isSplit_of (rows := rows) (ds := ds) (by simpa using h) h2.2
    cases d with
    | int i =>
      have h5 := Bool.and_eq_true_iff.mp h2.1
      refine ⟨i :: s, rfl, by simp [h3], fun p hp => ?_⟩
      rw [List.zip_cons_cons] at hp
      rcases List.mem_cons.mp hp with rfl | hp
      · exact ⟨of_decide_eq_true h5.1, of_decide_eq_true h5.2⟩
      · exact h4 p hp
    | _ => cases h2.1
theorem isSplit_iff {rows : List Row} {x : D} : isSplit rows x = true ↔ ∃ s, x = encT s ∧ Sok rows s := by
  constructor
  · intro h
    cases x with
    | tuple ds =>
      have h' := Bool.and_eq_true_iff.mp h
      obtain ⟨s, rfl, hs⟩ := isSplit_of (of_decide_eq_true h'.1) h'.2
      exact ⟨s, rfl, hs⟩
    | _ => cases h
  · rintro ⟨s, rfl, h1, h2⟩
    refine Bool.and_eq_true_iff.mpr ⟨decide_eq_true (by simp [h1]), ?_⟩
    rw [List.zip_map_right, List.all_map, List.all_eq_true]
    intro p hp
    obtain ⟨a, b⟩ := h2 p hp
    exact Bool.and_eq_true_iff.mpr ⟨decide_eq_true a, decide_eq_true b⟩
/-- a tuple of n numbers -/
def isPurses (n : Nat) : D → Bool
  | .tuple ds => decide (ds.length = n) && ds.all isN
  | _ => false
theorem allN {ds : List D} (h : ds.all isN = true) : ∃ s : List Int, ds = s.map .int ∧ ∀ x ∈ s, 0 ≤ x := by
  induction ds with
  | nil => exact ⟨[], rfl, by simp⟩
  | cons d ds ih =>
    rw [List.all_cons, Bool.and_eq_true] at h
    obtain ⟨i, rfl, hi⟩ := isN_int h.1
    obtain ⟨s, rfl, hs⟩ := ih h.2
    exact ⟨i :: s, rfl, fun x hx => (List.mem_cons.mp hx).elim (fun e => by rw [e]; exact hi) (hs x)⟩
theorem isPurses_iff {n : Nat} {x : D} : isPurses n x = true ↔ ∃ s, x = encT s ∧ s.length = n ∧ ∀ y ∈ s, 0 ≤ y := by
  constructor
  · intro h
    cases x with
    | tuple ds =>
      have h' := Bool.and_eq_true_iff.mp h
      obtain ⟨s, rfl, hs⟩ := allN h'.2
      exact ⟨s, rfl, by simpa using of_decide_eq_true h'.1, hs⟩
    | _ => cases h
  · rintro ⟨s, rfl, h1, h2⟩
    refine Bool.and_eq_true_iff.mpr ⟨decide_eq_true (by simp [h1]), ?_⟩
    rw [List.all_map, List.all_eq_true]
    exact fun y hy => decide_eq_true (h2 y hy)
/-! ### purses, holds, ends -/
def addAt (xs : List Int) (i v : Int) : List Int := xs.set i.toNat (xs.getD i.toNat 0 + v)
def putRow (acc : List Int) (p : Row × Int) : List Int := addAt (addAt acc p.1.1 p.2) p.1.2.1 (p.1.2.2 - p.2)
def purses (w : Web) (s : List Int) : List Int := (w.rows.zip s).foldl putRow (List.replicate w.n 0)
def end1 (h : Int) (p : Row × Int) : Int := if p.1.1 = h then p.2 else if p.1.2.1 = h then p.1.2.2 - p.2 else 0
def endsAt (w : Web) (s : List Int) (h : Int) : List Int := (w.rows.zip s).map (end1 h)
def over (w : Web) (s : List Int) : List Int := (w.rows.zip s).map fun p => p.1.2.2 - p.2
def incid (h : Int) (r : Row) : Bool := decide (h ∈ [r.1, r.2.1])
def hold (w : Web) (h : Int) : Int := ((w.rows.filter (incid h)).map fun r => r.2.2).sum
theorem addAt_len (xs : List Int) (i v : Int) : (addAt xs i v).length = xs.length := by simp [addAt]
theorem putRow_len (acc : List Int) (p : Row × Int) : (putRow acc p).length = acc.length := by simp [putRow, addAt_len]
theorem foldP_len (l : List (Row × Int)) : ∀ acc : List Int, (l.foldl putRow acc).length = acc.length := by
  induction l with
  | nil => intro _; rfl
  | cons p l ih => intro acc; rw [List.foldl_cons, ih, putRow_len]
theorem purses_len (w : Web) (s : List Int) : (purses w s).length = w.n := by simp [purses, foldP_len]
end HL
namespace HL
open PySem PySem.Spec PyProof.Rows L2 DL
/-! ### promises -/
def is (d : D) : D → Prop := fun x => x = d
def er (b : Bool) (w : Str) : Str → Prop := fun x => b = true ∧ x = w
abbrev T_is_integer : DL.Tm := fun ds r e => ∃ x, ds = [x] ∧ r = is (.bool (isI x)) ∧ e = noE
abbrev T_is_number : DL.Tm := fun ds r e => ∃ x, ds = [x] ∧ r = is (.bool (isN x)) ∧ e = noE
abbrev T_is_split : DL.Tm := fun ds r e => ∃ w x, w.Ok ∧ ds = [encW w, x] ∧ r = is (.bool (isSplit w.rows x)) ∧ e = noE
abbrev T_is_purses : DL.Tm := fun ds r e => ∃ (n : Nat) (x : D), ds = [.int (n : Nat), x] ∧ r = is (.bool (isPurses n x)) ∧ e = noE
abbrev T_need : DL.Tm := fun ds r e => ∃ b w, ds = [.bool b, .str w] ∧ r = (fun d => b = true ∧ d = .none) ∧ e = er (!b) w
abbrev T_need_house : DL.Tm := fun ds r e => ∃ w x nm, ds = [encW w, x, .str nm] ∧ r = (fun d => isH w.n x = true ∧ d = .none) ∧ e = er (!isH w.n x) nm
/-- the class NotUsable -/
structure Nu (P : Program) (w : World) (K : PySem.W.Frag) (mg : Str → Option Value) (base : Heap) (C : Addr) : Prop where
  g : mg "NotUsable" = some (.ref C)
  oex : OexC K C
  word : PySem.W.findIn K (.ref C) "word" = some none
  at_ : PySem.W.findIn K (.ref C) "at" = some none
  init : ∃ fI fd, PySem.W.findIn K (.ref C) "__init__" = some (some (.ref fI)) ∧ PySem.W.typeIn K (.ref fI) = some (.type "function") ∧ Binds K fd ["self", "word", "at"] [] ∧
    FunD K "__init__" "NotUsable.__init__" (defArgs (((match topS 4 with | .ClassDef _ _ _ b .. => b | _ => []) : List Stmt).getD 0 (.Pass ⟨0, 0, 0, 0⟩))) (defBody (((match topS 4 with | .ClassDef _ _ _ b .. => b | _ => []) : List Stmt).getD 0 (.Pass ⟨0, 0, 0, 0⟩))) (defScope (((match topS 4 with | .ClassDef _ _ _ b .. => b | _ => []) : List Stmt).getD 0 (.Pass ⟨0, 0, 0, 0⟩))) [] [] fI fd
def spInit (C : Addr) : Sp := fun vs H Q _ => ∃ (a : Addr) (w : Str), vs = [.ref a, .str w, .int (-1)] ∧ H a = some (exo a C none) ∧
  ∀ d, H d = none → d ≠ a → Q .non (upd (upd (upd H d (exd d [("word", .str w)])) a (exo a C (some d))) d (exd d [("at", .int (-1)), ("word", .str w)]))
section
variable {X : Cx} {C : Addr} {Γ : Gm X C} {e : Expr} {ρ : Rho}
/-- first what it reads, then what to do with it -/
theorem de_is (d0 : D) {k : D → Rho → Prop} (h : DE Γ e ρ (fun d ρ1 => d = d0 ∧ ρ1 = ρ)) (hk : k d0 ρ) : DE Γ e ρ k := h.mono (by rintro d ρ1 ⟨rfl, rfl⟩; exact hk)
theorem dt_is (b0 : Bool) {k : Bool → Rho → Prop} (h : DT Γ e ρ (fun d ρ1 => d = b0 ∧ ρ1 = ρ)) (hk : k b0 ρ) : DT Γ e ρ k := .mk fun pins s σ H G Q I eo hq => h.run pins s σ H G Q I eo (by rintro d ρ1 H' G' ⟨rfl, rfl⟩ e x; exact hq _ _ _ _ hk e x)
theorem ct_if {scope : Scope} {tg elt c : Expr} {vs : List Nat} {d : D} {yes : D → Rho → Prop} {no : Rho → Prop} {ρ3 : Rho} (b : Bool) (h1 : Blk X C scope (fun X' Γ' => DG Γ' tg vs d ρ (fun ρ' => ρ' = ρ3))) (h2 : Blk X C scope (fun X' Γ' => DT Γ' c ρ3 (fun b' ρ' => b' = b ∧ ρ' = ρ3)))
    (h3 : b = true → Blk X C scope (fun X' Γ' => DE Γ' elt ρ3 yes)) (h4 : b = false → no ρ3) : CTurn X C scope tg elt [c] vs d ρ yes no := ⟨⟨ρ3, h1, .inr ⟨c, b, ρ3, rfl, h2, h3, h4⟩⟩⟩
theorem ct_map {scope : Scope} {tg elt : Expr} {vs : List Nat} {d : D} {yes : D → Rho → Prop} {no : Rho → Prop} {ρ3 : Rho} (h1 : Blk X C scope (fun X' Γ' => DG Γ' tg vs d ρ (fun ρ' => ρ' = ρ3)))
    (h3 : Blk X C scope (fun X' Γ' => DE Γ' elt ρ3 yes)) : CTurn X C scope tg elt [] vs d ρ yes no := ⟨⟨ρ3, h1, .inl ⟨rfl, h3⟩⟩⟩
end
section
variable {P : Program} {w : World} {K : PySem.W.Frag} {mg : Str → Option Value} {base : Heap} {f C : Addr} {fd : FuncData}
abbrev s_init : Stmt := ((match topS 4 with | .ClassDef _ _ _ b .. => b | _ => []) : List Stmt).getD 0 (.Pass ⟨0, 0, 0, 0⟩)
theorem sc_init : FnScope ["self", "word", "at"] ["self", "word", "at"] (defScope s_init) := ⟨rfl, rfl, rfl, by decide +kernel, rfl, by decide +kernel, by decide +kernel⟩
theorem ok_init (U : Nu P w K mg base C) {fI : Addr} (F : FunD K "__init__" "NotUsable.__init__" (defArgs s_init) (defBody s_init) (defScope s_init) [] [] fI fd) : FnOk P w K mg base (L2.CX P w) 1 fI fd ["self", "word", "at"] (spInit C) := by
  refine F.ok sc_init (fun vs H Q E h => ?_) (fun cdv A outer s H vs Q E hr h => ?_)
  · obtain ⟨a, w, rfl, _⟩ := h; rfl
  · obtain ⟨a, w', rfl, ha, h⟩ := h
    refine ⟨_, pss_cons (ps_ost (te := tVar 1) (to := tVar 0) (pe_var (by rfl) (Or.inl rfl) (by decide) (by decide)) (pe_var (by rfl) (Or.inl rfl) (by decide) (by decide)))
      (pss_one (ps_ost (te := tVar 2) (to := tVar 0) (pe_var (by rfl) (Or.inl rfl) (by decide) (by decide)) (pe_var (by rfl) (Or.inl rfl) (by decide) (by decide)))), ?_⟩
    refine ⟨_, rfl, _, rfl, a, C, rfl, U.oex, U.word, .inl ⟨ha, fun dx h1 h2 => ?_⟩⟩
    refine ⟨_, rfl, _, rfl, a, C, rfl, U.oex, U.at_, .inr ⟨dx, [("word", .str w')], upd_same, ?_, Nat.le_of_ble_eq_true rfl, ?_⟩⟩
    · rw [upd_ne h2]; exact upd_same
    · exact h dx h1 h2
/-- raise NotUsable(e, -1) -/
theorem ds_raiseN {X : Cx} {Γ : Gm X C} {a b : Expr} {ρ : Rho} {Po : Post} {p pos pos2 : Pos} (U : Nu X.prog X.w X.K X.mg X.base C) (hr : Room 2 X.A) (hc : X.calm = true)
    (h : DA Γ [a, b] ρ (fun ds ρ1 => ∃ w, ds = [.str w, .int (-1)] ∧ Γ.err w ρ1)) (hg : Gl X "NotUsable" := by rfl)
    (he : starEach [a, b] X.env = (false, eval a X.env) :: starEach [b] X.env := by rfl) (hpl : (backTo pos (starEach [b] X.env)).any (·.1) = false := by rfl) :
    DS Γ (.Raise (some (.Call (.Name "NotUsable" p) [a, b] [] pos)) none pos2) ρ Po := by
  obtain ⟨fI, fd, i1, i2, i3, F⟩ := U.init
  refine ds_of (ps_raise hc Γ.tk (pmk_oex U.oex i1 i2 (ok_init U F) hr i3 .nil (fun pins σ H s e s' I x => passL pins σ H s e s' I x) hg U.g (pa_U Γ _) (by decide) he hpl)) fun σ H G Dd eo hd => ?_
  refine ⟨ρ, G, _, h, eo, fun ds ρ1 vs H1 G1 ⟨w, e1, e2⟩ eo1 ex1 rs => ?_⟩
  subst e1
  obtain ⟨u, v, rfl, ru, rv⟩ := rs.du
  cases ru; cases rv
  refine ⟨Nat.le_of_ble_eq_true rfl, fun x hx => ⟨x, w, rfl, upd_same, fun d h1 h2 => ⟨rfl, d, _, ?_, upd_same, ?_, ?_⟩⟩⟩
  · rw [upd_ne (Ne.symm h2)]; exact upd_same
  · rw [upd_ne h2] at h1; exact h1
  · rw [upd_ne h2] at h1
    refine Γ.hE w d ρ1 σ _ G1 e2 (eo1.stay fun b o hb => ?_) upd_same
    have n1 : b ≠ d := fun z => by rw [z, h1] at hb; cases hb
    have n2 : b ≠ x := fun z => by rw [z, hx] at hb; cases hb
    rw [upd_ne n1, L2.del_ne n2, upd_ne n1, upd_ne n2, upd_ne n1, upd_ne n2]
    exact hb
/-! ### the defs -/
theorem ok_is_integer (B : Bi mg) (F : FnP K "is_integer" s_is_integer f fd) : FnOk P w K mg base (L2.CX P w) 1 f fd P_is_integer (spT C T_is_integer) := by
  refine fn_ok F sc_is_integer (by rintro _ _ _ ⟨x, rfl, _⟩; rfl) fun cdv A outer s H E Γ hr ds r e hT _ => ?_
  obtain ⟨x, rfl, rfl, rfl⟩ := hT
  refine dss_one (ds_ret (de_and (de_isiI B.isinstance B.int (de_name 0 rfl ?_))))
  refine ⟨_, rfl, fun h => de_one (de_not (de_isiB B.isinstance B.bool (de_name 0 rfl ⟨_, rfl, ?_⟩))), fun h => ?_⟩
  · show PyData.bool (!isBool x) = .bool (isI x)
    rw [← isI_eq, h]; rfl
  · show PyData.bool false = .bool (isI x)
    rw [← isI_eq, h]; rfl
theorem ok_is_number (L : Df P w K mg base "is_integer" P_is_integer 1 (spT C T_is_integer)) (F : FnP K "is_number" s_is_number f fd) : FnOk P w K mg base (L2.CX P w) 2 f fd P_is_number (spT C T_is_number) := by
  refine fn_ok F sc_is_number (by rintro _ _ _ ⟨x, rfl, _⟩; rfl) fun cdv A outer s H E Γ hr ds r e hT _ => ?_
  obtain ⟨x, rfl, rfl, rfl⟩ := hT
  refine dss_one (ds_ret (de_and (de_call L hr (da_one (de_name 0 rfl ⟨_, _, ⟨x, rfl, rfl, rfl⟩, fun _ h => h.elim, ?_⟩)))))
  rintro d rfl
  refine ⟨_, rfl, fun h => ?_, fun h => ?_⟩
  · obtain ⟨i, rfl⟩ := isI_int h
    exact de_one (de_ge (de_name 0 rfl (de_int ⟨_, _, rfl, rfl, rfl⟩)))
  · cases x <;> first | rfl | cases h
theorem ok_need (U : Nu P w K mg base C) (F : FnP K "need" s_need f fd) : FnOk P w K mg base (L2.CX P w) 3 f fd P_need (spT C T_need) := by
  refine fn_ok F sc_need (by rintro _ _ _ ⟨x, _, rfl, _⟩; rfl) fun cdv A outer s H E Γ hr ds r e hT herr => ?_
  obtain ⟨b, nm, rfl, rfl, rfl⟩ := hT
  refine dss_one (ds_if (dt_not (dt_val (de_name 0 rfl ⟨b, rfl, fun h => ?_, fun h => ?_⟩))))
  · refine dss_one (ds_raiseN U hr rfl (da_cons (de_name 1 rfl (da_one (de_neg (de_int ⟨_, rfl, nm, rfl, herr _ _ ⟨h, rfl⟩⟩))))))
  · exact dss_nil ⟨by cases b <;> simp_all, rfl⟩
theorem ok_need_house (Ln : Df P w K mg base "is_number" P_is_number 2 (spT C T_is_number)) (Lq : Df P w K mg base "need" P_need 3 (spT C T_need)) (F : FnP K "need_house" s_need_house f fd) : FnOk P w K mg base (L2.CX P w) 4 f fd P_need_house (spT C T_need_house) := by
  refine fn_ok F sc_need_house (by rintro _ _ _ ⟨x, _, _, rfl, _⟩; rfl) fun cdv A outer s H E Γ hr ds r e hT herr => ?_
  obtain ⟨w, x, nm, rfl, rfl, rfl⟩ := hT
  refine dss_one (ds_expr (de_call Lq hr (da_cons (de_is (.bool (isH w.n x)) ?_ ?_))))
  · refine de_and (de_call Ln (hr.mono (by decide)) (da_one (de_name 1 rfl ⟨_, _, ⟨x, rfl, rfl, rfl⟩, fun _ h => h.elim, ?_⟩)))
    rintro d rfl
    refine ⟨_, rfl, fun h => ?_, fun h => ⟨?_, rfl⟩⟩
    · obtain ⟨i, rfl, hi⟩ := isN_int h
      refine de_one (de_lt (de_name 1 rfl (de_ixT (de_name 0 rfl (de_int ⟨_, _, _, rfl, rfl, rfl, i, _, rfl, rfl, ?_, rfl⟩)))))
      show PyData.bool (decide (i < (w.n : Int))) = .bool (decide (0 ≤ i) && decide (i < (w.n : Int)))
      rw [decide_eq_true hi, Bool.true_and]
    · cases x with
      | int i => show PyData.bool false = .bool (decide (0 ≤ i) && _); rw [show decide (0 ≤ i) = false from h]; rfl
      | _ => rfl
  · exact da_one (de_name 2 rfl ⟨_, _, ⟨_, nm, rfl, rfl, rfl⟩, fun w' h => herr _ _ h, fun d h => ⟨h.1, rfl⟩⟩)
end
end HL
namespace HL
open PySem PySem.Spec PyProof.Rows L2 DL
/-! ### reading at a place -/
theorem ix_of {n : Nat} {i : Int} (h0 : 0 ≤ i) (h1 : i < n) : ixN n i = some i.toNat := by unfold ixN; rw [if_pos h0, if_pos h1]
theorem at_of {α : Type} {xs : List α} {i : Int} {a : α} (h0 : 0 ≤ i) (h : xs[i.toNat]? = some a) : atI xs i = some a := by
  have h1 := (List.getElem?_eq_some_iff.mp h).1
  unfold atI; rw [ix_of h0 (by omega)]; exact h
theorem at_last {α : Type} {xs : List α} {a : α} (h : xs[xs.length - 1]? = some a) : atI xs (-1) = some a := by
  have h1 := (List.getElem?_eq_some_iff.mp h).1
  have e : ixN xs.length (-1) = some (xs.length - 1) := by
    unfold ixN; rw [if_neg (by omega), if_pos (by omega)]; congr 1; omega
  unfold atI; rw [e]; exact h
section
variable {X : Cx} {C : Addr} {Γ : Gm X C} {ρ : Rho} {pos p p2 : Pos} {k : D → Rho → Prop} {x : Str}
theorem de_w0 (i : Nat) {w : Web} {j : Nat} (h : ρ[i]? = some (some (.im (encW w)))) (hk : k (.int (w.n : Nat)) ρ) (hN : X.N[i]? = some x := by rfl) (hv : Vis X.env.scope x := by first | exact Or.inl rfl | exact Or.inr (Or.inl rfl) | exact Or.inr (Or.inr rfl))
    (hd : (x == ("__debug__" : Str)) = false := by decide) (hcd : (x == ("__classdict__" : Str)) = false := by decide) : DE Γ (.Subscript (.Name x p) (.Constant (.int 0) j p2) pos) ρ k :=
  de_ixT (de_name i h (de_int ⟨_, _, _, rfl, rfl, rfl, hk⟩) hN hv hd hcd)
theorem de_w1 (i : Nat) {w : Web} {j : Nat} (h : ρ[i]? = some (some (.im (encW w)))) (hk : k (encL w.rows) ρ) (hN : X.N[i]? = some x := by rfl) (hv : Vis X.env.scope x := by first | exact Or.inl rfl | exact Or.inr (Or.inl rfl) | exact Or.inr (Or.inr rfl))
    (hd : (x == ("__debug__" : Str)) = false := by decide) (hcd : (x == ("__classdict__" : Str)) = false := by decide) : DE Γ (.Subscript (.Name x p) (.Constant (.int 1) j p2) pos) ρ k :=
  de_ixT (de_name i h (de_int ⟨_, _, _, rfl, rfl, rfl, hk⟩) hN hv hd hcd)
theorem de_r0 (i : Nat) {r : Row} {j : Nat} (h : ρ[i]? = some (some (.im (encR r)))) (hk : k (.int r.1) ρ) (hN : X.N[i]? = some x := by rfl) (hv : Vis X.env.scope x := by first | exact Or.inl rfl | exact Or.inr (Or.inl rfl) | exact Or.inr (Or.inr rfl))
    (hd : (x == ("__debug__" : Str)) = false := by decide) (hcd : (x == ("__classdict__" : Str)) = false := by decide) : DE Γ (.Subscript (.Name x p) (.Constant (.int 0) j p2) pos) ρ k :=
  de_ixT (de_name i h (de_int ⟨_, _, _, rfl, rfl, rfl, hk⟩) hN hv hd hcd)
theorem de_r1 (i : Nat) {r : Row} {j : Nat} (h : ρ[i]? = some (some (.im (encR r)))) (hk : k (.int r.2.1) ρ) (hN : X.N[i]? = some x := by rfl) (hv : Vis X.env.scope x := by first | exact Or.inl rfl | exact Or.inr (Or.inl rfl) | exact Or.inr (Or.inr rfl))
    (hd : (x == ("__debug__" : Str)) = false := by decide) (hcd : (x == ("__classdict__" : Str)) = false := by decide) : DE Γ (.Subscript (.Name x p) (.Constant (.int 1) j p2) pos) ρ k :=
  de_ixT (de_name i h (de_int ⟨_, _, _, rfl, rfl, rfl, hk⟩) hN hv hd hcd)
theorem de_r2 (i : Nat) {r : Row} {j : Nat} (h : ρ[i]? = some (some (.im (encR r)))) (hk : k (.int r.2.2) ρ) (hN : X.N[i]? = some x := by rfl) (hv : Vis X.env.scope x := by first | exact Or.inl rfl | exact Or.inr (Or.inl rfl) | exact Or.inr (Or.inr rfl))
    (hd : (x == ("__debug__" : Str)) = false := by decide) (hcd : (x == ("__classdict__" : Str)) = false := by decide) : DE Γ (.Subscript (.Name x p) (.Constant (.int 2) j p2) pos) ρ k :=
  de_ixT (de_name i h (de_int ⟨_, _, _, rfl, rfl, rfl, hk⟩) hN hv hd hcd)
end
/-! ### lists -/
theorem pairs_at {rows : List Row} {ds : List D} {i : Nat} {d : D} (h : (pairs (rows.map encR) ds)[i]? = some d) : ∃ r x, (rows.zip ds)[i]? = some (r, x) ∧ d = .tuple [encR r, x] := by
  unfold pairs at h
  rw [List.getElem?_map, Option.map_eq_some_iff] at h
  obtain ⟨⟨a, x'⟩, h1, h2⟩ := h
  rw [List.zip_map_left, List.getElem?_map, Option.map_eq_some_iff] at h1
  obtain ⟨⟨r, y⟩, h3, h4⟩ := h1
  cases h4
  exact ⟨_, _, h3, h2.symm⟩
theorem pairs_atI {rows : List Row} {s : List Int} {i : Nat} {d : D} (h : (pairs (rows.map encR) (s.map .int))[i]? = some d) : ∃ r x, (rows.zip s)[i]? = some (r, x) ∧ d = .tuple [encR r, .int x] := by
  obtain ⟨r, x, h1, h2⟩ := pairs_at h
  rw [List.zip_map_right, List.getElem?_map, Option.map_eq_some_iff] at h1
  obtain ⟨⟨r', y⟩, h3, h4⟩ := h1
  cases h4
  exact ⟨_, y, h3, h2⟩
theorem pairs_len {rows : List Row} {ds : List D} (h : ds.length = rows.length) : (pairs (rows.map encR) ds).length = (rows.zip ds).length := by simp [pairs]
theorem take_next {α : Type} {l : List α} {i : Nat} {a : α} (h : l[i]? = some a) : l.take (i + 1) = l.take i ++ [a] := by
  rw [List.take_succ, h]; rfl
theorem all_next {α : Type} {l : List α} {i : Nat} {a : α} {f : α → Bool} (h : l[i]? = some a) (h1 : (l.take i).all f = true) (h2 : f a = true) : (l.take (i + 1)).all f = true := by
  rw [take_next h, List.all_append, h1, List.all_cons, h2]; rfl
theorem all_no {α : Type} {l : List α} {i : Nat} {a : α} {f : α → Bool} (h : l[i]? = some a) (h2 : f a = false) : l.all f = false :=
  List.all_eq_false.mpr ⟨a, List.mem_of_getElem? h, by rw [h2]; exact Bool.false_ne_true⟩
section
variable {P : Program} {w : World} {K : PySem.W.Frag} {mg : Str → Option Value} {base : Heap} {f C : Addr} {fd : FuncData}
theorem ok_is_split (B : Bi mg) (Ln : Df P w K mg base "is_number" P_is_number 2 (spT C T_is_number)) (F : FnP K "is_split" s_is_split f fd) : FnOk P w K mg base (L2.CX P w) 3 f fd P_is_split (spT C T_is_split) := by
  refine fn_ok F sc_is_split (by rintro _ _ _ ⟨x, _, _, rfl, _⟩; rfl) fun cdv A outer s H E Γ hr ds r e hT herr => ?_
  obtain ⟨w, x, hw, rfl, rfl, rfl⟩ := hT
  refine dss_cons (ds_set 2 (de_w1 0 rfl ?_))
  cases hx : isTup x with
  | false =>
    refine dss_cons (ds_if (dt_bool (dw_or (dt_not (dt_val (de_isiT B.isinstance B.tuple (de_name 1 rfl ⟨_, rfl, ?_⟩)))))))
    rw [hx]
    refine ⟨fun _ => ⟨fun _ => dss_one (ds_ret (de_bl ?_)), fun h => by cases h⟩, fun h => by cases h⟩
    show PyData.bool false = .bool (isSplit w.rows x)
    cases x <;> first | rfl | cases hx
  | true =>
    obtain ⟨xs, rfl⟩ := isTup_tup hx
    refine dss_cons (ds_if (dt_bool (dw_or (dt_not (dt_val (de_isiT B.isinstance B.tuple (de_name 1 rfl ⟨_, rfl, ?_⟩)))))))
    refine ⟨fun h => (by cases h), fun _ => dw_or1 (dt_neI (de_lenT B.len (de_name 1 rfl ⟨_, rfl, de_lenT B.len (de_name 2 rfl ⟨_, rfl, _, _, rfl, rfl, fun h => ?_, fun h => ?_⟩)⟩)))⟩
    · refine dss_one (ds_ret (de_bl ?_))
      have h' : xs.length ≠ w.rows.length := fun z => of_decide_eq_true h (by rw [z, List.length_map])
      show PyData.bool false = .bool (decide (xs.length = w.rows.length) && _)
      rw [decide_eq_false h', Bool.false_and]
    · have h' : xs.length = w.rows.length := by
        have := of_decide_eq_false h
        rw [List.length_map] at this
        omega
      have e0 : isSplit w.rows (.tuple xs) = ((w.rows.zip xs).all fun p => okN p.1 p.2) := by
        show (decide (xs.length = w.rows.length) && _) = _
        rw [decide_eq_true h', Bool.true_and]
      rw [e0]
      refine dss_nil (dss_cons (ds_for [3, 4] (di_zipT B.zip (de_name 2 rfl (de_name 1 rfl ⟨_, _, rfl, rfl, by rw [List.length_map, h'],
        fun i ρ => ((w.rows.zip xs).take i).all (fun p => okN p.1 p.2) = true ∧ ∃ u v, ρ = [some (.im (encW w)), some (.im (.tuple xs)), some (.im (encL w.rows)), u, v], ⟨rfl, _, _, rfl⟩, ?_, ?_⟩)))))
      · rintro i d ρ2 hi ⟨ha, u, v, rfl⟩
        obtain ⟨r, x, hz, rfl⟩ := pairs_at hi
        refine dg_tup2 3 4 ⟨_, _, rfl, dss_one (ds_if (dt_is (!okN r x) (dt_bool (dw_or (dt_not (dt_val (de_call Ln (hr.mono (by decide)) (da_one (de_name 4 rfl ⟨_, _, ⟨x, rfl, rfl, rfl⟩, fun _ h => h.elim, ?_⟩))))))) ?_))⟩
        · rintro d rfl
          refine ⟨_, rfl, fun hb => ⟨?_, rfl⟩, fun hb => ?_⟩
          · cases x with
            | int j => show true = !(decide (0 ≤ j) && _); rw [show decide (0 ≤ j) = false by simpa [isN] using hb]; rfl
            | _ => rfl
          · obtain ⟨j, rfl, hj⟩ := isN_int (x := x) (by simpa using hb)
            refine dw_or1 (dt_gt (de_name 4 rfl (de_r2 3 rfl ⟨_, _, rfl, rfl, ?_, rfl⟩)))
            show decide (r.2.2 < j) = !(decide (0 ≤ j) && decide (j ≤ r.2.2))
            rw [decide_eq_true hj, Bool.true_and, ← decide_not]
            congr 1
            exact propext (by omega)
        · refine ⟨fun hb => dss_one (ds_ret (de_bl ?_)), fun hb => dss_nil ⟨all_next hz ha (by simpa using hb), _, _, rfl⟩⟩
          show PyData.bool false = .bool _
          rw [all_no hz (by simpa using hb)]
      · rintro ρ2 ⟨ha, u, v, rfl⟩
        refine dss_one (ds_ret (de_bl ?_))
        show PyData.bool true = .bool _
        rw [pairs_len h', List.take_length] at ha
        rw [ha]
theorem ok_is_purses (B : Bi mg) (Ln : Df P w K mg base "is_number" P_is_number 2 (spT C T_is_number)) (F : FnP K "is_purses" s_is_purses f fd) : FnOk P w K mg base (L2.CX P w) 3 f fd P_is_purses (spT C T_is_purses) := by
  refine fn_ok F sc_is_purses (by rintro _ _ _ ⟨x, _, rfl, _⟩; rfl) fun cdv A outer s H E Γ hr ds r e hT herr => ?_
  obtain ⟨n, x, rfl, rfl, rfl⟩ := hT
  cases hx : isTup x with
  | false =>
    refine dss_cons (ds_if (dt_bool (dw_or (dt_not (dt_val (de_isiT B.isinstance B.tuple (de_name 1 rfl ⟨_, rfl, ?_⟩)))))))
    rw [hx]
    refine ⟨fun _ => ⟨fun _ => dss_one (ds_ret (de_bl ?_)), fun h => by cases h⟩, fun h => by cases h⟩
    show PyData.bool false = .bool (isPurses n x)
    cases x <;> first | rfl | cases hx
  | true =>
    obtain ⟨xs, rfl⟩ := isTup_tup hx
    refine dss_cons (ds_if (dt_bool (dw_or (dt_not (dt_val (de_isiT B.isinstance B.tuple (de_name 1 rfl ⟨_, rfl, ?_⟩)))))))
    refine ⟨fun h => (by cases h), fun _ => dw_or1 (dt_neI (de_lenT B.len (de_name 1 rfl ⟨_, rfl, de_name 0 rfl ⟨_, _, rfl, rfl, fun h => ?_, fun h => ?_⟩⟩)))⟩
    · refine dss_one (ds_ret (de_bl ?_))
      have h' : xs.length ≠ n := fun z => of_decide_eq_true h (by rw [z])
      show PyData.bool false = .bool (decide (xs.length = n) && _)
      rw [decide_eq_false h', Bool.false_and]
    · have h' : xs.length = n := by
        have := of_decide_eq_false h
        omega
      have e0 : isPurses n (.tuple xs) = xs.all isN := by
        show (decide (xs.length = n) && _) = _
        rw [decide_eq_true h', Bool.true_and]
      rw [e0]
      refine dss_nil (dss_cons (ds_for [2] (di_tup (de_name 1 rfl ⟨_, rfl,
        fun i ρ => (xs.take i).all isN = true ∧ ∃ u, ρ = [some (.im (.int (n : Nat))), some (.im (.tuple xs)), u], ⟨rfl, _, rfl⟩, ?_, ?_⟩))))
      · rintro i d ρ2 hi ⟨ha, u, rfl⟩
        refine dg_name 2 (dss_one (ds_if (dt_not (dt_val (de_call Ln (hr.mono (by decide)) (da_one (de_name 2 rfl ⟨_, _, ⟨d, rfl, rfl, rfl⟩, fun _ h => h.elim, ?_⟩)))))))
        rintro d' rfl
        refine ⟨_, rfl, fun hb => dss_one (ds_ret (de_bl ?_)), fun hb => dss_nil ⟨all_next hi ha (by simpa using hb), _, rfl⟩⟩
        show PyData.bool false = .bool _
        rw [all_no hi (by simpa using hb)]
      · rintro ρ2 ⟨ha, u, rfl⟩
        refine dss_one (ds_ret (de_bl ?_))
        show PyData.bool true = .bool _
        rw [List.take_length] at ha
        rw [ha]
end
end HL
namespace HL
open PySem PySem.Spec PyProof.Rows L2 DL
def neD : D → D → Bool
  | .int i, .int j => decide (i ≠ j)
  | _, _ => true
def okTh (n : Nat) (x y : D) : Bool := isH n y && neD y x
abbrev T_need_houses : DL.Tm := fun ds r e => ∃ w x y, ds = [encW w, x, y] ∧ r = (fun d => isH w.n x = true ∧ okTh w.n x y = true ∧ d = .none) ∧ e = (fun (s : Str) => (isH w.n x = false ∧ s = "here") ∨ (isH w.n x = true ∧ okTh w.n x y = false ∧ s = "there"))
abbrev T_need_split : DL.Tm := fun ds r e => ∃ w x, w.Ok ∧ ds = [encW w, x] ∧ r = (fun d => isSplit w.rows x = true ∧ d = .none) ∧ e = er (!isSplit w.rows x) "split"
abbrev T_is_place : DL.Tm := fun ds r e => ∃ w x, ds = [encW w, x] ∧ r = is (.bool (isH w.rows.length x)) ∧ e = noE
def farD (r : Row) (h : Int) : D := if r.1 = h then .int r.2.1 else if r.2.1 = h then .int r.1 else .none
abbrev T_far_house : DL.Tm := fun ds r e => ∃ (l : Row) (h : Int), ds = [encR l, .int h] ∧ r = is (farD l h) ∧ e = noE
abbrev T_hold_of : DL.Tm := fun ds r e => ∃ (w : Web) (h : Int), w.Ok ∧ 0 ≤ h ∧ h < w.n ∧ ds = [encW w, .int h] ∧ r = is (.int (hold w h)) ∧ e = noE
abbrev T_purses_of : DL.Tm := fun ds r e => ∃ w x, w.Ok ∧ ds = [encW w, x] ∧ r = (fun d => ∃ s, x = encT s ∧ Sok w.rows s ∧ d = encT (purses w s)) ∧ e = er (!isSplit w.rows x) "split"
abbrev T_turned_over : DL.Tm := fun ds r e => ∃ w x, w.Ok ∧ ds = [encW w, x] ∧ r = (fun d => ∃ s, x = encT s ∧ Sok w.rows s ∧ d = encT (over w s)) ∧ e = er (!isSplit w.rows x) "split"
abbrev T_ends_at : DL.Tm := fun ds r e => ∃ w x y, w.Ok ∧ ds = [encW w, x, y] ∧ r = (fun d => ∃ s h, x = encT s ∧ Sok w.rows s ∧ y = .int h ∧ 0 ≤ h ∧ h < w.n ∧ d = encT (endsAt w s h)) ∧
  e = (fun (s : Str) => (isSplit w.rows x = false ∧ s = "split") ∨ (isSplit w.rows x = true ∧ isH w.n y = false ∧ s = "house"))
section
variable {P : Program} {w : World} {K : PySem.W.Frag} {mg : Str → Option Value} {base : Heap} {f C : Addr} {fd : FuncData}
theorem ok_need_houses (Ln : Df P w K mg base "is_number" P_is_number 2 (spT C T_is_number)) (Lq : Df P w K mg base "need" P_need 3 (spT C T_need)) (Lh : Df P w K mg base "need_house" P_need_house 4 (spT C T_need_house)) (F : FnP K "need_houses" s_need_houses f fd) : FnOk P w K mg base (L2.CX P w) 5 f fd P_need_houses (spT C T_need_houses) := by
  refine fn_ok F sc_need_houses (by rintro _ _ _ ⟨x, _, _, rfl, _⟩; rfl) fun cdv A outer s H E Γ hr ds r e hT herr => ?_
  obtain ⟨w, x, y, rfl, rfl, rfl⟩ := hT
  refine dss_cons (ds_expr (de_call Lh hr (da_cons (de_name 0 rfl (da_cons (de_name 1 rfl (da_one (de_str ⟨_, _, ⟨w, x, _, rfl, rfl, rfl⟩, ?_, ?_⟩))))))))
  · rintro w' ⟨h1, rfl⟩
    exact herr _ _ (.inl ⟨by simpa using h1, rfl⟩)
  rintro d ⟨hx, rfl⟩
  refine dss_one (ds_expr (de_call Lq (hr.mono (by decide)) (da_cons (de_is (.bool (okTh w.n x y)) ?_ ?_))))
  · refine de_and (de_call Ln (hr.mono (by decide)) (da_one (de_name 2 rfl ⟨_, _, ⟨y, rfl, rfl, rfl⟩, fun _ h => h.elim, ?_⟩)))
    rintro d rfl
    refine ⟨_, rfl, fun h => ?_, fun h => ⟨?_, rfl⟩⟩
    · obtain ⟨i, rfl, hi⟩ := isN_int h
      refine de_and (de_lt (de_name 2 rfl (de_w0 0 rfl ⟨_, _, rfl, rfl, _, rfl, fun h2 => ?_, fun h2 => ⟨?_, rfl⟩⟩)))
      · obtain ⟨j, rfl, hj⟩ := isH_int hx
        refine de_one (de_neI (de_name 2 rfl (de_name 1 rfl ⟨_, _, rfl, rfl, ?_, rfl⟩)))
        show PyData.bool (decide (i ≠ j)) = .bool ((decide (0 ≤ i) && decide (i < (w.n : Int))) && decide (i ≠ j))
        rw [decide_eq_true hi, h2]; rfl
      · show PyData.bool false = .bool ((decide (0 ≤ i) && decide (i < (w.n : Int))) && _)
        rw [h2, Bool.and_false]; rfl
    · cases y with
      | int i => show PyData.bool false = .bool ((decide (0 ≤ i) && _) && _); rw [show decide (0 ≤ i) = false from h]; rfl
      | _ => rfl
  · exact da_one (de_str ⟨_, _, ⟨_, _, rfl, rfl, rfl⟩, fun w' h => herr _ _ (.inr ⟨hx, by simpa using h.1, h.2⟩), fun d h => ⟨hx, h.1, rfl⟩⟩)
theorem ok_need_split (Lq : Df P w K mg base "need" P_need 3 (spT C T_need)) (Ls : Df P w K mg base "is_split" P_is_split 3 (spT C T_is_split)) (F : FnP K "need_split" s_need_split f fd) : FnOk P w K mg base (L2.CX P w) 4 f fd P_need_split (spT C T_need_split) := by
  refine fn_ok F sc_need_split (by rintro _ _ _ ⟨x, _, _, rfl, _⟩; rfl) fun cdv A outer s H E Γ hr ds r e hT herr => ?_
  obtain ⟨w, x, hw, rfl, rfl, rfl⟩ := hT
  refine dss_one (ds_expr (de_call Lq hr (da_cons (de_call Ls hr (da_cons (de_name 0 rfl (da_one (de_name 1 rfl ⟨_, _, ⟨w, x, hw, rfl, rfl, rfl⟩, fun _ h => h.elim, ?_⟩))))))))
  rintro d rfl
  exact da_one (de_str ⟨_, _, ⟨_, _, rfl, rfl, rfl⟩, fun w' h => herr _ _ h, fun d h => ⟨h.1, rfl⟩⟩)
theorem ok_is_place (B : Bi mg) (Ln : Df P w K mg base "is_number" P_is_number 2 (spT C T_is_number)) (F : FnP K "is_place" s_is_place f fd) : FnOk P w K mg base (L2.CX P w) 3 f fd P_is_place (spT C T_is_place) := by
  refine fn_ok F sc_is_place (by rintro _ _ _ ⟨x, _, rfl, _⟩; rfl) fun cdv A outer s H E Γ hr ds r e hT herr => ?_
  obtain ⟨w, x, rfl, rfl, rfl⟩ := hT
  refine dss_one (ds_ret (de_and (de_call Ln hr (da_one (de_name 1 rfl ⟨_, _, ⟨x, rfl, rfl, rfl⟩, fun _ h => h.elim, ?_⟩)))))
  rintro d rfl
  refine ⟨_, rfl, fun h => ?_, fun h => ?_⟩
  · obtain ⟨i, rfl, hi⟩ := isN_int h
    refine de_one (de_lt (de_name 1 rfl (de_lenT B.len (de_w1 0 rfl ⟨_, rfl, _, _, rfl, rfl, ?_⟩))))
    show PyData.bool (decide (i < ((w.rows.map encR).length : Int))) = .bool (decide (0 ≤ i) && decide (i < (w.rows.length : Int)))
    rw [decide_eq_true hi, Bool.true_and, List.length_map]
  · show PyData.bool false = .bool (isH w.rows.length x)
    cases x with
    | int i => show PyData.bool false = .bool (decide (0 ≤ i) && _); rw [show decide (0 ≤ i) = false from h]; rfl
    | _ => rfl
theorem ok_far_house (F : FnP K "far_house" s_far_house f fd) : FnOk P w K mg base (L2.CX P w) 1 f fd P_far_house (spT C T_far_house) := by
  refine fn_ok F sc_far_house (by rintro _ _ _ ⟨x, _, rfl, _⟩; rfl) fun cdv A outer s H E Γ hr ds r e hT herr => ?_
  obtain ⟨l, h, rfl, rfl, rfl⟩ := hT
  refine dss_cons (ds_if (dt_eqI (de_r0 0 rfl (de_name 1 rfl ⟨_, _, rfl, rfl, fun h1 => ?_, fun h1 => ?_⟩))))
  · refine dss_one (ds_ret (de_r1 0 rfl ?_))
    show PyData.int l.2.1 = farD l h
    unfold farD; rw [if_pos (of_decide_eq_true h1)]
  refine dss_nil (dss_cons (ds_if (dt_eqI (de_r1 0 rfl (de_name 1 rfl ⟨_, _, rfl, rfl, fun h2 => ?_, fun h2 => ?_⟩)))))
  · refine dss_one (ds_ret (de_r0 0 rfl ?_))
    show PyData.int l.1 = farD l h
    unfold farD; rw [if_neg (of_decide_eq_false h1), if_pos (of_decide_eq_true h2)]
  · refine dss_nil (dss_one (ds_ret (de_non ?_)))
    show PyData.none = farD l h
    unfold farD; rw [if_neg (of_decide_eq_false h1), if_neg (of_decide_eq_false h2)]
theorem filt_next {α : Type} {l : List α} {i : Nat} {a : α} {f : α → Bool} (h : l[i]? = some a) : (l.take (i + 1)).filter f = (l.take i).filter f ++ if f a then [a] else [] := by
  rw [take_next h, List.filter_append]; congr 1
  cases e : f a <;> simp [e]
theorem rows_at {rows : List Row} {i : Nat} {d : D} (h : (rows.map encR)[i]? = some d) : ∃ r, rows[i]? = some r ∧ d = encR r := by
  rw [List.getElem?_map, Option.map_eq_some_iff] at h
  obtain ⟨r, h1, h2⟩ := h
  exact ⟨r, h1, h2.symm⟩
theorem ok_hold_of (B : Bi mg) (Lh : Df P w K mg base "need_house" P_need_house 4 (spT C T_need_house)) (F : FnP K "hold_of" s_hold_of f fd) : FnOk P w K mg base (L2.CX P w) 5 f fd P_hold_of (spT C T_hold_of) := by
  refine fn_ok F sc_hold_of (by rintro _ _ _ ⟨x, _, _, _, _, rfl, _⟩; rfl) fun cdv A outer s H E Γ hr ds r e hT herr => ?_
  obtain ⟨w, h, hw, h0, h1, rfl, rfl, rfl⟩ := hT
  have hH : isH w.n (.int h) = true := by show (decide (0 ≤ h) && decide (h < (w.n : Int))) = true; rw [decide_eq_true h0, decide_eq_true h1]; rfl
  refine dss_cons (ds_expr (de_call Lh hr (da_cons (de_name 0 rfl (da_cons (de_name 1 rfl (da_one (de_str ⟨_, _, ⟨w, _, _, rfl, rfl, rfl⟩, ?_, ?_⟩))))))))
  · rintro w' ⟨z, _⟩; rw [hH] at z; cases z
  rintro d ⟨_, rfl⟩
  refine dss_one (ds_ret (de_sumL B.sum (de_new (dn_lc [("one", 2), ("other", 3), ("room", 4)] (by decide) (by rfl) (di_tup (de_w1 0 rfl ⟨_, rfl,
    fun i ρ acc => ρ = [some (.im (encW w)), some (.im (.int h)), none, none, none] ∧ acc = (((w.rows.take i).filter (incid h)).map fun r => r.2.2).map .int, ⟨rfl, rfl⟩, ?_, ?_⟩))))))
  · rintro i d ρ2 acc hi ⟨rfl, rfl⟩
    obtain ⟨r, hr1, rfl⟩ := rows_at hi
    refine ct_if (incid h r) (fun s H Ca cl fp Γ' => dg_tup3 2 3 4 ⟨_, _, _, rfl, rfl⟩) (fun s H Ca cl fp Γ' => ?_) (fun hb s H Ca cl fp Γ' => ?_) (fun hb => ?_)
    · exact dt_in (by rfl) (de_name 1 rfl (de_tup (da_cons (de_name 2 rfl (da_one (de_name 3 rfl ⟨Nat.le_of_ble_eq_true rfl, h, [r.1, r.2.1], rfl, .inr rfl, rfl, rfl⟩))))))
    · refine de_name 4 rfl ⟨?_, rfl, ?_⟩
      · have l1 : ((w.rows.take i).filter (incid h)).length ≤ w.rows.length := Nat.le_trans (List.length_filter_le _ _) (List.length_take_le' _ _)
        have := hw.r7
        rw [List.length_map, List.length_map, sizeLine_eq]; omega
      · rw [filt_next hr1, if_pos hb, List.map_append, List.map_append]; rfl
    · refine ⟨rfl, ?_⟩
      rw [filt_next hr1, if_neg (by rw [hb]; exact Bool.false_ne_true), List.append_nil]
  · rintro ρ2 acc ⟨rfl, rfl⟩
    refine ⟨_, rfl, ?_⟩
    rw [List.length_map, List.take_length]; rfl
end
end HL
namespace HL
open PySem PySem.Spec PyProof.Rows L2 DL
theorem map_int_inj : ∀ {s t : List Int}, s.map PyData.int = t.map .int → s = t
  | [], [], _ => rfl
  | [], _ :: _, h => by cases h
  | _ :: _, [], h => by cases h
  | a :: s, b :: t, h => by
    rw [List.map_cons, List.map_cons] at h
    injection h with h1 h2
    injection h1 with h1
    rw [h1, map_int_inj h2]
theorem encT_inj {s t : List Int} (h : encT s = encT t) : s = t := by
  unfold encT at h
  injection h with h
  exact map_int_inj h
theorem Sok.len {rows : List Row} {s : List Int} (h : Sok rows s) : s.length = rows.length := h.1
theorem zip_len {rows : List Row} {s : List Int} (h : s.length = rows.length) : (rows.zip s).length = rows.length := by rw [List.length_zip, h, Nat.min_self]
theorem map_int_at {xs : List Int} {i : Nat} (h : i < xs.length) : (xs.map PyData.int)[i]? = some (.int (xs.getD i 0)) := by
  rw [List.getElem?_map, List.getElem?_eq_getElem h, Option.map_some, List.getD_eq_getElem?_getD, List.getElem?_eq_getElem h, Option.getD_some]
theorem fold_next {α β : Type} {l : List α} {i : Nat} {a : α} (f : β → α → β) (b : β) (h : l[i]? = some a) : (l.take (i + 1)).foldl f b = f ((l.take i).foldl f b) a := by
  rw [take_next h, List.foldl_append]; rfl
theorem map_next {α β : Type} {l : List α} {i : Nat} {a : α} (f : α → β) (h : l[i]? = some a) : (l.take (i + 1)).map f = (l.take i).map f ++ [f a] := by
  rw [take_next h, List.map_append]; rfl
theorem map_set_int (xs : List Int) (j : Nat) (v : Int) : (xs.map PyData.int).set j (.int v) = (xs.set j v).map .int := by rw [List.map_set]
theorem zip_row {w : Web} {s : List Int} {i : Nat} {r : Row} {x : Int} (h : (w.rows.zip s)[i]? = some (r, x)) : r ∈ w.rows := (List.of_mem_zip (List.mem_of_getElem? h)).1
def rests (w : Web) (p : List Int) : List Int := ((List.range p.length).zip p).map fun q => hold w (q.1 : Nat) - q.2
abbrev T_turned_purses : DL.Tm := fun ds r e => ∃ w x, w.Ok ∧ ds = [encW w, x] ∧
  r = (fun d => ∃ p, x = encT p ∧ p.length = w.n ∧ (∀ y ∈ p, 0 ≤ y) ∧ (∀ q ∈ (List.range p.length).zip p, 0 ≤ hold w (q.1 : Nat) - q.2) ∧ d = encT (rests w p)) ∧
  e = (fun (s : Str) => s = "purses" ∧ (isPurses w.n x = false ∨ ∃ p, x = encT p ∧ ∃ q ∈ (List.range p.length).zip p, hold w (q.1 : Nat) - q.2 < 0))
theorem enum_at {p : List Int} {i : Nat} {d : D} (h : (enumD (p.map .int))[i]? = some d) : ∃ x, ((List.range p.length).zip p)[i]? = some (i, x) ∧ d = .tuple [.int (i : Nat), .int x] := by
  unfold enumD at h
  rw [List.getElem?_map, Option.map_eq_some_iff] at h
  obtain ⟨⟨a, b⟩, h1, h2⟩ := h
  rw [List.getElem?_zip_eq_some] at h1
  obtain ⟨h3, h4⟩ := h1
  obtain ⟨h5, rfl⟩ := upto_get h3
  rw [List.getElem?_map, Option.map_eq_some_iff] at h4
  obtain ⟨x, h6, rfl⟩ := h4
  rw [List.length_map] at h5
  exact ⟨x, List.getElem?_zip_eq_some.mpr ⟨by rw [List.getElem?_range h5], h6⟩, h2.symm⟩
theorem enum_len {p : List Int} : (enumD (p.map .int)).length = p.length := by simp [enumD, upto_len]
section
variable {P : Program} {w : World} {K : PySem.W.Frag} {mg : Str → Option Value} {base : Heap} {f C : Addr} {fd : FuncData}
theorem ok_purses_of (B : Bi mg) (Ls : Df P w K mg base "need_split" P_need_split 4 (spT C T_need_split)) (F : FnP K "purses_of" s_purses_of f fd) : FnOk P w K mg base (L2.CX P w) 5 f fd P_purses_of (spT C T_purses_of) := by
  refine fn_ok F sc_purses_of (by rintro _ _ _ ⟨x, _, _, rfl, _⟩; rfl) fun cdv A outer s H E Γ hr ds r e hT herr => ?_
  obtain ⟨w, x, hw, rfl, rfl, rfl⟩ := hT
  refine dss_cons (ds_expr (de_call Ls hr (da_cons (de_name 0 rfl (da_one (de_name 1 rfl ⟨_, _, ⟨w, x, hw, rfl, rfl, rfl⟩, fun w' h => herr _ _ h, ?_⟩))))))
  rintro d ⟨hx, rfl⟩
  obtain ⟨s, rfl, hs⟩ := isSplit_iff.mp hx
  refine dss_cons (ds_setN 2 (dn_rep (de_new (dn_list (da_one (de_int ⟨Nat.le_of_ble_eq_true rfl, de_w0 0 rfl ⟨_, _, rfl, rfl, by omega, by have := hw.n8; omega, ?_⟩⟩))))))
  refine dss_cons (ds_for [3, 4] (di_zipT B.zip (de_w1 0 rfl (de_name 1 rfl ⟨_, _, rfl, rfl, by rw [List.length_map, List.length_map, hs.1],
    fun i ρ => ∃ u v, ρ = [some (.im (encW w)), some (.im (encT s)), some (.own none ((((w.rows.zip s).take i).foldl putRow (List.replicate w.n 0)).map .int)), u, v], ⟨none, none, ?_⟩, ?_, ?_⟩))))
  · rw [List.take_zero, List.foldl_nil, List.map_replicate]; rfl
  · rintro i d ρ2 hi ⟨u, v, rfl⟩
    obtain ⟨r, x, hz, rfl⟩ := pairs_atI hi
    obtain ⟨r0, r1, r2, r3⟩ := hw.row r (zip_row hz)
    have L := foldP_len ((w.rows.zip s).take i) (List.replicate w.n 0)
    rw [List.length_replicate] at L
    generalize hacc : (List.foldl putRow (List.replicate w.n 0) ((w.rows.zip s).take i)) = acc at L
    have e1 : (w.rows.zip s).take (i + 1) = (w.rows.zip s).take i ++ [(r, x)] := take_next hz
    refine dg_tup2 3 4 ⟨_, _, rfl, ?_⟩
    refine dss_cons (ds_augS 2 ip_add rfl (de_r0 3 rfl ⟨_, _, r.1.toNat, acc.getD r.1.toNat 0, rfl, rfl, ix_of r0 (by rw [List.length_map, L]; omega), map_int_at (by omega), de_name 4 rfl ⟨_, rfl, rfl, ?_⟩⟩))
    rw [map_set_int]
    refine dss_one (ds_augS 2 ip_add rfl (de_r1 3 rfl ⟨_, _, r.2.1.toNat, (acc.set r.1.toNat (acc.getD r.1.toNat 0 + x)).getD r.2.1.toNat 0, rfl, rfl, ix_of (by omega) (by rw [List.length_map, List.length_set, L]; omega), map_int_at (by rw [List.length_set]; omega), de_sub (de_r2 3 rfl (de_name 4 rfl ⟨_, _, rfl, rfl, _, rfl, rfl, ?_⟩))⟩))
    exact ⟨_, _, by rw [map_set_int, fold_next putRow _ hz, hacc]; rfl⟩
  · rintro ρ2 ⟨u, v, rfl⟩
    refine dss_one (ds_ret (de_tupleL B.tuple (de_own 2 rfl ⟨_, rfl, s, rfl, hs, ?_⟩)))
    rw [pairs_len (by rw [List.length_map, hs.1]), List.zip_map_right, List.length_map, List.take_length]; rfl
theorem ok_turned_over (B : Bi mg) (Ls : Df P w K mg base "need_split" P_need_split 4 (spT C T_need_split)) (F : FnP K "turned_over" s_turned_over f fd) : FnOk P w K mg base (L2.CX P w) 5 f fd P_turned_over (spT C T_turned_over) := by
  refine fn_ok F sc_turned_over (by rintro _ _ _ ⟨x, _, _, rfl, _⟩; rfl) fun cdv A outer s H E Γ hr ds r e hT herr => ?_
  obtain ⟨w, x, hw, rfl, rfl, rfl⟩ := hT
  refine dss_cons (ds_expr (de_call Ls hr (da_cons (de_name 0 rfl (da_one (de_name 1 rfl ⟨_, _, ⟨w, x, hw, rfl, rfl, rfl⟩, fun w' h => herr _ _ h, ?_⟩))))))
  rintro d ⟨hx, rfl⟩
  obtain ⟨s, rfl, hs⟩ := isSplit_iff.mp hx
  refine dss_one (ds_ret (de_tupleL B.tuple (de_new (dn_lc [("line", 2), ("near", 3)] (by decide) (by rfl) (di_zipT B.zip (de_w1 0 rfl (de_name 1 rfl ⟨_, _, rfl, rfl, by rw [List.length_map, List.length_map, hs.1],
    fun i ρ acc => ρ = [some (.im (encW w)), some (.im (encT s)), none, none] ∧ acc = (((w.rows.zip s).take i).map fun p => p.1.2.2 - p.2).map .int, ⟨rfl, rfl⟩, ?_, ?_⟩)))))))
  · rintro i d ρ2 acc hi ⟨rfl, rfl⟩
    obtain ⟨r, x, hz, rfl⟩ := pairs_atI hi
    refine ct_map (fun _ _ _ _ _ _ => dg_tup2 2 3 ⟨_, _, rfl, rfl⟩) (fun _ _ _ _ _ _ => de_sub (de_r2 2 rfl (de_name 3 rfl ⟨_, _, rfl, rfl, ?_, rfl, ?_⟩)))
    · have l1 := List.length_take_le' i (w.rows.zip s)
      rw [zip_len hs.1] at l1
      have := hw.r7
      rw [List.length_map, List.length_map, sizeLine_eq]; omega
    · rw [map_next _ hz, List.map_append]; rfl
  · rintro ρ2 acc ⟨rfl, rfl⟩
    refine ⟨_, rfl, s, rfl, hs, ?_⟩
    rw [pairs_len (by rw [List.length_map, hs.1]), List.zip_map_right, List.length_map, List.take_length]; rfl
theorem ok_ends_at (B : Bi mg) (Ls : Df P w K mg base "need_split" P_need_split 4 (spT C T_need_split)) (Lh : Df P w K mg base "need_house" P_need_house 4 (spT C T_need_house)) (F : FnP K "ends_at" s_ends_at f fd) : FnOk P w K mg base (L2.CX P w) 5 f fd P_ends_at (spT C T_ends_at) := by
  refine fn_ok F sc_ends_at (by rintro _ _ _ ⟨x, _, _, _, rfl, _⟩; rfl) fun cdv A outer s H E Γ hr ds r e hT herr => ?_
  obtain ⟨w, x, y, hw, rfl, rfl, rfl⟩ := hT
  refine dss_cons (ds_expr (de_call Ls hr (da_cons (de_name 0 rfl (da_one (de_name 1 rfl ⟨_, _, ⟨w, x, hw, rfl, rfl, rfl⟩, fun w' h => herr _ _ (.inl ⟨by simpa using h.1, h.2⟩), ?_⟩))))))
  rintro d ⟨hx, rfl⟩
  refine dss_cons (ds_expr (de_call Lh hr (da_cons (de_name 0 rfl (da_cons (de_name 2 rfl (da_one (de_str ⟨_, _, ⟨w, y, _, rfl, rfl, rfl⟩, fun w' h => herr _ _ (.inr ⟨hx, by simpa using h.1, h.2⟩), ?_⟩))))))))
  rintro d ⟨hy, rfl⟩
  obtain ⟨s, rfl, hs⟩ := isSplit_iff.mp hx
  obtain ⟨h, rfl, h0, h1⟩ := isH_int hy
  refine dss_cons (ds_setN 3 (dn_list (da_nil ⟨Nat.le_of_ble_eq_true rfl, ?_⟩)))
  refine dss_cons (ds_for [4, 5] (di_zipT B.zip (de_w1 0 rfl (de_name 1 rfl ⟨_, _, rfl, rfl, by rw [List.length_map, List.length_map, hs.1],
    fun i ρ => ∃ u v, ρ = [some (.im (encW w)), some (.im (encT s)), some (.im (.int h)), some (.own none ((((w.rows.zip s).take i).map (end1 h)).map .int)), u, v], ⟨_, _, rfl⟩, ?_, ?_⟩))))
  · rintro i d ρ2 hi ⟨u, v, rfl⟩
    obtain ⟨r, x, hz, rfl⟩ := pairs_atI hi
    have sz : ((((w.rows.zip s).take i).map (end1 h)).map PyData.int).length < sizeLine := by
      have l1 := List.length_take_le' i (w.rows.zip s)
      rw [zip_len hs.1] at l1
      have := hw.r7
      rw [List.length_map, List.length_map, sizeLine_eq]; omega
    refine dg_tup2 4 5 ⟨_, _, rfl, dss_one (ds_if (dt_eqI (de_r0 4 rfl (de_name 2 rfl ⟨_, _, rfl, rfl, fun h1 => ?_, fun h1 => ?_⟩))))⟩
    · refine dss_one (ds_append 3 rfl (de_name 5 rfl ⟨_, rfl, sz, ?_⟩))
      exact ⟨_, _, by rw [map_next _ hz, List.map_append, show end1 h (r, x) = x from if_pos (of_decide_eq_true h1)]; rfl⟩
    · refine dss_one (ds_if (dt_eqI (de_r1 4 rfl (de_name 2 rfl ⟨_, _, rfl, rfl, fun h2 => ?_, fun h2 => ?_⟩))))
      · refine dss_one (ds_append 3 rfl (de_sub (de_r2 4 rfl (de_name 5 rfl ⟨_, _, rfl, rfl, _, rfl, sz, ?_⟩))))
        exact ⟨_, _, by rw [map_next _ hz, List.map_append, show end1 h (r, x) = r.2.2 - x by unfold end1; rw [if_neg (of_decide_eq_false h1), if_pos (of_decide_eq_true h2)]]; rfl⟩
      · refine dss_one (ds_append 3 rfl (de_int ⟨_, rfl, sz, ?_⟩))
        exact ⟨_, _, by rw [map_next _ hz, List.map_append, show end1 h (r, x) = 0 by unfold end1; rw [if_neg (of_decide_eq_false h1), if_neg (of_decide_eq_false h2)]]; rfl⟩
  · rintro ρ2 ⟨u, v, rfl⟩
    refine dss_one (ds_ret (de_tupleL B.tuple (de_own 3 rfl ⟨_, rfl, s, h, rfl, hs, rfl, h0, h1, ?_⟩)))
    rw [pairs_len (by rw [List.length_map, hs.1]), List.zip_map_right, List.length_map, List.take_length]; rfl
theorem ok_turned_purses (B : Bi mg) (Lq : Df P w K mg base "need" P_need 3 (spT C T_need)) (Lp : Df P w K mg base "is_purses" P_is_purses 3 (spT C T_is_purses)) (Lh : Df P w K mg base "hold_of" P_hold_of 5 (spT C T_hold_of)) (F : FnP K "turned_purses" s_turned_purses f fd) : FnOk P w K mg base (L2.CX P w) 6 f fd P_turned_purses (spT C T_turned_purses) := by
  refine fn_ok F sc_turned_purses (by rintro _ _ _ ⟨x, _, _, rfl, _⟩; rfl) fun cdv A outer s H E Γ hr ds r e hT herr => ?_
  obtain ⟨w, x, hw, rfl, rfl, rfl⟩ := hT
  refine dss_cons (ds_expr (de_call Lq (hr.mono (by decide)) (da_cons (de_call Lp (hr.mono (by decide)) (da_cons (de_w0 0 rfl (da_one (de_name 1 rfl ⟨_, _, ⟨w.n, x, rfl, rfl, rfl⟩, fun _ h => h.elim, ?_⟩))))))))
  rintro d rfl
  refine da_one (de_str ⟨_, _, ⟨_, _, rfl, rfl, rfl⟩, fun w' h => herr _ _ ⟨h.2, .inl (by simpa using h.1)⟩, ?_⟩)
  rintro d ⟨hx, rfl⟩
  obtain ⟨p, rfl, hp, hp0⟩ := isPurses_iff.mp hx
  refine dss_cons (ds_setN 2 (dn_list (da_nil ⟨Nat.le_of_ble_eq_true rfl, ?_⟩)))
  refine dss_cons (ds_for [3, 4] (di_enumT B.enumerate (de_name 1 rfl ⟨_, rfl,
    fun i ρ => (∀ q ∈ ((List.range p.length).zip p).take i, 0 ≤ hold w (q.1 : Nat) - q.2) ∧ ∃ u v z, ρ = [some (.im (encW w)), some (.im (encT p)), some (.own none (((((List.range p.length).zip p).take i).map fun q => hold w (q.1 : Nat) - q.2).map .int)), u, v, z], ⟨by simp, _, _, _, rfl⟩, ?_, ?_⟩)))
  · rintro i d ρ2 hi ⟨ha, u, v, z, rfl⟩
    obtain ⟨x, hz, rfl⟩ := enum_at hi
    have il : i < p.length := by
      have := (List.getElem?_eq_some_iff.mp hz).1
      rw [List.length_zip, List.length_range, Nat.min_self] at this
      exact this
    refine dg_tup2 3 4 ⟨_, _, rfl, dss_cons (ds_set 5 (de_sub (de_call Lh hr (da_cons (de_name 0 rfl (da_one (de_name 3 rfl ⟨_, _, ⟨w, (i : Nat), hw, by omega, by omega, rfl, rfl, rfl⟩, fun _ h => h.elim, ?_⟩)))))))⟩
    rintro d rfl
    refine de_name 4 rfl ⟨_, _, rfl, rfl, ?_⟩
    refine dss_cons (ds_expr (de_call Lq (hr.mono (by decide)) (da_cons (de_ge (de_name 5 rfl (de_int ⟨_, _, rfl, rfl, da_one (de_str ⟨_, _, ⟨_, _, rfl, rfl, rfl⟩, fun w' h => herr _ _ ⟨h.2, .inr ⟨p, rfl, _, List.mem_of_getElem? hz, ?_⟩⟩, ?_⟩)⟩))))))
    · have h2 := of_decide_eq_false (by simpa using h.1 : decide (0 ≤ hold w ((i : Nat) : Int) - x) = false)
      show hold w ((i : Nat) : Int) - x < 0
      omega
    rintro d ⟨h1, rfl⟩
    refine dss_one (ds_append 2 rfl (de_name 5 rfl ⟨_, rfl, ?_, ?_⟩))
    · have l1 := List.length_take_le' i ((List.range p.length).zip p)
      rw [List.length_zip, List.length_range, Nat.min_self] at l1
      have := hw.n8
      rw [List.length_map, List.length_map, sizeLine_eq]; omega
    · refine ⟨?_, some (.im (.int (i : Nat))), some (.im (.int x)), some (.im (.int (hold w (i : Nat) - x))), by rw [map_next _ hz, List.map_append]; rfl⟩
      intro q hq
      rw [take_next hz, List.mem_append] at hq
      rcases hq with hq | hq
      · exact ha q hq
      · rw [List.mem_singleton.mp hq]; exact of_decide_eq_true h1
  · rintro ρ2 ⟨ha, u, v, z, rfl⟩
    have e1 : (enumD (p.map .int)).length = ((List.range p.length).zip p).length := by rw [enum_len, List.length_zip, List.length_range, Nat.min_self]
    rw [e1, List.take_length] at ha
    refine dss_one (ds_ret (de_tupleL B.tuple (de_own 2 rfl ⟨_, rfl, p, rfl, hp, hp0, ha, ?_⟩)))
    rw [e1, List.take_length]; rfl
end
end HL
namespace HL
open PySem L2 DL
/-! ### all unlike -/
theorem uniq_nodup_aux (ns : List Int) : ∀ i, i ≤ ns.length → (PyProof.Rows.firstMet (fun i => ns.getD i 0) i).length = i → (ns.take i).Nodup
  | 0, _, _ => by simp
  | i + 1, hi, h => by
    have l := PyProof.Rows.firstMet_length_le (fun i => ns.getD i 0) i
    rw [PyProof.Rows.firstMet_succ] at h
    have e : ns[i]? = some (ns.getD i 0) := by rw [List.getD_eq_getElem?_getD, List.getElem?_eq_getElem hi, Option.getD_some]
    rw [take_next e]
    unfold PyProof.Rows.step_dedup at h
    by_cases c : (PyProof.Rows.firstMet (fun i => ns.getD i 0) i).any (· == ns.getD i 0) = true
    · simp only [c, if_true] at h
      omega
    · simp only [c] at h
      rw [if_neg (by simp)] at h
      rw [List.length_append, List.length_singleton] at h
      have n := uniq_nodup_aux ns i (by omega) (by omega)
      rw [List.nodup_append]
      refine ⟨n, by simp, fun a ha b hb => ?_⟩
      rw [List.mem_singleton.mp hb]
      intro z
      apply c
      rw [PyProof.Rows.firstMet_any, List.any_eq_true]
      obtain ⟨j, hj, ej⟩ := List.mem_iff_getElem.mp ha
      rw [List.length_take] at hj
      refine ⟨a, List.mem_map.mpr ⟨j, List.mem_range.mpr (by omega), ?_⟩, by simpa using z⟩
      rw [List.getElem_take] at ej
      rw [List.getD_eq_getElem?_getD, List.getElem?_eq_getElem (by omega), Option.getD_some, ej]
theorem uniq_iff (ns : List Int) : (uniq ns).length = ns.length ↔ ns.Nodup := by
  constructor
  · intro h
    have := uniq_nodup_aux ns ns.length (Nat.le_refl _) h
    rwa [List.take_length] at this
  · intro h
    unfold uniq
    rw [RZ.firstMet_nodup h _ (Nat.le_refl _), List.take_length]
/-! ### walks -/
def toI : D → Int
  | .int i => i
  | _ => 0
def toIs : D → List Int
  | .tuple ds => ds.map toI
  | _ => []
theorem toIs_enc (s : List Int) : toIs (encT s) = s := by
  show (s.map PyData.int).map toI = s
  rw [List.map_map]
  exact List.map_id s
def far (r : Row) (h : Int) : Option Int := if r.1 = h then some r.2.1 else if r.2.1 = h then some r.1 else none
def stepD (rows : List Row) (x : D) (h : Int) : Option Int := if isH rows.length x then (rows[(toI x).toNat]?).bind fun r => far r h else none
def goS (rows : List Row) (o : Option (List Int)) (x : D) : Option (List Int) := o.bind fun hs => (stepD rows x (hs.getLastD 0)).map fun h => hs ++ [h]
def along (rows : List Row) (h : Int) (xs : List D) : Option (List Int) := xs.foldl (goS rows) (some [h])
def alongD (rows : List Row) (h : Int) : D → Option (List Int)
  | .tuple xs => along rows h xs
  | _ => none
def encO : Option (List Int) → D
  | none => .none
  | some hs => encI hs
theorem goS_none (rows : List Row) : ∀ xs : List D, xs.foldl (goS rows) none = none
  | [] => rfl
  | _ :: xs => goS_none rows xs
theorem along_split {rows : List Row} {h : Int} {xs : List D} {i : Nat} {x : D} (hx : xs[i]? = some x) : along rows h xs = (xs.drop (i + 1)).foldl (goS rows) (goS rows (along rows h (xs.take i)) x) := by
  have e : xs = xs.take i ++ x :: xs.drop (i + 1) := by
    have := List.take_append_drop i xs
    rw [← List.getElem_cons_drop (List.getElem?_eq_some_iff.mp hx).1, (List.getElem?_eq_some_iff.mp hx).2] at this
    exact this.symm
  unfold along
  conv => lhs; rw [e]
  rw [List.foldl_append]; rfl
theorem along_len {rows : List Row} {h : Int} : ∀ {xs : List D} {hs0 hs : List Int}, xs.foldl (goS rows) (some hs0) = some hs → hs.length = hs0.length + xs.length
  | [], hs0, hs, e => by cases e; rfl
  | x :: xs, hs0, hs, e => by
    rw [List.foldl_cons] at e
    cases e1 : stepD rows x (hs0.getLastD 0) with
    | none =>
      rw [show goS rows (some hs0) x = none by unfold goS; rw [Option.bind_some, e1]; rfl, goS_none] at e
      cases e
    | some y =>
      rw [show goS rows (some hs0) x = some (hs0 ++ [y]) by unfold goS; rw [Option.bind_some, e1]; rfl] at e
      rw [along_len (h := h) e, List.length_append, List.length_singleton, List.length_cons]; omega
theorem along_ints {rows : List Row} {h : Int} : ∀ {xs : List D} {hs0 hs : List Int}, xs.foldl (goS rows) (some hs0) = some hs → (∀ x ∈ xs, isH rows.length x = true)
  | [], hs0, hs, e, x, hx => by simp at hx
  | y :: xs, hs0, hs, e, x, hx => by
    rw [List.foldl_cons] at e
    cases e1 : stepD rows y (hs0.getLastD 0) with
    | none =>
      rw [show goS rows (some hs0) y = none by unfold goS; rw [Option.bind_some, e1]; rfl, goS_none] at e
      cases e
    | some z =>
      rw [show goS rows (some hs0) y = some (hs0 ++ [z]) by unfold goS; rw [Option.bind_some, e1]; rfl] at e
      rcases List.mem_cons.mp hx with rfl | hx
      · unfold stepD at e1
        by_cases c : isH rows.length x = true
        · exact c
        · rw [if_neg c] at e1; cases e1
      · exact along_ints (h := h) e x hx
theorem hs_of_isH {n : Nat} : ∀ {xs : List D}, (∀ x ∈ xs, isH n x = true) → ∃ is : List Int, xs = is.map .int ∧ ∀ i ∈ is, 0 ≤ i ∧ i < n
  | [], _ => ⟨[], rfl, by simp⟩
  | x :: xs, h => by
    obtain ⟨is, rfl, h2⟩ := hs_of_isH (fun y hy => h y (List.mem_cons_of_mem _ hy))
    obtain ⟨i, rfl, h3, h4⟩ := isH_int (h x List.mem_cons_self)
    exact ⟨i :: is, rfl, fun j hj => (List.mem_cons.mp hj).elim (fun e => by rw [e]; exact ⟨h3, h4⟩) (h2 j)⟩
def lenD : D → Nat
  | .tuple xs => xs.length
  | _ => 0
def wayB (rows : List Row) (a b : Int) (t : D) : Bool := match alongD rows a t with
  | none => false
  | some hs => decide (hs.getLastD 0 = b) && decide hs.Nodup
def ringB (rows : List Row) (a : Int) (t : D) : Bool := match alongD rows a t with
  | none => false
  | some hs => !decide (lenD t < 2) && (decide (hs.getLastD 0 = a) && (decide (hs.drop 1).Nodup && decide (toIs t).Nodup))
def leadsB (rows : List Row) (a : Int) (t : D) : Bool := match alongD rows a t with
  | none => false
  | some hs => !decide (lenD t = 0) && (if hs.getLastD 0 = a then ringB rows a t else decide hs.Nodup)
/-! ### leading -/
def rowAt (rows : List Row) (i : Int) : Row := rows.getD i.toNat (0, 0, 0)
def ledE (rows : List Row) (c : Int) (p : List Int × Int) (i : Int) : Int := if p.2 = (rowAt rows i).1 then p.1.getD i.toNat 0 - c else p.1.getD i.toNat 0 + c
def ledH (rows : List Row) (p : List Int × Int) (i : Int) : Int := if p.2 = (rowAt rows i).1 then (rowAt rows i).2.1 else (rowAt rows i).1
def ledS (rows : List Row) (c : Int) (o : Option (List Int × Int)) (i : Int) : Option (List Int × Int) := o.bind fun p =>
  if ledE rows c p i < 0 ∨ ledE rows c p i > (rowAt rows i).2.2 then none else some (p.1.set i.toNat (ledE rows c p i), ledH rows p i)
def led (rows : List Row) (s : List Int) (a : Int) (is : List Int) (c : Int) : Option (List Int × Int) := is.foldl (ledS rows c) (some (s, a))
theorem ledS_none (rows : List Row) (c : Int) : ∀ xs : List Int, xs.foldl (ledS rows c) none = none
  | [] => rfl
  | _ :: xs => ledS_none rows c xs
theorem led_split {rows : List Row} {s : List Int} {a c : Int} {xs : List Int} {i : Nat} {x : Int} (hx : xs[i]? = some x) : led rows s a xs c = (xs.drop (i + 1)).foldl (ledS rows c) (ledS rows c (led rows s a (xs.take i) c) x) := by
  have e : xs = xs.take i ++ x :: xs.drop (i + 1) := by
    have := List.take_append_drop i xs
    rw [← List.getElem_cons_drop (List.getElem?_eq_some_iff.mp hx).1, (List.getElem?_eq_some_iff.mp hx).2] at this
    exact this.symm
  unfold led
  conv => lhs; rw [e]
  rw [List.foldl_append]; rfl
theorem led_len {rows : List Row} {c : Int} : ∀ {xs : List Int} {p q : List Int × Int}, xs.foldl (ledS rows c) (some p) = some q → q.1.length = p.1.length
  | [], p, q, e => by cases e; rfl
  | x :: xs, p, q, e => by
    rw [List.foldl_cons] at e
    cases e1 : ledS rows c (some p) x with
    | none => rw [e1, ledS_none] at e; cases e
    | some z =>
      rw [e1] at e
      rw [led_len e]
      unfold ledS at e1
      rw [Option.bind_some] at e1
      by_cases c1 : ledE rows c p x < 0 ∨ ledE rows c p x > (rowAt rows x).2.2
      · rw [if_pos c1] at e1; cases e1
      · rw [if_neg c1] at e1; cases e1; simp
def ledD (o : Option (List Int × Int)) : D := match o with
  | none => .none
  | some p => encT p.1
def posB : D → Bool
  | .int c => decide (1 ≤ c)
  | _ => false
/-- what led_along answers -/
def ledR (w : Web) (x y t c : D) : Except Str D :=
  if isSplit w.rows x = true then if isH w.n y = true then if leadsB w.rows (toI y) t = true then if posB c = true then
    (match led w.rows (toIs x) (toI y) (toIs t) (toI c) with | none => .error "coins" | some p => .ok (encT p.1)) else .error "coins" else .error "way" else .error "house" else .error "split"
end HL
namespace HL
open PySem PySem.Spec PyProof.Rows L2 DL
abbrev T_houses_along : DL.Tm := fun ds r e => ∃ (w : Web) (h : Int) (x : D), w.Ok ∧ lenD x ≤ 3000 ∧ ds = [encW w, .int h, x] ∧ r = is (encO (alongD w.rows h x)) ∧ e = noE
abbrev T_all_unlike : DL.Tm := fun ds r e => ∃ ns : List Int, ns.length ≤ 4000 ∧ ds = [.list (ns.map .int)] ∧ r = is (.bool (decide ns.Nodup)) ∧ e = noE
abbrev T_is_way : DL.Tm := fun ds r e => ∃ w x y t, w.Ok ∧ lenD t ≤ 3000 ∧ ds = [encW w, x, y, t] ∧ r = (fun d => isH w.n x = true ∧ okTh w.n x y = true ∧ d = .bool (wayB w.rows (toI x) (toI y) t)) ∧
  e = (fun (s : Str) => (isH w.n x = false ∧ s = "here") ∨ (isH w.n x = true ∧ okTh w.n x y = false ∧ s = "there"))
abbrev T_is_ring : DL.Tm := fun ds r e => ∃ w x t, w.Ok ∧ lenD t ≤ 3000 ∧ ds = [encW w, x, t] ∧ r = (fun d => isH w.n x = true ∧ d = .bool (ringB w.rows (toI x) t)) ∧ e = er (!isH w.n x) "house"
abbrev T_leads_from : DL.Tm := fun ds r e => ∃ (w : Web) (h : Int) (t : D), w.Ok ∧ isH w.n (.int h) = true ∧ lenD t ≤ 3000 ∧ ds = [encW w, .int h, t] ∧ r = is (.bool (leadsB w.rows h t)) ∧ e = noE
abbrev T_led_if : DL.Tm := fun ds r e => ∃ (w : Web) (s : List Int) (a : Int) (is' : List Int) (c : Int), w.Ok ∧ s.length = w.rows.length ∧ (∀ i ∈ is', 0 ≤ i ∧ i < w.rows.length) ∧ ds = [encW w, encT s, .int a, encT is', .int c] ∧ r = is (ledD (led w.rows s a is' c)) ∧ e = noE
abbrev T_led_along : DL.Tm := fun ds r e => ∃ w x y t c, w.Ok ∧ lenD t ≤ 3000 ∧ ds = [encW w, x, y, t, c] ∧ r = (fun d => ledR w x y t c = .ok d) ∧ e = (fun s => ledR w x y t c = .error s)
section
variable {P : Program} {w : World} {K : PySem.W.Frag} {mg : Str → Option Value} {base : Heap} {f C : Addr} {fd : FuncData}
theorem farD_eq (r : Row) (h : Int) : farD r h = match far r h with | none => .none | some i => .int i := by
  unfold farD far
  split
  · rfl
  · split <;> rfl
theorem ok_houses_along (B : Bi mg) (Lp : Df P w K mg base "is_place" P_is_place 3 (spT C T_is_place)) (Lf : Df P w K mg base "far_house" P_far_house 1 (spT C T_far_house)) (F : FnP K "houses_along" s_houses_along f fd) : FnOk P w K mg base (L2.CX P w) 4 f fd P_houses_along (spT C T_houses_along) := by
  refine fn_ok F sc_houses_along (by rintro _ _ _ ⟨x, _, _, _, _, rfl, _⟩; rfl) fun cdv A outer s H E Γ hr ds r e hT herr => ?_
  obtain ⟨w, h, x, hw, hx3, rfl, rfl, rfl⟩ := hT
  refine dss_cons (ds_if (dt_not (dt_val (de_isiT B.isinstance B.tuple (de_name 2 rfl ⟨_, rfl, fun hb => ?_, fun hb => ?_⟩)))))
  · refine dss_one (ds_ret (de_non ?_))
    show PyData.none = encO _
    cases x <;> first | rfl | cases hb
  obtain ⟨xs, rfl⟩ := isTup_tup (x := x) (by simpa using hb)
  refine dss_nil (dss_cons (ds_setN 3 (dn_list (da_one (de_name 1 rfl ⟨Nat.le_of_ble_eq_true rfl, ?_⟩)))))
  refine dss_cons (ds_for [4] (di_tup (de_name 2 rfl ⟨_, rfl,
    fun i ρ => ∃ hs u v, along w.rows h (xs.take i) = some hs ∧ ρ = [some (.im (encW w)), some (.im (.int h)), some (.im (.tuple xs)), some (.own none (hs.map .int)), u, v], ⟨[h], _, _, rfl, rfl⟩, ?_, ?_⟩)))
  · rintro i d ρ2 hi ⟨hs, u, v, ha, rfl⟩
    have step : along w.rows h xs = (xs.drop (i + 1)).foldl (goS w.rows) (goS w.rows (some hs) d) := by rw [along_split hi, ha]
    have step1 : along w.rows h (xs.take (i + 1)) = goS w.rows (some hs) d := by rw [← ha]; exact fold_next _ _ hi
    have il : i < xs.length := (List.getElem?_eq_some_iff.mp hi).1
    have hlen : hs.length = i + 1 := by
      have := along_len (h := h) (hs0 := [h]) ha
      rw [this, List.length_singleton, List.length_take, Nat.min_eq_left (by omega)]; omega
    have xl : xs.length ≤ 3000 := hx3
    have fail : stepD w.rows d (hs.getLastD 0) = none → encO (alongD w.rows h (.tuple xs)) = .none := fun z => by
      show encO (along w.rows h xs) = _
      rw [step, show goS w.rows (some hs) d = none by unfold goS; rw [Option.bind_some, z]; rfl, goS_none]; rfl
    refine dg_name 4 (dss_cons (ds_if (dt_not (dt_val (de_call Lp hr (da_cons (de_name 0 rfl (da_one (de_name 4 rfl ⟨_, _, ⟨w, d, rfl, rfl, rfl⟩, fun _ h => h.elim, ?_⟩)))))))))
    rintro d' rfl
    refine ⟨_, rfl, fun hb => dss_one (ds_ret (de_non ?_)), fun hb => dss_nil ?_⟩
    · show PyData.none = _
      rw [fail]
      unfold stepD; rw [if_neg (by simpa using hb)]
    have hd : isH w.rows.length d = true := by simpa using hb
    obtain ⟨j, rfl, j0, j1⟩ := isH_int hd
    obtain ⟨l, hl⟩ : ∃ l, w.rows[j.toNat]? = some l := ⟨_, List.getElem?_eq_getElem (by omega)⟩
    have sd : stepD w.rows (.int j) (hs.getLastD 0) = far l (hs.getLastD 0) := by
      unfold stepD; rw [if_pos hd]; show (w.rows[j.toNat]?).bind _ = _; rw [hl]; rfl
    have lst : (hs.map PyData.int)[(hs.map PyData.int).length - 1]? = some (.int (hs.getLastD 0)) := by
      rw [List.length_map, List.getElem?_map, ← List.getLast?_eq_getElem?, List.getLastD_eq_getLast?]
      cases e : hs.getLast? with
      | none => rw [List.getLast?_eq_none_iff] at e; rw [e] at hlen; cases hlen
      | some y => rfl
    refine dss_cons (ds_set 5 (de_call Lf (hr.mono (by decide)) (da_cons (de_ixT (de_w1 0 rfl (de_name 4 rfl ⟨_, _, _, rfl, rfl, at_of j0 (by rw [List.getElem?_map, hl]; rfl), da_one (de_ixO 3 rfl (de_neg (de_int ⟨_, rfl, _, _, _, rfl, rfl, at_last lst, _, _, ⟨l, _, rfl, rfl, rfl⟩, fun _ h => h.elim, ?_⟩)))⟩))))))
    rintro d' rfl
    rw [farD_eq]
    cases ef : far l (hs.getLastD 0) with
    | none =>
      refine dss_cons (ds_if (dt_isN (de_name 5 rfl ⟨fun _ => dss_one (ds_ret (de_non ?_)), fun z => (by cases z)⟩)))
      show PyData.none = _
      rw [fail (sd.trans ef)]
    | some y =>
      refine dss_cons (ds_if (dt_isN (de_name 5 rfl ⟨fun z => (by cases z), fun _ => dss_nil (dss_one (ds_append 3 rfl (de_name 5 rfl ⟨_, rfl, ?_, ?_⟩)))⟩)))
      · rw [List.length_map, sizeLine_eq]; omega
      · exact ⟨hs ++ [y], _, _, by rw [step1]; unfold goS; rw [Option.bind_some, sd, ef]; rfl, by rw [List.map_append]; rfl⟩
  · rintro ρ2 ⟨hs, u, v, ha, rfl⟩
    rw [List.take_length] at ha
    refine dss_one (ds_ret (de_own 3 rfl ?_))
    show PyData.list _ = encO (along w.rows h xs)
    rw [ha]; rfl
theorem ok_all_unlike (B : Bi mg) (F : FnP K "all_unlike" s_all_unlike f fd) : FnOk P w K mg base (L2.CX P w) 1 f fd P_all_unlike (spT C T_all_unlike) := by
  refine fn_ok F sc_all_unlike (by rintro _ _ _ ⟨x, _, rfl, _⟩; rfl) fun cdv A outer s H E Γ hr ds r e hT herr => ?_
  obtain ⟨ns, hn, rfl, rfl, rfl⟩ := hT
  refine dss_one (ds_ret (de_eqI (de_lenSet B.len B.set (de_name 0 rfl ⟨ns, rfl, hn, de_lenL B.len (de_name 0 rfl ⟨_, rfl, _, _, rfl, rfl, ?_⟩)⟩))))
  show PyData.bool (decide (((uniq ns).length : Int) = ((ns.map PyData.int).length : Nat))) = .bool (decide ns.Nodup)
  congr 1
  rw [List.length_map]
  exact decide_eq_decide.mpr (by rw [← uniq_iff]; omega)
theorem listD_at {hs : List Int} (h : hs ≠ []) : atI (hs.map PyData.int) (-1) = some (.int (hs.getLastD 0)) := by
  apply at_last
  rw [List.length_map, List.getElem?_map, ← List.getLast?_eq_getElem?, List.getLastD_eq_getLast?]
  cases e : hs.getLast? with
  | none => rw [List.getLast?_eq_none_iff] at e; exact (h e).elim
  | some y => rfl
theorem alongD_tup {rows : List Row} {h : Int} {t : D} {hs : List Int} (e : alongD rows h t = some hs) : ∃ is : List Int, t = encT is ∧ (∀ i ∈ is, 0 ≤ i ∧ i < rows.length) ∧ hs.length = is.length + 1 := by
  cases t with
  | tuple xs =>
    have e : along rows h xs = some hs := e
    obtain ⟨is, rfl, h2⟩ := hs_of_isH (along_ints (h := h) e)
    refine ⟨is, rfl, h2, ?_⟩
    rw [along_len (h := h) e, List.length_singleton, List.length_map]; omega
  | _ => cases e
theorem lenD_enc (is : List Int) : lenD (encT is) = is.length := List.length_map _
theorem ok_is_way (B : Bi mg) (Lh : Df P w K mg base "need_houses" P_need_houses 5 (spT C T_need_houses)) (La : Df P w K mg base "houses_along" P_houses_along 4 (spT C T_houses_along)) (Lu : Df P w K mg base "all_unlike" P_all_unlike 1 (spT C T_all_unlike)) (F : FnP K "is_way" s_is_way f fd) :
    FnOk P w K mg base (L2.CX P w) 6 f fd P_is_way (spT C T_is_way) := by
  refine fn_ok F sc_is_way (by rintro _ _ _ ⟨x, _, _, _, _, _, rfl, _⟩; rfl) fun cdv A outer s H E Γ hr ds r e hT herr => ?_
  obtain ⟨w, x, y, t, hw, ht, rfl, rfl, rfl⟩ := hT
  refine dss_cons (ds_expr (de_call Lh hr (da_cons (de_name 0 rfl (da_cons (de_name 1 rfl (da_one (de_name 2 rfl ⟨_, _, ⟨w, x, y, rfl, rfl, rfl⟩, fun w' h => herr _ _ h, ?_⟩))))))))
  rintro d ⟨hx, hy, rfl⟩
  obtain ⟨a, rfl, a0, a1⟩ := isH_int hx
  obtain ⟨b, rfl, b0, b1⟩ := isH_int (Bool.and_eq_true_iff.mp hy).1
  refine dss_cons (ds_set 4 (de_call La (hr.mono (by decide)) (da_cons (de_name 0 rfl (da_cons (de_name 1 rfl (da_one (de_name 3 rfl ⟨_, _, ⟨w, a, t, hw, ht, rfl, rfl, rfl⟩, fun _ h => h.elim, ?_⟩))))))))
  rintro d rfl
  cases ea : alongD w.rows a t with
  | none =>
    refine dss_cons (ds_if (dt_isN (de_name 4 rfl ⟨fun _ => dss_one (ds_ret (de_bl ⟨hx, hy, ?_⟩)), fun z => (by cases z)⟩)))
    show PyData.bool false = .bool (wayB w.rows a b t)
    unfold wayB; rw [ea]
  | some hs =>
    obtain ⟨is, rfl, hi, hl⟩ := alongD_tup ea
    rw [lenD_enc] at ht
    refine dss_cons (ds_if (dt_isN (de_name 4 rfl ⟨fun z => (by cases z), fun _ => dss_nil ?_⟩)))
    refine dss_one (ds_ret (de_and (de_eqI (de_ixL (de_name 4 rfl (de_neg (de_int ⟨_, rfl, _, _, _, rfl, rfl, listD_at (fun z => (by rw [z] at hl; cases hl)), de_name 2 rfl ⟨_, _, rfl, rfl, _, rfl, fun hb => ?_, fun hb => ?_⟩⟩)))))))
    · refine de_one (de_call Lu (hr.mono (by decide)) (da_one (de_name 4 rfl ⟨_, _, ⟨hs, by omega, rfl, rfl, rfl⟩, fun _ h => h.elim, ?_⟩)))
      rintro d rfl
      refine ⟨hx, hy, ?_⟩
      show _ = PyData.bool (wayB w.rows a b _)
      unfold wayB; rw [ea]
      show _ = PyData.bool (decide (hs.getLastD 0 = b) && _)
      rw [hb]; rfl
    · refine ⟨hx, hy, ?_⟩
      show _ = PyData.bool (wayB w.rows a b _)
      unfold wayB; rw [ea]
      show _ = PyData.bool (decide (hs.getLastD 0 = b) && _)
      rw [hb]; rfl
end
end HL
namespace HL
open PySem PySem.Spec PyProof.Rows L2 DL
theorem cut_nat {α : Type} {xs : List α} {i : Nat} (h : i ≤ xs.length) : DL.cutD xs (some (i : Nat)) none = xs.drop i := by
  have e1 : HT.sIx xs.length 0 (some ((i : Nat) : Int)) = i := (HT.sIx_nat _ _ _).trans (Nat.min_eq_left h)
  have e2 : HT.sIx xs.length xs.length none = xs.length := rfl
  unfold DL.cutD
  rw [e1, e2, List.take_of_length_le (by rw [List.length_drop]; omega)]
section
variable {P : Program} {w : World} {K : PySem.W.Frag} {mg : Str → Option Value} {base : Heap} {f C : Addr} {fd : FuncData}
theorem ok_is_ring (B : Bi mg) (Lh : Df P w K mg base "need_house" P_need_house 4 (spT C T_need_house)) (La : Df P w K mg base "houses_along" P_houses_along 4 (spT C T_houses_along)) (Lu : Df P w K mg base "all_unlike" P_all_unlike 1 (spT C T_all_unlike)) (F : FnP K "is_ring" s_is_ring f fd) :
    FnOk P w K mg base (L2.CX P w) 6 f fd P_is_ring (spT C T_is_ring) := by
  refine fn_ok F sc_is_ring (by rintro _ _ _ ⟨x, _, _, _, _, rfl, _⟩; rfl) fun cdv A outer s H E Γ hr ds r e hT herr => ?_
  obtain ⟨w, x, t, hw, ht, rfl, rfl, rfl⟩ := hT
  refine dss_cons (ds_expr (de_call Lh (hr.mono (by decide)) (da_cons (de_name 0 rfl (da_cons (de_name 1 rfl (da_one (de_str ⟨_, _, ⟨w, x, _, rfl, rfl, rfl⟩, fun w' h => herr _ _ h, ?_⟩))))))))
  rintro d ⟨hx, rfl⟩
  obtain ⟨a, rfl, a0, a1⟩ := isH_int hx
  refine dss_cons (ds_set 3 (de_call La (hr.mono (by decide)) (da_cons (de_name 0 rfl (da_cons (de_name 1 rfl (da_one (de_name 2 rfl ⟨_, _, ⟨w, a, t, hw, ht, rfl, rfl, rfl⟩, fun _ h => h.elim, ?_⟩))))))))
  rintro d rfl
  cases ea : alongD w.rows a t with
  | none =>
    refine dss_cons (ds_if (dt_bool (dw_or (dt_isN (de_name 3 rfl ⟨fun _ => ⟨fun _ => dss_one (ds_ret (de_bl ⟨hx, ?_⟩)), fun z => (by cases z)⟩, fun z => (by cases z)⟩)))))
    show PyData.bool false = .bool (ringB w.rows a t)
    unfold ringB; rw [ea]
  | some hs =>
    obtain ⟨is', rfl, hi, hl⟩ := alongD_tup ea
    rw [lenD_enc] at ht
    have hne : hs ≠ [] := fun z => by rw [z] at hl; cases hl
    have eR : ringB w.rows a (encT is') = (!decide (is'.length < 2) && (decide (hs.getLastD 0 = a) && (decide (hs.drop 1).Nodup && decide is'.Nodup))) := by
      unfold ringB; rw [ea, toIs_enc, lenD_enc]
    refine dss_cons (ds_if (dt_bool (dw_or (dt_isN (de_name 3 rfl ⟨fun z => (by cases z), fun _ => dw_or1 (dt_lt (de_lenT B.len (de_name 2 rfl ⟨_, rfl, de_int ⟨_, _, rfl, rfl, fun hb => ?_, fun hb => ?_⟩⟩)))⟩)))))
    · refine dss_one (ds_ret (de_bl ⟨hx, ?_⟩))
      show PyData.bool false = .bool (ringB w.rows a (encT is'))
      have h2 := of_decide_eq_true hb
      rw [List.length_map] at h2
      rw [eR, decide_eq_true (by omega : is'.length < 2)]; rfl
    · have h2 := of_decide_eq_false hb
      rw [List.length_map] at h2
      have eR2 : ringB w.rows a (encT is') = (decide (hs.getLastD 0 = a) && (decide (hs.drop 1).Nodup && decide is'.Nodup)) := by
        rw [eR, decide_eq_false (by omega : ¬ is'.length < 2)]; rfl
      refine dss_nil (dss_one (ds_ret (de_is (.bool (decide (hs.getLastD 0 = a) && (decide (hs.drop 1).Nodup && decide is'.Nodup))) ?_ ⟨hx, by rw [← eR2]; rfl⟩)))
      refine de_and (de_eqI (de_ixL (de_name 3 rfl (de_neg (de_int ⟨_, rfl, _, _, _, rfl, rfl, listD_at hne, de_name 1 rfl ⟨_, _, rfl, rfl, _, rfl, fun hb => ?_, fun hb => ⟨by rw [hb]; rfl, rfl⟩⟩⟩)))))
      refine de_and (de_call Lu (hr.mono (by decide)) (da_one (de_new (dn_slL (de_name 3 rfl (dpo_some (de_int ⟨1, rfl, dpo_none ⟨_, rfl, _, _, ⟨hs.drop 1, by rw [List.length_drop]; omega, ?_, rfl, rfl⟩, fun _ h => h.elim, ?_⟩⟩)))))))
      · have := cut_nat (xs := hs.map PyData.int) (i := 1) (by rw [List.length_map]; omega)
        show [PyData.list (DL.cutD (hs.map PyData.int) (some ((1 : Nat) : Int)) none)] = _
        rw [this, List.map_drop]
      rintro d rfl
      refine ⟨_, rfl, fun hc => ?_, fun hc => ⟨by rw [hb, hc]; rfl, rfl⟩⟩
      refine de_one (de_call Lu (hr.mono (by decide)) (da_one (de_new (dn_listT B.list (de_name 2 rfl ⟨_, .inl rfl, _, _, ⟨is', by omega, rfl, rfl, rfl⟩, fun _ h => h.elim, ?_⟩)))))
      rintro d rfl
      exact ⟨by rw [hb, hc]; rfl, rfl⟩
theorem ok_leads_from (B : Bi mg) (La : Df P w K mg base "houses_along" P_houses_along 4 (spT C T_houses_along)) (Lr : Df P w K mg base "is_ring" P_is_ring 6 (spT C T_is_ring)) (Lu : Df P w K mg base "all_unlike" P_all_unlike 1 (spT C T_all_unlike)) (F : FnP K "leads_from" s_leads_from f fd) :
    FnOk P w K mg base (L2.CX P w) 7 f fd P_leads_from (spT C T_leads_from) := by
  refine fn_ok F sc_leads_from (by rintro _ _ _ ⟨x, _, _, _, _, _, rfl, _⟩; rfl) fun cdv A outer s H E Γ hr ds r e hT herr => ?_
  obtain ⟨w, a, t, hw, hx, ht, rfl, rfl, rfl⟩ := hT
  refine dss_cons (ds_set 3 (de_call La (hr.mono (by decide)) (da_cons (de_name 0 rfl (da_cons (de_name 1 rfl (da_one (de_name 2 rfl ⟨_, _, ⟨w, a, t, hw, ht, rfl, rfl, rfl⟩, fun _ h => h.elim, ?_⟩))))))))
  rintro d rfl
  cases ea : alongD w.rows a t with
  | none =>
    refine dss_cons (ds_if (dt_bool (dw_or (dt_isN (de_name 3 rfl ⟨fun _ => ⟨fun _ => dss_one (ds_ret (de_bl ?_)), fun z => (by cases z)⟩, fun z => (by cases z)⟩)))))
    show PyData.bool false = .bool (leadsB w.rows a t)
    unfold leadsB; rw [ea]
  | some hs =>
    obtain ⟨is', rfl, hi, hl⟩ := alongD_tup ea
    have hne : hs ≠ [] := fun z => by rw [z] at hl; cases hl
    have eR : leadsB w.rows a (encT is') = (!decide (is'.length = 0) && (if hs.getLastD 0 = a then ringB w.rows a (encT is') else decide hs.Nodup)) := by
      unfold leadsB; rw [ea, lenD_enc]
    refine dss_cons (ds_if (dt_bool (dw_or (dt_isN (de_name 3 rfl ⟨fun z => (by cases z), fun _ => dw_or1 (dt_eqI (de_lenT B.len (de_name 2 rfl ⟨_, rfl, de_int ⟨_, _, rfl, rfl, fun hb => ?_, fun hb => ?_⟩⟩)))⟩)))))
    · refine dss_one (ds_ret (de_bl ?_))
      show PyData.bool false = .bool (leadsB w.rows a (encT is'))
      have h2 := of_decide_eq_true hb
      rw [List.length_map] at h2
      rw [eR, decide_eq_true (by omega : is'.length = 0)]; rfl
    · have h2 := of_decide_eq_false hb
      rw [List.length_map] at h2
      have eR2 : leadsB w.rows a (encT is') = if hs.getLastD 0 = a then ringB w.rows a (encT is') else decide hs.Nodup := by
        rw [eR, decide_eq_false (by omega : ¬ is'.length = 0)]; rfl
      refine dss_nil (dss_cons (ds_if (dt_eqI (de_ixL (de_name 3 rfl (de_neg (de_int ⟨_, rfl, _, _, _, rfl, rfl, listD_at hne, de_name 1 rfl ⟨_, _, rfl, rfl, fun hb => ?_, fun hb => ?_⟩⟩)))))))
      · refine dss_one (ds_ret (de_call Lr hr (da_cons (de_name 0 rfl (da_cons (de_name 1 rfl (da_one (de_name 2 rfl ⟨_, _, ⟨w, _, _, hw, ht, rfl, rfl, rfl⟩, fun _ h => ?_, ?_⟩))))))))
        · have := h.1; rw [hx] at this; cases this
        rintro d ⟨_, rfl⟩
        show _ = PyData.bool (leadsB w.rows a (encT is'))
        rw [eR2, if_pos (of_decide_eq_true hb)]; rfl
      · rw [lenD_enc] at ht
        refine dss_nil (dss_one (ds_ret (de_call Lu (hr.mono (by decide)) (da_one (de_name 3 rfl ⟨_, _, ⟨hs, by omega, rfl, rfl, rfl⟩, fun _ h => h.elim, ?_⟩)))))
        rintro d rfl
        show _ = PyData.bool (leadsB w.rows a (encT is'))
        rw [eR2, if_neg (of_decide_eq_false hb)]
theorem rowAt_of {rows : List Row} {i : Int} {r : Row} (h : rows[i.toNat]? = some r) : rowAt rows i = r := by unfold rowAt; rw [List.getD_eq_getElem?_getD, h]; rfl
theorem ok_led_if (B : Bi mg) (F : FnP K "led_if" s_led_if f fd) : FnOk P w K mg base (L2.CX P w) 1 f fd P_led_if (spT C T_led_if) := by
  refine fn_ok F sc_led_if (by rintro _ _ _ ⟨x, _, _, _, _, _, _, _, rfl, _⟩; rfl) fun cdv A outer s H E Γ hr ds r e hT herr => ?_
  obtain ⟨w, s, a, xs, c, hw, hs, hxs, rfl, rfl, rfl⟩ := hT
  refine dss_cons (ds_setN 5 (dn_listT B.list (de_name 1 rfl ⟨_, .inl rfl, ?_⟩)))
  refine dss_cons (ds_for [6] (di_tup (de_name 3 rfl ⟨_, rfl,
    fun i ρ => ∃ es h u v z y, led w.rows s a (xs.take i) c = some (es, h) ∧ ρ = [some (.im (encW w)), some (.im (encT s)), some (.im (.int h)), some (.im (encT xs)), some (.im (.int c)), some (.own none (es.map .int)), u, v, z, y], ⟨s, a, _, _, _, _, rfl, rfl⟩, ?_, ?_⟩)))
  · rintro i d ρ2 hi ⟨es, h, u, v, z, y, ha, rfl⟩
    rw [List.getElem?_map, Option.map_eq_some_iff] at hi
    obtain ⟨j, hj, rfl⟩ := hi
    obtain ⟨j0, j1⟩ := hxs j (List.mem_of_getElem? hj)
    obtain ⟨l, hl⟩ : ∃ l, w.rows[j.toNat]? = some l := ⟨_, List.getElem?_eq_getElem (by omega)⟩
    have eL : es.length = w.rows.length := (led_len ha).trans hs
    have step : led w.rows s a xs c = (xs.drop (i + 1)).foldl (ledS w.rows c) (ledS w.rows c (some (es, h)) j) := by rw [led_split hj, ha]
    have step1 : led w.rows s a (xs.take (i + 1)) c = ledS w.rows c (some (es, h)) j := by rw [← ha]; exact fold_next _ _ hj
    have eS : ledS w.rows c (some (es, h)) j = if ledE w.rows c (es, h) j < 0 ∨ ledE w.rows c (es, h) j > l.2.2 then none else some (es.set j.toNat (ledE w.rows c (es, h) j), ledH w.rows (es, h) j) := by
      unfold ledS; rw [Option.bind_some, rowAt_of hl]
    refine dg_name 6 (dss_cons (ds_unpack [7, 8, 9] (de_ixT (de_w1 0 rfl (de_name 6 rfl ⟨_, _, _, rfl, rfl, at_of j0 (by rw [List.getElem?_map, hl]; rfl), dg_tup3 7 8 9 ⟨_, _, _, rfl, ?_⟩⟩)))))
    -- the end of a turn, at the new end e and the new house h'
    have fin : ∀ (e h' : Int) (ρ : Rho), e = ledE w.rows c (es, h) j → h' = ledH w.rows (es, h) j → ρ = [some (.im (encW w)), some (.im (encT s)), some (.im (.int h')), some (.im (encT xs)), some (.im (.int c)), some (.own none ((es.set j.toNat e).map .int)), some (.im (.int j)), some (.im (.int l.1)), some (.im (.int l.2.1)), some (.im (.int l.2.2))] →
        (∀ ρ' : Rho, ρ' = ρ → (¬ (e < 0 ∨ e > l.2.2)) → ∃ es h u v z y, led w.rows s a (xs.take (i + 1)) c = some (es, h) ∧ ρ' = [some (.im (encW w)), some (.im (encT s)), some (.im (.int h)), some (.im (encT xs)), some (.im (.int c)), some (.own none (es.map .int)), u, v, z, y]) ∧
        ((e < 0 ∨ e > l.2.2) → ledD (led w.rows s a xs c) = .none) := by
      rintro e h' ρ rfl rfl rfl
      refine ⟨?_, fun n => ?_⟩
      · rintro ρ' rfl n
        exact ⟨_, _, _, _, _, _, by rw [step1, eS, if_neg n], rfl⟩
      · rw [step, eS, if_pos n, ledS_none]; rfl
    have ix0 : ixN (es.map PyData.int).length j = some j.toNat := ix_of j0 (by rw [List.length_map]; omega)
    have at0 : (es.map PyData.int)[j.toNat]? = some (.int (es.getD j.toNat 0)) := map_int_at (by omega)
    have at1 : ∀ e : Int, atI ((es.set j.toNat e).map PyData.int) j = some (.int e) := fun e => at_of j0 (by rw [List.getElem?_map, List.getElem?_set_self (by omega)]; rfl)
    refine dss_cons (ds_if (dt_eqI (de_name 2 rfl (de_name 7 rfl ⟨_, _, rfl, rfl, fun h1 => ?_, fun h1 => ?_⟩))))
    · have hh : h = (rowAt w.rows j).1 := by rw [rowAt_of hl]; exact of_decide_eq_true h1
      refine dss_cons (ds_augS 5 ip_sub rfl (de_name 6 rfl ⟨_, _, _, _, rfl, rfl, ix0, at0, de_name 4 rfl ⟨_, rfl, rfl, ?_⟩⟩))
      rw [map_set_int]
      refine dss_one (ds_set 2 (de_name 8 rfl ?_))
      obtain ⟨f1, f2⟩ := fin (es.getD j.toNat 0 - c) l.2.1 _ (by unfold ledE; rw [if_pos hh]) (by unfold ledH; rw [if_pos hh, rowAt_of hl]) rfl
      refine dss_one (ds_if (dt_bool (dw_or (dt_lt (de_ixO 5 rfl (de_name 6 rfl ⟨_, _, _, rfl, rfl, at1 _, de_int ⟨_, _, rfl, rfl, fun n1 => ⟨fun _ => ?_, fun z => (by cases z)⟩, fun n1 => ?_⟩⟩))))))
      · exact dss_one (ds_ret (de_non (f2 (.inl (of_decide_eq_true n1))).symm))
      refine dw_or1 (dt_gt (de_ixO 5 rfl (de_name 6 rfl ⟨_, _, _, rfl, rfl, at1 _, de_name 9 rfl ⟨_, _, rfl, rfl, fun n2 => ?_, fun n2 => ?_⟩⟩)))
      · exact dss_one (ds_ret (de_non (f2 (.inr (of_decide_eq_true n2))).symm))
      · exact dss_nil (f1 _ rfl fun n => n.elim (of_decide_eq_false n1) (of_decide_eq_false n2))
    · have hh : ¬ h = (rowAt w.rows j).1 := by rw [rowAt_of hl]; exact of_decide_eq_false h1
      refine dss_cons (ds_augS 5 ip_add rfl (de_name 6 rfl ⟨_, _, _, _, rfl, rfl, ix0, at0, de_name 4 rfl ⟨_, rfl, rfl, ?_⟩⟩))
      rw [map_set_int]
      refine dss_one (ds_set 2 (de_name 7 rfl ?_))
      obtain ⟨f1, f2⟩ := fin (es.getD j.toNat 0 + c) l.1 _ (by unfold ledE; rw [if_neg hh]) (by unfold ledH; rw [if_neg hh, rowAt_of hl]) rfl
      refine dss_one (ds_if (dt_bool (dw_or (dt_lt (de_ixO 5 rfl (de_name 6 rfl ⟨_, _, _, rfl, rfl, at1 _, de_int ⟨_, _, rfl, rfl, fun n1 => ⟨fun _ => ?_, fun z => (by cases z)⟩, fun n1 => ?_⟩⟩))))))
      · exact dss_one (ds_ret (de_non (f2 (.inl (of_decide_eq_true n1))).symm))
      refine dw_or1 (dt_gt (de_ixO 5 rfl (de_name 6 rfl ⟨_, _, _, rfl, rfl, at1 _, de_name 9 rfl ⟨_, _, rfl, rfl, fun n2 => ?_, fun n2 => ?_⟩⟩)))
      · exact dss_one (ds_ret (de_non (f2 (.inr (of_decide_eq_true n2))).symm))
      · exact dss_nil (f1 _ rfl fun n => n.elim (of_decide_eq_false n1) (of_decide_eq_false n2))
  · rintro ρ2 ⟨es, h, u, v, z, y, ha, rfl⟩
    rw [List.length_map, List.take_length] at ha
    refine dss_one (ds_ret (de_tupleL B.tuple (de_own 5 rfl ⟨_, rfl, ?_⟩)))
    show PyData.tuple _ = ledD (led w.rows s a xs c)
    rw [ha]; rfl
theorem leads_along {rows : List Row} {a : Int} {t : D} (h : leadsB rows a t = true) : ∃ hs, alongD rows a t = some hs := by
  unfold leadsB at h
  cases e : alongD rows a t with
  | none => rw [e] at h; cases h
  | some hs => exact ⟨hs, rfl⟩
theorem ok_led_along (B : Bi mg) (Lq : Df P w K mg base "need" P_need 3 (spT C T_need)) (Ls : Df P w K mg base "need_split" P_need_split 4 (spT C T_need_split)) (Lh : Df P w K mg base "need_house" P_need_house 4 (spT C T_need_house)) (Ll : Df P w K mg base "leads_from" P_leads_from 7 (spT C T_leads_from)) (Li : Df P w K mg base "is_integer" P_is_integer 1 (spT C T_is_integer))
    (Lf : Df P w K mg base "led_if" P_led_if 1 (spT C T_led_if)) (F : FnP K "led_along" s_led_along f fd) : FnOk P w K mg base (L2.CX P w) 8 f fd P_led_along (spT C T_led_along) := by
  refine fn_ok F sc_led_along (by rintro _ _ _ ⟨x, _, _, _, _, _, _, rfl, _⟩; rfl) fun cdv A outer s H E Γ hr ds r e hT herr => ?_
  obtain ⟨w, x, y, t, c, hw, ht, rfl, rfl, rfl⟩ := hT
  refine dss_cons (ds_expr (de_call Ls (hr.mono (by decide)) (da_cons (de_name 0 rfl (da_one (de_name 1 rfl ⟨_, _, ⟨w, x, hw, rfl, rfl, rfl⟩, fun w' h => herr _ _ ?_, ?_⟩))))))
  · obtain ⟨h1, rfl⟩ := h
    show ledR w x y t c = _
    unfold ledR; rw [if_neg (by simpa using h1)]
  rintro d ⟨hx, rfl⟩
  refine dss_cons (ds_expr (de_call Lh (hr.mono (by decide)) (da_cons (de_name 0 rfl (da_cons (de_name 2 rfl (da_one (de_str ⟨_, _, ⟨w, y, _, rfl, rfl, rfl⟩, fun w' h => herr _ _ ?_, ?_⟩))))))))
  · obtain ⟨h1, rfl⟩ := h
    show ledR w x y t c = _
    unfold ledR; rw [if_pos hx, if_neg (by simpa using h1)]
  rintro d ⟨hy, rfl⟩
  obtain ⟨s, rfl, hs⟩ := isSplit_iff.mp hx
  obtain ⟨a, rfl, a0, a1⟩ := isH_int hy
  refine dss_cons (ds_expr (de_call Lq (hr.mono (by decide)) (da_cons (de_call Ll hr (da_cons (de_name 0 rfl (da_cons (de_name 2 rfl (da_one (de_name 3 rfl ⟨_, _, ⟨w, a, t, hw, hy, ht, rfl, rfl, rfl⟩, fun _ h => h.elim, ?_⟩))))))))))
  rintro d rfl
  refine da_one (de_str ⟨_, _, ⟨_, _, rfl, rfl, rfl⟩, fun w' h => herr _ _ ?_, ?_⟩)
  · obtain ⟨h1, rfl⟩ := h
    show ledR w (encT s) (.int a) t c = _
    unfold ledR; rw [if_pos hx, if_pos hy, if_neg (show ¬ leadsB w.rows (toI (.int a)) t = true by simpa [toI] using h1)]
  rintro d ⟨hl, rfl⟩
  obtain ⟨hs', ea⟩ := leads_along hl
  obtain ⟨is', rfl, hi, hlen⟩ := alongD_tup ea
  refine dss_cons (ds_expr (de_call Lq (hr.mono (by decide)) (da_cons (de_is (.bool (posB c)) ?_ ?_))))
  · refine de_and (de_call Li (hr.mono (by decide)) (da_one (de_name 4 rfl ⟨_, _, ⟨c, rfl, rfl, rfl⟩, fun _ h => h.elim, ?_⟩)))
    rintro d rfl
    refine ⟨_, rfl, fun h => ?_, fun h => ⟨?_, rfl⟩⟩
    · obtain ⟨i, rfl⟩ := isI_int h
      exact de_one (de_ge (de_name 4 rfl (de_int ⟨_, _, rfl, rfl, rfl, rfl⟩)))
    · cases c <;> first | rfl | cases h
  refine da_one (de_str ⟨_, _, ⟨_, _, rfl, rfl, rfl⟩, fun w' h => herr _ _ ?_, ?_⟩)
  · obtain ⟨h1, rfl⟩ := h
    show ledR w (encT s) (.int a) (encT is') c = _
    unfold ledR; rw [if_pos hx, if_pos hy, if_pos (show leadsB w.rows (toI (.int a)) (encT is') = true from hl), if_neg (by simpa using h1)]
  rintro d ⟨hc, rfl⟩
  obtain ⟨c, rfl⟩ : ∃ c', c = .int c' := by cases c <;> first | exact ⟨_, rfl⟩ | cases hc
  have eR : ledR w (encT s) (.int a) (encT is') (.int c) = match led w.rows s a is' c with | none => .error "coins" | some p => .ok (encT p.1) := by
    unfold ledR; rw [if_pos hx, if_pos hy, if_pos (show leadsB w.rows (toI (.int a)) (encT is') = true from hl), if_pos hc, toIs_enc, toIs_enc]; rfl
  refine dss_cons (ds_set 5 (de_call Lf (hr.mono (by decide)) (da_cons (de_name 0 rfl (da_cons (de_name 1 rfl (da_cons (de_name 2 rfl (da_cons (de_name 3 rfl (da_one (de_name 4 rfl ⟨_, _, ⟨w, s, a, is', c, hw, hs.1, hi, rfl, rfl, rfl⟩, fun _ h => h.elim, ?_⟩))))))))))))
  rintro d rfl
  refine dss_cons (ds_expr (de_call Lq (hr.mono (by decide)) (da_cons (de_notN (de_name 5 rfl (da_one (de_str ⟨_, _, ⟨_, _, rfl, rfl, rfl⟩, fun w' h => herr _ _ ?_, ?_⟩)))))))
  · obtain ⟨h1, rfl⟩ := h
    show ledR w (encT s) (.int a) (encT is') (.int c) = _
    rw [eR]
    cases e : led w.rows s a is' c with
    | none => rfl
    | some p => rw [e] at h1; cases h1
  rintro d ⟨h1, rfl⟩
  refine dss_one (ds_ret (de_name 5 rfl ?_))
  show ledR w (encT s) (.int a) (encT is') (.int c) = .ok (ledD (led w.rows s a is' c))
  rw [eR]
  cases e : led w.rows s a is' c with
  | none => rw [e] at h1; cases h1
  | some p => rfl
end
end HL
namespace DL
open PySem PySem.Spec PyProof.Rows L2
/-- the script: a list that stands from outside -/
def scrP (K : PySem.W.Frag) (G : Hp) (ns : List Int) : V → Prop := fun v => ∃ a, v = .ref a ∧ ∀ H', Ex G H' → SqL K H' a (ns.map V.int)
def startS (N : List Str) (p : V → Prop) : Rho := some (.raw p) :: List.replicate (N.length - 1) none
theorem startS_not {N : List Str} {p : V → Prop} {i : Nat} {b : Bd} (h : (startS N p)[i]? = some (some b)) : i = 0 ∧ b = .raw p := by
  cases i with
  | zero => cases h; exact ⟨rfl, rfl⟩
  | succ i =>
    unfold startS at h
    rw [List.getElem?_cons_succ, List.getElem?_replicate] at h
    split at h <;> cases h
theorem eo_startS {N : List Str} {H G : Hp} {v : V} {p : V → Prop} (e : Ex G H) (r : p v) : EO H G (startS N p) (L2.start N [v]) H G where
  len := by simp [startS, L2.start, Nat.add_comm]
  h0 := .refl _
  g0 := .refl _
  gh := e
  fr := fun b o h1 h2 => by rw [h2] at h1; cases h1
  im := fun i d h => by cases (startS_not h).2
  own := fun i ds h => by cases (startS_not h).2
  sep := fun i j ds es a h => by cases (startS_not h).2
  adr := fun i b ds h => by cases (startS_not h).2
  raw := fun i p' h => by
    obtain ⟨rfl, e⟩ := startS_not h
    cases e
    exact ⟨v, start_get rfl, r⟩
section
variable {X : Cx} {C : Addr} {Γ : Gm X C} {a b tg : Expr} {ρ : Rho} {pos p p2 : Pos} {k : D → Rho → Prop} {x y : Str}
theorem de_mulW (h : DE Γ a ρ (fun x ρ1 => DE Γ b ρ1 (fun y ρ2 => II x y fun i j => CMulW i j ∧ k (.int (i * j)) ρ2))) : DE Γ (.BinOp a .Mult b pos) ρ k :=
  de_op op_mulW h fun x y ρ2 u v σ H2 G2 Q ⟨i, j, e1, e2, hc, hm⟩ eo ru rv hk => by subst e1; subst e2; cases ru; cases rv; exact ⟨i, j, rfl, rfl, hc, hk _ _ _ _ _ hm eo (.refl _) (.int _)⟩
theorem de_lenS (i : Nat) {ns : List Int} (hl : ρ[i]? = some (some (.raw (scrP X.K Γ.G0 ns)))) (hm : X.mg "len" = none) (hk : k (.int (ns.length : Nat)) ρ) (hg : Gl X "len" := by rfl) (hN : X.N[i]? = some x := by rfl) (hv : Vis X.env.scope x := by first | exact Or.inl rfl | exact Or.inr (Or.inl rfl) | exact Or.inr (Or.inr rfl))
    (hd : (x == ("__debug__" : Str)) = false := by decide) (hcd : (x == ("__classdict__" : Str)) = false := by decide)
    (hs : starEach [.Name x p2] X.env = (false, eval (.Name x p2) X.env) :: starEach [] X.env := by rfl) (hpl : (backTo pos (starEach [] X.env)).any (·.1) = false := by rfl) : DE Γ (.Call (.Name "len" p) [.Name x p2] [] pos) ρ k :=
  de_of (pe_callB call_len hg hm PySem.boot_len (pa_cons (pe_var hN hv hd hcd) pa_nil hs) (by decide) (by decide) hs hpl) fun σ H G Q eo hk' => by
    obtain ⟨v, h1, c, rfl, h2⟩ := eo.raw i _ hl
    exact ⟨_, h1, _, ns.length, rfl, .inl ⟨_, h2 _ (eo.g0.trans eo.gh), by rw [List.length_map]⟩, hk' _ _ _ _ _ hk eo (.refl _) (.int _)⟩
theorem sw_scr {K : PySem.W.Frag} {l : Addr} {ns : List Int} {G : Hp} (g : ∀ H', Ex G H' → SqL K H' l (ns.map V.int)) : SW (Itl K l) (ns.map .int) G where
  stop := fun H' e => ⟨_, g H' e, by rw [List.length_map, List.length_map]; exact Nat.le_refl _⟩
  go := fun i H' hi e => by
    rw [List.length_map] at hi
    exact ⟨_, .int ns[i], g H' e, by rw [List.getElem?_map, List.getElem?_eq_getElem hi]; rfl⟩
  yld := fun i d H' v H'' hd e ⟨e1, e2⟩ => by
    subst e1
    refine ⟨.refl _, fun H0 G0 ρ σ G1 eo x => ⟨G1, eo, .refl _, ?_⟩⟩
    rw [List.getElem?_map, Option.map_eq_some_iff] at hd
    obtain ⟨n, h1, rfl⟩ := hd
    have := e2 _ (g _ e)
    rw [List.getElem?_map, h1] at this
    cases this
    exact .int _
theorem di_scr (i : Nat) {ns : List Int} {k : List D → Rho → Prop} (hl : ρ[i]? = some (some (.raw (scrP X.K Γ.G0 ns)))) (hk : k (ns.map .int) ρ) (hN : X.N[i]? = some x := by rfl) (hv : Vis X.env.scope x := by first | exact Or.inl rfl | exact Or.inr (Or.inl rfl) | exact Or.inr (Or.inr rfl))
    (hd : (x == ("__debug__" : Str)) = false := by decide) (hcd : (x == ("__classdict__" : Str)) = false := by decide) : DI Γ tg (.Name x p) ρ k :=
  ⟨_, pi_list (pe_var hN hv hd hcd), fun σ H G R eo hr => by
    obtain ⟨v, h1, c, rfl, h2⟩ := eo.raw i _ hl
    exact ⟨_, h1, c, rfl, ⟨_, h2 _ (eo.g0.trans eo.gh)⟩, hr _ ρ _ H G hk eo (.refl _) (sw_scr fun H' e => h2 H' (eo.g0.trans e))⟩⟩
end
/-- the pool, out of the script -/
def spPool (K : PySem.W.Frag) : Sp := fun vs H Q _ => ∃ (a : Addr) (ns : List Int) (G : Hp), vs = [V.ref a] ∧ (∀ H', Ex G H' → SqL K H' a (ns.map V.int)) ∧ Ex G H ∧ (∀ b xs, G b ≠ some (.lst xs)) ∧
  ∀ b H' (ps : List Int), Ex H H' → H b = none → H' b = some (.lst (ps.map V.int)) → Q (.ref b) H'
/-- the law: True -/
def spLaw (K : PySem.W.Frag) : Sp := fun vs H Q _ => ∃ (a : Addr) (ns : List Int), vs = [V.ref a] ∧ Only H ∧ SqL K H a (ns.map V.int) ∧ ∀ H', Q (.bl true) H'
theorem scrP_of {K : PySem.W.Frag} {H : Hp} {a : Addr} {ns : List Int} (h : SqL K H a (ns.map V.int)) : scrP K H ns (.ref a) := ⟨a, rfl, fun H' e => SqL.ext h e⟩
section
variable {P : Program} {w : World} {K : PySem.W.Frag} {mg : Str → Option Value} {base : Heap} {x : Str} {st : Stmt} {f C : Addr} {fd : FuncData} {N ps : List Str} {k : Nat}
theorem fn_okS (F : FnP K x st f fd) (S : FnScope N ps (defScope st)) (hn : ps.length = 1)
    (body : ∀ (cdv : Value) (A : Around) (outer : List Env) (s : Shared) (H : Hp) (E : XK) (Γ : Gm (CF P w K mg base N x st f cdv A outer s H E) C), Room k (A.deeper (envOfC x (defScope st) s.heap.objs.size f cdv)) → ∀ ns,
      DSs Γ (defBody st) (startS N (scrP K Γ.G0 ns)) { nx := fun _ => False, rt := fun d _ => ∃ qs : List Int, d = .list (qs.map .int) }) : FnOk P w K mg base (L2.CX P w) (k + 1) f fd ps (spPool K) := by
  refine F.ok S (fun vs H Q E h => ?_) (fun cdv A outer s H vs Q E hr h => ?_)
  · obtain ⟨a, ns, G, rfl, _⟩ := h
    rw [hn]; rfl
  · obtain ⟨a, ns, G, rfl, h1, h2, h3, h4⟩ := h
    let Γ : Gm (CF P w K mg base N x st f cdv A outer s H E) C :=
      { H0 := H, G0 := G, E := fun _ => E, err := fun _ _ => False, tk := takes_of rfl rfl rfl rfl, hE := fun _ _ _ _ _ _ z => z.elim, pown := passes_of rfl, nd := S.nd }
    refine ⟨tUSs Γ (defBody st), pss_U Γ _, startS N (scrP K G ns), G, _, body cdv A outer s H E Γ hr ns, eo_startS h2 ⟨a, rfl, h1⟩,
      ⟨fun _ _ _ _ z => z.elim, fun d ρ v σ H' G' z y _ r => ?_, fun _ _ _ _ z => z.elim, fun _ _ _ _ z => z.elim⟩⟩
    obtain ⟨qs, rfl⟩ := z
    cases r with
    | @lst b vs ds g rs =>
      obtain rfl := rs.ints
      refine h4 b H' qs y.h0 (y.fr b _ g ?_) (y.gh _ _ g)
      show G b = none
      cases e : G b with
      | none => rfl
      | some o => have := y.g0 _ _ e; rw [g] at this; cases this; exact (h3 _ _ e).elim
theorem fn_okLaw (F : FnP K x st f fd) (S : FnScope N ps (defScope st)) (hn : ps.length = 1)
    (body : ∀ (cdv : Value) (A : Around) (outer : List Env) (s : Shared) (H : Hp) (E : XK) (Γ : Gm (CF P w K mg base N x st f cdv A outer s H E) C), Room k (A.deeper (envOfC x (defScope st) s.heap.objs.size f cdv)) → (∀ b xs, Γ.G0 b ≠ some (.lst xs)) → ∀ ns,
      DSs Γ (defBody st) (startS N (scrP K Γ.G0 ns)) { nx := fun _ => False, rt := fun d _ => d = .bool true }) : FnOk P w K mg base (L2.CX P w) (k + 1) f fd ps (spLaw K) := by
  refine F.ok S (fun vs H Q E h => ?_) (fun cdv A outer s H vs Q E hr h => ?_)
  · obtain ⟨a, ns, rfl, _⟩ := h
    rw [hn]; rfl
  · obtain ⟨a, ns, rfl, h1, h2, h4⟩ := h
    let Γ : Gm (CF P w K mg base N x st f cdv A outer s H E) C :=
      { H0 := H, G0 := H, E := fun _ => E, err := fun _ _ => False, tk := takes_of rfl rfl rfl rfl, hE := fun _ _ _ _ _ _ z => z.elim, pown := passes_of rfl, nd := S.nd }
    refine ⟨tUSs Γ (defBody st), pss_U Γ _, startS N (scrP K H ns), H, _, body cdv A outer s H E Γ hr (fun b xs e => ?_) ns, eo_startS (.refl _) (scrP_of h2),
      ⟨fun _ _ _ _ z => z.elim, fun d ρ v σ H' G' z y _ r => ?_, fun _ _ _ _ z => z.elim, fun _ _ _ _ z => z.elim⟩⟩
    · have e : H b = some (.lst xs) := e
      rcases h1 b with h | ⟨o, us, h⟩ <;> rw [e] at h <;> cases h
    · subst z; cases r; exact h4 H'
theorem dn_callPool {X : Cx} {Γ : Gm X C} {ρ : Rho} {k : List D → Rho → Prop} {y : Str} {lv : Nat} {p p2 pos : Pos} (i : Nat) {ns : List Int} (F : Df X.prog X.w X.K X.mg X.base x ps lv (spPool X.K)) (hr : Room lv X.A) (hG : ∀ b xs, Γ.G0 b ≠ some (.lst xs))
    (hl : ρ[i]? = some (some (.raw (scrP X.K Γ.G0 ns)))) (hk : ∀ qs : List Int, k (qs.map .int) ρ) (hg : Gl X x := by rfl) (hN : X.N[i]? = some y := by rfl) (hv : Vis X.env.scope y := by first | exact Or.inl rfl | exact Or.inr (Or.inl rfl) | exact Or.inr (Or.inr rfl))
    (hd : (y == ("__debug__" : Str)) = false := by decide) (hcd : (y == ("__classdict__" : Str)) = false := by decide)
    (hdb : (x == ("__debug__" : Str)) = false := by decide) (he : starEach [.Name y p2] X.env = (false, eval (.Name y p2) X.env) :: starEach [] X.env := by rfl) (hpl : (backTo pos (starEach [] X.env)).any (·.1) = false := by rfl) :
    DN Γ (.Call (.Name x p) [.Name y p2] [] pos) ρ k := by
  obtain ⟨f, fd, gm, kp, bd, fo⟩ := F.ex
  exact dn_of (pe_callS fo hr hg gm kp bd Γ.pass (pa_cons (pe_var hN hv hd hcd) pa_nil he) hdb he hpl) fun σ H G Q eo hk' => by
    obtain ⟨v, h1, c, rfl, h2⟩ := eo.raw i _ hl
    refine ⟨_, h1, c, ns, Γ.G0, rfl, h2, eo.g0.trans eo.gh, hG, fun b H' qs x1 x2 x3 => ?_⟩
    exact hk' _ ρ b _ H' G (hk qs) (eo.stay x1) (.refl _) x3 RvA.ofInts (eo.gh.none x2) (eo.h0.none x2) (fun z => eo.newNot x2 z)
end
end DL
namespace HL
open PySem PySem.Spec PyProof.Rows L2 DL
theorem snoc_int (ps : List Int) (x : Int) : ps.map PyData.int ++ [.int x] = (ps ++ [x]).map .int := by rw [List.map_append]; rfl
abbrev Q_take : Pp := { n := 1, pre := fun _ ds => ∃ b : Int, 0 < b ∧ ds = [.int b], ok := fun _ ds d _ => ∃ b i : Int, ds = [.int b] ∧ d = .int i ∧ 0 ≤ i ∧ i < b }
abbrev Q_great : Pp := { n := 0, pre := fun _ _ => True, ok := fun _ ds d _ => ∃ i : Int, d = .int i ∧ 0 ≤ i ∧ i < 10 ^ 30 }
section
variable {P : Program} {w : World} {K : PySem.W.Frag} {mg : Str → Option Value} {base : Heap} {f C : Addr} {fd : FuncData}
theorem ok_law_pool (B : Bi mg) (F : FnP K "_law_pool" s_law_pool f fd) : FnOk P w K mg base (L2.CX P w) 1 f fd P_law_pool (spPool K) := by
  refine fn_okS (C := f) F sc_law_pool rfl fun cdv A outer s H E Γ hr ns => ?_
  refine dss_cons <| ds_setN 1 <| dn_list <| da_nil ⟨Nat.le_of_ble_eq_true rfl, ?_⟩
  refine dss_cons <| ds_if <| dt_eqI <| de_lenS 0 rfl B.len <| de_int ⟨_, _, rfl, rfl, fun hb => ?_, fun hb => dss_nil ?_⟩
  · exact dss_one (ds_ret (de_own 1 rfl ⟨[], rfl⟩))
  refine dss_cons <| ds_set 2 <| de_int ?_
  refine dss_cons <| ds_for [3] <| di_scr 0 rfl ⟨fun i ρ => ∃ (ps : List Int) (st : Int) (u v y : Option Bd), ps.length < 150 ∧ 0 ≤ st ∧ st < 2 ^ 31 ∧ ρ = [some (.raw (scrP K Γ.G0 ns)), some (.own none (ps.map .int)), some (.im (.int st)), u, v, y], ⟨[], 50021, _, _, _, by decide, by decide, by decide, rfl⟩, ?_, ?_⟩
  · rintro i d ρ2 hi ⟨ps, st, u, v, y, hl, h0, h1, rfl⟩
    rw [List.getElem?_map, Option.map_eq_some_iff] at hi
    obtain ⟨cell, hc, rfl⟩ := hi
    refine dg_name 3 <| dss_cons <| ds_set 2 <| de_mod <| de_intI B.int <| de_add <| de_add <| de_mul <| de_name 2 rfl <| de_int ⟨_, _, rfl, rfl, .inr ⟨by decide, by decide⟩, de_mod <| de_intI B.int <| de_name 3 rfl ⟨_, rfl, de_int ⟨_, _, rfl, rfl, by decide, _, _, rfl, rfl, de_int ⟨_, _, rfl, rfl, _, rfl, de_int ⟨_, _, rfl, rfl, by decide, ?_⟩⟩⟩⟩⟩
    generalize hst : (st * 69621 + cell % 2147483497 + 23) % 2147483629 = st1
    have s0 : 0 ≤ st1 := by rw [← hst]; exact Int.emod_nonneg _ (by decide)
    have s1 : st1 < 2147483629 := by rw [← hst]; exact Int.emod_lt_of_pos _ (by decide)
    refine dss_one <| ds_if <| dt_lt <| de_lenO 1 rfl B.len <| de_int ⟨_, _, rfl, rfl, fun hb => ?_, fun hb => dss_nil ⟨ps, st1, _, _, _, hl, s0, by omega, rfl⟩⟩
    have hb := of_decide_eq_true hb
    rw [List.length_map] at hb
    refine dss_one <| ds_if <| dt_ge <| de_name 3 rfl <| de_pow <| de_int <| de_int ⟨_, _, rfl, rfl, ⟨by decide, by decide, by decide⟩, _, _, rfl, rfl, fun hb => ?_, fun hb => ?_⟩
    · refine dss_cons <| ds_set 4 <| de_name 3 rfl ?_
      refine dss_one <| ds_for [5] <| di_range B.range <| de_int ⟨60, rfl, by decide, by decide, fun j ρ => ∃ (qs : List Int) (left : Int) (y : Option Bd), j ≤ 60 ∧ qs.length ≤ ps.length + j ∧ ρ = [some (.raw (scrP K Γ.G0 ns)), some (.own none (qs.map .int)), some (.im (.int st1)), some (.im (.int cell)), some (.im (.int left)), y], ⟨ps, cell, _, by decide, by omega, rfl⟩, ?_, ?_⟩
      · rintro j d ρ2 hj ⟨qs, left, y, hj2, hq, rfl⟩
        obtain ⟨hj3, rfl⟩ := upto_get hj
        have hj3 : j < 60 := hj3
        refine dg_name 5 <| dss_cons <| ds_if <| dt_eqI <| de_name 4 rfl <| de_int ⟨_, _, rfl, rfl, fun hb => dss_one <| ds_break ?_, fun hb => dss_nil ?_⟩
        · exact ⟨qs, st1, _, _, _, by omega, s0, by omega, rfl⟩
        refine dss_cons <| ds_append 1 rfl <| de_mod <| de_intI B.int <| de_name 4 rfl ⟨_, rfl, de_int ⟨_, _, rfl, rfl, by decide, _, rfl, by rw [List.length_map, sizeLine_eq]; omega, ?_⟩⟩
        rw [snoc_int]
        refine dss_one <| ds_set 4 <| de_fdiv <| de_name 4 rfl <| de_int ⟨_, _, rfl, rfl, ⟨by decide, by decide⟩, ?_⟩
        exact ⟨_, _, _, by omega, by rw [List.length_append, List.length_singleton]; omega, rfl⟩
      · rintro ρ2 ⟨qs, left, y, hj2, hq, rfl⟩
        rw [upto_len] at hq
        have hq : qs.length ≤ ps.length + 60 := hq
        exact ⟨qs, st1, _, _, _, by omega, s0, by omega, rfl⟩
    · refine dss_one <| ds_append 1 rfl <| de_mod <| de_intI B.int <| de_add <| de_mul <| de_fdiv <| de_name 2 rfl <| de_int ⟨_, _, rfl, rfl, ⟨by decide, by decide⟩, de_int ⟨_, _, rfl, rfl, .inr ⟨by decide, by decide⟩, de_name 2 rfl ⟨_, _, rfl, rfl, _, rfl, de_int ⟨_, _, rfl, rfl, by decide, _, rfl, by rw [List.length_map, sizeLine_eq]; omega, ?_⟩⟩⟩⟩
      rw [snoc_int]
      exact ⟨_, st1, _, _, _, by rw [List.length_append, List.length_singleton]; omega, s0, by omega, rfl⟩
  · rintro ρ2 ⟨ps, st, u, v, y, hl, h0, h1, rfl⟩
    refine dss_cons <| ds_for [5] <| di_range B.range <| de_int ⟨130, rfl, by decide, by decide, fun j ρ => ∃ (qs : List Int) (st : Int) (u v y : Option Bd), qs.length ≤ 150 + j ∧ 0 ≤ st ∧ st < 2 ^ 31 ∧ ρ = [some (.raw (scrP K Γ.G0 ns)), some (.own none (qs.map .int)), some (.im (.int st)), u, v, y], ⟨ps, st, _, _, _, by omega, h0, h1, rfl⟩, ?_, ?_⟩
    · rintro j d ρ2 hj ⟨qs, st, u, v, y, hq, h0, h1, rfl⟩
      obtain ⟨hj3, rfl⟩ := upto_get hj
      have hj3 : j < 130 := hj3
      refine dg_name 5 <| dss_cons <| ds_set 2 <| de_mod <| de_intI B.int <| de_add <| de_add <| de_mul <| de_name 2 rfl <| de_int ⟨_, _, rfl, rfl, .inr ⟨by decide, by decide⟩, de_int ⟨_, _, rfl, rfl, de_name 5 rfl ⟨_, _, rfl, rfl, _, rfl, de_int ⟨_, _, rfl, rfl, by decide, ?_⟩⟩⟩⟩
      generalize hst : (st * 30269 + 50069 + (j : Nat)) % 2147483587 = st1
      have s0 : 0 ≤ st1 := by rw [← hst]; exact Int.emod_nonneg _ (by decide)
      have s1 : st1 < 2147483587 := by rw [← hst]; exact Int.emod_lt_of_pos _ (by decide)
      refine dss_one <| ds_append 1 rfl <| de_mod <| de_intI B.int <| de_add <| de_mul <| de_fdiv <| de_name 2 rfl <| de_int ⟨_, _, rfl, rfl, ⟨by decide, by decide⟩, de_name 2 rfl ⟨_, _, rfl, rfl, .inr ⟨by omega, by omega⟩, de_fdiv <| de_name 2 rfl <| de_int ⟨_, _, rfl, rfl, ⟨by decide, by decide⟩, _, _, rfl, rfl, _, rfl, de_int ⟨_, _, rfl, rfl, by decide, _, rfl, by rw [List.length_map, sizeLine_eq]; omega, ?_⟩⟩⟩⟩
      rw [snoc_int]
      exact ⟨_, st1, _, _, _, by rw [List.length_append, List.length_singleton]; omega, s0, by omega, rfl⟩
    · rintro ρ2 ⟨qs, st, u, v, y, hq, h0, h1, rfl⟩
      refine dss_one <| ds_ret <| de_new <| dn_revL <| de_own 1 rfl ⟨_, rfl, qs.reverse, ?_⟩
      rw [List.map_reverse]
theorem ok_law_take (B : Bi mg) (F : FnP K "_law_take" s_law_take f fd) : FnOk P w K mg base (L2.CX P w) 1 f fd P_law_take (spPl Q_take) := by
  refine fn_okP (C := f) F sc_law_take rfl fun cdv A outer s H E Γ hr a qs ds hl hp => ?_
  obtain ⟨b, hb, rfl⟩ := hp
  refine dss_cons <| ds_if <| dt_eqI <| de_lenO 0 rfl B.len <| de_int ⟨_, _, rfl, rfl, fun hz => ?_, fun hz => dss_nil ?_⟩
  · exact dss_one (ds_ret (de_int ⟨qs, rfl, b, 0, rfl, rfl, by decide, hb⟩))
  · have hq : qs.length ≠ 0 := by
      have := of_decide_eq_false hz
      rw [List.length_map] at this
      omega
    refine dss_one <| ds_ret <| de_mod <| de_intI B.int <| de_pop 0 rfl (d := .int (qs.getD ((qs.map PyData.int).length - 1) 0)) (map_int_at (by rw [List.length_map]; omega)) ⟨_, rfl, de_name 1 rfl ⟨_, _, rfl, rfl, hb, qs.dropLast, ?_, b, _, rfl, rfl, Int.emod_nonneg _ (by omega), Int.emod_lt_of_pos _ hb⟩⟩
    rw [List.map_dropLast]; rfl
/-- a draw -/
theorem de_take {X : Cx} {Γ : Gm X C} {ρ : Rho} {b : Expr} {k : D → Rho → Prop} {y : Str} {p p2 pos : Pos} (i : Nat) {oa : Option Addr} {ps0 : List Int} (hi0 : ρ[i]? = some (some (.own oa (ps0.map .int)))) (L : Df X.prog X.w X.K X.mg X.base "_law_take" P_law_take 1 (spPl Q_take)) (hr : Room 1 X.A)
    (h : DE Γ b ρ (fun x ρ1 => ∃ n : Int, x = .int n ∧ 0 < n ∧ ∃ ps1 : List Int, ρ1[i]? = some (some (.own oa (ps1.map .int))) ∧ ∀ (j : Int) (ps' : List Int), 0 ≤ j → j < n → k (.int j) (ρ1.set i (some (.own oa (ps'.map .int)))))) (hg : Gl X "_law_take" := by rfl)
    (hN : X.N[i]? = some y := by rfl) (hv : Vis X.env.scope y := by first | exact Or.inl rfl | exact Or.inr (Or.inl rfl) | exact Or.inr (Or.inr rfl))
    (hd : (y == ("__debug__" : Str)) = false := by decide) (hcd : (y == ("__classdict__" : Str)) = false := by decide)
    (he : starEach [.Name y p2, b] X.env = (false, eval (.Name y p2) X.env) :: starEach [b] X.env := by rfl) (he2 : starEach [b] X.env = (false, eval b X.env) :: starEach [] X.env := by rfl) (hpl : (backTo pos (starEach [b] X.env)).any (·.1) = false := by rfl) :
    DE Γ (.Call (.Name "_law_take" p) [.Name y p2, b] [] pos) ρ k := by
  refine de_callP i hi0 L hr (da_one (h.mono ?_) he2) hg hN hv hd hcd (by decide) he hpl
  rintro x ρ1 ⟨n, rfl, hn, ps1, h1, h2⟩
  refine ⟨rfl, ps1, h1, ⟨n, hn, rfl⟩, ?_⟩
  rintro d ps' ⟨b', j, e, rfl, j0, j1⟩
  cases e
  exact h2 j ps' j0 j1
theorem ok_law_great (B : Bi mg) (L : Df P w K mg base "_law_take" P_law_take 1 (spPl Q_take)) (F : FnP K "_law_great" s_law_great f fd) : FnOk P w K mg base (L2.CX P w) 2 f fd P_law_great (spPl Q_great) := by
  refine fn_okP (C := f) F sc_law_great rfl fun cdv A outer s H E Γ hr a qs ds hl hp => ?_
  obtain rfl : ds = [] := List.length_eq_zero_iff.mp hl
  refine dss_cons <| ds_set 1 <| de_int ?_
  refine dss_cons <| ds_for [2] <| di_range B.range <| de_int ⟨10, rfl, by decide, by decide, fun j ρ => ∃ (ps : List Int) (v : Int) (u : Option Bd), 0 ≤ v ∧ v < 1000 ^ j ∧ ρ = [some (.own (some a) (ps.map .int)), some (.im (.int v)), u], ⟨qs, 0, _, by decide, by decide, rfl⟩, ?_, ?_⟩
  · rintro j d ρ2 hj ⟨ps, v, u, v0, v1, rfl⟩
    refine dg_name 2 <| dss_one <| ds_set 1 <| de_add <| de_mul <| de_name 1 rfl <| de_int ⟨_, _, rfl, rfl, .inr ⟨by decide, by decide⟩, de_take 0 rfl L hr <| de_int ⟨1000, rfl, by decide, ps, rfl, fun t ps' t0 t1 => ⟨_, _, rfl, rfl, ps', v * 1000 + t, _, by omega, ?_, rfl⟩⟩⟩
    rw [Int.pow_succ]; omega
  · rintro ρ2 ⟨ps, v, u, v0, v1, rfl⟩
    refine dss_one <| ds_ret <| de_name 1 rfl ⟨ps, rfl, v, rfl, v0, ?_⟩
    rw [upto_len] at v1
    have e : (1000 : Int) ^ 10 = 10 ^ 30 := by decide
    exact e ▸ v1
end
end HL
namespace HL
open PySem PySem.Spec PyProof.Rows L2 DL
def cnt (rows : List Row) : Int := rows.foldl (fun t r => t * (r.2.2 + 1)) 1
structure Web.Fit (w : Web) (most : Int) : Prop where
  ok : w.Ok
  big : ∀ r ∈ w.rows, r.2.2 ≤ 10 ^ 30
  cnt : most = 200 → cnt w.rows ≤ 200
abbrev Q_net : Pp := { n := 1, pre := fun _ ds => ∃ most : Int, (most = 0 ∨ most = 200) ∧ ds = [.int most], ok := fun _ ds d _ => ∃ (most : Int) (w : Web), ds = [.int most] ∧ w.Fit most ∧ d = encW w }
abbrev T_law_int : DL.Tm := fun ds r e => ∃ x, ds = [x] ∧ r = is (.bool (isI x)) ∧ e = noE
abbrev T_law_row : DL.Tm := fun ds r e => ∃ (s : List Int) (y : D), s.length ≤ 1000 ∧ (y = encI s ∨ y = encT s) ∧ ds = [encT s, y] ∧ r = is (.bool true) ∧ e = noE
abbrev T_law_purses : DL.Tm := fun ds r e => ∃ w s, w.Ok ∧ Sok w.rows s ∧ ds = [encW w, encT s] ∧ r = is (encI (purses w s)) ∧ e = noE
def holds (w : Web) : List Int := (List.range w.n).map fun h => hold w (h : Nat)
abbrev T_law_holds : DL.Tm := fun ds r e => ∃ w : Web, w.Ok ∧ ds = [encW w] ∧ r = is (encI (holds w)) ∧ e = noE
theorem cnt_snoc (rows : List Row) (r : Row) : cnt (rows ++ [r]) = cnt rows * (r.2.2 + 1) := by unfold cnt; rw [List.foldl_append]; rfl
theorem lay_ints : ∀ s : List Int, PyData.canLayAll0 (s.map .int) = true
  | [] => rfl
  | _ :: s => by rw [List.map_cons]; show (true && _) = true; rw [lay_ints s]; rfl
theorem depth_ints : ∀ s : List Int, PyData.depthAll (s.map .int) = 0
  | [] => rfl
  | _ :: s => by rw [List.map_cons]; show max 0 _ = 0; rw [depth_ints s]; rfl
theorem shaped_encI (s : List Int) : SeqAt.shaped (encI s) = true := by
  show (PyData.canLayAll0 (s.map .int) && decide (PyData.depthAll (s.map .int) + 1 ≤ 64)) = true
  rw [lay_ints, depth_ints]; rfl
theorem eqv_encI (s : List Int) : PyData.eqv (encI s) (encI s) = true := SeqAt.eqv_refl _ (SeqAt.canLay_of_shaped (shaped_encI s))
theorem shaped_encT (s : List Int) : SeqAt.shaped (encT s) = true := by
  show (PyData.canLayAll0 (s.map .int) && decide (PyData.depthAll (s.map .int) + 1 ≤ 64)) = true
  rw [lay_ints, depth_ints]; rfl
theorem eqv_encT (s : List Int) : PyData.eqv (encT s) (encT s) = true := SeqAt.eqv_refl _ (SeqAt.canLay_of_shaped (shaped_encT s))
theorem below8 {j : Int} (h0 : 0 ≤ j) (h1 : j < 8) : j = 0 ∨ j = 1 ∨ j = 2 ∨ j = 3 ∨ j = 4 ∨ j = 5 ∨ j = 6 ∨ j = 7 := by omega
theorem list_n {j : Int} (h0 : 0 ≤ j) (h1 : j < 8) : ∃ n : Nat, atI [PyData.int 2, .int 1, .int 3, .int 4, .int 5, .int 3, .int 4, .int 8] j = some (.int (n : Nat)) ∧ 1 ≤ n ∧ n ≤ 8 := by
  rcases below8 h0 h1 with rfl | rfl | rfl | rfl | rfl | rfl | rfl | rfl
  · exact ⟨2, rfl, by decide, by decide⟩
  · exact ⟨1, rfl, by decide, by decide⟩
  · exact ⟨3, rfl, by decide, by decide⟩
  · exact ⟨4, rfl, by decide, by decide⟩
  · exact ⟨5, rfl, by decide, by decide⟩
  · exact ⟨3, rfl, by decide, by decide⟩
  · exact ⟨4, rfl, by decide, by decide⟩
  · exact ⟨8, rfl, by decide, by decide⟩
theorem list_m {j : Int} (h0 : 0 ≤ j) (h1 : j < 8) : ∃ n : Nat, atI [PyData.int 2, .int 0, .int 1, .int 3, .int 4, .int 5, .int 6, .int 7] j = some (.int (n : Nat)) ∧ n ≤ 7 := by
  rcases below8 h0 h1 with rfl | rfl | rfl | rfl | rfl | rfl | rfl | rfl
  · exact ⟨2, rfl, by decide⟩
  · exact ⟨0, rfl, by decide⟩
  · exact ⟨1, rfl, by decide⟩
  · exact ⟨3, rfl, by decide⟩
  · exact ⟨4, rfl, by decide⟩
  · exact ⟨5, rfl, by decide⟩
  · exact ⟨6, rfl, by decide⟩
  · exact ⟨7, rfl, by decide⟩
theorem list_2 {a b : Int} {j : Int} (h0 : 0 ≤ j) (h1 : j < 2) : ∃ c : Int, atI [PyData.int a, .int b] j = some (.int c) ∧ (c = a ∨ c = b) := by
  have : j = 0 ∨ j = 1 := by omega
  rcases this with rfl | rfl
  · exact ⟨a, rfl, .inl rfl⟩
  · exact ⟨b, rfl, .inr rfl⟩
section
variable {P : Program} {w : World} {K : PySem.W.Frag} {mg : Str → Option Value} {base : Heap} {f C : Addr} {fd : FuncData}
theorem ok_law_net (B : Bi mg) (L : Df P w K mg base "_law_take" P_law_take 1 (spPl Q_take)) (Lg : Df P w K mg base "_law_great" P_law_great 2 (spPl Q_great)) (F : FnP K "_law_net" s_law_net f fd) : FnOk P w K mg base (L2.CX P w) 3 f fd P_law_net (spPl Q_net) := by
  refine fn_okP (C := f) F sc_law_net rfl fun cdv A outer s H E Γ hr a qs ds hl hp => ?_
  obtain ⟨most, hm, rfl⟩ := hp
  have hr1 := hr.mono (show 1 ≤ 2 by decide)
  refine dss_cons <| ds_set 2 <| de_ixL <| de_new <| dn_list <| da_cons <| de_int <| da_cons <| de_int <| da_cons <| de_int <| da_cons <| de_int <| da_cons <| de_int <| da_cons <| de_int <| da_cons <| de_int <| da_one <| de_int ⟨Nat.le_of_ble_eq_true rfl,
    de_take 0 rfl L hr1 <| de_int ⟨8, rfl, by decide, qs, rfl, fun j ps j0 j1 => ?_⟩⟩
  obtain ⟨n, en, n1, n8⟩ := list_n j0 j1
  refine ⟨_, _, _, rfl, rfl, en, ?_⟩
  refine dss_cons <| ds_setN 3 <| dn_list <| da_nil ⟨Nat.le_of_ble_eq_true rfl, ?_⟩
  refine dss_cons <| ds_set 4 <| de_int ?_
  refine dss_cut (fun ρ => ∃ (ps : List Int) (rows : List Row) (t : Int) (u v y z : Option Bd), (∀ r ∈ rows, 0 ≤ r.1 ∧ r.1 < r.2.1 ∧ r.2.1 < (n : Int) ∧ 1 ≤ r.2.2 ∧ r.2.2 ≤ 10 ^ 30) ∧ rows.length ≤ 7 ∧ (most = 200 → cnt rows ≤ 200) ∧
      ρ = [some (.own (some a) (ps.map .int)), some (.im (.int most)), some (.im (.int (n : Nat))), some (.own none (rows.map encR)), some (.im (.int t)), u, v, y, z]) ?_ ?_
  rotate_left
  · rintro ρ1 ⟨ps, rows, t, u, v, y, z, h1, h2, h3, rfl⟩
    refine dss_one <| ds_ret <| de_tup <| da_cons <| de_name 2 rfl <| da_one <| de_tupleL B.tuple <| de_own 3 rfl ⟨_, rfl, Nat.le_of_ble_eq_true rfl, ps, rfl, most, ⟨n, rows⟩, rfl, ⟨⟨n1, n8, h2, fun r hr => ?_⟩, fun r hr => (h1 r hr).2.2.2.2, h3⟩, rfl⟩
    obtain ⟨a1, a2, a3, a4, _⟩ := h1 r hr
    exact ⟨a1, a2, a3, a4⟩
  refine ds_if <| dt_gt <| de_name 2 rfl <| de_int ⟨_, _, rfl, rfl, fun hb => ?_, fun hb => dss_nil ⟨ps, [], 1, _, _, _, _, by simp, by simp, fun _ => by decide, rfl⟩⟩
  · have hb := of_decide_eq_true hb
    have hn : 2 ≤ n := by omega
    refine dss_one <| ds_for [5] <| di_range B.range <| de_ixL <| de_new <| dn_list <| da_cons <| de_int <| da_cons <| de_int <| da_cons <| de_int <| da_cons <| de_int <| da_cons <| de_int <| da_cons <| de_int <| da_cons <| de_int <| da_one <| de_int ⟨Nat.le_of_ble_eq_true rfl,
      de_take 0 rfl L hr1 <| de_int ⟨8, rfl, by decide, ps, rfl, fun j ps j0 j1 => ?_⟩⟩
    obtain ⟨m, em, m7⟩ := list_m j0 j1
    refine ⟨_, _, _, rfl, rfl, em, m, rfl, by omega, by omega, fun i ρ => ∃ (ps : List Int) (rows : List Row) (t : Int) (u v y z : Option Bd), (∀ r ∈ rows, 0 ≤ r.1 ∧ r.1 < r.2.1 ∧ r.2.1 < (n : Int) ∧ 1 ≤ r.2.2 ∧ r.2.2 ≤ 10 ^ 30) ∧ rows.length ≤ i ∧ t = cnt rows ∧ 1 ≤ t ∧ t < 2 ^ (100 * i + 1) ∧ (most = 200 → t ≤ 200) ∧
      ρ = [some (.own (some a) (ps.map .int)), some (.im (.int most)), some (.im (.int (n : Nat))), some (.own none (rows.map encR)), some (.im (.int t)), u, v, y, z], ⟨ps, [], 1, _, _, _, _, by simp, by simp, rfl, by decide, by decide, fun _ => by decide, rfl⟩, ?_, ?_⟩
    · rintro i d ρ2 hi ⟨ps, rows, t, u, v, y, z, h1, h2, h3, h4, h5, h6, rfl⟩
      obtain ⟨hi2, rfl⟩ := upto_get hi
      have hi2 : i < m := hi2
      refine dg_name 5 <| dss_cons <| ds_set 6 <| de_take 0 rfl L hr1 <| de_sub <| de_name 2 rfl <| de_int ⟨_, _, rfl, rfl, _, rfl, by omega, ps, rfl, fun lo ps lo0 lo1 => ?_⟩
      refine dss_cons <| ds_set 7 <| de_add <| de_add <| de_name 6 rfl <| de_int ⟨_, _, rfl, rfl, de_take 0 rfl L hr1 <| de_sub <| de_sub <| de_name 2 rfl <| de_int ⟨_, _, rfl, rfl, de_name 6 rfl ⟨_, _, rfl, rfl, _, rfl, by omega, ps, rfl, fun hi ps hi0 hi1 => ⟨_, _, rfl, rfl, ?_⟩⟩⟩⟩
      refine dss_cons <| ds_set 8 <| de_add <| de_int <| de_take 0 rfl L hr1 <| de_int ⟨3, rfl, by decide, ps, rfl, fun ro ps ro0 ro1 => ⟨_, _, rfl, rfl, ?_⟩⟩
      refine dss_cut (fun ρ => ∃ (ps : List Int) (room : Int), 1 ≤ room ∧ room ≤ 10 ^ 30 ∧ ρ = [some (.own (some a) (ps.map .int)), some (.im (.int most)), some (.im (.int (n : Nat))), some (.own none (rows.map encR)), some (.im (.int t)), some (.im (.int (i : Nat))), some (.im (.int lo)), some (.im (.int (lo + 1 + hi))), some (.im (.int room))]) ?_ ?_
      · refine ds_if <| dt_eqI <| de_take 0 rfl L hr1 <| de_int ⟨9, rfl, by decide, ps, rfl, fun j ps j0 j1 => de_int ⟨_, _, rfl, rfl, fun hb => ?_, fun hb => dss_nil ⟨ps, 1 + ro, by omega, by omega, rfl⟩⟩⟩
        refine dss_one <| ds_set 8 <| de_add <| de_int <| de_take 0 rfl L hr1 <| de_int ⟨40, rfl, by decide, ps, rfl, fun ro ps ro0 ro1 => ⟨_, _, rfl, rfl, ps, 1 + ro, by omega, by omega, rfl⟩⟩
      rintro ρ1 ⟨ps, room, r1, r2, rfl⟩
      refine dss_cut (fun ρ => ∃ (ps : List Int) (room : Int), 1 ≤ room ∧ room ≤ 10 ^ 30 ∧ ρ = [some (.own (some a) (ps.map .int)), some (.im (.int most)), some (.im (.int (n : Nat))), some (.own none (rows.map encR)), some (.im (.int t)), some (.im (.int (i : Nat))), some (.im (.int lo)), some (.im (.int (lo + 1 + hi))), some (.im (.int room))]) ?_ ?_
      · refine ds_if <| dt_eqI <| de_name 1 rfl <| de_int ⟨_, _, rfl, rfl, fun hb => ?_, fun hb => dss_nil ⟨ps, room, r1, r2, rfl⟩⟩
        refine dss_one <| ds_set 8 <| de_ixL <| de_new <| dn_list <| da_cons <| de_name 8 rfl <| da_one <| de_add <| de_int <| de_callP 0 rfl Lg hr <| da_nil ⟨rfl, ps, rfl, trivial, ?_⟩
        rintro d ps ⟨g, rfl, g0, g1⟩
        refine ⟨_, _, rfl, rfl, Nat.le_of_ble_eq_true rfl, de_take 0 rfl L hr1 <| de_int ⟨2, rfl, by decide, ps, rfl, fun j ps j0 j1 => ?_⟩⟩
        obtain ⟨c, ec, hc⟩ := list_2 (a := room) (b := 1 + g) j0 j1
        exact ⟨_, _, _, rfl, rfl, ec, ps, c, by omega, by omega, rfl⟩
      rintro ρ1 ⟨ps, room, r1, r2, rfl⟩
      refine dss_one <| ds_if <| dt_is (decide (most = 0) || decide (t * (room + 1) ≤ most)) ?_ ⟨fun hb => ?_, fun hb => dss_nil ?_⟩
      · refine dt_bool <| dw_or <| dt_eqI <| de_name 1 rfl <| de_int ⟨_, _, rfl, rfl, fun hb => ⟨?_, rfl⟩, fun hb => ?_⟩
        · rw [hb]; rfl
        · refine dw_or1 <| dt_le <| de_mulW <| de_name 4 rfl <| de_add <| de_name 8 rfl <| de_int ⟨_, _, rfl, rfl, _, _, rfl, rfl, ?_, de_name 1 rfl ⟨_, _, rfl, rfl, ?_, rfl⟩⟩
          · refine wide_mul (a := 100 * i + 1) (b := 101) ?_ ?_ (by omega) (by omega) (by omega)
            · have e : ((2 : Int) ^ (100 * i + 1)) = ((2 ^ (100 * i + 1) : Nat) : Int) := by push_cast; rfl
              omega
            · have e : (10 : Int) ^ 30 < 2 ^ 100 := by decide
              have e2 : ((2 : Int) ^ 100) = ((2 ^ 100 : Nat) : Int) := by decide
              have e3 : (2 : Nat) ^ 100 < 2 ^ 101 := by decide
              omega
          · rw [hb]; rfl
      · refine dss_cons <| ds_append 3 rfl <| de_tup <| da_cons <| de_name 6 rfl <| da_cons <| de_name 7 rfl <| da_one <| de_name 8 rfl ⟨Nat.le_of_ble_eq_true rfl, _, rfl, by rw [List.length_map, sizeLine_eq]; omega, ?_⟩
        have e1 : rows.map encR ++ [PyData.tuple [.int lo, .int (lo + 1 + hi), .int room]] = (rows ++ [(lo, lo + 1 + hi, room)]).map encR := by rw [List.map_append]; rfl
        rw [e1]
        refine dss_one <| ds_set 4 <| de_mulW <| de_name 4 rfl <| de_add <| de_name 8 rfl <| de_int ⟨_, _, rfl, rfl, _, _, rfl, rfl, ?_, ps, rows ++ [(lo, lo + 1 + hi, room)], t * (room + 1), _, _, _, _, ?_, by rw [List.length_append, List.length_singleton]; omega, ?_, ?_, ?_, ?_, rfl⟩
        · refine wide_mul (a := 100 * i + 1) (b := 101) ?_ ?_ (by omega) (by omega) (by omega)
          · have e : ((2 : Int) ^ (100 * i + 1)) = ((2 ^ (100 * i + 1) : Nat) : Int) := by push_cast; rfl
            omega
          · have e : (10 : Int) ^ 30 < 2 ^ 100 := by decide
            have e2 : ((2 : Int) ^ 100) = ((2 ^ 100 : Nat) : Int) := by decide
            have e3 : (2 : Nat) ^ 100 < 2 ^ 101 := by decide
            omega
        · intro r hr
          rcases List.mem_append.mp hr with hr | hr
          · exact h1 r hr
          · rw [List.mem_singleton.mp hr]
            exact ⟨lo0, by show lo < lo + 1 + hi; omega, by show lo + 1 + hi < n; omega, r1, r2⟩
        · rw [h3, cnt_snoc]
        · have := Int.mul_le_mul h4 (show (1 : Int) ≤ room + 1 by omega) (by decide) (by omega)
          omega
        · have e : (10 : Int) ^ 30 + 1 ≤ 2 ^ 100 := by decide
          have k1 : t * (room + 1) ≤ t * 2 ^ 100 := Int.mul_le_mul_of_nonneg_left (by omega) (by omega)
          have k2 : t * 2 ^ 100 < 2 ^ (100 * i + 1) * 2 ^ 100 := Int.mul_lt_mul_of_pos_right h5 (by decide)
          have k3 : (2 : Int) ^ (100 * i + 1) * 2 ^ 100 = 2 ^ (100 * (i + 1) + 1) := by rw [← Int.pow_add]; congr 1
          omega
        · intro z
          rw [Bool.or_eq_true] at hb
          rcases hb with hb | hb
          · have := of_decide_eq_true hb; omega
          · have := of_decide_eq_true hb; omega
      · refine ⟨ps, rows, t, _, _, _, _, h1, by omega, h3, h4, ?_, h6, rfl⟩
        have k2 : t * 2 ^ 100 < 2 ^ (100 * i + 1) * 2 ^ 100 := Int.mul_lt_mul_of_pos_right h5 (by decide)
        have k3 : (2 : Int) ^ (100 * i + 1) * 2 ^ 100 = 2 ^ (100 * (i + 1) + 1) := by rw [← Int.pow_add]; congr 1
        omega
    · rintro ρ2 ⟨ps, rows, t, u, v, y, z, h1, h2, h3, h4, h5, h6, rfl⟩
      rw [upto_len] at h2
      exact ⟨ps, rows, t, u, v, y, z, h1, by omega, (fun hm => by rw [← h3]; exact h6 hm), rfl⟩
end
end HL
namespace HL
open PySem PySem.Spec PyProof.Rows L2 DL
/-! ### a promise, weaker -/
def Wk (T T' : DL.Tm) : Prop := ∀ ds r' e', T' ds r' e' → ∃ r e, T ds r e ∧ (∀ d, r d → r' d) ∧ ∀ w, e w → e' w
section
variable {P : Program} {w : World} {K : PySem.W.Frag} {mg : Str → Option Value} {base : Heap} {x : Str} {ps : List Str} {k : Nat} {C : Addr} {T T' : DL.Tm}
theorem spT_weak (h : Wk T T') {vs H Q E} (z : spT C T' vs H Q E) : spT C T vs H Q E := by
  obtain ⟨G, ds, r', e', h1, h2, h3, h4, h5⟩ := z
  obtain ⟨r, e, k1, k2, k3⟩ := h _ _ _ h1
  exact ⟨G, ds, r, e, k1, h2, h3, fun d v H' G' z => h4 d v H' G' (k2 d z), fun w dx H' z => h5 w dx H' (k3 w z)⟩
theorem _root_.DL.Df.weak (F : Df P w K mg base x ps k (spT C T)) (h : Wk T T') : Df P w K mg base x ps k (spT C T') := by
  obtain ⟨f, fd, h1, h2, h3, h4⟩ := F.ex
  exact ⟨f, fd, h1, h2, h3, ⟨fun vs H Q E z => h4.len vs H Q E (spT_weak h z), fun A outer s H args us vs Q E a b c d z => h4.run A outer s H args us vs Q E a b c d (spT_weak h z)⟩⟩
theorem _root_.DL.Dk.weak (F : Dk P w K mg base x ps k (spT C T)) (h : Wk T T') : Dk P w K mg base x ps k (spT C T') := by
  obtain ⟨f, fd, h1, h2, h3, h4⟩ := F.ex
  exact ⟨f, fd, h1, h2, h3, ⟨fun vs H Q E z => h4.len vs H Q E (spT_weak h z), fun A outer s H args us vs Q E a b c d z => h4.run A outer s H args us vs Q E a b c d (spT_weak h z)⟩⟩
end
/-! ### at what is right -/
theorem split_ok {rows : List Row} {s : List Int} (h : Sok rows s) : isSplit rows (encT s) = true := isSplit_iff.mpr ⟨s, rfl, h⟩
abbrev U_purses_of : DL.Tm := fun ds r e => ∃ w s, w.Ok ∧ Sok w.rows s ∧ ds = [encW w, encT s] ∧ r = is (encT (purses w s)) ∧ e = noE
theorem wk_purses_of : Wk T_purses_of U_purses_of := by
  rintro ds r e ⟨w, s, hw, hs, rfl, rfl, rfl⟩
  refine ⟨_, _, ⟨w, encT s, hw, rfl, rfl, rfl⟩, ?_, ?_⟩
  · rintro d ⟨s', e, _, rfl⟩; rw [encT_inj e]; rfl
  · rintro w' ⟨h, _⟩; rw [split_ok hs] at h; cases h
abbrev U_turned_over : DL.Tm := fun ds r e => ∃ w s, w.Ok ∧ Sok w.rows s ∧ ds = [encW w, encT s] ∧ r = is (encT (over w s)) ∧ e = noE
theorem wk_turned_over : Wk T_turned_over U_turned_over := by
  rintro ds r e ⟨w, s, hw, hs, rfl, rfl, rfl⟩
  refine ⟨_, _, ⟨w, encT s, hw, rfl, rfl, rfl⟩, ?_, ?_⟩
  · rintro d ⟨s', e, _, rfl⟩; rw [encT_inj e]; rfl
  · rintro w' ⟨h, _⟩; rw [split_ok hs] at h; cases h
abbrev U_ends_at : DL.Tm := fun ds r e => ∃ w s h, w.Ok ∧ Sok w.rows s ∧ 0 ≤ h ∧ h < (w.n : Int) ∧ ds = [encW w, encT s, .int h] ∧ r = is (encT (endsAt w s h)) ∧ e = noE
theorem isH_ok {n : Nat} {h : Int} (h0 : 0 ≤ h) (h1 : h < n) : isH n (.int h) = true := by
  show (decide (0 ≤ h) && decide (h < (n : Int))) = true
  rw [decide_eq_true h0, decide_eq_true h1]; rfl
theorem wk_ends_at : Wk T_ends_at U_ends_at := by
  rintro ds r e ⟨w, s, h, hw, hs, h0, h1, rfl, rfl, rfl⟩
  refine ⟨_, _, ⟨w, encT s, .int h, hw, rfl, rfl, rfl⟩, ?_, ?_⟩
  · rintro d ⟨s', h', e, _, e2, _, _, rfl⟩; rw [encT_inj e]; cases e2; rfl
  · rintro w' (⟨z, _⟩ | ⟨_, z, _⟩)
    · rw [split_ok hs] at z; cases z
    · rw [isH_ok h0 h1] at z; cases z
abbrev U_turned_purses : DL.Tm := fun ds r e => ∃ (w : Web) (p : List Int), w.Ok ∧ p.length = w.n ∧ (∀ y ∈ p, 0 ≤ y) ∧ (∀ q ∈ (List.range p.length).zip p, 0 ≤ hold w (q.1 : Nat) - q.2) ∧ ds = [encW w, encT p] ∧ r = is (encT (rests w p)) ∧ e = noE
theorem wk_turned_purses : Wk T_turned_purses U_turned_purses := by
  rintro ds r e ⟨w, p, hw, h1, h2, h3, rfl, rfl, rfl⟩
  refine ⟨_, _, ⟨w, encT p, hw, rfl, rfl, rfl⟩, ?_, ?_⟩
  · rintro d ⟨p', e, _, _, _, rfl⟩; rw [encT_inj e]; rfl
  · rintro w' ⟨_, z | ⟨p', e, q, hq, z⟩⟩
    · rw [isPurses_iff.mpr ⟨p, rfl, h1, h2⟩] at z; cases z
    · obtain rfl := encT_inj e
      have := h3 q hq
      omega
section
variable {P : Program} {w : World} {K : PySem.W.Frag} {mg : Str → Option Value} {base : Heap} {f C : Addr} {fd : FuncData}
theorem ok_law_int (B : Bi mg) (F : FnP K "_law_int" s_law_int f fd) : FnOk P w K mg base (L2.CX P w) 1 f fd P_law_int (spT C T_law_int) := by
  refine fn_ok F sc_law_int (by rintro _ _ _ ⟨x, rfl, _⟩; rfl) fun cdv A outer s H E Γ hr ds r e hT _ => ?_
  obtain ⟨x, rfl, rfl, rfl⟩ := hT
  refine dss_one (ds_ret (de_and (de_isiI B.isinstance B.int (de_name 0 rfl ?_))))
  refine ⟨_, rfl, fun h => de_one (de_not (de_isiB B.isinstance B.bool (de_name 0 rfl ⟨_, rfl, ?_⟩))), fun h => ?_⟩
  · show PyData.bool (!isBool x) = .bool (isI x)
    rw [← isI_eq, h]; rfl
  · show PyData.bool false = .bool (isI x)
    rw [← isI_eq, h]; rfl
theorem ok_law_row (B : Bi mg) (Li : Df P w K mg base "_law_int" P_law_int 1 (spT C T_law_int)) (F : FnP K "_law_row" s_law_row f fd) : FnOk P w K mg base (L2.CX P w) 2 f fd P_law_row (spT C T_law_row) := by
  refine fn_ok F sc_law_row (by rintro _ _ _ ⟨x, _, _, _, rfl, _⟩; rfl) fun cdv A outer s0 H E Γ hr ds r e hT _ => ?_
  obtain ⟨s, y, hl, hy, rfl, rfl, rfl⟩ := hT
  have ne : decide (((s.map PyData.int).length : Int) ≠ ((s.map PyData.int).length : Nat)) = false := decide_eq_false (by simp)
  refine dss_cons <| ds_if <| dt_is false ?_ ⟨fun h => (by cases h), fun _ => dss_nil <| dss_one <| ds_ret <| de_and <| de_is (.bool true) ?_ ⟨_, rfl, fun _ => de_one <| de_is (.bool true) ?_ rfl, fun h => (by cases h)⟩⟩
  · refine dt_bool <| dw_or <| dt_not <| dt_val <| de_isiT B.isinstance B.tuple <| de_name 0 rfl ⟨_, rfl, fun h => (by cases h), fun _ => dw_or1 <| dt_neI <| de_lenT B.len <| de_name 0 rfl ⟨_, rfl, ?_⟩⟩
    rcases hy with rfl | rfl
    · exact de_lenL B.len <| de_name 1 rfl ⟨_, rfl, _, _, rfl, rfl, ne, rfl⟩
    · exact de_lenT B.len <| de_name 1 rfl ⟨_, rfl, _, _, rfl, rfl, ne, rfl⟩
  · refine de_eqI <| de_lenL B.len <| de_new <| dn_lc [("_law_x", 2)] (by decide) (by rfl) <| di_tup <| de_name 0 rfl ⟨_, rfl, fun i ρ acc => ρ = [some (.im (encT s)), some (.im y), none] ∧ acc = [], ⟨rfl, rfl⟩, ?_, ?_⟩
    · rintro i d ρ2 acc hi ⟨rfl, rfl⟩
      rw [List.getElem?_map, Option.map_eq_some_iff] at hi
      obtain ⟨n, hn, rfl⟩ := hi
      refine ct_if false (fun _ _ _ _ _ _ => dg_name 2 rfl) (fun _ _ _ _ _ _ => dt_not <| dt_val <| de_call Li (hr.mono (by decide)) <| da_one <| de_name 2 rfl ⟨_, _, ⟨_, rfl, rfl, rfl⟩, fun _ h => h.elim, ?_⟩) (fun h => (by cases h)) (fun _ => ⟨rfl, rfl⟩)
      rintro d rfl
      exact ⟨_, rfl, rfl, rfl⟩
    · rintro ρ2 acc ⟨rfl, rfl⟩
      exact ⟨_, rfl, de_int ⟨_, _, rfl, rfl, rfl, rfl⟩⟩
  · refine de_eqD hr.units <| de_new <| dn_listT B.list <| de_name 0 rfl ⟨_, .inl rfl, de_new <| dn_listT B.list <| de_name 1 rfl ⟨s.map .int, hy.symm, shaped_encI s, shaped_encI s, ?_, rfl⟩⟩
    exact congrArg PyData.bool (eqv_encI s)
theorem ok_law_purses (B : Bi mg) (F : FnP K "_law_purses" s_law_purses f fd) : FnOk P w K mg base (L2.CX P w) 1 f fd P_law_purses (spT C T_law_purses) := by
  refine fn_ok F sc_law_purses (by rintro _ _ _ ⟨x, _, _, _, rfl, _⟩; rfl) fun cdv A outer s0 H E Γ hr ds r e hT _ => ?_
  obtain ⟨w, s, hw, hs, rfl, rfl, rfl⟩ := hT
  refine dss_cons <| ds_setN 2 <| dn_rep <| de_new <| dn_list <| da_one <| de_int ⟨Nat.le_of_ble_eq_true rfl, de_w0 0 rfl ⟨_, _, rfl, rfl, by omega, by have := hw.n8; omega, ?_⟩⟩
  refine dss_cons <| ds_for [3] <| di_range B.range <| de_lenT B.len <| de_w1 0 rfl ⟨_, rfl, _, rfl, by omega, by have := hw.r7; rw [List.length_map]; omega,
    fun i ρ => ∃ u v, ρ = [some (.im (encW w)), some (.im (encT s)), some (.own none ((((w.rows.zip s).take i).foldl putRow (List.replicate w.n 0)).map .int)), u, v], ⟨none, none, ?_⟩, ?_, ?_⟩
  · rw [List.take_zero, List.foldl_nil, List.map_replicate]; rfl
  · rintro i d ρ2 hi ⟨u, v, rfl⟩
    obtain ⟨hi', rfl⟩ := upto_get hi
    have hi : i < w.rows.length := by simpa using hi'
    have hi2 : i < s.length := by rw [hs.1]; exact hi
    obtain ⟨r, hr1⟩ : ∃ r, w.rows[i]? = some r := ⟨_, List.getElem?_eq_getElem hi⟩
    have hx1 : s[i]? = some (s.getD i 0) := by rw [List.getD_eq_getElem?_getD, List.getElem?_eq_getElem hi2]; rfl
    generalize s.getD i 0 = x at hx1
    have hz : (w.rows.zip s)[i]? = some (r, x) := List.getElem?_zip_eq_some.mpr ⟨hr1, hx1⟩
    obtain ⟨r0, r1, r2, r3⟩ := hw.row r (zip_row hz)
    have L := foldP_len ((w.rows.zip s).take i) (List.replicate w.n 0)
    rw [List.length_replicate] at L
    generalize hacc : (List.foldl putRow (List.replicate w.n 0) ((w.rows.zip s).take i)) = acc at L
    have row_at : atI (w.rows.map encR) ((i : Nat) : Int) = some (encR r) := at_of (by omega) (by rw [List.getElem?_map]; show (w.rows[i]?).map _ = _; rw [hr1]; rfl)
    have half_at : atI (s.map PyData.int) ((i : Nat) : Int) = some (.int x) := at_of (by omega) (by rw [List.getElem?_map]; show (s[i]?).map _ = _; rw [hx1]; rfl)
    refine dg_name 3 <| dss_cons <| ds_set 4 <| de_ixT <| de_w1 0 rfl <| de_name 3 rfl ⟨_, _, _, rfl, rfl, row_at, ?_⟩
    refine dss_cons <| ds_augS 2 ip_add rfl <| de_r0 4 rfl ⟨_, _, r.1.toNat, acc.getD r.1.toNat 0, rfl, rfl, ix_of r0 (by rw [List.length_map, L]; omega), map_int_at (by omega), de_ixT <| de_name 1 rfl <| de_name 3 rfl ⟨_, _, _, rfl, rfl, half_at, _, rfl, rfl, ?_⟩⟩
    rw [map_set_int]
    refine dss_one <| ds_augS 2 ip_add rfl <| de_r1 4 rfl ⟨_, _, r.2.1.toNat, (acc.set r.1.toNat (acc.getD r.1.toNat 0 + x)).getD r.2.1.toNat 0, rfl, rfl, ix_of (by omega) (by rw [List.length_map, List.length_set, L]; omega), map_int_at (by rw [List.length_set]; omega), de_sub <| de_r2 4 rfl <| de_ixT <| de_name 1 rfl <| de_name 3 rfl ⟨_, _, _, rfl, rfl, half_at, _, _, rfl, rfl, _, rfl, rfl, ?_⟩⟩
    exact ⟨_, _, by rw [map_set_int, fold_next putRow _ hz, hacc]; rfl⟩
  · rintro ρ2 ⟨u, v, rfl⟩
    refine dss_one <| ds_ret <| de_own 2 rfl ?_
    rw [upto_len, Int.toNat_natCast, List.length_map, ← zip_len hs.1, List.take_length]; rfl
theorem ok_law_holds (B : Bi mg) (F : FnP K "_law_holds" s_law_holds f fd) : FnOk P w K mg base (L2.CX P w) 1 f fd P_law_holds (spT C T_law_holds) := by
  refine fn_ok F sc_law_holds (by rintro _ _ _ ⟨x, _, rfl, _⟩; rfl) fun cdv A outer s0 H E Γ hr ds r e hT _ => ?_
  obtain ⟨w, hw, rfl, rfl, rfl⟩ := hT
  refine dss_one <| ds_ret <| de_new <| dn_lc [("_law_h", 1)] (by decide) (by rfl) <| di_range B.range <| de_w0 0 rfl ⟨_, rfl, by omega, by have := hw.n8; omega,
    fun i ρ acc => ρ = [some (.im (encW w)), none, none] ∧ acc = ((List.range i).map fun h => hold w (h : Nat)).map .int, ⟨rfl, rfl⟩, ?_, ?_⟩
  · rintro i d ρ2 acc hi ⟨rfl, rfl⟩
    obtain ⟨hi, rfl⟩ := upto_get hi
    refine ct_map (fun _ _ _ _ _ _ => dg_name 1 rfl) (fun _ _ _ _ _ _ => de_sumL B.sum <| de_new <| dn_lc [("_law_row_here", 2)] (by decide) (by rfl) <| di_tup <| de_w1 0 rfl ⟨_, rfl,
      fun j ρ acc => ρ = [some (.im (encW w)), some (.im (.int (i : Nat))), none] ∧ acc = (((w.rows.take j).filter (incid (i : Nat))).map fun r => r.2.2).map .int, ⟨rfl, rfl⟩, ?_, ?_⟩)
    · rintro j d ρ2 acc hj ⟨rfl, rfl⟩
      obtain ⟨r, hr1, rfl⟩ := rows_at hj
      refine ct_if (incid (i : Nat) r) (fun _ _ _ _ _ _ => dg_name 2 rfl) (fun _ _ _ _ _ _ => dt_bool <| dw_or <| dt_eqI <| de_name 1 rfl <| de_r0 2 rfl ⟨_, _, rfl, rfl, fun hb => ⟨?_, rfl⟩, fun hb => dw_or1 <| dt_eqI <| de_name 1 rfl <| de_r1 2 rfl ⟨_, _, rfl, rfl, ?_, rfl⟩⟩) (fun hb _ _ _ _ _ _ => de_r2 2 rfl ⟨?_, rfl, ?_⟩) (fun hb => ⟨rfl, ?_⟩)
      · have := of_decide_eq_true hb
        symm; exact decide_eq_true (by rw [this]; simp)
      · have := of_decide_eq_false hb
        exact decide_eq_decide.mpr (by simp [this])
      · have l1 : ((w.rows.take j).filter (incid (i : Nat))).length ≤ w.rows.length := Nat.le_trans (List.length_filter_le _ _) (List.length_take_le' _ _)
        have := hw.r7
        rw [List.length_map, List.length_map, sizeLine_eq]; omega
      · rw [filt_next hr1, if_pos hb, List.map_append, List.map_append]; rfl
      · rw [filt_next hr1, if_neg (by rw [hb]; exact Bool.false_ne_true), List.append_nil]
    · rintro ρ2 acc ⟨rfl, rfl⟩
      refine ⟨_, rfl, ?_, rfl, ?_⟩
      · have := hw.n8
        rw [List.length_map, List.length_map, List.length_range, sizeLine_eq]; omega
      · rw [List.range_succ, List.map_append, List.map_append, List.length_map, List.take_length]; rfl
  · rintro ρ2 acc ⟨rfl, rfl⟩
    rw [upto_len]; rfl
end
end HL
namespace HL
open PySem L2 DL
theorem addAt_get (acc : List Int) (i v : Int) (h : Nat) (hi : i.toNat < acc.length) : (addAt acc i v).getD h 0 = acc.getD h 0 + if h = i.toNat then v else 0 := by
  unfold addAt
  rw [List.getD_eq_getElem?_getD, List.getD_eq_getElem?_getD (l := acc) (i := h)]
  by_cases e : h = i.toNat
  · subst e
    rw [List.getElem?_set_self hi, if_pos rfl, Option.getD_some, List.getD_eq_getElem?_getD]
  · rw [List.getElem?_set_ne (Ne.symm e), if_neg e, Int.add_zero]
theorem sum_set : ∀ (acc : List Int) (i : Nat) (v : Int), i < acc.length → (acc.set i v).sum = acc.sum - acc.getD i 0 + v
  | [], _, _, h => by simp at h
  | a :: acc, 0, v, _ => by simp only [List.set_cons_zero, List.sum_cons, List.getD_cons_zero]; omega
  | a :: acc, i + 1, v, h => by
    simp only [List.set_cons_succ, List.sum_cons, List.getD_cons_succ]
    rw [sum_set acc i v (by simpa using h)]; omega
theorem addAt_sum (acc : List Int) (i v : Int) (hi : i.toNat < acc.length) : (addAt acc i v).sum = acc.sum + v := by
  unfold addAt; rw [sum_set _ _ _ hi]; omega
theorem putRow_get {n : Nat} {acc : List Int} {r : Row} {x : Int} (L : acc.length = n) (r0 : 0 ≤ r.1) (r1 : r.1 < r.2.1) (r2 : r.2.1 < n) (h : Nat) : (putRow acc (r, x)).getD h 0 = acc.getD h 0 + end1 (h : Nat) (r, x) := by
  unfold putRow
  rw [addAt_get _ _ _ _ (by rw [addAt_len]; show r.2.1.toNat < _; omega), addAt_get _ _ _ _ (by show r.1.toNat < _; omega)]
  unfold end1
  by_cases e1 : r.1 = (h : Nat)
  · rw [if_pos (by show h = r.1.toNat; omega), if_neg (by show ¬ h = r.2.1.toNat; omega), if_pos e1]; show _ + x + 0 = _ + x; omega
  · rw [if_neg (by show ¬ h = r.1.toNat; omega)]
    by_cases e2 : r.2.1 = (h : Nat)
    · rw [if_pos (by show h = r.2.1.toNat; omega), if_neg e1, if_pos e2]; show _ + 0 + _ = _; rw [Int.add_zero]
    · rw [if_neg (by show ¬ h = r.2.1.toNat; omega), if_neg e1, if_neg e2]; rw [Int.add_zero]
theorem fold_get {n : Nat} (h : Nat) : ∀ (l : List (Row × Int)) (acc : List Int), acc.length = n → (∀ p ∈ l, 0 ≤ p.1.1 ∧ p.1.1 < p.1.2.1 ∧ p.1.2.1 < (n : Int)) → (l.foldl putRow acc).getD h 0 = acc.getD h 0 + (l.map (end1 (h : Nat))).sum
  | [], acc, _, _ => by simp
  | p :: l, acc, L, hp => by
    obtain ⟨a, b, c⟩ := hp p List.mem_cons_self
    rw [List.foldl_cons, fold_get h l _ (by rw [putRow_len, L]) (fun q hq => hp q (List.mem_cons_of_mem _ hq)), show p = (p.1, p.2) from rfl, putRow_get L a b c, List.map_cons, List.sum_cons]; omega
theorem fold_sum {n : Nat} : ∀ (l : List (Row × Int)) (acc : List Int), acc.length = n → (∀ p ∈ l, 0 ≤ p.1.1 ∧ p.1.1 < p.1.2.1 ∧ p.1.2.1 < (n : Int)) → (l.foldl putRow acc).sum = acc.sum + (l.map fun p => p.1.2.2).sum
  | [], acc, _, _ => by simp
  | p :: l, acc, L, hp => by
    obtain ⟨a, b, c⟩ := hp p List.mem_cons_self
    rw [List.foldl_cons, fold_sum l _ (by rw [putRow_len, L]) (fun q hq => hp q (List.mem_cons_of_mem _ hq)), List.map_cons, List.sum_cons]
    unfold putRow
    rw [addAt_sum _ _ _ (by rw [addAt_len]; omega), addAt_sum _ _ _ (by omega)]; omega
theorem zip_ok {w : Web} (hw : w.Ok) (s : List Int) : ∀ p ∈ w.rows.zip s, 0 ≤ p.1.1 ∧ p.1.1 < p.1.2.1 ∧ p.1.2.1 < (w.n : Int) := fun p hp => by
  obtain ⟨a, b, c, _⟩ := hw.row p.1 (List.of_mem_zip hp).1
  exact ⟨a, b, c⟩
theorem purse_at {w : Web} (hw : w.Ok) (s : List Int) {h : Nat} (hh : h < w.n) : (purses w s).getD h 0 = (endsAt w s (h : Nat)).sum := by
  unfold purses endsAt
  rw [fold_get h _ _ List.length_replicate (zip_ok hw s), List.getD_eq_getElem?_getD, List.getElem?_replicate, if_pos hh]
  show (0 : Int) + _ = _
  omega
theorem zip_rooms {rows : List Row} {s : List Int} (h : s.length = rows.length) : ((rows.zip s).map fun p => p.1.2.2) = rows.map fun r => r.2.2 := by
  rw [show (fun p : Row × Int => p.1.2.2) = (fun r : Row => r.2.2) ∘ Prod.fst from rfl, ← List.map_map, List.map_fst_zip (by omega)]
theorem sum_purses {w : Web} (hw : w.Ok) {s : List Int} (hs : Sok w.rows s) : (purses w s).sum = (w.rows.map fun r => r.2.2).sum := by
  unfold purses
  rw [fold_sum _ _ List.length_replicate (zip_ok hw s), zip_rooms hs.1]
  simp
theorem over_len {w : Web} {s : List Int} (hs : Sok w.rows s) : (over w s).length = w.rows.length := by unfold over; rw [List.length_map, zip_len hs.1]
theorem over_ok_aux : ∀ (rows : List Row) (s : List Int), s.length = rows.length → (∀ p ∈ rows.zip s, 0 ≤ p.2 ∧ p.2 ≤ p.1.2.2) → ∀ p ∈ rows.zip ((rows.zip s).map fun p => p.1.2.2 - p.2), 0 ≤ p.2 ∧ p.2 ≤ p.1.2.2
  | [], _, _, _, p, hp => by simp at hp
  | r :: rows, [], h, _, _, _ => by simp at h
  | r :: rows, x :: s, h, h2, p, hp => by
    rw [List.zip_cons_cons, List.map_cons, List.zip_cons_cons] at hp
    rcases List.mem_cons.mp hp with rfl | hp
    · obtain ⟨a, b⟩ := h2 (r, x) (by rw [List.zip_cons_cons]; exact List.mem_cons_self)
      have a : 0 ≤ x := a
      have b : x ≤ r.2.2 := b
      constructor
      · show 0 ≤ r.2.2 - x; omega
      · show r.2.2 - x ≤ r.2.2; omega
    · exact over_ok_aux rows s (by simpa using h) (fun q hq => h2 q (by rw [List.zip_cons_cons]; exact List.mem_cons_of_mem _ hq)) p hp
theorem Sok_over {w : Web} {s : List Int} (hs : Sok w.rows s) : Sok w.rows (over w s) := ⟨over_len hs, over_ok_aux w.rows s hs.1 hs.2⟩
theorem over_over_aux : ∀ (rows : List Row) (s : List Int), s.length = rows.length → (rows.zip ((rows.zip s).map fun p => p.1.2.2 - p.2)).map (fun p => p.1.2.2 - p.2) = s
  | [], [], _ => rfl
  | [], _ :: _, h => by simp at h
  | _ :: _, [], h => by simp at h
  | r :: rows, x :: s, h => by
    rw [List.zip_cons_cons, List.map_cons, List.zip_cons_cons, List.map_cons, over_over_aux rows s (by simpa using h)]
    show (r.2.2 - (r.2.2 - x)) :: s = x :: s
    congr 1; omega
theorem over_over {w : Web} {s : List Int} (hs : Sok w.rows s) : over w (over w s) = s := over_over_aux w.rows s hs.1
theorem hold_split (h : Int) : ∀ (rows : List Row) (s : List Int), s.length = rows.length → (∀ r ∈ rows, r.1 < r.2.1) →
    ((rows.filter (incid h)).map fun r => r.2.2).sum = ((rows.zip s).map (end1 h)).sum + ((rows.zip ((rows.zip s).map fun p => p.1.2.2 - p.2)).map (end1 h)).sum
  | [], [], _, _ => rfl
  | [], _ :: _, h, _ => by simp at h
  | _ :: _, [], h, _ => by simp at h
  | r :: rows, x :: s, hl, hr => by
    have ih := hold_split h rows s (by simpa using hl) (fun q hq => hr q (List.mem_cons_of_mem _ hq))
    have r1 := hr r List.mem_cons_self
    rw [List.zip_cons_cons, List.map_cons, List.sum_cons, List.map_cons, List.zip_cons_cons, List.map_cons, List.sum_cons, List.filter_cons]
    unfold end1 incid
    unfold end1 incid at ih
    by_cases e1 : r.1 = h
    · rw [if_pos (by simp [e1]), List.map_cons, List.sum_cons, ih, if_pos e1, if_pos e1]
      show r.2.2 + _ = x + _ + (r.2.2 - x + _); omega
    · by_cases e2 : r.2.1 = h
      · rw [if_pos (by simp [e2]), List.map_cons, List.sum_cons, ih, if_neg e1, if_neg e1, if_pos e2, if_pos e2]
        show r.2.2 + _ = (r.2.2 - x) + _ + (r.2.2 - (r.2.2 - x) + _); omega
      · rw [if_neg (by simp [Ne.symm e1, Ne.symm e2]), ih, if_neg e1, if_neg e1, if_neg e2, if_neg e2]; omega
theorem hold_eq {w : Web} (hw : w.Ok) {s : List Int} (hs : Sok w.rows s) (h : Int) : hold w h = (endsAt w s h).sum + (endsAt w (over w s) h).sum := hold_split h w.rows s hs.1 fun r hr => (hw.row r hr).2.1
theorem rests_purses {w : Web} (hw : w.Ok) {s : List Int} (hs : Sok w.rows s) : rests w (purses w s) = purses w (over w s) := by
  apply List.ext_getElem?
  intro i
  unfold rests
  rw [List.getElem?_map, purses_len]
  by_cases hi : i < w.n
  · have e1 : (purses w s)[i]? = some ((purses w s).getD i 0) := by rw [List.getD_eq_getElem?_getD, List.getElem?_eq_getElem (by rw [purses_len]; exact hi)]; rfl
    have e2 : (purses w (over w s))[i]? = some ((purses w (over w s)).getD i 0) := by rw [List.getD_eq_getElem?_getD, List.getElem?_eq_getElem (by rw [purses_len]; exact hi)]; rfl
    rw [List.getElem?_zip_eq_some (z := (i, (purses w s).getD i 0)) |>.mpr ⟨by rw [List.getElem?_range hi], e1⟩, e2, purse_at hw s hi, purse_at hw (over w s) hi]
    show some (hold w (i : Nat) - _) = _
    rw [hold_eq hw hs]; congr 1; omega
  · rw [List.getElem?_eq_none (by rw [List.length_zip, List.length_range, purses_len, Nat.min_self]; omega), List.getElem?_eq_none (by rw [purses_len]; omega)]; rfl
theorem sum_nonneg : ∀ {l : List Int}, (∀ x ∈ l, 0 ≤ x) → 0 ≤ l.sum
  | [], _ => Int.le_refl _
  | x :: l, h => by
    rw [List.sum_cons]
    have := h x List.mem_cons_self
    have := sum_nonneg fun y hy => h y (List.mem_cons_of_mem _ hy)
    omega
theorem ends_nonneg {w : Web} {s : List Int} (hs : Sok w.rows s) (h : Int) : ∀ x ∈ endsAt w s h, 0 ≤ x := fun x hx => by
  obtain ⟨p, hp, rfl⟩ := List.mem_map.mp hx
  obtain ⟨a, b⟩ := hs.2 p hp
  unfold end1
  split
  · exact a
  · split
    · omega
    · omega
theorem purses_nonneg {w : Web} (hw : w.Ok) {s : List Int} (hs : Sok w.rows s) : ∀ y ∈ purses w s, 0 ≤ y := fun y hy => by
  obtain ⟨i, hi, rfl⟩ := List.mem_iff_getElem.mp hy
  rw [purses_len] at hi
  have e := purse_at hw s hi
  rw [List.getD_eq_getElem?_getD, List.getElem?_eq_getElem (by rw [purses_len]; exact hi), Option.getD_some] at e
  rw [e]
  exact sum_nonneg (ends_nonneg hs _)
theorem rest_nonneg {w : Web} (hw : w.Ok) {s : List Int} (hs : Sok w.rows s) : ∀ q ∈ (List.range (purses w s).length).zip (purses w s), 0 ≤ hold w (q.1 : Nat) - q.2 := fun q hq => by
  have : hold w (q.1 : Nat) - q.2 ∈ rests w (purses w s) := List.mem_map.mpr ⟨q, hq, rfl⟩
  rw [rests_purses hw hs] at this
  exact purses_nonneg hw (Sok_over hs) _ this
end HL
namespace HL
open PySem PySem.Spec PyProof.Rows L2 DL
abbrev T_law_checked : DL.Tm := fun ds r e => ∃ w s b, w.Ok ∧ Sok w.rows s ∧ ds = [encW w, encT s, .bool b] ∧ r = is (.bool true) ∧ e = noE
theorem noerr {X : Cx} {C : Addr} {Γ : Gm X C} {ρ : Rho} : ∀ w, noE w → Γ.err w ρ := fun _ h => h.elim
theorem dt_row {X : Cx} {C : Addr} {Γ : Gm X C} {ρ : Rho} {a b : Expr} {k : Bool → Rho → Prop} {p pos q : Pos} (L : Df X.prog X.w X.K X.mg X.base "_law_row" P_law_row 2 (spT C T_law_row)) (hr : Room 2 X.A)
    (h : DE Γ a ρ (fun x ρ1 => DE Γ b ρ1 (fun y ρ2 => ∃ s : List Int, s.length ≤ 1000 ∧ x = encT s ∧ (y = encI s ∨ y = encT s) ∧ k false ρ2))) (hg : Gl X "_law_row" := by rfl)
    (he : starEach [a, b] X.env = (false, eval a X.env) :: starEach [b] X.env := by rfl) (he2 : starEach [b] X.env = (false, eval b X.env) :: starEach [] X.env := by rfl) (hpl : (backTo pos (starEach [b] X.env)).any (·.1) = false := by rfl)
    (ht : ∀ whole, isTrue (.Call (.Name "_law_row" p) [a, b] [] pos) X.env whole = (do let v ← whole; standAt (Expr.Call (.Name "_law_row" p) [a, b] [] pos).pos; holding [v] (truthy v)) := by intro _; rfl) : DT Γ (.UnaryOp .Not (.Call (.Name "_law_row" p) [a, b] [] pos) q) ρ k := by
  refine dt_not (dt_val (de_call L hr (da_cons (h.mono ?_) he) hg (by decide) he hpl) ht)
  intro x ρ1 h1
  refine da_one (h1.mono ?_) he2
  rintro y ρ2 ⟨s, hs, rfl, hy, hk⟩
  refine ⟨_, _, ⟨s, y, hs, hy, rfl, rfl, rfl⟩, noerr, ?_⟩
  rintro d rfl
  exact ⟨true, rfl, hk⟩
theorem int_list_at {l : List Int} {i : Nat} (h : i < l.length) : atI (l.map PyData.int) ((i : Nat) : Int) = some (.int (l.getD i 0)) := at_of (by omega) (by rw [Int.toNat_natCast]; exact map_int_at h)
theorem own_end {r : Row} {x h : Int} (hr : r.1 < r.2.1) : b2 (decide (h = r.1)) * x + b2 (decide (h = r.2.1)) * (r.2.2 - x) = end1 h (r, x) := by
  unfold end1 b2
  by_cases e1 : h = r.1
  · rw [decide_eq_true e1, decide_eq_false (by omega), if_pos rfl, if_neg Bool.false_ne_true, if_pos e1.symm]; show 1 * x + 0 * _ = x; omega
  · rw [decide_eq_false e1, if_neg Bool.false_ne_true, if_neg (Ne.symm e1)]
    by_cases e2 : h = r.2.1
    · rw [decide_eq_true e2, if_pos rfl, if_pos e2.symm]; show 0 * x + 1 * _ = r.2.2 - x; omega
    · rw [decide_eq_false e2, if_neg Bool.false_ne_true, if_neg (Ne.symm e2)]; show 0 * x + 0 * _ = (0 : Int); omega
section
variable {P : Program} {w : World} {K : PySem.W.Frag} {mg : Str → Option Value} {base : Heap} {f C : Addr} {fd : FuncData}
theorem ok_law_checked (B : Bi mg) (Lp : Df P w K mg base "_law_purses" P_law_purses 1 (spT C T_law_purses)) (Lh : Df P w K mg base "_law_holds" P_law_holds 1 (spT C T_law_holds)) (Lr : Df P w K mg base "_law_row" P_law_row 2 (spT C T_law_row))
    (L1 : Df P w K mg base "purses_of" P_purses_of 5 (spT C T_purses_of)) (LT : Df P w K mg base "turned_over" P_turned_over 5 (spT C T_turned_over)) (L3 : Df P w K mg base "turned_purses" P_turned_purses 6 (spT C T_turned_purses)) (L4 : Df P w K mg base "ends_at" P_ends_at 5 (spT C T_ends_at))
    (M1 : Dk P w K mg base "purses_of" P_purses_of 5 (spT C T_purses_of)) (M2 : Dk P w K mg base "turned_over" P_turned_over 5 (spT C T_turned_over)) (M3 : Dk P w K mg base "turned_purses" P_turned_purses 6 (spT C T_turned_purses)) (M4 : Dk P w K mg base "ends_at" P_ends_at 5 (spT C T_ends_at))
    (F : FnP K "_law_checked" s_law_checked f fd) : FnOk P w K mg base (L2.CX P w) 7 f fd P_law_checked (spT C T_law_checked) := by
  refine fn_ok F sc_law_checked (by rintro _ _ _ ⟨x, _, _, _, _, rfl, _⟩; rfl) fun cdv A outer s0 H E Γ hr ds r e hT _ => ?_
  obtain ⟨w, s, b, hw, hs, rfl, rfl, rfl⟩ := hT
  have hr1 := hr.mono (show 1 ≤ 6 by decide)
  have hr2 := hr.mono (show 2 ≤ 6 by decide)
  have hr5 := hr.mono (show 5 ≤ 6 by decide)
  have lp : (purses w s).length ≤ 1000 := by rw [purses_len]; have := hw.n8; omega
  have lp2 : (purses w (over w s)).length ≤ 1000 := by rw [purses_len]; have := hw.n8; omega
  have lo : (over w s).length ≤ 1000 := by rw [over_len hs]; have := hw.r7; omega
  have ls : s.length ≤ 1000 := by rw [hs.1]; have := hw.r7; omega
  have hs2 := Sok_over hs
  refine dss_cons <| ds_set 3 <| de_call Lp hr1 <| da_cons <| de_name 0 rfl <| da_one <| de_name 1 rfl ⟨_, _, ⟨w, s, hw, hs, rfl, rfl, rfl⟩, noerr, ?_⟩
  rintro d rfl
  refine dss_cons <| ds_setLcI 5 [("_law_k", 4)] (by decide) (by rfl) (di_range B.range <| de_lenT B.len <| de_w1 0 rfl ⟨_, rfl, _, rfl, by omega, by have := hw.r7; rw [List.length_map]; omega,
    fun i ρ acc => ρ = [some (.im (encW w)), some (.im (encT s)), some (.im (.bool b)), some (.im (encI (purses w s))), none, none, none, none, none, none, none, none, none] ∧ acc = (((w.rows.zip s).take i).map fun p => p.1.2.2 - p.2).map .int, ⟨rfl, rfl⟩, ?_, ?_⟩) (hsw := by rfl)
  · rintro i d ρ2 acc hi ⟨rfl, rfl⟩
    obtain ⟨hi', rfl⟩ := upto_get hi
    have hi : i < w.rows.length := by simpa using hi'
    have hi2 : i < s.length := by rw [hs.1]; exact hi
    obtain ⟨r, hr1⟩ : ∃ r, w.rows[i]? = some r := ⟨_, List.getElem?_eq_getElem hi⟩
    have hx1 : s[i]? = some (s.getD i 0) := by rw [List.getD_eq_getElem?_getD, List.getElem?_eq_getElem hi2]; rfl
    have hz : (w.rows.zip s)[i]? = some (r, s.getD i 0) := List.getElem?_zip_eq_some.mpr ⟨hr1, hx1⟩
    have row_at : atI (w.rows.map encR) ((i : Nat) : Int) = some (encR r) := at_of (by omega) (by rw [List.getElem?_map]; show (w.rows[i]?).map _ = _; rw [hr1]; rfl)
    refine ct_map (fun _ _ _ _ _ _ => dg_name 4 rfl) (fun _ _ _ _ _ _ => de_sub <| de_ixT <| de_ixT <| de_w1 0 rfl <| de_name 4 rfl ⟨_, _, _, rfl, rfl, row_at, de_int ⟨_, _, _, rfl, rfl, rfl, de_ixT <| de_name 1 rfl <| de_name 4 rfl ⟨_, _, _, rfl, rfl, int_list_at hi2, _, _, rfl, rfl, ?_, rfl, ?_⟩⟩⟩)
    · have l1 := List.length_take_le' i (w.rows.zip s)
      rw [zip_len hs.1] at l1
      have := hw.r7
      rw [List.length_map, List.length_map, sizeLine_eq]; omega
    · rw [map_next _ hz, List.map_append]; rfl
  rintro ρ2 acc ⟨rfl, rfl⟩
  rw [upto_len, Int.toNat_natCast, List.length_map, ← zip_len hs.1, List.take_length]
  refine dss_cons <| ds_set 6 <| de_call Lh hr1 <| da_one <| de_name 0 rfl ⟨_, _, ⟨w, hw, rfl, rfl, rfl⟩, noerr, ?_⟩
  rintro d rfl
  refine dss_cons <| ds_setLcI 8 [("_law_h", 7)] (by decide) (by rfl) (di_range B.range <| de_w0 0 rfl ⟨_, rfl, by omega, by have := hw.n8; omega,
    fun i ρ acc => ρ = [some (.im (encW w)), some (.im (encT s)), some (.im (.bool b)), some (.im (encI (purses w s))), none, some (.im (encI (over w s))), some (.im (encI (holds w))), none, none, none, none, none, none] ∧ acc = ((rests w (purses w s)).take i).map .int, ⟨rfl, rfl⟩, ?_, ?_⟩) (hsw := by rfl)
  · rintro i d ρ2 acc hi ⟨rfl, rfl⟩
    obtain ⟨hi', rfl⟩ := upto_get hi
    have hi : i < w.n := by simpa using hi'
    have ha : (holds w).getD i 0 = hold w (i : Nat) := by
      unfold holds; rw [List.getD_eq_getElem?_getD, List.getElem?_map, List.getElem?_range hi]; rfl
    have e1 : (purses w s)[i]? = some ((purses w s).getD i 0) := by rw [List.getD_eq_getElem?_getD, List.getElem?_eq_getElem (by rw [purses_len]; exact hi)]; rfl
    have hz : (rests w (purses w s))[i]? = some (hold w (i : Nat) - (purses w s).getD i 0) := by
      unfold rests
      rw [List.getElem?_map, purses_len, List.getElem?_zip_eq_some (z := (i, (purses w s).getD i 0)) |>.mpr ⟨by rw [List.getElem?_range hi], e1⟩]; rfl
    refine ct_map (fun _ _ _ _ _ _ => dg_name 7 rfl) (fun _ _ _ _ _ _ => de_sub <| de_ixL <| de_name 6 rfl <| de_name 7 rfl ⟨_, _, _, rfl, rfl, int_list_at (by unfold holds; rw [List.length_map, List.length_range]; exact hi), de_ixL <| de_name 3 rfl <| de_name 7 rfl ⟨_, _, _, rfl, rfl, int_list_at (by rw [purses_len]; exact hi), _, _, rfl, rfl, ?_, rfl, ?_⟩⟩)
    · have l1 := List.length_take_le' i (rests w (purses w s))
      rw [rests_purses hw hs, purses_len] at l1
      have := hw.n8
      rw [List.length_map, sizeLine_eq, rests_purses hw hs]; omega
    · rw [take_next hz, List.map_append, ha]; rfl
  rintro ρ2 acc ⟨rfl, rfl⟩
  have rl : (rests w (purses w s)).length = w.n := by rw [rests_purses hw hs, purses_len]
  rw [upto_len, Int.toNat_natCast, List.take_of_length_le (by omega), rests_purses hw hs]
  -- purses and the split turned over, named or not
  refine dss_cut (fun ρ => ρ = [some (.im (encW w)), some (.im (encT s)), some (.im (.bool b)), some (.im (encI (purses w s))), none, some (.im (encI (over w s))), some (.im (encI (holds w))), none, some (.im (encI (purses w (over w s)))), some (.im (.tuple [encT (purses w s), encT (over w s)])), none, none, none]) ?_ ?_
  · refine ds_if <| dt_val <| de_name 2 rfl ⟨b, rfl, fun _ => ?_, fun _ => ?_⟩
    · refine dss_one <| ds_set 9 <| de_tup <| da_cons <| de_callKw (M1.weak wk_purses_of) hr5 <| dkw_cons <| de_name 1 rfl <| dkw_cons <| de_name 0 rfl <| dkw_nil ⟨_, _, ⟨w, s, hw, hs, rfl, rfl, rfl⟩, noerr, ?_⟩
      rintro d rfl
      refine da_one <| de_callKw (M2.weak wk_turned_over) hr5 <| dkw_cons <| de_name 1 rfl <| dkw_cons <| de_name 0 rfl <| dkw_nil ⟨_, _, ⟨w, s, hw, hs, rfl, rfl, rfl⟩, noerr, ?_⟩
      rintro d rfl
      exact ⟨Nat.le_of_ble_eq_true rfl, rfl⟩
    · refine dss_one <| ds_set 9 <| de_tup <| da_cons <| de_call (L1.weak wk_purses_of) hr5 <| da_cons <| de_name 0 rfl <| da_one <| de_name 1 rfl ⟨_, _, ⟨w, s, hw, hs, rfl, rfl, rfl⟩, noerr, ?_⟩
      rintro d rfl
      refine da_one <| de_call (LT.weak wk_turned_over) hr5 <| da_cons <| de_name 0 rfl <| da_one <| de_name 1 rfl ⟨_, _, ⟨w, s, hw, hs, rfl, rfl, rfl⟩, noerr, ?_⟩
      rintro d rfl
      exact ⟨Nat.le_of_ble_eq_true rfl, rfl⟩
  rintro ρ1 rfl
  refine dss_cons <| ds_if <| dt_is false ?_ ⟨fun h => (by cases h), fun _ => dss_nil ?_⟩
  · refine dt_bool <| dw_or <| dt_row Lr hr2 <| de_ixT <| de_name 9 rfl <| de_int ⟨_, _, _, rfl, rfl, rfl, de_name 3 rfl ⟨_, lp, rfl, .inl rfl, fun h => (by cases h), fun _ => ?_⟩⟩
    refine dw_or <| dt_row Lr hr2 <| de_ixT <| de_name 9 rfl <| de_int ⟨_, _, _, rfl, rfl, rfl, de_name 5 rfl ⟨_, lo, rfl, .inl rfl, fun h => (by cases h), fun _ => ?_⟩⟩
    refine dw_or1 <| dt_neI <| de_sumT B.sum <| de_ixT <| de_name 9 rfl <| de_int ⟨_, _, _, rfl, rfl, rfl, purses w s, rfl, de_sumL B.sum <| de_new <| dn_lc [("_law_row_here", 12)] (by decide) (by rfl) <| di_tup <| de_w1 0 rfl ⟨_, rfl,
      fun i ρ acc => ρ = [some (.im (encW w)), some (.im (encT s)), some (.im (.bool b)), some (.im (encI (purses w s))), none, some (.im (encI (over w s))), some (.im (encI (holds w))), none, some (.im (encI (purses w (over w s)))), some (.im (.tuple [encT (purses w s), encT (over w s)])), none, none, none] ∧ acc = ((w.rows.take i).map fun r => r.2.2).map .int, ⟨rfl, rfl⟩, ?_, ?_⟩⟩
    · rintro i d ρ2 acc hi ⟨rfl, rfl⟩
      obtain ⟨r, hr1, rfl⟩ := rows_at hi
      refine ct_map (fun _ _ _ _ _ _ => dg_name 12 rfl) (fun _ _ _ _ _ _ => de_r2 12 rfl ⟨?_, rfl, ?_⟩)
      · have l1 := List.length_take_le' i w.rows
        have := hw.r7
        rw [List.length_map, List.length_map, sizeLine_eq]; omega
      · rw [map_next _ hr1, List.map_append]; rfl
    · rintro ρ2 acc ⟨rfl, rfl⟩
      refine ⟨_, rfl, _, _, rfl, rfl, ?_, rfl⟩
      rw [List.length_map, List.take_length]
      exact decide_eq_false fun h => h (sum_purses hw hs)
  refine dss_cons <| ds_if <| dt_is false ?_ ⟨fun h => (by cases h), fun _ => dss_nil ?_⟩
  · refine dt_bool <| dw_or <| dt_row Lr hr2 <| de_call (L3.weak wk_turned_purses) hr <| da_cons <| de_name 0 rfl <| da_one <| de_ixT <| de_name 9 rfl <| de_int ⟨_, _, _, rfl, rfl, rfl, _, _, ⟨w, purses w s, hw, purses_len w s, purses_nonneg hw hs, rest_nonneg hw hs, rfl, rfl, rfl⟩, noerr, ?_⟩
    rintro d rfl
    refine de_name 8 rfl ⟨purses w (over w s), lp2, by rw [rests_purses hw hs], .inl rfl, fun h => (by cases h), fun _ => ?_⟩
    refine dw_or1 <| dt_row Lr hr2 <| de_call (L1.weak wk_purses_of) hr5 <| da_cons <| de_name 0 rfl <| da_one <| de_ixT <| de_name 9 rfl <| de_int ⟨_, _, _, rfl, rfl, rfl, _, _, ⟨w, over w s, hw, hs2, rfl, rfl, rfl⟩, noerr, ?_⟩
    rintro d rfl
    exact de_name 8 rfl ⟨purses w (over w s), lp2, rfl, .inl rfl, rfl, rfl⟩
  refine dss_cons <| ds_if <| dt_is false ?_ ⟨fun h => (by cases h), fun _ => dss_nil ?_⟩
  · refine dt_bool <| dw_or <| dt_row Lr hr2 <| de_call (LT.weak wk_turned_over) hr5 <| da_cons <| de_name 0 rfl <| da_one <| de_ixT <| de_name 9 rfl <| de_int ⟨_, _, _, rfl, rfl, rfl, _, _, ⟨w, over w s, hw, hs2, rfl, rfl, rfl⟩, noerr, ?_⟩
    rintro d rfl
    refine de_name 1 rfl ⟨s, ls, by rw [over_over hs], .inr rfl, fun h => (by cases h), fun _ => ?_⟩
    refine dw_or1 <| dt_row Lr hr2 <| de_callKw (M3.weak wk_turned_purses) hr <| dkw_cons <| de_tupleL B.tuple <| de_name 8 rfl ⟨_, rfl, dkw_cons <| de_name 0 rfl <| dkw_nil ⟨_, _, ⟨w, purses w (over w s), hw, purses_len _ _, purses_nonneg hw hs2, rest_nonneg hw hs2, rfl, rfl, rfl⟩, noerr, ?_⟩⟩
    rintro d rfl
    exact de_name 3 rfl ⟨purses w s, lp, by rw [rests_purses hw hs2, over_over hs], .inl rfl, rfl, rfl⟩
  -- house by house
  refine dss_cons <| ds_for [7] <| di_range B.range <| de_w0 0 rfl ⟨_, rfl, by omega, by have := hw.n8; omega,
    fun i ρ => ∃ x4 x7 x10 x11, ρ = [some (.im (encW w)), some (.im (encT s)), some (.im (.bool b)), some (.im (encI (purses w s))), x4, some (.im (encI (over w s))), some (.im (encI (holds w))), x7, some (.im (encI (purses w (over w s)))), some (.im (.tuple [encT (purses w s), encT (over w s)])), x10, x11, none], ⟨_, _, _, _, rfl⟩, ?_, ?_⟩
  · rintro h d ρ2 hh ⟨x4, x7, x10, x11, rfl⟩
    obtain ⟨hh', rfl⟩ := upto_get hh
    have hh : h < w.n := by simpa using hh'
    refine dg_name 7 <| dss_cons <| ds_setN 10 <| dn_list <| da_nil ⟨Nat.le_of_ble_eq_true rfl, ?_⟩
    refine dss_cons <| ds_for [4] <| di_range B.range <| de_lenT B.len <| de_w1 0 rfl ⟨_, rfl, _, rfl, by omega, by have := hw.r7; rw [List.length_map]; omega,
      fun i ρ => ∃ x4, ρ = [some (.im (encW w)), some (.im (encT s)), some (.im (.bool b)), some (.im (encI (purses w s))), x4, some (.im (encI (over w s))), some (.im (encI (holds w))), some (.im (.int (h : Nat))), some (.im (encI (purses w (over w s)))), some (.im (.tuple [encT (purses w s), encT (over w s)])), some (.own none ((((w.rows.zip s).take i).map (end1 (h : Nat))).map .int)), x11, none], ⟨x4, rfl⟩, ?_, ?_⟩
    · rintro i d ρ2 hi ⟨x4, rfl⟩
      obtain ⟨hi', rfl⟩ := upto_get hi
      have hi : i < w.rows.length := by simpa using hi'
      have hi2 : i < s.length := by rw [hs.1]; exact hi
      have hi3 : i < (over w s).length := by rw [over_len hs]; exact hi
      obtain ⟨r, hr1⟩ : ∃ r, w.rows[i]? = some r := ⟨_, List.getElem?_eq_getElem hi⟩
      have hx1 : s[i]? = some (s.getD i 0) := by rw [List.getD_eq_getElem?_getD, List.getElem?_eq_getElem hi2]; rfl
      have hz : (w.rows.zip s)[i]? = some (r, s.getD i 0) := List.getElem?_zip_eq_some.mpr ⟨hr1, hx1⟩
      have ho : (over w s).getD i 0 = r.2.2 - s.getD i 0 := by
        unfold over; rw [List.getD_eq_getElem?_getD, List.getElem?_map, hz]; rfl
      have row_at : atI (w.rows.map encR) ((i : Nat) : Int) = some (encR r) := at_of (by omega) (by rw [List.getElem?_map]; show (w.rows[i]?).map _ = _; rw [hr1]; rfl)
      have sz : ((((w.rows.zip s).take i).map (end1 (h : Nat))).map PyData.int).length < sizeLine := by
        have l1 := List.length_take_le' i (w.rows.zip s)
        rw [zip_len hs.1] at l1
        have := hw.r7
        rw [List.length_map, List.length_map, sizeLine_eq]; omega
      have b2s : ∀ c : Bool, -(2 ^ 64) < b2 c ∧ b2 c < 2 ^ 64 := fun c => by cases c <;> exact ⟨by decide, by decide⟩
      refine dg_name 4 <| dss_one <| ds_append 10 rfl <| de_add <| de_mul <| de_intB B.int <| de_eqI <| de_name 7 rfl <| de_ixT <| de_ixT <| de_w1 0 rfl <| de_name 4 rfl ⟨_, _, _, rfl, rfl, row_at, de_int ⟨_, _, _, rfl, rfl, rfl, _, _, rfl, rfl, _, rfl,
        de_ixT <| de_name 1 rfl <| de_name 4 rfl ⟨_, _, _, rfl, rfl, int_list_at hi2, _, _, rfl, rfl, .inl (b2s _), ?_⟩⟩⟩
      refine de_mul <| de_intB B.int <| de_eqI <| de_name 7 rfl <| de_ixT <| de_ixT <| de_w1 0 rfl <| de_name 4 rfl ⟨_, _, _, rfl, rfl, row_at, de_int ⟨_, _, _, rfl, rfl, rfl, _, _, rfl, rfl, _, rfl,
        de_ixL <| de_name 5 rfl <| de_name 4 rfl ⟨_, _, _, rfl, rfl, int_list_at hi3, _, _, rfl, rfl, .inl (b2s _), _, _, rfl, rfl, _, rfl, sz, ?_⟩⟩⟩
      exact ⟨_, by rw [ho, own_end (hw.row r (List.mem_of_getElem? hr1)).2.1, snoc_int, map_next _ hz]; rfl⟩
    · rintro ρ2 ⟨x4, rfl⟩
      rw [upto_len, Int.toNat_natCast, List.length_map, ← zip_len hs.1, List.take_length]
      have h0 : (0 : Int) ≤ ((h : Nat) : Int) := by omega
      have h1 : ((h : Nat) : Int) < w.n := by omega
      refine dss_cut (fun ρ => ρ = [some (.im (encW w)), some (.im (encT s)), some (.im (.bool b)), some (.im (encI (purses w s))), x4, some (.im (encI (over w s))), some (.im (encI (holds w))), some (.im (.int (h : Nat))), some (.im (encI (purses w (over w s)))), some (.im (.tuple [encT (purses w s), encT (over w s)])), some (.own none ((endsAt w s (h : Nat)).map .int)), some (.im (encT (endsAt w s (h : Nat)))), none]) ?_ ?_
      · refine ds_if <| dt_val <| de_name 2 rfl ⟨b, rfl, fun _ => ?_, fun _ => ?_⟩
        · refine dss_one <| ds_set 11 <| de_callKw (M4.weak wk_ends_at) hr5 <| dkw_cons <| de_name 7 rfl <| dkw_cons <| de_name 1 rfl <| dkw_cons <| de_name 0 rfl <| dkw_nil ⟨_, _, ⟨w, s, _, hw, hs, h0, h1, rfl, rfl, rfl⟩, noerr, ?_⟩
          rintro d rfl
          rfl
        · refine dss_one <| ds_set 11 <| de_call (L4.weak wk_ends_at) hr5 <| da_cons <| de_name 0 rfl <| da_cons <| de_name 1 rfl <| da_one <| de_name 7 rfl ⟨_, _, ⟨w, s, _, hw, hs, h0, h1, rfl, rfl, rfl⟩, noerr, ?_⟩
          rintro d rfl
          rfl
      rintro ρ1 rfl
      refine dss_one <| ds_if <| dt_bool <| dw_or <| dt_row Lr hr2 <| de_name 11 rfl <| de_own 10 rfl ⟨endsAt w s (h : Nat), ?_, rfl, .inl rfl, fun h => (by cases h), fun _ => ?_⟩
      · unfold endsAt; rw [List.length_map, zip_len hs.1]; have := hw.r7; omega
      refine dw_or1 <| dt_neI <| de_sumT B.sum <| de_name 11 rfl ⟨endsAt w s (h : Nat), rfl, de_ixT <| de_ixT <| de_name 9 rfl <| de_int ⟨_, _, _, rfl, rfl, rfl, de_name 7 rfl ⟨_, _, _, rfl, rfl, int_list_at (by rw [purses_len]; exact hh), _, _, rfl, rfl, fun hb => ?_, fun _ => dss_nil ⟨_, _, _, _, rfl⟩⟩⟩⟩
      exact (of_decide_eq_true hb (purse_at hw s hh).symm).elim
  · rintro ρ2 ⟨x4, x7, x10, x11, rfl⟩
    exact dss_one <| ds_ret <| de_bl rfl
end
end HL
namespace PySem.W
open PySem PySem.Spec PySem.Calls PyProof.Rows
section
variable {prog : Program} {w : World} {A : Around} {E : Value → Shared → Prop} {s : Shared} {K : Frag} {x D : Addr} {ox : Obj}
theorem dl_findObj_data {C : Addr} {name : Str} {a g : Value} {od} (hc : (clsIn K C).isSome = true) (ha : findIn K (.ref C) name = some (some a)) (hg : specialIn K a "__get__" = some (some g)) (ht : takesIn K a = some true) : findObj K C od name = some (.bind g a) := by
  obtain ⟨cd, hc⟩ := Option.isSome_iff_exists.mp hc
  unfold findObj
  rw [hc, Option.bind_some, ha, Option.bind_some]
  simp [hg, ht]
theorem dl_kin_class {od} {Q : Option Value → Shared → Prop} (hga : findIn K (.ref D) "__getattribute__" = some (some (.builtin "BaseException.__getattribute__"))) (hgt : findIn K (.ref D) "__getattr__" = some none) (hsub : subIn K (.ref D) (.type "BaseException") = some true)
    (hdct : hasDictIn K D = true) (ha : findIn K (.ref D) "__class__" = some (some (.builtin "object.__class__")))
    (hn : specialIn K (.builtin "object.__class__") "__get__" = some (some (.builtin "getset_descriptor.__get__"))) (htk : takesIn K (.builtin "object.__class__") = some true) (hm : mroIn K D (.type "object") = some true)
    (X : K.In s.heap) (I : InstAt s.heap x ox D od) (h : Q (some (.ref D)) { s with toks := s.toks + 1 }) : wpAny (model prog w) A (getAttr? (.ref x) "__class__") Q E s := by
  have hf : findObj K D od "__class__" = some (.bind (.builtin "getset_descriptor.__get__") (.builtin "object.__class__")) := dl_findObj_data (by obtain ⟨cd, hc, _⟩ := any_some hdct; rw [hc]; rfl) ha hn htk
  obtain ⟨hp, g, d, t, os⟩ := s
  have L0 := I.type (M := model prog w)
  have L1 := looks_findIn (M := model prog w) X hga
  have L2 := looks_findIn (M := model prog w) X hgt
  have L3 := looks_find (M := model prog w) X I hf
  have sub : Looks (model prog w) hp (isInstance (.ref x) (.type "BaseException")) true := L0.andThen (looks_subIn X hsub)
  have hx0 : (false && onTheHeap (Value.builtin "BaseException.__getattribute__")) = false := rfl
  have hx2 : (Value.builtin "BaseException.__getattribute__" == Value.builtin "object.__getattribute__") = false := by decide +kernel
  have hx1 : (onTheHeap (Value.ref D) && Value.builtin "BaseException.__getattribute__" == Value.builtin "object.__getattribute__") = false := by rw [hx2]; rfl
  unfold getAttr? getAttrBy? getAttrBy
  refine wpAny_bind (wpAny_mkText (wpAny_bind (wpAny_attempt (wpAny_holding (wpAny_bind (L0.at (wpAny_bind (L1.at ?_))))))))
  show wpAny _ _ (if (onTheHeap (Value.ref D) && Value.builtin "BaseException.__getattribute__" == Value.builtin "object.__getattribute__") = true then _ else _) _ _ _
  rw [hx1, if_neg Bool.false_ne_true]
  unfold getAttrByItsOwn hookBefore
  refine wpAny_bind ?_
  rw [if_pos (show onTheHeap (Value.ref D) = true from rfl)]
  refine L2.at ?_
  refine wpAny_bind (wpAny_attempt (wpAny_holding ?_))
  unfold callGetattribute
  rw [hx0, if_neg Bool.false_ne_true]
  unfold boundAndCalled
  rw [PySem.F.excAttr_ValueError.ga.bind (.ref x)]
  refine wpAny_bind (wpAny_pure ?_)
  show wpAny _ _ (call (.builtin "BaseException.__getattribute__") [.ref x, .str "__class__" t]) _ _ _
  refine wpAny_call (codeAny_call_builtin PySem.F.excAttr_ValueError.ga.plain PySem.F.entry_bexc_ga ?_)
  refine @check_slot (model prog w) _ _ ⟨hp, g, d, t + 1, os⟩ "BaseException.__getattribute__" "BaseException" "__getattribute__" (.ref x) [.str "__class__" t] [] _ (by decide +kernel) (by decide +kernel) sub (PySem.F.args_bexc_ga (.ref x) (.str "__class__" t)) ?_
  unfold Builtin.«object.__getattribute__»
  refine wpAny_bind (wpAny_of_eq (a := ((Value.ref x : Value), [Value.str "__class__" t])) (by first | rfl | (simp only [slotArgs]; rfl)) ?_)
  refine wpAny_bind (wpAny_pure (wpAny_bind (L0.at (wpAny_bind (L3.at ?_)))))
  show wpAny _ _ (holding [Value.builtin "object.__class__"] (call (.builtin "getset_descriptor.__get__") [.builtin "object.__class__", .ref x, .ref D]) >>= ret) _ _ _
  refine wpAny_bind (wpAny_holding (wpAny_call (class_get (s := ⟨hp, g, d, t + 1, os⟩) (ox := ox) (od := od) X I hm ?_)))
  refine wpAny_pure ?_
  show wpAny _ _ (handedOut (.ref D)) _ _ _
  rw [handedOut_of (v := .ref D) rfl]
  first
    | exact wpAny_pure (wpAny_pure h)
    | exact wpAny_pure h
    | exact wpAny_pure (wpAny_bind (wpAny_pure (wpAny_pure h)))
theorem dl_kitx_exc {od} (hga : findIn K (.ref D) "__getattribute__" = some (some (.builtin "BaseException.__getattribute__"))) (hgt : findIn K (.ref D) "__getattr__" = some none) (hsub : subIn K (.ref D) (.type "BaseException") = some true) (hdct : hasDictIn K D = true) (ha : findIn K (.ref D) "__class__" = some (some (.builtin "object.__class__")))
    (hn : specialIn K (.builtin "object.__class__") "__get__" = some (some (.builtin "getset_descriptor.__get__"))) (htk : takesIn K (.builtin "object.__class__") = some true) (hm : mroIn K D (.type "object") = some true) :
    KitX K (.ref x) (.ref D) (fun h => InstAt h x ox D od) where
  ty := fun _ _ _ I => I.type
  it := fun _ _ X _ => by
    obtain ⟨cdD, hcD, _⟩ := any_some hdct
    unfold clsIn at hcD
    split at hcD
    · rename_i c' d' cd' sl' ho
      intro A' Q' E' s' k q
      unfold isType loadHead
      exact wpAny_bind (wpAny_loadPart (k _ _ (X _ _ ho)) (wpAny_pure q))
    · cases hcD
  ne := fun h tp dd its n sl X htp => by
    obtain ⟨cdD, hcD, _⟩ := any_some hdct
    refine Bool.eq_false_iff.mpr fun q => ?_
    have e : D = tp := Value.ref.inj (beq_iff_eq.mp q)
    subst e
    unfold clsIn at hcD
    split at hcD
    · rename_i c' d' cd' sl' ho
      have z := (X _ _ ho).symm.trans htp
      cases z
    · cases hcD
  ca := fun X I k => dl_kin_class hga hgt hsub hdct ha hn htk hm X I k
end
end PySem.W
namespace DL
open PySem PySem.Spec PyProof.Rows L2
/-- an object that is a caught NotUsable -/
structure ExI (C dx : Addr) (oe : Obj) : Prop where
  cls : oe.cls = .ref C
  dict : oe.dict = some dx
  data : ∃ vs, oe.data = .fields vs
structure FnE (P : Program) (w : World) (K : PySem.W.Frag) (mg : Str → Option Value) (base : Heap) (C : Addr) (k : Nat) (f : Addr) (fd : FuncData) (ps : List Str) (sp : Addr → Addr → Sp) : Prop where
  len : ∀ a dx vs H Q E, sp a dx vs H Q E → vs.length = ps.length
  run : ∀ (A : Around) (outer : List Env) (s : Shared) (H : Hp) (args : Args) (us : List Value) (vs : List V) (Q : VK) (E : XK) (p : Addr × Obj) (dx : Addr), L2H.RoomH k A → ExI C dx p.2 → L2H.PinOk outer H s p → Env0 P w K mg base A outer s H → BindsTo s fd args (ps.zip us) → Vals vs us → sp p.1 dx vs H Q E →
    codeAny (model P w) A (.call (.ref f) args) (CR (L2.CX P w) outer P w H s Q E) s
abbrev CE (P : Program) (w : World) (K : PySem.W.Frag) (mg : Str → Option Value) (base : Heap) (N : List Str) (x : Str) (st : Stmt) (f : Addr) (cdv : Value) (A : Around) (outer : List Env) (s : Shared) (H : Hp) (E : XK) (p : Addr × Obj) : Cx :=
  L2H.cxH (L2.CX P w) P w K mg base N x (defScope st) f cdv A outer s H E p
section
variable {P : Program} {w : World} {K : PySem.W.Frag} {mg : Str → Option Value} {base : Heap} {x : Str} {st : Stmt} {f C : Addr} {fd : FuncData} {N ps : List Str} {k : Nat}
theorem fn_okE {sp : Addr → Addr → Sp} (F : FnP K x st f fd) (S : FnScope N ps (defScope st)) (len : ∀ a dx vs H Q E, sp a dx vs H Q E → vs.length = ps.length)
    (body : ∀ (cdv : Value) (A : Around) (outer : List Env) (s : Shared) (H : Hp) (vs : List V) (Q : VK) (E : XK) (p : Addr × Obj) (dx : Addr), L2H.RoomH k (A.deeper (envOfC x (defScope st) s.heap.objs.size f cdv)) → ExI C dx p.2 → sp p.1 dx vs H Q E →
      ∃ t, PSs (CE P w K mg base N x st f cdv A outer s H E p) (defBody st) t ∧ t { nx := fun _ H' => Q .non H', rt := Q } (L2.start N vs) H) : FnE P w K mg base C (k + 1) f fd ps sp := by
  obtain ⟨oc, od, dV, kV, doc, pm, an, cdv, ct, osl, rfl, lk, hcd, _, _⟩ := F.ex
  refine ⟨len, fun A outer s H args us vs Q E p dx hr hx hpin e0 hb r hsp => ?_⟩
  have hl := len _ _ _ _ _ _ hsp
  have KX : K.In s.heap := e0.mod.kin.keeps fun b o e => (e0.bs b o e).1
  have lim : s.heap.NoLimit := e0.mod.nolimit.keeps fun b o e => (e0.bs b o e).1
  have hkind : ∀ y ∈ ps.zip us, (defScope st).names.lookup y.1 = some .local ∨ ((defScope st).names.lookup y.1 = some .cell ∧ ((cellsFrom (s.heap.objs.size + 1) (defScope st).names []).lookup y.1).isSome = true) := fun ⟨n, v⟩ hy => by
    rcases S.par n (List.of_mem_zip hy).1 with q | q
    · exact .inl q
    · exact .inr ⟨q, PySem.W.cellsFrom_some _ _ _ (.inl q)⟩
  refine codeAny_call_function hr.depth (KX _ _ lk) rfl S.co S.gen rfl (PySem.W.codeRec_of KX hcd) (hb _ _ _ _ ?_)
  refine wpAny_newFunctionEnv_cells S.kind hkind fun env he s1 x1 => ?_
  subst he
  refine ⟨lim.keeps x1.toInCall.keep, codeAny_func ?_⟩
  obtain ⟨t, ht, hq⟩ := body cdv A outer s H vs Q E p dx (hr.deeper _) hx hsp
  have I : Inv (CE P w K mg base N x st f cdv A outer s H E p) [] (L2.start N vs) H s1 := L2H.inv_startH S hpin e0 hl r x1
  refine wpAny_mono (ht.run [] s1 (L2.start N vs) H _ I hq) (fun fl s' hs => ?_) fun e s' hs => hs
  have fin : ∀ {σ' : L2.St} {H' : Hp} {v : V} {u : Value}, Inv (CE P w K mg base N x st f cdv A outer s H E p) [] σ' H' s' → RelV v u → Q v H' → L2.CE outer P w H s Q u s' :=
    fun {σ' H' v u} J rv q => ⟨v, H', J.os, J.bare, J.base, J.hok, rv, q⟩
  cases fl with
  | ret u =>
    obtain ⟨v, σ', H', J, rv, q⟩ := hs
    exact fin J rv q
  | next =>
    obtain ⟨σ', H', J, q⟩ := hs
    exact fin (v := V.non) (u := Value.none) J rfl q
  | brk =>
    obtain ⟨_, _, _, q⟩ := hs
    exact False.elim q
  | cont =>
    obtain ⟨_, _, _, q⟩ := hs
    exact False.elim q
end
section
variable {X : Cx} {C : Addr} {k : Nat} {f : Addr} {fd : FuncData} {ps : List Str} {sp : Addr → Addr → Sp} {x : Str} {q pos : Pos} {e : Expr} {es : List Expr} {t : TA} {p : Addr × Obj} {dx : Addr}
theorem run_fnE {pins : List (Addr × Obj)} {σ : L2.St} {H : Hp} {s : Shared} {Q : VK} {us : List Value} {vs : List V} (F : FnE X.prog X.w X.K X.mg X.base C k f fd ps sp) (hr : L2H.RoomH k X.A) (hx : ExI C dx p.2) (hp : p ∈ X.pn) (hb : Binds X.K fd ps [])
    (I : Inv X pins σ H s) (r : Vals vs us) (h : sp p.1 dx vs H Q E0) : wpAny (model X.prog X.w) X.A (call (.ref f) us) (EP X pins σ Q) X.xe s := by
  have hl : us.length = ps.length := by rw [← r.length]; exact F.len _ _ _ _ _ _ h
  have b := hb s us I.kIn (by rw [List.append_nil]; exact hl)
  rw [List.append_nil] at b
  have P1 := I.pin p (List.mem_append_left _ hp)
  have hpin : L2H.PinOk X.stack H s p := ⟨P1.1, P1.2.1, fun hm => (List.mem_cons.mp (I.stkSub p.1 hm)).elim P1.2.2.1 P1.2.2.2.1, P1.2.2.2.2⟩
  refine wpAny_call (codeAny_mono (F.run X.A X.stack s H ⟨us, []⟩ us vs Q E0 p dx hr hx hpin I.env0 b r h) fun r s' hq => ?_)
  cases r with
  | error e =>
    obtain ⟨_, _, _, _, _, _, _, _, _, _, _, _, z⟩ := hq
    exact z.elim
  | ok fl =>
    cases fl with
    | ret u => exact I.after hq
    | next => exact False.elim hq
    | brk => exact False.elim hq
    | cont => exact False.elim hq
def tCallE (sp : Addr → Addr → Sp) (a dx : Addr) (t : TA) : TE := fun σ H Q => t σ H fun vs H1 => sp a dx vs H1 Q E0
theorem pe_callE (F : FnE X.prog X.w X.K X.mg X.base C k f fd ps sp) (hr : L2H.RoomH k X.A) (hx : ExI C dx p.2) (hp : p ∈ X.pn) (hg : Gl X x) (hm : X.mg x = some (.ref f)) (hk : PySem.W.keepIn X.K (.ref f) = true) (hb : Binds X.K fd ps [])
    (ha : PA X (e :: es) t) (hdb : (x == ("__debug__" : Str)) = false := by decide) (he : starEach (e :: es) X.env = (false, eval e X.env) :: starEach es X.env := by rfl) (hpl : (backTo pos (starEach es X.env)).any (·.1) = false := by rfl) :
    PE X (.Call (.Name x q) (e :: es) [] pos) (tCallE sp p.1 dx t) := by
  refine ⟨fun pins s σ H Q I h => ?_⟩
  refine wpAny_Call_Name_kw (ld_glob I hg hm ?_ hdb)
  refine PySem.W.callWith_K (h₀ := X.base) I.ok.mod.kin hk (thn (ha.run pos pins s σ H _ I h) fun us s1 ⟨vs, H1, I1, r, q⟩ => ⟨I1.kIn, ?_⟩) he hpl
  exact run_fnE F hr hx hp hb I1 r q
end
/-! isinstance of the caught error -/
section
variable {X : Cx} {C : Addr} {dx : Addr} {p : Addr × Obj}
theorem call_isE (T : ExcC X.K C) (hx : ExI C dx p.2) (hp : p ∈ X.pn) (hd : ∀ (pins : List (Addr × Obj)) (s : Shared) (σ : L2.St) (H : Hp), Inv X pins σ H s → (∃ fs, H dx = some (.xd fs)) → ∃ od, PySem.W.InstAt s.heap p.1 p.2 C (some od)) :
    CallR X (.builtin "isinstance") (fun xs H Q => ∃ (c : V) (cv : Value) (b : Bool), xs = [.ref p.1, c] ∧ (∀ u, RelV c u → u = cv) ∧ PySem.W.kitOne X.K (.ref C) cv = some b ∧ (∃ fs, H dx = some (.xd fs)) ∧ Q (.bl b) H) := by
  intro pins s σ H xs us Q I r h
  obtain ⟨c, cv, b, rfl, hcv, e, hxd, q⟩ := h
  cases r with
  | cons rx rr =>
    cases rr with
    | cons rt rr =>
      cases rr
      cases rx
      have ec := hcv _ rt
      subst ec
      obtain ⟨od, J⟩ := hd pins s σ H I hxd
      exact PySem.W.kia_one (PySem.W.dl_kitx_exc T.hg T.hk T.hs T.hd T.ha T.hn T.ht T.hm) I.kIn J e (fun z => nomatch z) fun tk => ⟨.bl b, H, I.kept (t' := tk) fun _ _ z => z, rfl, q⟩
theorem inst_at (hx : ExI C dx p.2) (hp : p ∈ X.pn) (pins : List (Addr × Obj)) (s : Shared) (σ : L2.St) (H : Hp) (I : Inv X pins σ H s) (hxd : ∃ fs, H dx = some (.xd fs)) : ∃ od, PySem.W.InstAt s.heap p.1 p.2 C (some od) := by
  obtain ⟨fs, ea⟩ := hxd
  obtain ⟨ha, _⟩ := I.pin p (List.mem_append_left _ hp)
  obtain ⟨vs, hd⟩ := hx.data
  have hx' : ObjOk X.prog X.w H s.heap dx (.xd fs) := I.hok dx _ ea
  obtain ⟨mA, hns, hr⟩ := hx'
  obtain ⟨od, ho, hl⟩ := lookIn_ns hns
  exact ⟨od, ⟨ha, hx.cls, by unfold PySem.W.notCls; rw [hd] <;> rfl, by rw [hx.dict]; exact ho⟩⟩
/-- e.f, e the caught error -/
theorem pe_fldE {e : Expr} {te : TE} {pos : Pos} {n : Str} (T : XfC X.K C) (hno : PySem.W.findIn X.K (.ref C) n = some none) (hx : ExI C dx p.2) (hp : p ∈ X.pn) (he : PE X e te) (hb : attributeBase e n X.env (eval e X.env) = eval e X.env := by rfl) :
    PE X (.Attribute e n pos) (fun σ H Q => te σ H fun x H1 => x = .ref p.1 ∧ ∃ (fs : List (Str × V)) (v : V), H1 dx = some (.xd fs) ∧ fs.lookup n = some v ∧ Q v H1) := by
  refine ⟨fun pins s σ H Q I h => ?_⟩
  refine attr_of hb (thn (he.run pins s σ H _ I h) fun u s1 hh => ?_)
  obtain ⟨x, H1, I1, rx, ex, fs, v, ea, l, q⟩ := hh
  subst ex
  obtain rfl : u = Value.ref p.1 := rx
  obtain ⟨ha, _⟩ := I1.pin p (List.mem_append_left _ hp)
  obtain ⟨vs, hd⟩ := hx.data
  have hx' : ObjOk X.prog X.w H1 s1.heap dx (.xd fs) := I1.hok dx _ ea
  obtain ⟨mA, hns, hr⟩ := hx'
  obtain ⟨od, ho, hl⟩ := lookIn_ns hns
  obtain ⟨u, hu, ru⟩ := RelO.some_of (v := v) (o := mA n) (by rw [← l]; exact hr n)
  have J : PySem.W.InstAt s1.heap p.1 p.2 C (some od) := ⟨ha, hx.cls, by unfold PySem.W.notCls; rw [hd] <;> rfl, by rw [hx.dict]; exact ho⟩
  exact HandSPX.exc_get I1.kIn J T.ga T.gg T.exC (PySem.W.findObj_own T.hdC hno rfl (by rw [hl, hu])) (handed_of ru) ⟨v, H1, I1.tok _, ru, q⟩
end
end DL
namespace DL
open PySem PySem.Spec PyProof.Rows L2
section
variable {X : Cx} {C : Addr} {Γ : Gm X C} {a b : Expr} {ρ : Rho} {pos p q q2 : Pos} {k : D → Rho → Prop} {x y : Str}
theorem de_eqS (h : DE Γ a ρ (fun x ρ1 => DE Γ b ρ1 (fun y ρ2 => ∃ i j, x = .str i ∧ y = .str j ∧ k (.bool (decide (i = j))) ρ2))) : DE Γ (.Compare a [.Eq] [b] pos) ρ k :=
  de_cmp op_eq h (fun x y ρ2 u v σ H2 G2 Q ⟨i, j, e1, e2, hm⟩ eo ru rv hk => by
    subst e1; subst e2; cases ru; cases rv
    refine ⟨rfl, ?_⟩
    have e : decide (V.str i = V.str j) = decide (i = j) := by simp
    rw [e]; exact hk _ _ _ _ _ hm eo (.refl _) (.bl _)) (nomark _)
def isStr : D → Bool
  | .str _ => true
  | _ => false
theorem kit_str : ∀ d G v, Rv G v d → kitB (tyD d) "str" = some (isStr d)
  | _, _, _, .non => by decide +kernel
  | _, _, _, .bl _ => by show kitB "bool" "str" = some false; decide +kernel
  | _, _, _, .int _ => by show kitB "int" "str" = some false; decide +kernel
  | _, _, _, .str _ => by show kitB "str" "str" = some true; decide +kernel
  | _, _, _, .lst _ _ => by show kitB "list" "str" = some false; decide +kernel
  | _, _, _, .tup _ _ => by show kitB "tuple" "str" = some false; decide +kernel
theorem de_isiS (hm : X.mg "isinstance" = none) (hmT : X.mg "str" = none) (h : DE Γ a ρ (fun x ρ1 => k (.bool (isStr x)) ρ1)) (hg : Gl X "isinstance" := by rfl) (hgT : Gl X "str" := by rfl)
    (hs : starEach [a, .Name "str" q] X.env = (false, eval a X.env) :: starEach [.Name "str" q] X.env := by rfl) (hs2 : starEach [.Name "str" q] X.env = (false, eval (.Name "str" q) X.env) :: starEach [] X.env := by rfl) (hpl : (backTo pos (starEach [.Name "str" q] X.env)).any (·.1) = false := by rfl) :
    DE Γ (.Call (.Name "isinstance" p) [a, .Name "str" q] [] pos) ρ k := de_isi hm hmT PyProof.Rows.boot_str kit_str h hg hgT (by decide) (by decide) hs hs2 hpl
/-! ### the caught error, in the body of a def that is called while it is handled -/
theorem de_isE (i : Nat) {C dx : Addr} {pp : Addr × Obj} {cv : Value} {c : V} {fs : List (Str × V)} {T : Str} {bb : Bool} (E : ExcC X.K C) (hx : ExI C dx pp.2) (hp : pp ∈ X.pn) (hl : ρ[i]? = some (some (.raw (· = .ref pp.1)))) (hG : Γ.G0 dx = some (.xd fs)) (hm : X.mg "isinstance" = none)
    (hT : PE X (.Name T q2) (tC c)) (hcv : ∀ u, RelV c u → u = cv) (hkit : PySem.W.kitOne X.K (.ref C) cv = some bb) (hk : k (.bool bb) ρ) (hg : Gl X "isinstance" := by rfl) (hN : X.N[i]? = some x := by rfl) (hv : Vis X.env.scope x := by first | exact Or.inl rfl | exact Or.inr (Or.inl rfl) | exact Or.inr (Or.inr rfl))
    (hd : (x == ("__debug__" : Str)) = false := by decide) (hcd : (x == ("__classdict__" : Str)) = false := by decide)
    (hs : starEach [.Name x q, .Name T q2] X.env = (false, eval (.Name x q) X.env) :: starEach [.Name T q2] X.env := by rfl) (hs2 : starEach [.Name T q2] X.env = (false, eval (.Name T q2) X.env) :: starEach [] X.env := by rfl) (hpl : (backTo pos (starEach [.Name T q2] X.env)).any (·.1) = false := by rfl) :
    DE Γ (.Call (.Name "isinstance" p) [.Name x q, .Name T q2] [] pos) ρ k :=
  de_of (pe_callB (call_isE E hx hp (fun pins s σ H I z => inst_at hx hp pins s σ H I z)) hg hm PyProof.Rows.boot_isinstance (pa_cons (pe_var hN hv hd hcd) (pa_cons hT pa_nil hs2) hs) (he := hs) (hpl := hpl)) fun σ H G Q eo hq => by
    obtain ⟨v, h1, rfl⟩ := eo.raw i _ hl
    exact ⟨_, h1, c, cv, bb, rfl, hcv, hkit, ⟨fs, eo.gh _ _ (eo.g0 _ _ hG)⟩, hq _ _ _ _ _ hk eo (.refl _) (.bl _)⟩
theorem de_fldE (i : Nat) {C dx : Addr} {pp : Addr × Obj} {fs : List (Str × V)} {n : Str} {v : V} {d : D} (T : XfC X.K C) (hno : PySem.W.findIn X.K (.ref C) n = some none) (hx : ExI C dx pp.2) (hp : pp ∈ X.pn) (hl : ρ[i]? = some (some (.raw (· = .ref pp.1)))) (hG : Γ.G0 dx = some (.xd fs)) (hf : fs.lookup n = some v) (hr : ∀ G, Rv G v d) (hk : k d ρ)
    (hN : X.N[i]? = some x := by rfl) (hv : Vis X.env.scope x := by first | exact Or.inl rfl | exact Or.inr (Or.inl rfl) | exact Or.inr (Or.inr rfl))
    (hd : (x == ("__debug__" : Str)) = false := by decide) (hcd : (x == ("__classdict__" : Str)) = false := by decide) (hb : attributeBase (.Name x q) n X.env (eval (.Name x q) X.env) = eval (.Name x q) X.env := by rfl) : DE Γ (.Attribute (.Name x q) n pos) ρ k :=
  de_of (pe_fldE T hno hx hp (pe_var hN hv hd hcd) hb) fun σ H G Q eo hq => by
    obtain ⟨u, h1, rfl⟩ := eo.raw i _ hl
    exact ⟨_, h1, rfl, fs, v, eo.gh _ _ (eo.g0 _ _ hG), hf, hq _ _ _ _ _ hk eo (.refl _) (hr G)⟩
/-- a def called there, with one argument -/
def spE1 (f : D → D) : Addr → Addr → Sp := fun _ _ vs H Q _ => ∃ G d v, vs = [v] ∧ Ex G H ∧ Rv G v d ∧ ∀ u H' G', Ex H H' → Grow H G G' H' → Rv G' u (f d) → Q u H'
theorem de_callE1 {C dx : Addr} {pp : Addr × Obj} {lv : Nat} {f : Addr} {fd : FuncData} {ps : List Str} {g : D → D} (F : FnE X.prog X.w X.K X.mg X.base C lv f fd ps (spE1 g)) (hr : L2H.RoomH lv X.A) (hx : ExI C dx pp.2) (hp : pp ∈ X.pn) (hm : X.mg x = some (.ref f)) (hk : PySem.W.keepIn X.K (.ref f) = true) (hb : Binds X.K fd ps [])
    (h : DE Γ a ρ (fun d ρ1 => k (g d) ρ1)) (hg : Gl X x := by rfl) (hdb : (x == ("__debug__" : Str)) = false := by decide) (he : starEach [a] X.env = (false, eval a X.env) :: starEach [] X.env := by rfl) (hpl : (backTo pos (starEach [] X.env)).any (·.1) = false := by rfl) :
    DE Γ (.Call (.Name x p) [a] [] pos) ρ k :=
  de_of (pe_callE F hr hx hp hg hm hk hb (pa_cons (pe_U Γ a) pa_nil he) hdb he hpl) fun σ H G Q eo hq => ⟨ρ, G, _, h, eo, fun d ρ1 v H1 G1 hm1 eo1 ex1 r => ⟨G1, d, v, rfl, eo1.gh, r, fun u H' G' x1 g1 r1 => hq _ _ _ _ _ hm1 (eo1.ext x1 g1) (ex1.trans g1.g) r1⟩⟩
end
section
variable {P : Program} {w : World} {K : PySem.W.Frag} {mg : Str → Option Value} {base : Heap} {x : Str} {st : Stmt} {f C : Addr} {fd : FuncData} {N ps : List Str} {k : Nat}
/-- the context record of such a def's body -/
def gmE (N : List Str) (nd : N.Nodup) (cdv : Value) (A : Around) (outer : List Env) (s : Shared) (H : Hp) (E : XK) (p : Addr × Obj) (G : Hp) : Gm (CE P w K mg base N x st f cdv A outer s H E p) C where
  H0 := H
  G0 := G
  E := fun _ _ _ _ => False
  err := fun _ _ => False
  tk := fun _ _ ⟨_, _, _, _, _, _, _, _, _, _, _, _, _, _, _, _, w⟩ => w.elim
  hE := fun _ _ _ _ _ _ z => z.elim
  pown := passes_of rfl
  nd := nd
theorem fn_okE1 {g : D → D} (F : FnP K x st f fd) (S : FnScope N ps (defScope st)) (hn : ps.length = 1)
    (body : ∀ (cdv : Value) (A : Around) (outer : List Env) (s : Shared) (H : Hp) (E : XK) (p : Addr × Obj) (Γ : Gm (CE P w K mg base N x st f cdv A outer s H E p) C), ∀ d, DSs Γ (defBody st) (startR N [d]) { nx := fun _ => g d = .none, rt := fun d' _ => d' = g d }) : FnE P w K mg base C (k + 1) f fd ps (spE1 g) := by
  refine fn_okE F S (fun a dx vs H Q E h => ?_) (fun cdv A outer s H vs Q E p dx hr hx h => ?_)
  · obtain ⟨G, d, v, rfl, _⟩ := h
    rw [hn]; rfl
  · obtain ⟨G, d, v, rfl, h1, h2, h3⟩ := h
    refine ⟨tUSs (gmE N S.nd cdv A outer s H E p G) (defBody st), pss_U _ _, startR N [d], G, _, body cdv A outer s H E p (gmE N S.nd cdv A outer s H E p G) d, eo_start h1 (RvA.one h2),
      ⟨fun ρ σ H' G' z y _ => ?_, fun d' ρ v' σ H' G' z y _ r => ?_, fun _ _ _ _ z => z.elim, fun _ _ _ _ z => z.elim⟩⟩
    · exact h3 .non H' G' y.h0 ⟨y.g0, y.gh, y.fr⟩ (by rw [z]; exact .non)
    · subst z; exact h3 v' H' G' y.h0 ⟨y.g0, y.gh, y.fr⟩ r
/-- what a def promises that judges the caught error: True, where the word is the one that is due -/
def spKin : Addr → Addr → Sp := fun a dx vs H Q _ => ∃ due, vs = [V.ref a, V.str due] ∧ H dx = some (xdw due) ∧ ∀ H', Ex H H' → Q (.bl true) H'
theorem fn_okKin (F : FnP K x st f fd) {y1 y2 y3 : Str} (S : FnScope [y1, y2, y3] ps (defScope st)) (hn : ps.length = 2)
    (body : ∀ (cdv : Value) (A : Around) (outer : List Env) (s : Shared) (H : Hp) (E : XK) (p : Addr × Obj) (dx : Addr) (Γ : Gm (CE P w K mg base [y1, y2, y3] x st f cdv A outer s H E p) C), L2H.RoomH k (A.deeper (envOfC x (defScope st) s.heap.objs.size f cdv)) → ExI C dx p.2 → ∀ due, Γ.G0 dx = some (xdw due) →
      DSs Γ (defBody st) [some (.raw (· = .ref p.1)), some (.im (.str due)), none] { nx := fun _ => False, rt := fun d' _ => d' = .bool true }) : FnE P w K mg base C (k + 1) f fd ps spKin := by
  refine fn_okE F S (fun a dx vs H Q E h => ?_) (fun cdv A outer s H vs Q E p dx hr hx h => ?_)
  · obtain ⟨due, rfl, _⟩ := h
    rw [hn]; rfl
  · obtain ⟨due, rfl, h1, h2⟩ := h
    refine ⟨tUSs (gmE [y1, y2, y3] S.nd cdv A outer s H E p (fun b => if b = dx then some (xdw due) else none)) (defBody st), pss_U _ _, _, (fun b => if b = dx then some (xdw due) else none), _, body cdv A outer s H E p dx (gmE [y1, y2, y3] S.nd cdv A outer s H E p (fun b => if b = dx then some (xdw due) else none)) hr hx due (if_pos rfl), ?_,
      ⟨fun ρ σ H' G' z y _ => z.elim, fun d' ρ v' σ H' G' z y _ r => ?_, fun _ _ _ _ z => z.elim, fun _ _ _ _ z => z.elim⟩⟩
    · refine ⟨rfl, .refl _, .refl _, fun b o z => ?_, fun b o z z2 => absurd (z.symm.trans z2) (by simp), fun i d z => ?_, fun i ds z => ?_, fun i j ds es a z => ?_, fun i b ds z => ?_, fun i p' z => ?_⟩
      · by_cases e : b = dx
        · subst e; rw [if_pos rfl] at z; cases z; exact h1
        · rw [if_neg e] at z; cases z
      · match i, z with
        | 0, z => cases z
        | 1, z => cases z; exact ⟨_, rfl, .str _⟩
        | 2, z => cases z
        | _ + 3, z => cases z
      · match i, z with
        | 0, z => cases z
        | 1, z => cases z
        | 2, z => cases z
      · match i, z with
        | 0, z => cases z
        | 1, z => cases z
        | 2, z => cases z
      · match i, z with
        | 0, z => cases z
        | 1, z => cases z
        | 2, z => cases z
      · match i, z with
        | 0, z => cases z; exact ⟨_, rfl, rfl⟩
        | 1, z => cases z
        | 2, z => cases z
        | _ + 3, z => cases z
    · subst z; cases r; exact h2 H' y.h0
end
/-! ### try: body, except NotUsable as n: return e -/
section
variable {X : Cx} {C : Addr} {Γ : Gm X C} {e : Expr} {body : List Stmt} {ρ : Rho} {n : Str} {np pos pos' rp : Pos} {R : D → Prop} {Nx : Rho → Prop} {te : Addr → Addr → TE}
/-- the suite is right, when the body was left with the word w at the slots' data ρ1 -/
def SV (i : Nat) (te : Addr → Addr → TE) (R : D → Prop) (w : Str) (ρ1 : Rho) : Prop :=
  ∀ (σ1 : L2.St) (H1 G1 H0 G0 : Hp) (dx a : Addr) (Q : VK), EO H0 G0 ρ1 σ1 H1 G1 → H1 dx = some (xdw w) → H1 a = none → (∀ b H2, R (.bool b) → Ex H1 H2 → Q (.bl b) H2) → te a dx (σ1.set i (some (.ref a))) H1 Q
theorem ds_tryN (i : Nat) (hc : Names X "NotUsable" (.ref C)) (hte : PySem.W.exmOne X.K (.ref C) (.ref C) = some true)
    (hsu : ∀ (a : Addr) (oe : Obj) (dx : Addr) (pn : List (Addr × Obj)), ExI C dx oe → PE (X.suite a ((a, oe) :: pn)) e (te a dx))
    (hb : ∀ (pn : List (Addr × Obj)) (xe : Value → Shared → Prop) (Γ' : Gm (X.tr pn xe) C), (∀ w ρ1, SV i te R w ρ1 → Γ'.err w ρ1) → DSs Γ' body ρ { nx := Nx, rt := fun d _ => R d })
    (hs : X.stack = X.env :: X.outer := by rfl) (hf : X.env.frame = some X.env.locals := by rfl) (hi : X.N[i]? = some n := by rfl) (hln : X.env.kindOf n = some .local := by rfl) :
    DS Γ (.Try body [.ExceptHandler (some (.Name "NotUsable" np)) (some n) [.Return (some e) rp] pos'] [] [] pos) ρ { nx := Nx, rt := fun d _ => R d } := by
  refine ds_of (ps_try_as (X := X) (i := i) (Wout := fun _ _ _ _ => False)
    (tb := fun W D σ H => ∀ (pn : List (Addr × Obj)) (xe : Value → Shared → Prop), Takes (X.tr pn xe) W → PassesOwn (model X.prog X.w) X.A X.env xe → ∃ t, PSs (X.tr pn xe) body t ∧ t D σ H)
    (ts := fun a cls d D σ H => ∃ dx, cls = .ref C ∧ d = some dx ∧ tRet (te a dx) D σ H) hs hf Γ.nd hi hln hc (fun _ _ ⟨_, _, _, _, _, _, _, _, _, _, _, _, _, _, _, _, w⟩ => w.elim)
    (fun W pn xe tk po => ⟨fun pins s σ H D I h => ?_⟩) (fun a oe cls d pn hz hf => ⟨fun pins s σ H D I h => ?_⟩)) fun σ H G Dd eo hk => ?_
  · obtain ⟨t, ht, hq⟩ := h pn xe tk po
    exact ht.run pins s σ H D I hq
  · obtain ⟨dx, rfl, rfl, h⟩ := h
    exact (pss_one (ps_ret (hsu a oe dx pn ⟨hz.1, hz.2, hf⟩))).run pins s σ H D I h
  · intro pn xe tk po
    let Γ' : Gm (X.tr pn xe) C :=
      { H0 := noOwn ρ σ H, G0 := G, E := fun σ cls d H => wAs X.K (.ref C) i (fun a cls d D σ H => ∃ dx, cls = .ref C ∧ d = some dx ∧ tRet (te a dx) D σ H) (fun _ _ _ _ => False) Dd cls d σ H,
        err := fun w ρ1 => SV i te R w ρ1, tk := tk, pown := po, nd := Γ.nd,
        hE := fun w dx ρ1 σ1 H1 G1 sv e1 hx => ⟨true, hte, fun _ a ha => ⟨dx, rfl, rfl, sv σ1 H1 G1 _ _ dx a _ e1 hx ha fun b H2 hR x2 => hk.rt (.bool b) ρ1 (.bl b) σ1 H2 G1 hR ((eo.back e1).stay x2) e1.g0 (.bl b)⟩, fun h => by cases h⟩ }
    exact ⟨tUSs Γ' body, pss_U Γ' body, ρ, G, _, hb pn xe Γ' (fun _ _ z => z), eo.reframe,
      ⟨fun ρ1 σ1 H1 G1 z e1 x => hk.nx ρ1 σ1 H1 G1 z (eo.back e1) x, fun d ρ1 v σ1 H1 G1 z e1 x r => hk.rt d ρ1 v σ1 H1 G1 z (eo.back e1) x r, fun ρ1 σ1 H1 G1 z e1 x => hk.bk ρ1 σ1 H1 G1 z (eo.back e1) x, fun ρ1 σ1 H1 G1 z e1 x => hk.ct ρ1 σ1 H1 G1 z (eo.back e1) x⟩⟩
end
end DL
namespace HL
open PySem PySem.Spec PyProof.Rows L2 DL
/-- what the written part says of the classes, for the catch -/
structure Kc (K : PySem.W.Frag) (mg : Str → Option Value) (C : Addr) : Prop where
  exc : ExcC K C
  xf : XfC K C
  te : PySem.W.exmOne K (.ref C) (.ref C) = some true
  web : ∃ D : Addr, mg "WebError" = some (.ref D) ∧ PySem.W.kitOne K (.ref C) (.ref D) = some true
  led : ∃ D : Addr, mg "LedError" = some (.ref D) ∧ PySem.W.kitOne K (.ref C) (.ref D) = some true
  paper : ∃ D : Addr, mg "PaperError" = some (.ref D) ∧ PySem.W.kitOne K (.ref C) (.ref D) = some false
  val : PySem.W.kitOne K (.ref C) (.type "ValueError") = some true
def Dd (deed : Str) (row : List D) (r : D → Prop) (e : Str → Prop) : Prop :=
  (deed = "purses_of" ∧ ∃ x y, row = [x, y] ∧ T_purses_of [x, y] r e) ∨
  (deed = "turned_over" ∧ ∃ x y, row = [x, y] ∧ T_turned_over [x, y] r e) ∨
  (deed = "turned_purses" ∧ ∃ x y, row = [x, y] ∧ T_turned_purses [x, y] r e) ∨
  (deed = "is_way" ∧ ∃ x y z, row = [x, y, z] ∧ T_is_way [x, y, z, .tuple []] r e) ∨
  (deed = "is_ring" ∧ ∃ x y, row = [x, y] ∧ T_is_ring [x, y, .tuple []] r e) ∨
  (deed = "led_along" ∧ ∃ x y, row = [x, y] ∧ T_led_along [x, y, .int 0, .tuple [.int 0], .int 0] r e) ∨
  (deed = "ends_at" ∧ ∃ x y z, row = [x, y, z] ∧ T_ends_at [x, y, z] r e)
abbrev T_law_deed : DL.Tm := fun ds r e => ∃ deed row, ds = [.str deed, .tuple row] ∧ Dd deed row r e
def Rf (deed : Str) (row : List D) (due : Str) : Prop := ∃ r e, Dd deed row r e ∧ (∀ d, ¬ r d) ∧ ∀ w, e w → w = due
abbrev T_law_refused : DL.Tm := fun ds r e => ∃ deed row due, Rf deed row due ∧ ds = [.str deed, .tuple row, .str due] ∧ r = is (.bool true) ∧ e = noE
section
variable {P : Program} {w : World} {K : PySem.W.Frag} {mg : Str → Option Value} {base : Heap} {f C : Addr} {fd : FuncData}
theorem ok_law_deed (L1 : Df P w K mg base "purses_of" P_purses_of 5 (spT C T_purses_of)) (LT : Df P w K mg base "turned_over" P_turned_over 5 (spT C T_turned_over)) (L3 : Df P w K mg base "turned_purses" P_turned_purses 6 (spT C T_turned_purses)) (L4 : Df P w K mg base "ends_at" P_ends_at 5 (spT C T_ends_at))
    (L5 : Df P w K mg base "is_way" P_is_way 6 (spT C T_is_way)) (L6 : Df P w K mg base "is_ring" P_is_ring 6 (spT C T_is_ring)) (L7 : Df P w K mg base "led_along" P_led_along 8 (spT C T_led_along))
    (F : FnP K "_law_deed" s_law_deed f fd) : FnOk P w K mg base (L2.CX P w) 9 f fd P_law_deed (spT C T_law_deed) := by
  refine fn_ok F sc_law_deed (by rintro _ _ _ ⟨x, _, rfl, _⟩; rfl) fun cdv A outer s0 H E Γ hr ds r e hT herr => ?_
  obtain ⟨deed, row, rfl, hD⟩ := hT
  rcases hD with ⟨rfl, x, y, rfl, h⟩ | ⟨rfl, x, y, rfl, h⟩ | ⟨rfl, x, y, rfl, h⟩ | ⟨rfl, x, y, z, rfl, h⟩ | ⟨rfl, x, y, rfl, h⟩ | ⟨rfl, x, y, rfl, h⟩ | ⟨rfl, x, y, z, rfl, h⟩
  · refine dss_cons <| ds_if <| dt_eqS <| de_name 0 rfl <| de_str ⟨_, _, rfl, rfl, fun _ => ?_, fun h => absurd h (by decide)⟩
    exact dss_one <| ds_ret <| de_call L1 (hr.mono (by decide)) <| da_cons <| de_ixT <| de_name 1 rfl <| de_int ⟨_, _, _, rfl, rfl, rfl, da_one <| de_ixT <| de_name 1 rfl <| de_int ⟨_, _, _, rfl, rfl, rfl, r, e, h, fun w => herr w _, fun d h => h⟩⟩
  · refine dss_cons <| ds_if <| dt_eqS <| de_name 0 rfl <| de_str ⟨_, _, rfl, rfl, fun h => absurd h (by decide), fun _ => dss_nil ?_⟩
    refine dss_cons <| ds_if <| dt_eqS <| de_name 0 rfl <| de_str ⟨_, _, rfl, rfl, fun _ => ?_, fun h => absurd h (by decide)⟩
    exact dss_one <| ds_ret <| de_call LT (hr.mono (by decide)) <| da_cons <| de_ixT <| de_name 1 rfl <| de_int ⟨_, _, _, rfl, rfl, rfl, da_one <| de_ixT <| de_name 1 rfl <| de_int ⟨_, _, _, rfl, rfl, rfl, r, e, h, fun w => herr w _, fun d h => h⟩⟩
  · refine dss_cons <| ds_if <| dt_eqS <| de_name 0 rfl <| de_str ⟨_, _, rfl, rfl, fun h => absurd h (by decide), fun _ => dss_nil ?_⟩
    refine dss_cons <| ds_if <| dt_eqS <| de_name 0 rfl <| de_str ⟨_, _, rfl, rfl, fun h => absurd h (by decide), fun _ => dss_nil ?_⟩
    refine dss_cons <| ds_if <| dt_eqS <| de_name 0 rfl <| de_str ⟨_, _, rfl, rfl, fun _ => ?_, fun h => absurd h (by decide)⟩
    exact dss_one <| ds_ret <| de_call L3 (hr.mono (by decide)) <| da_cons <| de_ixT <| de_name 1 rfl <| de_int ⟨_, _, _, rfl, rfl, rfl, da_one <| de_ixT <| de_name 1 rfl <| de_int ⟨_, _, _, rfl, rfl, rfl, r, e, h, fun w => herr w _, fun d h => h⟩⟩
  · refine dss_cons <| ds_if <| dt_eqS <| de_name 0 rfl <| de_str ⟨_, _, rfl, rfl, fun h => absurd h (by decide), fun _ => dss_nil ?_⟩
    refine dss_cons <| ds_if <| dt_eqS <| de_name 0 rfl <| de_str ⟨_, _, rfl, rfl, fun h => absurd h (by decide), fun _ => dss_nil ?_⟩
    refine dss_cons <| ds_if <| dt_eqS <| de_name 0 rfl <| de_str ⟨_, _, rfl, rfl, fun h => absurd h (by decide), fun _ => dss_nil ?_⟩
    refine dss_cons <| ds_if <| dt_eqS <| de_name 0 rfl <| de_str ⟨_, _, rfl, rfl, fun _ => ?_, fun h => absurd h (by decide)⟩
    exact dss_one <| ds_ret <| de_call L5 (hr.mono (by decide)) <| da_cons <| de_ixT <| de_name 1 rfl <| de_int ⟨_, _, _, rfl, rfl, rfl, da_cons <| de_ixT <| de_name 1 rfl <| de_int ⟨_, _, _, rfl, rfl, rfl, da_cons <| de_ixT <| de_name 1 rfl <| de_int ⟨_, _, _, rfl, rfl, rfl, da_one <| de_tup <| da_nil ⟨Nat.le_of_ble_eq_true rfl, r, e, h, fun w => herr w _, fun d h => h⟩⟩⟩⟩
  · refine dss_cons <| ds_if <| dt_eqS <| de_name 0 rfl <| de_str ⟨_, _, rfl, rfl, fun h => absurd h (by decide), fun _ => dss_nil ?_⟩
    refine dss_cons <| ds_if <| dt_eqS <| de_name 0 rfl <| de_str ⟨_, _, rfl, rfl, fun h => absurd h (by decide), fun _ => dss_nil ?_⟩
    refine dss_cons <| ds_if <| dt_eqS <| de_name 0 rfl <| de_str ⟨_, _, rfl, rfl, fun h => absurd h (by decide), fun _ => dss_nil ?_⟩
    refine dss_cons <| ds_if <| dt_eqS <| de_name 0 rfl <| de_str ⟨_, _, rfl, rfl, fun h => absurd h (by decide), fun _ => dss_nil ?_⟩
    refine dss_cons <| ds_if <| dt_eqS <| de_name 0 rfl <| de_str ⟨_, _, rfl, rfl, fun _ => ?_, fun h => absurd h (by decide)⟩
    exact dss_one <| ds_ret <| de_call L6 (hr.mono (by decide)) <| da_cons <| de_ixT <| de_name 1 rfl <| de_int ⟨_, _, _, rfl, rfl, rfl, da_cons <| de_ixT <| de_name 1 rfl <| de_int ⟨_, _, _, rfl, rfl, rfl, da_one <| de_tup <| da_nil ⟨Nat.le_of_ble_eq_true rfl, r, e, h, fun w => herr w _, fun d h => h⟩⟩⟩
  · refine dss_cons <| ds_if <| dt_eqS <| de_name 0 rfl <| de_str ⟨_, _, rfl, rfl, fun h => absurd h (by decide), fun _ => dss_nil ?_⟩
    refine dss_cons <| ds_if <| dt_eqS <| de_name 0 rfl <| de_str ⟨_, _, rfl, rfl, fun h => absurd h (by decide), fun _ => dss_nil ?_⟩
    refine dss_cons <| ds_if <| dt_eqS <| de_name 0 rfl <| de_str ⟨_, _, rfl, rfl, fun h => absurd h (by decide), fun _ => dss_nil ?_⟩
    refine dss_cons <| ds_if <| dt_eqS <| de_name 0 rfl <| de_str ⟨_, _, rfl, rfl, fun h => absurd h (by decide), fun _ => dss_nil ?_⟩
    refine dss_cons <| ds_if <| dt_eqS <| de_name 0 rfl <| de_str ⟨_, _, rfl, rfl, fun h => absurd h (by decide), fun _ => dss_nil ?_⟩
    refine dss_cons <| ds_if <| dt_eqS <| de_name 0 rfl <| de_str ⟨_, _, rfl, rfl, fun _ => ?_, fun h => absurd h (by decide)⟩
    exact dss_one <| ds_ret <| de_call L7 (hr.mono (by decide)) <| da_cons <| de_ixT <| de_name 1 rfl <| de_int ⟨_, _, _, rfl, rfl, rfl, da_cons <| de_ixT <| de_name 1 rfl <| de_int ⟨_, _, _, rfl, rfl, rfl, da_cons <| de_int <| da_cons <| de_tup <| da_one <| de_int ⟨Nat.le_of_ble_eq_true rfl, da_one <| de_int ⟨r, e, h, fun w => herr w _, fun d h => h⟩⟩⟩⟩
  · refine dss_cons <| ds_if <| dt_eqS <| de_name 0 rfl <| de_str ⟨_, _, rfl, rfl, fun h => absurd h (by decide), fun _ => dss_nil ?_⟩
    refine dss_cons <| ds_if <| dt_eqS <| de_name 0 rfl <| de_str ⟨_, _, rfl, rfl, fun h => absurd h (by decide), fun _ => dss_nil ?_⟩
    refine dss_cons <| ds_if <| dt_eqS <| de_name 0 rfl <| de_str ⟨_, _, rfl, rfl, fun h => absurd h (by decide), fun _ => dss_nil ?_⟩
    refine dss_cons <| ds_if <| dt_eqS <| de_name 0 rfl <| de_str ⟨_, _, rfl, rfl, fun h => absurd h (by decide), fun _ => dss_nil ?_⟩
    refine dss_cons <| ds_if <| dt_eqS <| de_name 0 rfl <| de_str ⟨_, _, rfl, rfl, fun h => absurd h (by decide), fun _ => dss_nil ?_⟩
    refine dss_cons <| ds_if <| dt_eqS <| de_name 0 rfl <| de_str ⟨_, _, rfl, rfl, fun h => absurd h (by decide), fun _ => dss_nil ?_⟩
    exact dss_one <| ds_ret <| de_call L4 (hr.mono (by decide)) <| da_cons <| de_ixT <| de_name 1 rfl <| de_int ⟨_, _, _, rfl, rfl, rfl, da_cons <| de_ixT <| de_name 1 rfl <| de_int ⟨_, _, _, rfl, rfl, rfl, da_one <| de_ixT <| de_name 1 rfl <| de_int ⟨_, _, _, rfl, rfl, rfl, r, e, h, fun w => herr w _, fun d h => h⟩⟩⟩
/-! ### hot -/
theorem hot_law_int (B : Bi mg) (F : FnP K "_law_int" s_law_int f fd) : FnE P w K mg base C 1 f fd P_law_int (spE1 fun x => .bool (isI x)) := by
  refine fn_okE1 F sc_law_int rfl fun cdv A outer s H E p Γ x => ?_
  refine dss_one (ds_ret (de_and (de_isiI B.isinstance B.int (de_name 0 rfl ?_))))
  refine ⟨_, rfl, fun h => de_one (de_not (de_isiB B.isinstance B.bool (de_name 0 rfl ⟨_, rfl, ?_⟩))), fun h => ?_⟩
  · show PyData.bool (!isBool x) = .bool (isI x)
    rw [← isI_eq, h]; rfl
  · show PyData.bool false = .bool (isI x)
    rw [← isI_eq, h]; rfl
/-- a def for the suites -/
structure Dh (P : Program) (w : World) (K : PySem.W.Frag) (mg : Str → Option Value) (base : Heap) (C : Addr) (x : Str) (ps : List Str) (k : Nat) (sp : Addr → Addr → Sp) : Prop where
  ex : ∃ f fd, mg x = some (.ref f) ∧ PySem.W.keepIn K (.ref f) = true ∧ Binds K fd ps [] ∧ FnE P w K mg base C k f fd ps sp
theorem hot_law_kin (B : Bi mg) (U : Nu P w K mg base C) (T : Kc K mg C) (L : Dh P w K mg base C "_law_int" P_law_int 1 (spE1 fun x => .bool (isI x))) (F : FnP K "_law_kin" s_law_kin f fd) : FnE P w K mg base C 2 f fd P_law_kin spKin := by
  obtain ⟨fi, fdi, i1, i2, i3, i4⟩ := L.ex
  obtain ⟨D1, w1, w2⟩ := T.web
  obtain ⟨D2, l1, l2⟩ := T.led
  obtain ⟨D3, q1, q2⟩ := T.paper
  refine fn_okKin F (y1 := "_law_e") (y2 := "_law_due") (y3 := "_law_kin_here") sc_law_kin rfl fun cdv A outer s H E p dx Γ hr hx due hG => ?_
  have hp : p ∈ (CE P w K mg base ["_law_e", "_law_due", "_law_kin_here"] "_law_kin" s_law_kin f cdv A outer s H E p).pn := List.mem_singleton.mpr rfl
  have rr : ∀ {D : Addr} (u : Value), RelV (.ref D) u → u = .ref D := fun u h => h
  refine dss_cons <| ds_set 2 <| de_and <| de_isE 0 (c := .ref D1) T.exc hx hp rfl hG B.isinstance (pe_glob (by rfl) w1 rfl) rr w2 ⟨_, rfl, fun _ => ?_, fun h => (by cases h)⟩
  refine de_and <| de_isE 0 (c := .ref D2) T.exc hx hp rfl hG B.isinstance (pe_glob (by rfl) l1 rfl) rr l2 ⟨_, rfl, fun _ => ?_, fun h => (by cases h)⟩
  refine de_one <| de_isE 0 (c := .ty "ValueError") T.exc hx hp rfl hG B.isinstance (pe_bltn (by rfl) B.valueError PyProof.Rows.Boot.«ValueError» rfl) (fun u h => h) T.val ?_
  refine dss_cons <| ds_set 2 <| de_and <| de_name 2 rfl ⟨_, rfl, fun _ => ?_, fun h => (by cases h)⟩
  refine de_and <| de_not <| de_isE 0 (c := .ref D3) T.exc hx hp rfl hG B.isinstance (pe_glob (by rfl) q1 rfl) rr q2 ⟨_, rfl, _, rfl, fun _ => ?_, fun h => (by cases h)⟩
  refine de_and <| de_isiS B.isinstance B.str <| de_fldE 0 (v := .str due) (d := .str due) T.xf U.word hx hp rfl hG (by rfl) (fun _ => .str _) ⟨_, rfl, fun _ => ?_, fun h => (by cases h)⟩
  refine de_one <| de_callE1 i4 (hr.mono (by decide)) hx hp i1 i2 i3 <| de_fldE 0 (v := .int (-1)) (d := .int (-1)) T.xf U.at_ hx hp rfl hG (by rfl) (fun _ => .int _) ?_
  refine dss_one <| ds_ret <| de_and <| de_name 2 rfl ⟨_, rfl, fun _ => ?_, fun h => (by cases h)⟩
  refine de_and <| de_eqS <| de_fldE 0 (v := .str due) (d := .str due) T.xf U.word hx hp rfl hG (by rfl) (fun _ => .str _) <| de_name 1 rfl ⟨_, _, rfl, rfl, _, rfl, fun _ => ?_, fun h => absurd h (by simp)⟩
  exact de_one <| de_eqI <| de_fldE 0 (v := .int (-1)) (d := .int (-1)) T.xf U.at_ hx hp rfl hG (by rfl) (fun _ => .int _) <| de_neg <| de_int ⟨_, rfl, _, _, rfl, rfl, rfl⟩
theorem set_other {σ : L2.St} {i j : Nat} {v : V} {x : Option V} (h : σ[j]? = some (some v)) (n : i ≠ j) : (σ.set i x)[j]? = some (some v) := by rw [List.getElem?_set_ne n]; exact h
theorem set_at {σ : L2.St} {i : Nat} {x : Option V} (h : i < σ.length) : (σ.set i x)[i]? = some x := List.getElem?_set_self h
theorem EO.im_at {H0 G0 H G : Hp} {ρ : Rho} {σ : L2.St} (e : EO H0 G0 ρ σ H G) {i : Nat} {x : Str} (h : ρ[i]? = some (some (.im (.str x)))) : σ[i]? = some (some (.str x)) := by
  obtain ⟨v, h1, h2⟩ := e.im i _ h
  cases h2
  exact h1
theorem ok_law_refused (U : Nu P w K mg base C) (T : Kc K mg C) (Lk : Dh P w K mg base C "_law_kin" P_law_kin 2 spKin) (Ld : Df P w K mg base "_law_deed" P_law_deed 9 (spT C T_law_deed)) (F : FnP K "_law_refused" s_law_refused f fd) : FnOk P w K mg base (L2.CX P w) 10 f fd P_law_refused (spT C T_law_refused) := by
  obtain ⟨fi, fdi, i1, i2, i3, i4⟩ := Lk.ex
  refine fn_ok F sc_law_refused (by rintro _ _ _ ⟨x, _, _, _, rfl, _⟩; rfl) fun cdv A outer s0 H E Γ hr ds r e hT herr => ?_
  obtain ⟨deed, row, due, ⟨r', e', hD, hr1, he1⟩, rfl, rfl, rfl⟩ := hT
  refine dss_cons <| ds_tryN (R := is (.bool true)) (te := fun a dx => tCallE spKin a dx (tCons (tVar 3) (tCons (tVar 2) tNil))) 3 ⟨by rfl, by decide, .inl U.g⟩ T.te
    (fun a oe dx pn hx => pe_callE (p := (a, oe)) i4 ⟨(hr.mono (show 2 ≤ 9 by decide)).dp, (hr.mono (show 2 ≤ 9 by decide)).un⟩ hx (List.mem_cons_self) (by rfl) i1 i2 i3 (pa_cons (pe_var (by rfl) (Or.inl rfl) (by decide) (by decide)) (pa_cons (pe_var (by rfl) (Or.inl rfl) (by decide) (by decide)) pa_nil)))
    (fun pn xe Γ' hsv => dss_one <| ds_expr <| de_call Ld hr <| da_cons <| de_name 0 rfl <| da_one <| de_name 1 rfl ⟨r', e', ⟨deed, row, rfl, hD⟩, fun w' z => hsv _ _ ?_, fun d z => absurd z (hr1 d)⟩)
  obtain rfl := he1 w' z
  intro σ1 H1 G1 H0 G0 dx a Q eo hx ha hq
  have l3 : 3 < σ1.length := by rw [← eo.len]; exact Nat.le_of_ble_eq_true rfl
  exact ⟨_, set_at l3, _, set_other (EO.im_at eo rfl) (by decide), w', rfl, hx, fun H' x => hq true H' rfl x⟩
end
end HL
namespace HL
open PySem PySem.Spec PyProof.Rows L2 DL
/-! ### the head: a hook of facts, defs and one more Bool -/
abbrev AlY : Type := He.AlD × Bool
def obsY (n : Nat) (fa : List He.Fa) (fn : List He.DefD) (ex : PySem.W.Frag → Bool) (g : Addr → Option Obj) : AlY := (He.obsD fa fn (He.frG g (He.asD g n)), ex (He.frG g (He.asD g n)))
def hookY (n : Nat) (fa : List He.Fa) (fn : List He.DefD) (ex : PySem.W.Frag → Bool) : PySem.W.Hook where
  α := AlY
  obs := fun s => obsY n fa fn ex s.heap.get?
  val := fun _ => (He.valD fn, true)
  says := fun _ h => ∃ K : PySem.W.Frag, K.In h ∧ He.SaysD fa fn K ∧ ex K = true
  of := fun _ _ e => ⟨_, He.frG_in, congrArg (fun z : AlY => z.1) e, congrArg (fun z : AlY => z.2) e⟩
  keeps := fun _ _ _ ⟨K, hK, c⟩ k => ⟨K, PySem.W.Frag.In.keeps hK k, c⟩
theorem obsY_eq {n : Nat} {fa : List He.Fa} {fn : List He.DefD} {ex : PySem.W.Frag → Bool} {g : Addr → Option Obj} {s : Shared} (h : ∀ a, g a = s.heap.get? a) : obsY n fa fn ex g = (hookY n fa fn ex).obs s := by
  have e : g = s.heap.get? := funext h
  rw [e] <;> rfl
/-! ### what is asked of the class -/
def shB (C : Addr) : Obj → Bool
  | ⟨.type t, _, .cls ⟨_, _, .ref c :: bm, _, _, true, _, _, _, _, false⟩, ⟨[_, _, _, _, some (.builtin n), _]⟩⟩ => decide (t = "type") && (decide (c = C) && (PySem.HandSPX.refsVE bm && decide (n = "ValueError.__new__")))
  | _ => false
theorem shB_ok {C : Addr} {o : Obj} (h : shB C o = true) : ∃ nm q N bs bm sn sub ab col dd k0 k1 k2 k3 k5, o = excClassObj nm q C N bs bm true sn sub ab col dd k0 k1 k2 k3 k5 "ValueError.__new__" ∧ PySem.HandSPX.refsVE bm = true := by
  unfold shB at h
  split at h
  · obtain ⟨h1, h⟩ := He.ba h
    obtain ⟨h2, h⟩ := He.ba h
    obtain ⟨h3, h4⟩ := He.ba h
    have e1 := of_decide_eq_true h1
    have e2 := of_decide_eq_true h2
    have e4 := of_decide_eq_true h4
    subst e1 e2 e4
    exact ⟨_, _, _, _, _, _, _, _, _, _, _, _, _, _, _, rfl, h3⟩
  · cases h
def oexB (K : PySem.W.Frag) (C : Addr) : Bool := (match K.lookup C with | some o => shB C o | none => false) && (decide (PySem.W.findIn K (.ref C) "__setattr__" = some (some (.builtin "object.__setattr__"))) &&
  (decide (PySem.W.subIn K (.ref C) (.type "BaseException") = some true) && (decide (PySem.W.typeIn K (.ref C) = some (.type "type")) && PySem.W.keepIn K (.ref C))))
theorem oexB_ok {K : PySem.W.Frag} {C : Addr} (h : oexB K C = true) : OexC K C := by
  obtain ⟨h1, h⟩ := He.ba h
  obtain ⟨h2, h⟩ := He.ba h
  obtain ⟨h3, h⟩ := He.ba h
  obtain ⟨h4, h5⟩ := He.ba h
  refine ⟨?_, of_decide_eq_true h2, of_decide_eq_true h3, of_decide_eq_true h4, h5⟩
  cases e : K.lookup C with
  | none => rw [e] at h1; cases h1
  | some o =>
    rw [e] at h1
    obtain ⟨nm, q, N, bs, bm, sn, sub, ab, col, dd, k0, k1, k2, k3, k5, z, hb⟩ := shB_ok h1
    exact ⟨nm, q, N, bs, bm, sn, sub, ab, col, dd, k0, k1, k2, k3, k5, by rw [z], hb⟩
def excB (K : PySem.W.Frag) (D : Addr) : Bool := decide (PySem.W.findIn K (.ref D) "__getattribute__" = some (some (.builtin "BaseException.__getattribute__"))) && (decide (PySem.W.findIn K (.ref D) "__getattr__" = some none) &&
  (decide (PySem.W.subIn K (.ref D) (.type "BaseException") = some true) && (PySem.W.hasDictIn K D && (decide (PySem.W.findIn K (.ref D) "__class__" = some (some (.builtin "object.__class__"))) &&
  (decide (PySem.W.specialIn K (.builtin "object.__class__") "__get__" = some (some (.builtin "getset_descriptor.__get__"))) && (decide (PySem.W.takesIn K (.builtin "object.__class__") = some true) && decide (PySem.W.mroIn K D (.type "object") = some true)))))))
theorem excB_ok {K : PySem.W.Frag} {D : Addr} (h : excB K D = true) : ExcC K D := by
  obtain ⟨h1, h⟩ := He.ba h
  obtain ⟨h2, h⟩ := He.ba h
  obtain ⟨h3, h⟩ := He.ba h
  obtain ⟨h4, h⟩ := He.ba h
  obtain ⟨h5, h⟩ := He.ba h
  obtain ⟨h6, h⟩ := He.ba h
  obtain ⟨h7, h8⟩ := He.ba h
  exact ⟨of_decide_eq_true h1, of_decide_eq_true h2, of_decide_eq_true h3, h4, of_decide_eq_true h5, of_decide_eq_true h6, of_decide_eq_true h7, of_decide_eq_true h8⟩
def exB (K : PySem.W.Frag) (C I : Addr) : Bool := oexB K C && (excB K C && (xfB K C && (decide (PySem.W.exmOne K (.ref C) (.ref C) = some true) && (decide (PySem.W.kitOne K (.ref C) (.ref (He.ga K "WebError")) = some true) && (decide (PySem.W.kitOne K (.ref C) (.ref (He.ga K "LedError")) = some true) &&
  (decide (PySem.W.kitOne K (.ref C) (.ref (He.ga K "PaperError")) = some false) && (decide (PySem.W.kitOne K (.ref C) (.type "ValueError") = some true) && decide (PySem.W.typeIn K (.ref I) = some (.type "function")))))))))
theorem exB_ok {K : PySem.W.Frag} {C I : Addr} {mg : Str → Option Value} (h : exB K C I = true) (h1 : mg "WebError" = some (.ref (He.ga K "WebError"))) (h2 : mg "LedError" = some (.ref (He.ga K "LedError"))) (h3 : mg "PaperError" = some (.ref (He.ga K "PaperError"))) :
    OexC K C ∧ Kc K mg C ∧ PySem.W.typeIn K (.ref I) = some (.type "function") := by
  obtain ⟨a1, h⟩ := He.ba h
  obtain ⟨a2, h⟩ := He.ba h
  obtain ⟨a3, h⟩ := He.ba h
  obtain ⟨a4, h⟩ := He.ba h
  obtain ⟨a5, h⟩ := He.ba h
  obtain ⟨a6, h⟩ := He.ba h
  obtain ⟨a7, h⟩ := He.ba h
  obtain ⟨a8, a9⟩ := He.ba h
  exact ⟨oexB_ok a1, ⟨excB_ok a2, xfB_ok a3, of_decide_eq_true a4, ⟨_, h1, of_decide_eq_true a5⟩, ⟨_, h2, of_decide_eq_true a6⟩, ⟨_, h3, of_decide_eq_true a7⟩, of_decide_eq_true a8⟩, of_decide_eq_true a9⟩
def ex (K : PySem.W.Frag) : Bool := exB K (He.ga K "NotUsable") (He.ma K (He.ga K "NotUsable") "__init__")
end HL
namespace HL
open PySem PySem.Spec PyProof.Rows L2 DL
/-! ### the defs of the top, the names -/
def dOf (x : Str) (st : Stmt) : He.DefD := ⟨(x, none), x, x, defArgs st, defBody st, defScope st, [], []⟩
def fnA : List He.DefD := [dOf "is_integer" s_is_integer, dOf "is_number" s_is_number, dOf "is_split" s_is_split, dOf "is_purses" s_is_purses, dOf "need" s_need, dOf "need_house" s_need_house, dOf "need_houses" s_need_houses, dOf "need_split" s_need_split, dOf "is_place" s_is_place, dOf "far_house" s_far_house, dOf "hold_of" s_hold_of, dOf "purses_of" s_purses_of, dOf "ends_at" s_ends_at, dOf "turned_over" s_turned_over, dOf "turned_purses" s_turned_purses, dOf "all_splits" s_all_splits, dOf "houses_along" s_houses_along, dOf "all_unlike" s_all_unlike, dOf "is_way" s_is_way, dOf "is_ring" s_is_ring, dOf "leads_from" s_leads_from, dOf "led_if" s_led_if, dOf "led_along" s_led_along, dOf "_law_pool" s_law_pool]
def fnB : List He.DefD := [dOf "_law_take" s_law_take, dOf "_law_great" s_law_great, dOf "_law_net" s_law_net, dOf "_law_int" s_law_int, dOf "_law_row" s_law_row, dOf "_law_purses" s_law_purses, dOf "_law_holds" s_law_holds, dOf "_law_checked" s_law_checked, dOf "_law_listed" s_law_listed, dOf "_law_turns" s_law_turns, dOf "_law_deed" s_law_deed, dOf "_law_kin" s_law_kin, dOf "_law_refused" s_law_refused, dOf "_law_bad_split" s_law_bad_split, dOf "_law_refusals" s_law_refusals, dOf "_law_goal" s_law_goal, dOf "_law_truth" s_law_truth, dOf "_law_asked" s_law_asked, dOf "_law_walk" s_law_walk, dOf "_law_led" s_law_led, dOf "_law_least" s_law_least, dOf "_law_lead" s_law_lead, dOf "_law_ways" s_law_ways, dOf "law" s_law]
def dI : He.DefD := ⟨("NotUsable", some "__init__"), "__init__", "NotUsable.__init__", defArgs s_init, defBody s_init, defScope s_init, [], []⟩
def fn : List He.DefD := dI :: (fnA ++ fnB)
def gloA : List Str := ["is_integer", "is_number", "is_split", "is_purses", "need", "need_house", "need_houses", "need_split", "is_place", "far_house", "hold_of", "purses_of", "ends_at", "turned_over", "turned_purses", "all_splits", "houses_along", "all_unlike", "is_way", "is_ring", "leads_from", "led_if", "led_along", "_law_pool"]
def gloB : List Str := ["_law_take", "_law_great", "_law_net", "_law_int", "_law_row", "_law_purses", "_law_holds", "_law_checked", "_law_listed", "_law_turns", "_law_deed", "_law_kin", "_law_refused", "_law_bad_split", "_law_refusals", "_law_goal", "_law_truth", "_law_asked", "_law_walk", "_law_led", "_law_least", "_law_lead", "_law_ways", "law"]
def bis : List Str := ["isinstance", "int", "bool", "str", "tuple", "list", "set", "len", "zip", "range", "enumerate", "sum", "min", "max", "ValueError"]
def cls : List Str := ["LedError", "PaperError", "WebError", "NotUsable"]
def fa : List He.Fa := [.noat "NotUsable" "word", .noat "NotUsable" "at", .meth "NotUsable" "__init__"] ++ (((cls ++ gloA ++ gloB).map .glo) ++ bis.map .free)
abbrev R : PySem.W.OpenRow := PySem.W.OpenLaw.row PySem.Challenge.rw_howeverled_k03_whole_splits_purses_and_w
abbrev hk : PySem.W.Hook := hookY 6 fa fn ex
def ob (s : PySem.W.SharedT) : AlY := obsY 6 fa fn ex (HandSHeadRun.getT s)
theorem ob_eq (s : PySem.W.SharedT) : ob s = hk.obs s.abs := obsY_eq (HandSHeadRun.getT_eq s)
def loose : List Str := cls ++ (gloA ++ gloB.dropLast)
theorem run (w : World) : HandSHeadRun.RunEq R (PySem.W.view R.prog [58]) hk ob 3000 loose w := by
  intro os
  kernel_rfl
end HL
namespace HL
open PySem L2 DL
/-! ### all splits by number -/
def rm (r : Row) : Nat := r.2.2.toNat + 1
def tot : List Row → Nat
  | [] => 1
  | r :: rs => rm r * tot rs
def val : List Row → List Int → Nat
  | r :: rs, d :: s => d.toNat * tot rs + val rs s
  | _, _ => 0
def spl : List Row → Nat → List Int
  | [], _ => []
  | r :: rs, i => ((i / tot rs : Nat) : Int) :: spl rs (i % tot rs)
def allS (rows : List Row) : List (List Int) := (List.range (tot rows)).map (spl rows)
theorem tot_pos : ∀ rows, 0 < tot rows
  | [] => Nat.one_pos
  | r :: rs => Nat.mul_pos (Nat.succ_pos _) (tot_pos rs)
theorem Sok.nil : Sok [] [] := ⟨rfl, by simp⟩
theorem Sok.cons {r : Row} {rs : List Row} {d : Int} {s : List Int} (h0 : 0 ≤ d) (h1 : d ≤ r.2.2) (h : Sok rs s) : Sok (r :: rs) (d :: s) := by
  refine ⟨by simp [h.1], fun p hp => ?_⟩
  rcases List.mem_cons.mp hp with e | e
  · subst e; exact ⟨h0, h1⟩
  · exact h.2 p e
theorem Sok.inv {r : Row} {rs : List Row} {d : Int} {s : List Int} (h : Sok (r :: rs) (d :: s)) : 0 ≤ d ∧ d ≤ r.2.2 ∧ Sok rs s := by
  have := h.2 (r, d) (by simp)
  exact ⟨this.1, this.2, by simpa using h.1, fun p hp => h.2 p (List.mem_cons_of_mem _ hp)⟩
theorem Sok.cases {r : Row} {rs : List Row} {s : List Int} (h : Sok (r :: rs) s) : ∃ d s', s = d :: s' ∧ 0 ≤ d ∧ d ≤ r.2.2 ∧ Sok rs s' := by
  cases s with
  | nil => have := h.1; simp at this
  | cons d s' => exact ⟨d, s', rfl, h.inv⟩
theorem val_lt : ∀ {rows : List Row} {s : List Int}, Sok rows s → val rows s < tot rows
  | [], s, h => by
    have : s = [] := List.length_eq_zero_iff.mp h.1
    subst this; exact Nat.one_pos
  | r :: rs, s, h => by
    obtain ⟨d, s', rfl, h0, h1, h2⟩ := h.cases
    have ih := val_lt h2
    show d.toNat * tot rs + val rs s' < rm r * tot rs
    have : d.toNat ≤ r.2.2.toNat := by omega
    have h3 : d.toNat * tot rs ≤ r.2.2.toNat * tot rs := Nat.mul_le_mul_right _ this
    have h4 : rm r * tot rs = r.2.2.toNat * tot rs + tot rs := by unfold rm; rw [Nat.add_mul, Nat.one_mul]
    omega
theorem spl_val : ∀ {rows : List Row} {s : List Int}, Sok rows s → spl rows (val rows s) = s
  | [], s, h => by
    have : s = [] := List.length_eq_zero_iff.mp h.1
    subst this; rfl
  | r :: rs, s, h => by
    obtain ⟨d, s', rfl, h0, h1, h2⟩ := h.cases
    have ih := val_lt h2
    have hp := tot_pos rs
    show (((d.toNat * tot rs + val rs s') / tot rs : Nat) : Int) :: spl rs ((d.toNat * tot rs + val rs s') % tot rs) = d :: s'
    rw [Nat.add_comm, Nat.add_mul_div_right _ _ hp, Nat.add_mul_mod_self_right, Nat.div_eq_of_lt ih, Nat.mod_eq_of_lt ih, spl_val h2, Nat.zero_add]
    congr 1
    omega
theorem spl_ok : ∀ {rows : List Row} {i : Nat}, (∀ r ∈ rows, 0 ≤ r.2.2) → i < tot rows → Sok rows (spl rows i) ∧ val rows (spl rows i) = i
  | [], i, _, h => by
    have : i = 0 := by unfold tot at h; omega
    subst this
    exact ⟨.nil, rfl⟩
  | r :: rs, i, hr, h => by
    have hp := tot_pos rs
    obtain ⟨h1, h2⟩ := spl_ok (rows := rs) (i := i % tot rs) (fun r h => hr r (List.mem_cons_of_mem _ h)) (Nat.mod_lt _ hp)
    have hq : i / tot rs < rm r := Nat.div_lt_of_lt_mul (by rw [Nat.mul_comm]; exact h)
    have hr0 := hr r (by simp)
    refine ⟨.cons (Int.natCast_nonneg _) (by unfold rm at hq; generalize i / tot rs = q at hq; omega) h1, ?_⟩
    show (((i / tot rs : Nat) : Int)).toNat * tot rs + val rs (spl rs (i % tot rs)) = i
    rw [h2, Int.toNat_natCast]
    exact Nat.div_add_mod' i (tot rs)
theorem tot_app : ∀ (a b : List Row), tot (a ++ b) = tot a * tot b
  | [], b => by simp [tot]
  | r :: a, b => by show rm r * tot (a ++ b) = rm r * tot a * tot b; rw [tot_app a b, Nat.mul_assoc]
theorem val_app : ∀ {a b : List Row} {s t : List Int}, s.length = a.length → val (a ++ b) (s ++ t) = val a s * tot b + val b t
  | [], b, s, t, h => by
    have : s = [] := List.length_eq_zero_iff.mp h
    subst this; simp [val]
  | r :: a, b, [], t, h => by simp at h
  | r :: a, b, d :: s, t, h => by
    show d.toNat * tot (a ++ b) + val (a ++ b) (s ++ t) = (d.toNat * tot a + val a s) * tot b + val b t
    rw [tot_app, val_app (by simpa using h), Nat.add_mul, Nat.mul_assoc]; omega
theorem Sok.app {a b : List Row} {s t : List Int} (h : Sok a s) (k : Sok b t) : Sok (a ++ b) (s ++ t) := by
  refine ⟨by rw [List.length_append, List.length_append, h.1, k.1], fun p hp => ?_⟩
  rw [List.zip_append h.1.symm] at hp
  rcases List.mem_append.mp hp with z | z
  · exact h.2 p z
  · exact k.2 p z
theorem Sok.split {a b : List Row} {s t : List Int} (h : Sok (a ++ b) (s ++ t)) (hl : s.length = a.length) : Sok a s ∧ Sok b t := by
  have hz := h.2
  rw [List.zip_append hl.symm] at hz
  have h1 := h.1
  rw [List.length_append, List.length_append] at h1
  exact ⟨⟨hl, fun p hp => hz p (List.mem_append_left _ hp)⟩, ⟨by omega, fun p hp => hz p (List.mem_append_right _ hp)⟩⟩
theorem Sok.zero : ∀ {rows : List Row}, (∀ r ∈ rows, 0 ≤ r.2.2) → Sok rows (List.replicate rows.length 0) ∧ val rows (List.replicate rows.length 0) = 0
  | [], _ => ⟨.nil, rfl⟩
  | r :: rs, h => by
    obtain ⟨h1, h2⟩ := Sok.zero (rows := rs) fun r z => h r (List.mem_cons_of_mem _ z)
    refine ⟨.cons (Int.le_refl _) (h r (by simp)) h1, ?_⟩
    show (0 : Int).toNat * tot rs + val rs (List.replicate rs.length 0) = 0
    rw [h2]; simp
theorem val_max : ∀ {rows : List Row}, val rows (rows.map fun r => r.2.2) + 1 = tot rows
  | [] => rfl
  | r :: rs => by
    have ih := val_max (rows := rs)
    show r.2.2.toNat * tot rs + val rs (rs.map fun r => r.2.2) + 1 = rm r * tot rs
    unfold rm
    rw [Nat.add_mul, Nat.one_mul]; omega
/-- the carry -/
theorem val_carry {a b : List Row} {r : Row} {s : List Int} {d : Int} (hr : ∀ r ∈ b, 0 ≤ r.2.2) (h : Sok (a ++ r :: b) (s ++ d :: b.map fun r => r.2.2)) (hl : s.length = a.length) (hd : d ≠ r.2.2) :
    Sok (a ++ r :: b) (s ++ (d + 1) :: List.replicate b.length 0) ∧ val (a ++ r :: b) (s ++ (d + 1) :: List.replicate b.length 0) = val (a ++ r :: b) (s ++ d :: b.map fun r => r.2.2) + 1 := by
  obtain ⟨h1, h2⟩ := h.split hl
  obtain ⟨h3, h4, h5⟩ := h2.inv
  obtain ⟨z1, z2⟩ := Sok.zero hr
  refine ⟨h1.app (.cons (by omega) (by omega) z1), ?_⟩
  rw [val_app hl, val_app hl]
  show _ + ((d + 1).toNat * tot b + val b (List.replicate b.length 0)) = _ + (d.toNat * tot b + val b (b.map fun r => r.2.2)) + 1
  rw [z2]
  have := val_max (rows := b)
  have e : (d + 1).toNat = d.toNat + 1 := by omega
  rw [e, Nat.add_mul, Nat.one_mul]; omega
/-- read from the left -/
theorem val_fold : ∀ {rows : List Row} {s : List Int} (acc : Int), Sok rows s → (rows.zip s).foldl (fun (a : Int) p => a * (p.1.2.2 + 1) + p.2) acc = acc * (tot rows : Nat) + (val rows s : Nat)
  | [], s, acc, h => by
    have : s = [] := List.length_eq_zero_iff.mp h.1
    subst this; simp [tot, val]
  | r :: rs, s, acc, h => by
    obtain ⟨d, s', rfl, h0, h1, h2⟩ := h.cases
    show (rs.zip s').foldl _ (acc * (r.2.2 + 1) + d) = acc * ((rm r * tot rs : Nat) : Int) + ((d.toNat * tot rs + val rs s' : Nat) : Int)
    rw [val_fold _ h2]
    have e1 : ((rm r : Nat) : Int) = r.2.2 + 1 := by unfold rm; omega
    have e2 : ((d.toNat : Nat) : Int) = d := by omega
    rw [Int.natCast_mul, Int.natCast_add, Int.natCast_mul, e1, e2, Int.add_mul, Int.mul_assoc]; omega
theorem allS_len (rows : List Row) : (allS rows).length = tot rows := by simp [allS]
theorem allS_get {rows : List Row} {i : Nat} (h : i < tot rows) : (allS rows)[i]? = some (spl rows i) := by
  unfold allS
  rw [List.getElem?_map, List.getElem?_range h]; rfl
end HL
namespace DL
open PySem PyProof.Rows
open Sem (wp)
/-! ### a run that wakes no sleeper does the same beside other sleepers -/
/-- no sleeper wakes with this -/
def stuckK : Resume → Sem PySem.Fin := fun _ => .unsupported ""
theorem no_run {M : Model} {Γ : Ctx} {p : Pos} {t : Sem PySem.Fin} {fs : List Frame} {s s' : Shared} {e : End} (h : Runs M Γ p t fs s e s') : ∀ x, t ≠ .unsupported x := by
  induction h with
  | segRet _ _ ih _ => exact ih
  | segGen _ _ ih _ => exact ih
  | segSuspOut _ _ ih => exact ih
  | segSuspGen _ _ _ _ ih _ => exact ih
  | _ => intro x z; cases z
def Stk (x : GenState) : Prop := ∃ l c p fs cl, x = .suspended stuckK l c p fs cl
def Fine (x : GenState) : Prop := ∀ k l c p fs cl, x = .suspended k l c p fs cl → splitAtGen fs = none
/-- b: the table as it is; a: some sleepers of it made stuck -/
structure Sim (a b : Array GenState) : Prop where
  sz : a.size = b.size
  at_ : ∀ (i : Nat) (x : GenState), a[i]? = some x → (b[i]? = some x ∧ Fine x) ∨ (Stk x ∧ ∃ y : GenState, b[i]? = some y ∧ y.seen = x.seen ∧ y.bare = true)
/-- what was stuck stays, here and there -/
def Froz (a a' b b' : Array GenState) : Prop := ∀ (i : Nat) (x : GenState), a[i]? = some x → Stk x → a'[i]? = some x ∧ b'[i]? = b[i]?
theorem Froz.refl {a b : Array GenState} : Froz a a b b := fun _ _ h _ => ⟨h, rfl⟩
theorem Froz.trans {a a1 a2 b b1 b2 : Array GenState} (u : Froz a a1 b b1) (v : Froz a1 a2 b1 b2) : Froz a a2 b b2 := fun i x h k => by
  obtain ⟨h1, h2⟩ := u i x h k
  obtain ⟨h3, h4⟩ := v i x h1 k
  exact ⟨h3, h4.trans h2⟩
theorem split_app : ∀ {fs gs : List Frame}, splitAtGen fs = none → splitAtGen gs = none → splitAtGen (fs ++ gs) = none
  | [], _, _, h => h
  | .gen .. :: _, _, h, _ => by cases h
  | .ret .. :: fs, gs, h, h2 => by
    have h1 : splitAtGen fs = none := by
      have h : (splitAtGen fs).map _ = none := h
      exact Option.map_eq_none_iff.mp h
    show (splitAtGen (fs ++ gs)).map _ = none
    rw [split_app h1 h2]; rfl
theorem split_tl {F : Frame} {fs : List Frame} (h : splitAtGen (F :: fs) = none) : splitAtGen fs = none := by
  cases F with
  | gen => cases h
  | ret =>
    have h : (splitAtGen fs).map _ = none := h
    exact Option.map_eq_none_iff.mp h
def EndOk : End → Prop
  | .ret _ => True
  | .susp _ _ _ _ _ _ fs => splitAtGen fs = none
theorem EndOk.fine {e : End} (h : EndOk e) : Fine e.genState := by
  intro k l c p fs cl z
  cases e with
  | ret r => cases z
  | susp v g l' k' c' p' fs' => cases z; exact h
section
variable {a b : Array GenState} {g : Nat} {x y : GenState}
theorem set_ne {i : Nat} (h : i ≠ g) : (a.setIfInBounds g y)[i]? = a[i]? := Array.getElem?_setIfInBounds_ne (Ne.symm h)
theorem set_eq (h : a[g]? = some x) : (a.setIfInBounds g y)[g]? = some y := by
  have : g < a.size := (Array.getElem?_eq_some_iff.mp h).1
  simp [this]
theorem Sim.get (S : Sim a b) (h : a[g]? = some x) (n : ¬ Stk x) : b[g]? = some x ∧ Fine x := by
  rcases S.at_ g x h with z | ⟨z, _⟩
  · exact z
  · exact (n z).elim
theorem Sim.set (S : Sim a b) (f : Fine y) : Sim (a.setIfInBounds g y) (b.setIfInBounds g y) := by
  refine ⟨by simp [S.sz], fun i z hz => ?_⟩
  by_cases e : i = g
  · subst e
    have hl : i < a.size := by have := (Array.getElem?_eq_some_iff.mp hz).1; simpa using this
    rw [set_eq (Array.getElem?_eq_getElem hl)] at hz; cases hz
    exact .inl ⟨set_eq (Array.getElem?_eq_getElem (S.sz ▸ hl)), f⟩
  · rw [set_ne e] at hz ⊢
    exact S.at_ i z hz
theorem Froz.set {a1 b1 : Array GenState} (F : Froz a a1 b b1) (h : a[g]? = some x) (n : ¬ Stk x) : Froz a (a1.setIfInBounds g y) b (b1.setIfInBounds g y) := fun i z hz k => by
  have e : i ≠ g := by rintro rfl; rw [h] at hz; cases hz; exact n k
  rw [set_ne e, set_ne e]
  exact F i z hz k
theorem Sim.push (S : Sim a b) (f : Fine y) : Sim (a.push y) (b.push y) ∧ Froz a (a.push y) b (b.push y) := by
  refine ⟨⟨by simp [S.sz], fun i z hz => ?_⟩, fun i z hz k => ?_⟩
  · by_cases e : i = a.size
    · subst e
      rw [Array.getElem?_push_size] at hz; cases hz
      refine .inl ⟨?_, f⟩
      rw [S.sz, Array.getElem?_push_size]
    · rw [Array.getElem?_push, if_neg e] at hz
      rw [Array.getElem?_push, if_neg (by rw [← S.sz]; exact e)]
      exact S.at_ i z hz
  · have hl : i < a.size := (Array.getElem?_eq_some_iff.mp hz).1
    rw [Array.getElem?_push, if_neg (Nat.ne_of_lt hl), Array.getElem?_push, if_neg (by rw [← S.sz]; exact Nat.ne_of_lt hl)]
    exact ⟨hz, rfl⟩
theorem Sim.seen (S : Sim a b) (h : a[g]? = some x) : ∃ y, b[g]? = some y ∧ y.seen = x.seen := by
  rcases S.at_ g x h with ⟨z, _⟩ | ⟨_, y, h1, h2, _⟩
  · exact ⟨x, z, rfl⟩
  · exact ⟨y, h1, h2⟩
theorem Sim.bare (S : Sim a b) (h : AllBare a) : AllBare b := fun y hy => by
  obtain ⟨i, hi, e⟩ := Array.mem_iff_getElem.mp hy
  have hi' : i < a.size := by rw [S.sz]; exact hi
  have e' : b[i]? = some y := by rw [Array.getElem?_eq_getElem hi, e]
  rcases S.at_ i a[i] (Array.getElem?_eq_getElem hi') with ⟨z, _⟩ | ⟨_, z, h1, _, h2⟩
  · rw [e'] at z; cases z; exact h _ (Array.getElem_mem hi')
  · rw [e'] at h1; cases h1; exact h2
end
abbrev withG (s : Shared) (b : Array GenState) : Shared := { s with gens := b }
theorem nstk_fresh {c : Code} : ¬ Stk (.fresh c) := fun ⟨_, _, _, _, _, z⟩ => by cases z
theorem nstk_run : ¬ Stk .running := fun ⟨_, _, _, _, _, z⟩ => by cases z
theorem fine_fresh {c : Code} : Fine (.fresh c) := fun _ _ _ _ _ _ z => by cases z
theorem fine_run : Fine .running := fun _ _ _ _ _ _ z => by cases z
theorem fine_fin : Fine .finished := fun _ _ _ _ _ _ z => by cases z
theorem nstk_of {M : Model} {Γ : Ctx} {p : Pos} {k0 : Resume → Sem PySem.Fin} {l0 : List Value} {c0 : Code} {p0 : Pos} {fs : List Frame} {cl : Bool} {r : Resume} {s s' : Shared} {e : End} {a : Array GenState} {g : Nat} (_ : a[g]? = some (.suspended k0 l0 c0 p0 fs cl)) (h : Runs M Γ p (k0 r) fs s e s') : ¬ Stk (.suspended k0 l0 c0 p0 fs cl) := fun ⟨_, _, _, _, _, z⟩ => by
  injection z with z1
  subst z1
  exact no_run h _ rfl
theorem nstk_fin : ¬ Stk .finished := fun ⟨_, _, _, _, _, z⟩ => by cases z
theorem froz_res {a a1 a2 b b1 b2 : Array GenState} {g : Nat} {x y z : GenState} (h : a[g]? = some x) (n : ¬ Stk x) (F1 : Froz (a.setIfInBounds g y) a1 (b.setIfInBounds g y) b1) (F2 : Froz (a1.setIfInBounds g z) a2 (b1.setIfInBounds g z) b2) : Froz a a2 b b2 := fun i u hu k => by
  have e : i ≠ g := by rintro rfl; rw [h] at hu; cases hu; exact n k
  obtain ⟨q1, q2⟩ := F1 i u (by rw [set_ne e]; exact hu) k
  obtain ⟨q3, q4⟩ := F2 i u (by rw [set_ne e]; exact q1) k
  rw [set_ne e] at q2 q4
  exact ⟨q3, q4.trans q2⟩
theorem froz_set {a a1 b b1 : Array GenState} {g : Nat} {x y : GenState} (h : a[g]? = some x) (n : ¬ Stk x) (F1 : Froz (a.setIfInBounds g y) a1 (b.setIfInBounds g y) b1) : Froz a a1 b b1 := fun i u hu k => by
  have e : i ≠ g := by rintro rfl; rw [h] at hu; cases hu; exact n k
  obtain ⟨q1, q2⟩ := F1 i u (by rw [set_ne e]; exact hu) k
  rw [set_ne e] at q2
  exact ⟨q1, q2⟩
theorem runs_sim {M : Model} {Γ : Ctx} {p : Pos} {t : Sem PySem.Fin} {fs : List Frame} {s s' : Shared} {e : End} (h : Runs M Γ p t fs s e s') : splitAtGen fs = none → ∀ b, Sim s.gens b →
    ∃ b', Sim s'.gens b' ∧ Froz s.gens s'.gens b b' ∧ EndOk e ∧ Runs M Γ p t fs (withG s b) e (withG s' b') := by
  induction h with
  | done => exact fun _ b S => ⟨b, S, .refl, trivial, .done⟩
  | raise => exact fun _ b S => ⟨b, S, .refl, trivial, .raise⟩
  | again q _ ih => exact fun n b S => let ⟨b', S', F, E, r⟩ := ih n b S; ⟨b', S', F, E, .again q r⟩
  | rule _ ih => exact fun n b S => let ⟨b', S', F, E, r⟩ := ih n b S; ⟨b', S', F, E, .rule r⟩
  | «at» _ ih => exact fun n b S => let ⟨b', S', F, E, r⟩ := ih n b S; ⟨b', S', F, E, .at r⟩
  | load q _ ih => exact fun n b S => let ⟨b', S', F, E, r⟩ := ih n b S; ⟨b', S', F, E, .load q r⟩
  | update q _ ih => exact fun n b S => let ⟨b', S', F, E, r⟩ := ih n b S; ⟨b', S', F, E, .update q r⟩
  | loadIfAlive _ ih => exact fun n b S => let ⟨b', S', F, E, r⟩ := ih n b S; ⟨b', S', F, E, .loadIfAlive r⟩
  | point _ ih => exact fun n b S => let ⟨b', S', F, E, r⟩ := ih n b S; ⟨b', S', F, E, .point r⟩
  | alloc _ ih => exact fun n b S => let ⟨b', S', F, E, r⟩ := ih n b S; ⟨b', S', F, E, .alloc r⟩
  | fresh _ ih => exact fun n b S => let ⟨b', S', F, E, r⟩ := ih n b S; ⟨b', S', F, E, .fresh r⟩
  | ask _ ih => exact fun n b S => let ⟨b', S', F, E, r⟩ := ih n b S; ⟨b', S', F, E, .ask r⟩
  | choose q _ ih => exact fun n b S => let ⟨b', S', F, E, r⟩ := ih n b S; ⟨b', S', F, E, .choose q r⟩
  | os _ ih => exact fun n b S => let ⟨b', S', F, E, r⟩ := ih n b S; ⟨b', S', F, E, .os r⟩
  | handled _ ih => exact fun n b S => let ⟨b', S', F, E, r⟩ := ih n b S; ⟨b', S', F, E, .handled r⟩
  | stack _ ih => exact fun n b S => let ⟨b', S', F, E, r⟩ := ih n b S; ⟨b', S', F, E, .stack r⟩
  | thread _ ih => exact fun n b S => let ⟨b', S', F, E, r⟩ := ih n b S; ⟨b', S', F, E, .thread r⟩
  | genState q _ ih =>
    intro n b S
    obtain ⟨b', S', F, E, r⟩ := ih n b S
    obtain ⟨y, h1, h2⟩ := S.seen q
    exact ⟨b', S', F, E, .genState (s := withG _ b) h1 (by rw [h2]; exact r)⟩
  | newGen _ ih =>
    intro n b S
    obtain ⟨S1, F1⟩ := S.push fine_fresh
    obtain ⟨b', S', F, E, r⟩ := ih n _ S1
    refine ⟨b', S', F1.trans F, E, .newGen (s := withG _ b) ?_⟩
    have r := r
    simp only [S.sz] at r
    exact r
  | call _ _ ih1 ih2 =>
    intro n b S
    obtain ⟨b1, S1, F1, E1, r1⟩ := ih1 rfl b S
    obtain ⟨b2, S2, F2, E2, r2⟩ := ih2 rfl b1 S1
    exact ⟨b2, S2, F1.trans F2, E2, .call r1 r2⟩
  | callSusp _ ih =>
    intro n b S
    obtain ⟨b1, S1, F1, E1, r1⟩ := ih rfl b S
    exact ⟨b1, S1, F1, split_app E1 rfl, .callSusp r1⟩
  | yield => exact fun _ b S => ⟨b, S, .refl, rfl, .yield⟩
  | resumeFresh q _ hq _ ih1 ih2 =>
    intro n b S
    obtain ⟨b1, S1, F1, E1, r1⟩ := ih1 rfl _ (S.set fine_run)
    obtain ⟨b2, S2, F2, E2, r2⟩ := ih2 rfl _ (S1.set E1.fine)
    exact ⟨b2, S2, froz_res q nstk_fresh F1 F2, E2, .resumeFresh (s := withG _ b) (S.get q nstk_fresh).1 r1 hq r2⟩
  | resumeSuspended q q1 hq _ ih1 ih2 =>
    intro n b S
    have ns := nstk_of q q1
    obtain ⟨h1, h2⟩ := S.get q ns
    obtain ⟨b1, S1, F1, E1, r1⟩ := ih1 (h2 _ _ _ _ _ _ rfl) _ (S.set fine_run)
    obtain ⟨b2, S2, F2, E2, r2⟩ := ih2 rfl _ (S1.set E1.fine)
    exact ⟨b2, S2, froz_res q ns F1 F2, E2, .resumeSuspended (s := withG _ b) h1 r1 hq r2⟩
  | resumeJustStarted q hv _ ih =>
    intro n b S
    obtain ⟨b', S', F, E, r⟩ := ih n b S
    exact ⟨b', S', F, E, .resumeJustStarted (s := withG _ b) (S.get q nstk_fresh).1 hv r⟩
  | resumeThrowFresh q _ ih =>
    intro n b S
    obtain ⟨b', S', F, E, r⟩ := ih n _ (S.set fine_fin)
    exact ⟨b', S', froz_set q nstk_fresh F, E, .resumeThrowFresh (s := withG _ b) (S.get q nstk_fresh).1 r⟩
  | resumeRunning q _ ih =>
    intro n b S
    obtain ⟨b', S', F, E, r⟩ := ih n b S
    exact ⟨b', S', F, E, .resumeRunning (s := withG _ b) (S.get q nstk_run).1 r⟩
  | resumeFinished q _ ih =>
    intro n b S
    obtain ⟨b', S', F, E, r⟩ := ih n b S
    exact ⟨b', S', F, E, .resumeFinished (s := withG _ b) (S.get q nstk_fin).1 r⟩
  | segRet _ _ ih1 ih2 =>
    intro n b S
    obtain ⟨b1, S1, F1, E1, r1⟩ := ih1 rfl b S
    obtain ⟨b2, S2, F2, E2, r2⟩ := ih2 (split_tl n) b1 S1
    exact ⟨b2, S2, F1.trans F2, E2, .segRet r1 r2⟩
  | segGen _ _ _ _ => exact fun n => by cases n
  | segSuspOut n _ ih =>
    intro _ b S
    obtain ⟨b1, S1, F1, E1, r1⟩ := ih rfl b S
    exact ⟨b1, S1, F1, split_app E1 n, .segSuspOut n r1⟩
  | segSuspGen n _ _ _ _ _ => exact fun n' => by rw [n] at n'; cases n'
/-- the sleepers stuck -/
def stuckOf : GenState → GenState
  | .suspended _ l c p fs cl => .suspended stuckK l c p fs cl
  | x => x
theorem sim_stuck {b : Array GenState} (h : AllBare b) : Sim (b.map stuckOf) b := by
  refine ⟨by simp, fun i x hx => ?_⟩
  rw [Array.getElem?_map, Option.map_eq_some_iff] at hx
  obtain ⟨y, hy, rfl⟩ := hx
  cases y with
  | suspended k l c p fs cl => exact .inr ⟨⟨l, c, p, fs, cl, rfl⟩, _, hy, rfl, h _ (Array.mem_of_getElem? hy)⟩
  | fresh c => exact .inl ⟨hy, fine_fresh⟩
  | running => exact .inl ⟨hy, fine_run⟩
  | finished => exact .inl ⟨hy, fine_fin⟩
theorem bare_stuck {b : Array GenState} (h : AllBare b) : AllBare (b.map stuckOf) := fun y hy => by
  obtain ⟨x, hx, rfl⟩ := Array.mem_map.mp hy
  have := h x hx
  cases x <;> exact this
theorem wakes_sim {M : Model} {Γ : Ctx} {p : Pos} {g : Nat} {r : Resume} {s s1 : Shared} {res : GenResult} (h : Wakes M Γ p g r s res s1) (b : Array GenState) (S : Sim s.gens b) :
    ∃ b1, Sim s1.gens b1 ∧ Froz s.gens s1.gens b b1 ∧ Wakes M Γ p g r (withG s b) res (withG s1 b1) := by
  unfold Wakes at h
  split at h
  · exact h.elim
  · rename_i c q
    have q' := (S.get q nstk_fresh).1
    split at h
    · obtain ⟨e1, s2, hr, hq, e2, rfl⟩ := h
      obtain ⟨b1, S1, F1, E1, r1⟩ := runs_sim hr rfl _ (S.set (g := g) fine_run)
      refine ⟨_, S1.set (g := g) E1.fine, fun i u hu k => ?_, ?_⟩
      · have e : i ≠ g := by rintro rfl; rw [q] at hu; cases hu; exact nstk_fresh k
        obtain ⟨q1, q2⟩ := F1 i u (by rw [Shared.setGen, set_ne e]; exact hu) k
        rw [set_ne e] at q2
        refine ⟨by rw [Shared.setGen, set_ne e]; exact q1, by rw [set_ne e]; exact q2⟩
      · unfold Wakes
        rw [show (withG s b).gens[g]? = some (.fresh c) from q']
        exact ⟨e1, withG s2 b1, r1, hq, e2, rfl⟩
    · rename_i v hv
      obtain ⟨rfl, rfl⟩ := h
      refine ⟨b, S, .refl, ?_⟩
      unfold Wakes
      rw [show (withG s1 b).gens[g]? = some (.fresh c) from q']
      cases v <;> first | exact (hv rfl).elim | exact ⟨rfl, rfl⟩
    · rename_i x
      obtain ⟨rfl, rfl⟩ := h
      refine ⟨_, S.set (g := g) fine_fin, Froz.refl.set q nstk_fresh, ?_⟩
      unfold Wakes
      rw [show (withG s b).gens[g]? = some (.fresh c) from q']
      exact ⟨rfl, rfl⟩
  · rename_i k0 l0 c0 p0 fs cl q
    obtain ⟨e1, s2, hr, hq, e2, rfl⟩ := h
    have ns : ¬ Stk (.suspended k0 l0 c0 p0 fs cl) := fun ⟨_, _, _, _, _, z⟩ => by cases z; exact no_run hr _ rfl
    obtain ⟨q', h2⟩ := S.get q ns
    obtain ⟨b1, S1, F1, E1, r1⟩ := runs_sim hr (h2 _ _ _ _ _ _ rfl) _ (S.set (g := g) fine_run)
    refine ⟨_, S1.set (g := g) E1.fine, fun i u hu k => ?_, ?_⟩
    · have e : i ≠ g := by rintro rfl; rw [q] at hu; cases hu; exact ns k
      obtain ⟨q1, q2⟩ := F1 i u (by rw [Shared.setGen, set_ne e]; exact hu) k
      rw [set_ne e] at q2
      refine ⟨by rw [Shared.setGen, set_ne e]; exact q1, by rw [set_ne e]; exact q2⟩
    · unfold Wakes
      rw [show (withG s b).gens[g]? = _ from q']
      exact ⟨e1, withG s2 b1, r1, hq, e2, rfl⟩
  · rename_i q
    obtain ⟨rfl, rfl⟩ := h
    refine ⟨b, S, .refl, ?_⟩
    unfold Wakes
    rw [show (withG s1 b).gens[g]? = _ from (S.get q nstk_run).1]
    exact ⟨rfl, rfl⟩
  · rename_i q
    obtain ⟨rfl, rfl⟩ := h
    refine ⟨b, S, .refl, ?_⟩
    unfold Wakes
    rw [show (withG s1 b).gens[g]? = _ from (S.get q nstk_fin).1]
    exact ⟨rfl, rfl⟩
theorem wp_sim {α : Type} (M : Model) (Γ : Ctx) (t : Sem α) : ∀ (Q : α → Pos → Shared → Prop) (E : Value → Pos → Shared → Prop) (p : Pos) (s : Shared) (b : Array GenState), Sim s.gens b → wp M Γ t Q E p s →
    wp M Γ t (fun a p' s1 => ∃ g, Sim g s1.gens ∧ Froz s.gens g b s1.gens ∧ Q a p' (withG s1 g)) (fun a p' s1 => ∃ g, Sim g s1.gens ∧ Froz s.gens g b s1.gens ∧ E a p' (withG s1 g)) p (withG s b) := by
  have up : ∀ {β : Type} {Q : β → Pos → Shared → Prop} {a0 a1 b0 b1 : Array GenState}, Froz a0 a1 b0 b1 → ∀ x p (s : Shared), (∃ g, Sim g s.gens ∧ Froz a1 g b1 s.gens ∧ Q x p (withG s g)) → ∃ g, Sim g s.gens ∧ Froz a0 g b0 s.gens ∧ Q x p (withG s g) :=
    fun F x p s ⟨g, S, F1, q⟩ => ⟨g, S, F.trans F1, q⟩
  induction t with
  | pure a => intro Q E p s b S h; exact ⟨s.gens, S, .refl, h⟩
  | raise e => intro Q E p s b S h; exact ⟨s.gens, S, .refl, h⟩
  | unsupported _ => intro Q E p s b S h; exact h
  | finish _ => intro Q E p s b S h; exact h
  | rule _ k ih => intro Q E p s b S h; exact ih () Q E p s b S h
  | «at» p' k ih => intro Q E p s b S h; exact ih () Q E p' s b S h
  | load a _ k ih => intro Q E p s b S h; obtain ⟨o, ho, h⟩ := h; exact ⟨o, ho, ih o Q E p s b S h⟩
  | update a _ f k ih => intro Q E p s b S h; exact ⟨h.1, ih () Q E p { s with heap := s.heap.update a f } b S h.2⟩
  | loadIfAlive a k ih => intro Q E p s b S h; exact ih _ Q E p s b S h
  | point _ k ih => intro Q E p s b S h; exact ih () Q E p s b S h
  | register _ _ => intro Q E p s b S h; exact h
  | alloc o k ih => intro Q E p s b S h; exact ih s.heap.objs.size Q E p { s with heap := s.heap.push o } b S h
  | fresh k ih => intro Q E p s b S h; exact ih s.toks Q E p { s with toks := s.toks + 1 } b S h
  | ask k ih => intro Q E p s b S h; exact ih _ Q E p s b S h
  | choose src m k ih => intro Q E p s b S h; exact ⟨h.1, ih _ Q E p { s with drawn := s.drawn.bump src } b S h.2⟩
  | os q _ k ih => intro Q E p s b S h; exact ih _ Q E p { s with os := (Os.step s.os q).1 } b S h
  | call c hd _ _ k ih =>
    intro Q E p s b S h
    obtain ⟨r, s1, hr, h⟩ := h
    obtain ⟨b1, S1, F1, _, r1⟩ := runs_sim hr rfl b S
    exact ⟨r, _, r1, Sem.wp_mono M Γ _ (up F1) (up F1) p _ (ih r Q E p s1 b1 S1 h)⟩
  | handled own k ih => intro Q E p s b S h; exact ih _ Q E p s b S h
  | genState g k ih =>
    intro Q E p s b S h
    obtain ⟨st, hs, h⟩ := h
    obtain ⟨y, h1, h2⟩ := S.seen hs
    exact ⟨y, h1, by rw [h2]; exact ih _ Q E p s b S h⟩
  | newGen c k ih =>
    intro Q E p s b S h
    obtain ⟨S1, F1⟩ := S.push (fine_fresh (c := c))
    have := Sem.wp_mono M Γ _ (up F1) (up F1) p _ (ih s.gens.size Q E p { s with gens := s.gens.push (.fresh c) } _ S1 h)
    show wp M Γ (k b.size) _ _ p _
    rw [← S.sz]
    exact this
  | resume g r _ k ih =>
    intro Q E p s b S h
    obtain ⟨res, s1, hw, h⟩ := h
    obtain ⟨b1, S1, F1, w1⟩ := wakes_sim hw b S
    exact ⟨res, _, w1, Sem.wp_mono M Γ _ (up F1) (up F1) p _ (ih res Q E p s1 b1 S1 h)⟩
  | yield _ _ _ _ => intro Q E p s b S h; exact h
  | stack k ih => intro Q E p s b S h; exact ih _ Q E p s b S h
  | fork _ _ => intro Q E p s b S h; exact h
  | thread k ih => intro Q E p s b S h; exact ih _ Q E p s b S h
  | await _ _ _ _ _ => intro Q E p s b S h; exact h
/-- what runs beside stuck sleepers runs beside these sleepers, and they sleep on -/
theorem wpAny_sleep {α : Type} {M : Model} {A : Around} {t : Sem α} {Q Q' : α → Shared → Prop} {E E' : Value → Shared → Prop} {s : Shared} (hb : AllBare s.gens) (h : wpAny M A t Q E (withG s (s.gens.map stuckOf)))
    (hQ : ∀ a (s' : Shared) g, (AllBare g → AllBare s'.gens) → (∀ (i : Nat) (k : Resume → Sem PySem.Fin) (l : List Value) (c : Code) (p : Pos) (fs : List Frame) (cl : Bool), s.gens[i]? = some (GenState.suspended k l c p fs cl) → s'.gens[i]? = some (GenState.suspended k l c p fs cl)) → Q a (withG s' g) → Q' a s')
    (hE : ∀ a (s' : Shared) g, (AllBare g → AllBare s'.gens) → E a (withG s' g) → E' a s') : wpAny M A t Q' E' s := by
  have S := sim_stuck hb
  refine wpAny_mono (Q := fun a s' => ∃ g, Sim g s'.gens ∧ Froz (s.gens.map stuckOf) g s.gens s'.gens ∧ Q a (withG s' g)) (E := fun a s' => ∃ g, Sim g s'.gens ∧ Froz (s.gens.map stuckOf) g s.gens s'.gens ∧ E a (withG s' g))
    (fun Γ p hΓ => wp_sim M Γ t _ _ p (withG s (s.gens.map stuckOf)) s.gens S (h Γ p hΓ)) (fun a s' ⟨g, S', F, q⟩ => hQ a s' g S'.bare (fun i k l c p fs cl hi => ?_) q) fun a s' ⟨g, S', F, q⟩ => hE a s' g S'.bare q
  have := (F i (.suspended stuckK l c p fs cl) (by rw [Array.getElem?_map, hi]; rfl) ⟨l, c, p, fs, cl, rfl⟩).2
  rw [this, hi]
end DL
namespace DL
open PySem PySem.Spec PyProof.Rows L2
/-! ### the heap below a frame -/
def cutO (own : List Addr) (i : Nat) (o : Obj) : Obj := if i ∈ own then { o with data := .freed } else o
def cutH (L : Nat) (own : List Addr) (h : Heap) : Heap := { objs := (h.objs.extract 0 L).mapIdx (cutO own), life := h.life }
theorem cut_size {L : Nat} {own : List Addr} {h : Heap} (hl : L ≤ h.objs.size) : (cutH L own h).objs.size = L := by
  show ((h.objs.extract 0 L).mapIdx (cutO own)).size = L
  rw [Array.size_mapIdx, Array.size_extract]
  omega
theorem get_alive (h : Heap) (a : Addr) (o : Obj) : h.get? a = some o ↔ h.objs[a]? = some o ∧ o.data ≠ .freed := by
  unfold Heap.get?
  cases e : h.objs[a]? with
  | none => simp
  | some u =>
    obtain ⟨c, d, t, sl⟩ := u
    cases t <;> simp <;> (try (rintro rfl; simp)) <;> (try (intro z; rw [← z]; simp))
theorem get_cut {L : Nat} {own : List Addr} {h : Heap} {b : Addr} {o : Obj} : (cutH L own h).get? b = some o ↔ b < L ∧ b ∉ own ∧ h.get? b = some o := by
  rw [get_alive, get_alive]
  show ((h.objs.extract 0 L).mapIdx (cutO own))[b]? = some o ∧ _ ↔ _
  rw [Array.getElem?_mapIdx, Array.getElem?_extract]
  constructor
  · rintro ⟨h1, h2⟩
    rw [Option.map_eq_some_iff] at h1
    obtain ⟨u, h3, h4⟩ := h1
    split at h3
    · rename_i hl
      unfold cutO at h4
      split at h4
      · subst h4; exact (h2 rfl).elim
      · rename_i hn
        subst h4
        have h3' : h.objs[b]? = some u := by simpa using h3
        have hl' : b < min L h.objs.size := by simpa using hl
        exact ⟨Nat.lt_of_lt_of_le hl' (Nat.min_le_left _ _), hn, h3', h2⟩
    · cases h3
  · rintro ⟨h1, h2, h3, h4⟩
    have hs : b < h.objs.size := (Array.getElem?_eq_some_iff.mp h3).1
    refine ⟨?_, h4⟩
    rw [if_pos (show b < min L h.objs.size - 0 from Nat.lt_min.mpr ⟨h1, hs⟩)]
    simp only [Nat.zero_add, h3, Option.map_some]
    unfold cutO
    rw [if_neg h2]
theorem frames_of {base h h' : Heap} : ∀ {l : List Env}, h.FunFrames base l → (∀ b ∈ frs l, ∀ o, h.get? b = some o → h'.get? b = some o) → h'.FunFrames base l
  | [], _, _ => trivial
  | env :: rest, ⟨hk, ⟨L, o, hf, hn, ho, hd⟩, hr⟩, k => by
    have e : frs (env :: rest) = L :: frs rest := by unfold frs; rw [List.filterMap_cons, hf]
    exact ⟨hk, ⟨L, o, hf, hn, k L (by rw [e]; exact List.mem_cons_self) o ho, hd⟩, frames_of hr fun b hb => k b (by rw [e]; exact List.mem_cons_of_mem _ hb)⟩
/-! ### the context of a generator's stretch -/
section
variable (P : Program) (w : World) (K : PySem.W.Frag) (mg : Str → Option Value) (base : Heap) (N : List Str) (x : Str) (scope : Scope) (f : Addr) (cdv : Value) (Aw : Around) (outer : List Env) (L : Addr)
abbrev gE (x : Str) (scope : Scope) (L f : Addr) (cdv : Value) : Env := envOfC x scope L f cdv
def gcx (s0 : Shared) (H0 : Hp) : Cx where
  prog := P
  w := w
  K := K
  mg := mg
  base := base
  A := Aw.deeper (gE x scope L f cdv)
  N := N
  s_0 := s0
  H_0 := H0
  env := gE x scope L f cdv
  outer := outer
  stack := gE x scope L f cdv :: outer
  ex := []
  calm := true
  fn := fun _ => true
  pn := []
  xe := fun _ _ => False
/-- the lists of the generator's own -/
abbrev Own := List (Addr × List V)
abbrev oads (own : Own) : List Addr := own.map (·.1)
/-- all that is alive, but the generator's own -/
noncomputable def gB (Gw : Hp) (own : Own) (h : Heap) : Hp := fun b => if b = L ∨ b ∈ oads own then none else match Gw b with
  | some o => some o
  | none => if b < L then none else match h.get? b with
    | some o => some (.ext fun h' => h'.get? b = some o)
    | none => none
noncomputable def gH (Gw : Hp) (own : Own) (h : Heap) : Hp := fun b => match own.lookup b with
  | some xs => some (.lst xs)
  | none => gB L Gw own h b
/-- what holds when it is woken -/
structure Rd (Gw : Hp) (own : Own) (m : Str → Option Value) (s : Shared) : Prop where
  env : Env0 P w K mg base Aw outer s Gw
  gw : ∀ b o, Gw b = some o → b < L ∧ ∃ xs, o = .tup xs
  lt : ∀ b ∈ frs outer, b < L
  bz : base.objs.size ≤ L
  ns : s.heap.Ns L m
  ow : ∀ b xs, own.lookup b = some xs → xs.length ≤ sizeLine ∧ ∃ (its : List Value) (n : Nat), Vals xs its ∧ s.heap.get? b = some { cls := .type "list", data := .seq its.toArray n }
  nown : ∀ b ∈ oads own, b ≠ L ∧ base.get? b = none ∧ b ∉ frs outer ∧ Gw b = none
abbrev cutS (L : Addr) (own : Own) (s : Shared) : Shared := { s with heap := cutH L (oads own) s.heap }
abbrev gX (Gw : Hp) (own : Own) (s : Shared) : Cx := gcx P w K mg base N x scope f cdv Aw outer L (cutS L own s) Gw
end
theorem look_mem {b : Addr} {xs : List V} : ∀ {own : Own}, own.lookup b = some xs → b ∈ oads own
  | [], h => by cases h
  | (a, ys) :: own, h => by
    rw [List.lookup_cons] at h
    by_cases e : b = a
    · rw [e]; exact List.mem_cons_self
    · have : (b == a) = false := by simpa using e
      rw [this] at h
      exact List.mem_cons_of_mem _ (look_mem h)
theorem look_of {own : Own} {b : Addr} (h : b ∈ oads own) : ∃ xs, own.lookup b = some xs := by
  induction own with
  | nil => cases h
  | cons q own ih =>
    obtain ⟨a, xs⟩ := q
    rw [List.lookup_cons]
    by_cases e : b = a
    · subst e; exact ⟨xs, by simp⟩
    · have : (b == a) = false := by simpa using e
      rw [this]
      rcases List.mem_cons.mp h with z | z
      · exact (e z).elim
      · exact ih z
theorem look_none {own : Own} {b : Addr} (h : b ∉ oads own) : own.lookup b = none := by
  cases e : own.lookup b with
  | none => rfl
  | some xs => exact (h (look_mem e)).elim
section
variable {P : Program} {w : World} {K : PySem.W.Frag} {mg : Str → Option Value} {base : Heap} {N ps : List Str} {x : Str} {scope : Scope} {f : Addr} {cdv : Value} {Aw : Around} {outer : List Env} {L : Addr} {Gw : Hp} {own : Own} {m : Str → Option Value} {s : Shared}
theorem gB_own {h : Heap} {b : Addr} (hb : b ∈ oads own) : gB L Gw own h b = none := by unfold gB; rw [if_pos (.inr hb)]
theorem gB_L {h : Heap} : gB L Gw own h L = none := by unfold gB; rw [if_pos (.inl rfl)]
theorem gB_gw {h : Heap} {b : Addr} {o : HO} (hb : b ≠ L) (hn : b ∉ oads own) (e : Gw b = some o) : gB L Gw own h b = some o := by
  unfold gB; rw [if_neg (by rintro (z | z); exact hb z; exact hn z), e]
theorem gB_lt {h : Heap} {b : Addr} (hb : b < L) (e : Gw b = none) : gB L Gw own h b = none := by
  unfold gB
  by_cases z : b = L ∨ b ∈ oads own
  · rw [if_pos z]
  · rw [if_neg z]; simp only [e, hb, if_true]
theorem gB_ext {h : Heap} {b : Addr} {o : Obj} (hb : L < b) (hn : b ∉ oads own) (e : Gw b = none) (ho : h.get? b = some o) : gB L Gw own h b = some (.ext fun h' => h'.get? b = some o) := by
  unfold gB
  rw [if_neg (by rintro (z | z); exact absurd z (Nat.ne_of_gt hb); exact hn z), e]
  simp only [if_neg (Nat.not_lt.mpr (Nat.le_of_lt hb)), ho]
theorem gB_some {h : Heap} {b : Addr} {o : HO} (e : gB L Gw own h b = some o) : b ≠ L ∧ b ∉ oads own ∧ (Gw b = some o ∨ (Gw b = none ∧ L ≤ b ∧ ∃ u, h.get? b = some u ∧ o = .ext fun h' => h'.get? b = some u)) := by
  unfold gB at e
  split at e
  · cases e
  · rename_i hn
    refine ⟨fun z => hn (.inl z), fun z => hn (.inr z), ?_⟩
    split at e
    · rename_i u hu; cases e; exact .inl hu
    · rename_i hu
      split at e
      · cases e
      · rename_i hl
        split at e
        · rename_i u hu'
          cases e
          exact .inr ⟨hu, Nat.not_lt.mp hl, u, hu', rfl⟩
        · cases e
theorem gH_own {h : Heap} {b : Addr} {xs : List V} (e : own.lookup b = some xs) : gH L Gw own h b = some (.lst xs) := by unfold gH; rw [e]
theorem gH_of {h : Heap} {b : Addr} (hb : b ∉ oads own) : gH L Gw own h b = gB L Gw own h b := by unfold gH; rw [look_none hb]
theorem gB_gH {h : Heap} : Ex (gB L Gw own h) (gH L Gw own h) := fun b o e => by
  rw [gH_of (gB_some e).2.1]; exact e
theorem Rd.lL (R : Rd P w K mg base Aw outer L Gw own m s) : L < s.heap.objs.size := R.ns.lt
theorem Rd.gwB (R : Rd P w K mg base Aw outer L Gw own m s) : Ex Gw (gB L Gw own s.heap) := fun b o e =>
  gB_gw (Nat.ne_of_lt (R.gw b o e).1) (fun z => by rw [(R.nown b z).2.2.2] at e; cases e) e
theorem Rd.gwH (R : Rd P w K mg base Aw outer L Gw own m s) : Ex Gw (gH L Gw own s.heap) := R.gwB.trans gB_gH
theorem Rd.nL (R : Rd P w K mg base Aw outer L Gw own m s) : L ∉ oads own := fun z => (R.nown L z).1 rfl
theorem Rd.hok (R : Rd P w K mg base Aw outer L Gw own m s) : HOk P w (gH L Gw own s.heap) s.heap := fun b o e => by
  by_cases hb : b ∈ oads own
  · obtain ⟨xs, hx⟩ := look_of hb
    rw [gH_own hx] at e; cases e
    exact R.ow b xs hx
  · rw [gH_of hb] at e
    obtain ⟨h1, h2, h3 | ⟨h3, h4, u, h5, rfl⟩⟩ := gB_some e
    · obtain ⟨_, xs, rfl⟩ := R.gw b o h3
      exact R.env.hok b _ h3
    · exact ⟨h5, ⟨u, h5⟩, fun h1 h2 z k => k _ z⟩
/-- all is as a def's body wants it -/
theorem Rd.inv (R : Rd P w K mg base Aw outer L Gw own m s) (S : GScope N ps scope) (hc : ∀ y c, (cellsFrom (L + 1) scope.names []).lookup y ≠ some c) (nc : ∀ y, scope.names.lookup y ≠ some .cell ∧ scope.names.lookup y ≠ some .free) (hd : Aw.handled = none)
    {σ : L2.St} (hσ : ∀ (i : Nat) (y : Str) (v : V), N[i]? = some y → σ[i]? = some (some v) → scope.names.lookup y = some .local → ∃ u, RelV v u ∧ m y = some u) (hl : σ.length = N.length) : Inv (gX P w K mg base N x scope f cdv Aw outer L Gw own s) [] σ (gH L Gw own s.heap) s := by
  have sz : (cutH L (oads own) s.heap).objs.size = L := cut_size (Nat.le_of_lt R.lL)
  have noA : ∀ b : Addr, b ∉ (gX P w K mg base N x scope f cdv Aw outer L Gw own s).ex := fun b z => absurd (show b ∈ ([] : List Addr) from z) (by simp)
  have bl : ∀ b o, base.get? b = some o → b < L := fun b o e => Nat.lt_of_lt_of_le (Heap.lt_size e) R.bz
  have bo : ∀ b o, base.get? b = some o → b ∉ oads own := fun b o e z => by rw [(R.nown b z).2.1] at e; cases e
  refine ⟨⟨R.env.mod, S.kind, rfl, rfl, Nat.le_of_eq sz, fun y z c h1 h2 => (hc y c h1).elim, fun y hy => ?_, fun y c _ h => (hc y c h).elim, fun _ => hd, Around.frames_deeper R.env.frames, .inr ⟨rfl, rfl⟩, fun b z => absurd z (noA b), fun b o e => ?_, ?_, fun b _ _ => noA b, fun b z => absurd z (noA b), ?_, R.env.frf⟩,
    rfl, R.env.bare, ⟨fun b o e n _ _ => (get_cut.mp e).2.2, fun b o e n _ _ => ⟨o.slots, (get_cut.mp e).2.2⟩, fun b o e n _ => ?_, fun b o e _ => ⟨o, (get_cut.mp e).2.2⟩, fun b xs e => R.gwH _ _ e, fun b o u e => R.gwH _ _ e, fun b qs e => ?_⟩, ⟨m, R.ns, fun i y v h1 h2 h3 => ?_⟩,
    fun y c h => (hc y c h).elim, ?_, fun y c h => (hc y c h).elim, fun p hp => absurd (show p ∈ ([] : List (Addr × Obj)) from hp) (by simp), R.hok, hl⟩
  · have hy : scope.names.lookup y = some .cell ∨ scope.names.lookup y = some .free := hy
    rcases hy with hy | hy
    · exact ((nc y).1 hy).elim
    · exact ((nc y).2 hy).elim
  · obtain ⟨e1, e2⟩ := R.env.bs b o e
    exact ⟨get_cut.mpr ⟨bl b o e, bo b o e, e1⟩, e2⟩
  · show base.objs.size ≤ (cutH L (oads own) s.heap).objs.size
    rw [sz]; exact R.bz
  · exact frames_of R.env.funs fun b hb o e => get_cut.mpr ⟨R.lt b hb, fun z => (R.nown b z).2.2.1 hb, e⟩
  · obtain ⟨h1, h2, h3⟩ := get_cut.mp e
    rw [gH_of h2]
    exact gB_lt h1 n
  · obtain ⟨_, xs, z⟩ := R.gw _ _ e
    cases z
  · have h3 : scope.names.lookup y = some .local ∨ scope.names.lookup y = some .cell ∨ scope.names.lookup y = some .free := h3
    rcases h3 with h3 | h3 | h3
    · obtain ⟨u, r, e⟩ := hσ i y v h1 h2 h3
      exact ⟨u, r, .inl ⟨h3, e⟩⟩
    · exact ((nc y).1 h3).elim
    · exact ((nc y).2 h3).elim
  · show gH L Gw own s.heap L = none
    rw [gH_of R.nL]
    exact gB_L
end
/-! ### a stretch, seen from outside -/
structure Strx (P : Program) (w : World) (fs : List Addr) (Gw : Hp) (ch : List Addr) (s s' : Shared) : Prop where
  os : s'.os = s.os
  bare : AllBare s'.gens
  keep : ∀ b o, s.heap.get? b = some o → b ∉ ch → b ∉ fs → Gw b = none → s'.heap.get? b = some o
  slot : ∀ b o, s.heap.get? b = some o → b ∈ fs → ∃ sl, s'.heap.get? b = some { o with slots := sl }
  tups : ∀ b xs, Gw b = some (.tup xs) → ObjOk P w Gw s'.heap b (.tup xs)
theorem ok_tup {P : Program} {w : World} {H H' : Hp} {h : Heap} {b : Addr} {xs : List V} (e : ObjOk P w H h b (.tup xs)) : ObjOk P w H' h b (.tup xs) := e
section
variable {P : Program} {w : World} {K : PySem.W.Frag} {mg : Str → Option Value} {base : Heap} {N ps : List Str} {x : Str} {scope : Scope} {f : Addr} {cdv : Value} {Aw : Around} {outer : List Env} {L : Addr} {Gw : Hp} {own : Own} {m : Str → Option Value} {s s' : Shared} {σ' : L2.St} {H' : Hp}
theorem Rd.str (R : Rd P w K mg base Aw outer L Gw own m s) (I : Inv (gX P w K mg base N x scope f cdv Aw outer L Gw own s) [] σ' H' s') (h0 : Ex (gB L Gw own s.heap) H') : Strx P w (frs outer) Gw (L :: oads own) s s' where
  os := I.os
  bare := I.bare
  keep := fun b o e n1 n2 n3 => by
    have hL : b ≠ L := fun z => n1 (by rw [z]; exact List.mem_cons_self)
    have ho : b ∉ oads own := fun z => n1 (List.mem_cons_of_mem _ z)
    rcases Nat.lt_trichotomy b L with hl | hl | hl
    · exact I.base.keep b o (get_cut.mpr ⟨hl, ho, e⟩) n3 n2 (fun z => absurd (show b ∈ ([] : List Addr) from z) (by simp))
    · exact (hL hl).elim
    · exact (I.hok b _ (h0 _ _ (gB_ext hl ho n3 e))).1
  slot := fun b o e hb => I.base.slot b o (get_cut.mpr ⟨R.lt b hb, fun z => (R.nown b z).2.2.1 hb, e⟩) (R.env.frf b hb) hb (fun z => absurd (show b ∈ ([] : List Addr) from z) (by simp))
  tups := fun b xs e => I.hok b _ (h0 _ _ (R.gwB _ _ e))
/-- what is new was not there -/
theorem Rd.new (R : Rd P w K mg base Aw outer L Gw own m s) (I : Inv (gX P w K mg base N x scope f cdv Aw outer L Gw own s) [] σ' H' s') {b : Addr} {o : HO} (e : H' b = some o) (n1 : gB L Gw own s.heap b = none) (n2 : b ∉ oads own) : s.heap.get? b = none := by
  cases q : s.heap.get? b with
  | none => rfl
  | some u =>
    exfalso
    have hL : b ≠ L := fun z => by
      have := I.free
      rw [z] at e
      rw [show H' L = none from this] at e; cases e
    have hg : Gw b = none := by
      cases g : Gw b with
      | none => rfl
      | some o' => rw [gB_gw hL n2 g] at n1; cases n1
    rcases Nat.lt_trichotomy b L with hl | hl | hl
    · have := I.base.free b u (get_cut.mpr ⟨hl, n2, q⟩) hg (fun z => absurd (show b ∈ ([] : List Addr) from z) (by simp))
      rw [this] at e; cases e
    · exact hL hl
    · rw [gB_ext hl n2 hg q] at n1; cases n1
theorem Rd.nbase (R : Rd P w K mg base Aw outer L Gw own m s) (I : Inv (gX P w K mg base N x scope f cdv Aw outer L Gw own s) [] σ' H' s') {b : Addr} {o : HO} (e : H' b = some o) : base.get? b = none ∧ b ∉ frs outer ∧ b ≠ L := by
  refine ⟨?_, fun z => ?_, fun z => ?_⟩
  · cases q : base.get? b with
    | none => rfl
    | some u =>
      have := (I.bs b u q).2
      rw [this] at e; cases e
  · have := I.stkFree b (List.mem_filterMap.mpr (by
      obtain ⟨v, h1, h2⟩ := List.mem_filterMap.mp z
      exact ⟨v, List.mem_cons_of_mem _ h1, h2⟩))
    rw [this] at e; cases e
  · rw [z] at e
    rw [show H' L = none from I.free] at e; cases e
end
/-! ### the caller behind it -/
/-- such an object may change amid the loop -/
structure Chg (X : Cx) (pins : List (Addr × Obj)) (b : Addr) : Prop where
  old : b ∈ X.ex ∨ X.s_0.heap.get? b = none
  loc : b ≠ X.env.locals
  cel : ∀ y c, X.env.cells.lookup y = some c → c ≠ b
  pin : ∀ p ∈ X.pn ++ pins, p.1 ≠ b
  fs : b ∉ X.fs
section
variable {X : Cx} {pins : List (Addr × Obj)} {σ : L2.St} {H H' Gw : Hp} {s s' : Shared} {ch : List Addr}
theorem Inv.chg (I : Inv X pins σ H s) {b : Addr} (h : s.heap.get? b = none) : Chg X pins b where
  old := by
    by_cases z : b ∈ X.ex
    · exact .inl z
    · refine .inr ?_
      cases q : X.s_0.heap.get? b with
      | none => rfl
      | some o =>
        obtain ⟨o', e⟩ := I.base.there b o q z
        rw [h] at e; cases e
  loc := fun z => by
    obtain ⟨_, ⟨o, es, ep, ho, _⟩, _⟩ := I.loc
    rw [← z, h] at ho; cases ho
  cel := fun y c hc z => by
    obtain ⟨_, o, ho, _⟩ := I.cell y c hc
    rw [z, h] at ho; cases ho
  pin := fun p hp z => by
    have := (I.pin p hp).1
    rw [z, h] at this; cases this
  fs := fun z => by
    obtain ⟨_, o, ho, _⟩ := I.funs.mem z
    rw [h] at ho; cases ho
theorem Inv.dead (I : Inv X pins σ H s) {b : Addr} (h : s.heap.get? b = none) : H b = none := by
  cases q : H b with
  | none => rfl
  | some o =>
    have e := I.hok b o q
    have : ∃ u, s.heap.get? b = some u := by
      cases o with
      | lst xs => obtain ⟨_, _, _, _, e⟩ := e; exact ⟨_, e⟩
      | tup xs => obtain ⟨_, _, _, o, e, _⟩ := e; exact ⟨_, e⟩
      | dK kvs => obtain ⟨_, _, _, _, o, _, _, e, _⟩ := e; exact ⟨_, e⟩
      | dT kvs => obtain ⟨_, _, _, _, o, _, _, e, _⟩ := e; exact ⟨_, e⟩
      | set S n => obtain ⟨o, _, _, _, e, _⟩ := e; exact ⟨_, e⟩
      | ins C dx fs => obtain ⟨_, _, _, e, _⟩ := e; exact ⟨_, e⟩
      | own y => exact e
      | xd fs => obtain ⟨_, ⟨_, _, _, e, _⟩, _⟩ := e; exact ⟨_, e⟩
      | rng lo hi => obtain ⟨_, _, _, e⟩ := e; exact ⟨_, e⟩
      | frz ob u => exact ⟨_, e.1⟩
      | tbl ps => exact ⟨_, e⟩
      | met f y => exact ⟨_, e⟩
      | ext φ => exact e.2.1
    obtain ⟨u, hu⟩ := this
    rw [h] at hu; cases hu
theorem Inv.strd (I : Inv X pins σ H s) (T : Strx X.prog X.w (frs X.stack) Gw ch s s') (hG : Ex Gw H) (hGt : ∀ b o, Gw b = some o → ∃ xs, o = .tup xs) (hch : ∀ b ∈ ch, Chg X pins b ∧ H b = none)
    (hx : Ex H H') (hn : ∀ b o, H' b = some o → H b = some o ∨ (s.heap.get? b = none ∧ ObjOk X.prog X.w H' s'.heap b o)) : Inv X pins σ H' s' := by
  have gn : ∀ b, H b = none → Gw b = none := fun b h => by
    cases q : Gw b with
    | none => rfl
    | some o => rw [hG b o q] at h; cases h
  have hnn : ∀ b o, s.heap.get? b = some o → H b = none → H' b = none := fun b o h1 h2 => by
    cases q : H' b with
    | none => rfl
    | some u =>
      rcases hn b u q with z | ⟨z, _⟩
      · rw [h2] at z; cases z
      · rw [h1] at z; cases z
  have any : ∀ b o, s.heap.get? b = some o → b ∉ ch → H b = none → ∃ sl, s'.heap.get? b = some { o with slots := sl } := fun b o e n1 n2 => by
    by_cases hb : b ∈ frs X.stack
    · exact T.slot b o e hb
    · exact ⟨o.slots, T.keep b o e n1 hb (gn b n2)⟩
  have nst : ∀ b, b ∉ X.fs → b ≠ X.env.locals → b ∉ frs X.stack := fun b h1 h2 h3 => by
    rcases List.mem_cons.mp (I.stkSub b h3) with z | z
    · exact h2 z
    · exact h1 z
  have fst : ∀ b ∈ X.fs, b ∈ frs X.stack := fun b hb => by
    rcases I.ok.stk with e | ⟨e, _⟩
    · rw [e]; exact hb
    · rw [e]
      obtain ⟨v, h1, h2⟩ := List.mem_filterMap.mp hb
      exact List.mem_filterMap.mpr ⟨v, List.mem_cons_of_mem _ h1, h2⟩
  have nch : ∀ b o, X.s_0.heap.get? b = some o → b ∉ X.ex → b ∉ ch := fun b o e hx hb => by
    rcases (hch b hb).1.old with z | z
    · exact hx z
    · rw [z] at e; cases e
  have nlo : ∀ b o, X.s_0.heap.get? b = some o → b ≠ X.env.locals := fun b o e z => by
    have h1 := Heap.lt_size e
    rw [z] at h1
    exact absurd (Nat.lt_of_lt_of_le h1 I.ok.above) (Nat.lt_irrefl _)
  obtain ⟨ml, hml, hlook⟩ := id I.loc
  obtain ⟨ol, es, ep, hol, hdl, hsk, hfind⟩ := id hml
  have lch : X.env.locals ∉ ch := fun z => (hch _ z).1.loc rfl
  have cells : ∀ c v, (∃ y, X.env.cells.lookup y = some c) → s.heap.IsCell c v → s'.heap.IsCell c v := fun c v ⟨y, hy⟩ ⟨o, ho, hd⟩ => by
    obtain ⟨sl, e⟩ := any c o ho (fun z => (hch _ z).1.cel y c hy rfl) (I.freeC y c hy)
    exact ⟨_, e, hd⟩
  refine ⟨I.ok, T.os.trans I.os, T.bare, ⟨fun b o e n hb hx2 => ?_, fun b o e n hb hx2 => ?_, fun b o e n hx2 => ?_, fun b o e hx2 => ?_, fun b xs e => hx _ _ (I.base.tups b xs e), fun b o u e => hx _ _ (I.base.frzs b o u e), fun b qs e => ?_⟩,
    ⟨ml, ?_, fun i y v h1 h2 h3 => ?_⟩, fun y c h => ?_, hnn _ _ hol I.free, fun y c h => ?_, fun p hp => ?_, fun b o e => ?_, I.len⟩
  · have hs := I.base.keep b o e n hb hx2
    have hH := I.base.free b o e n hx2
    exact T.keep b o hs (nch b o e hx2) (nst b hb (nlo b o e)) (gn b hH)
  · obtain ⟨sl, hs⟩ := I.base.slot b o e n hb hx2
    obtain ⟨sl', e'⟩ := T.slot b _ hs (fst b hb)
    exact ⟨sl', e'⟩
  · obtain ⟨o', e'⟩ := I.base.there b o e hx2
    exact hnn b o' e' (I.base.free b o e n hx2)
  · obtain ⟨o', e'⟩ := I.base.there b o e hx2
    by_cases hb : b ∈ frs X.stack
    · obtain ⟨sl, z⟩ := T.slot b o' e' hb; exact ⟨_, z⟩
    · cases q : Gw b with
      | none => exact ⟨o', T.keep b o' e' (nch b o e hx2) hb q⟩
      | some u =>
        obtain ⟨xs, rfl⟩ := hGt b u q
        obtain ⟨_, _, _, o2, z, _⟩ := T.tups b xs q
        exact ⟨o2, z⟩
  · obtain ⟨more, z⟩ := I.base.tbls b qs e
    exact ⟨more, hx _ _ z⟩
  · obtain ⟨sl, e⟩ := any _ ol hol lch I.free
    exact ⟨_, es, ep, e, hdl, hsk, hfind⟩
  · obtain ⟨u, r, q⟩ := hlook i y v h1 h2 h3
    refine ⟨u, r, ?_⟩
    rcases q with q | ⟨q1, c, q2, q3⟩
    · exact .inl q
    · exact .inr ⟨q1, c, q2, cells c _ ⟨y, q2⟩ q3⟩
  · obtain ⟨v, z⟩ := I.cell y c h
    exact ⟨v, cells c v ⟨y, h⟩ z⟩
  · obtain ⟨v, o, z, _⟩ := I.cell y c h
    exact hnn c o z (I.freeC y c h)
  · obtain ⟨e, n, nl, nf, d⟩ := I.pin p hp
    exact ⟨T.keep p.1 p.2 e (fun z => (hch _ z).1.pin p hp rfl) (nst _ nf nl) (gn _ n), hnn _ _ e n, nl, nf, d⟩
  · rcases hn b o e with z | ⟨_, z⟩
    · have stay : Gw b = none → ObjOk X.prog X.w H' s'.heap b o := fun hg => (I.hok b o z).stay (fun c u hc q => ?_) (fun c q => hx _ _ q) fun c xs q => hx _ _ q
      · cases q : Gw b with
        | none => exact stay q
        | some u =>
          obtain ⟨xs, rfl⟩ := hGt b u q
          have := hG b _ q
          rw [z] at this; cases this
          exact ok_tup (T.tups b xs q)
      · have hc' : H c ≠ none := by
          rcases hc with y | y
          · rw [y, z]; exact fun z => by cases z
          · rw [y]; exact fun z => by cases z
        refine T.keep c u q (fun y => hc' (hch c y).2) (fun y => hc' (I.stkFree c y)) ?_
        rcases hc with y | y
        · rw [y]; exact hg
        · cases g : Gw c with
          | none => rfl
          | some v =>
            obtain ⟨xs, rfl⟩ := hGt c v g
            rw [hG c _ g] at y; cases y
    · exact z
end
end DL
namespace DL
open PySem PySem.Spec PyProof.Rows L2 GenW
/-! ### the protocol -/
def refOf : Option Value → List Addr
  | some (.ref b) => [b]
  | _ => []
/-- the frame at L with these names' lists -/
def mineO (L : Addr) (ns : List Str) (o : Obj) : List Addr := L :: (match o.data with
  | .dict es _ => ns.flatMap fun n => refOf (nsFind es n)
  | _ => [])
def hld (ls : List (Addr × Obj)) (s : Shared) : Prop := ∀ q ∈ ls, s.heap.get? q.1 = some q.2
/-- what of the state the generator lives on till it is woken -/
structure Lv (L : Addr) (ns : List Str) (ls : List (Addr × Obj)) (oL : Obj) (s : Shared) : Prop where
  mem : (L, oL) ∈ ls
  hld : hld ls s
  all : ∀ b ∈ mineO L ns oL, ∃ o, (b, o) ∈ ls
  nc : ∀ q ∈ ls, ∀ v, q.2.data ≠ .cell v
section
variable (P : Program) (w : World) (K : PySem.W.Frag) (mg : Str → Option Value) (base : Heap) (Aw : Around) (outer : List Env) (Gw : Hp) (L : Addr) (ns : List Str) (items : List (List Int))
def YG : Protocol := fun n s0 v s1 kap => ∃ (oL : Obj) (p : Addr) (it : List Int), s0.heap.get? L = some oL ∧ items[items.length - 1 - n]? = some it ∧ n < items.length ∧ v = .ref p ∧ Strx P w (frs outer) Gw (mineO L ns oL) s0 s1 ∧
  ObjOk P w Gw s1.heap p (.tup (it.map V.int)) ∧ (Gw p = some (.tup (it.map V.int)) ∨ s0.heap.get? p = none) ∧ ∃ (ls : List (Addr × Obj)) (oL' : Obj), Lv L ns ls oL' s1 ∧ (∀ q ∈ ls, (q.1 ∈ mineO L ns oL ∨ s0.heap.get? q.1 = none) ∧ q.1 ≠ p) ∧
  ∀ s2, Env0 P w K mg base Aw outer s2 Gw → hld ls s2 → kap (.send .none) s2 ∧ kap (.send (.bool true)) s2
def FG : Nat → Shared → Shared → Prop := fun n s0 s1 => n = 0 ∧ ∃ oL, s0.heap.get? L = some oL ∧ Strx P w (frs outer) Gw (mineO L ns oL) s0 s1
def RG : GenEnd := fun n s0 r s1 => ((r = .ok (.ret .none) ∨ r = .ok .next) ∧ FG P w outer Gw L ns n s0 s1) ∨ ∃ e, r = .error e ∧ (fun (_ : Value) (_ : Shared) => False) e s1
def GAll (gs : GenState) (n : Nat) (ls : List (Addr × Obj)) : Prop := ∀ s2, Env0 P w K mg base Aw outer s2 Gw → hld ls s2 →
  gs.Goes (model P w) Aw (RG P w outer Gw L ns) (YG P w K mg base Aw outer Gw L ns items) n (.send .none) s2
/-- made by a call -/
structure MadeAt (sc : Shared) (a : Addr) (g : Nat) (s : Shared) : Prop where
  gen : s.heap.IsGen a g
  os : s.os = sc.os
  bare : AllBare s.gens
  keep : ∀ b o, sc.heap.get? b = some o → s.heap.get? b = some o
  na : sc.heap.get? a = none
  go : ∃ (gs : GenState) (ls : List (Addr × Obj)) (oL : Obj), s.gens[g]? = some gs ∧ Lv L ns ls oL s ∧ (∀ q ∈ ls, sc.heap.get? q.1 = none ∧ q.1 ≠ a) ∧ GAll P w K mg base Aw outer Gw L ns items gs items.length ls
end
/-! ### no exception is wanted -/
def _root_.L2.Cx.mute (X : Cx) : Cx := { X with xe := fun _ _ => False }
section
variable {X : Cx} {C : Addr} {pins : List (Addr × Obj)} {σ : L2.St} {H : Hp} {s : Shared}
theorem inv_mute (I : Inv X pins σ H s) : Inv X.mute pins σ H s :=
  ⟨⟨I.ok.mod, I.ok.kind, I.ok.glob, I.ok.blt, I.ok.above, I.ok.inj, I.ok.has, I.ok.cab, I.ok.hd, I.ok.frames, I.ok.stk, I.ok.exf, I.ok.bs, I.ok.bsz, I.ok.noex, I.ok.exfs, I.ok.funs, I.ok.frf⟩, I.os, I.bare, I.base, I.loc, I.cell, I.free, I.freeC, I.pin, I.hok, I.len⟩
theorem inv_loud (I : Inv X.mute pins σ H s) : Inv X pins σ H s :=
  ⟨⟨I.ok.mod, I.ok.kind, I.ok.glob, I.ok.blt, I.ok.above, I.ok.inj, I.ok.has, I.ok.cab, I.ok.hd, I.ok.frames, I.ok.stk, I.ok.exf, I.ok.bs, I.ok.bsz, I.ok.noex, I.ok.exfs, I.ok.funs, I.ok.frf⟩, I.os, I.bare, I.base, I.loc, I.cell, I.free, I.freeC, I.pin, I.hok, I.len⟩
theorem inv_withG (I : Inv X pins σ H s) {g : Array GenState} (h : AllBare g) : Inv X pins σ H (withG s g) :=
  ⟨I.ok, I.os, h, I.base, I.loc, I.cell, I.free, I.freeC, I.pin, I.hok, I.len⟩
theorem inv_ofG {g : Array GenState} (I : Inv X pins σ H (withG s g)) (h : AllBare g → AllBare s.gens) : Inv X pins σ H s :=
  ⟨I.ok, I.os, h I.bare, I.base, I.loc, I.cell, I.free, I.freeC, I.pin, I.hok, I.len⟩
def Gm.mute (Γ : Gm X C) : Gm X.mute C where
  H0 := Γ.H0
  G0 := Γ.G0
  E := fun _ => E0
  err := fun _ _ => False
  tk := fun _ _ ⟨_, _, _, _, _, _, _, _, _, _, _, _, _, _, _, _, w⟩ => w.elim
  hE := fun _ _ _ _ _ _ h => h.elim
  pown := PassesOwn.never
  nd := Γ.nd
end
def encIt (it : List Int) : D := .tuple (it.map .int)
/-- an expression that makes such a generator -/
structure DMk {X : Cx} {C : Addr} (Γ : Gm X C) (e : Expr) (ρ : Rho) (k : List (List Int) → Rho → Prop) : Prop where
  run : ∀ (pins : List (Addr × Obj)) (s : Shared) (σ : L2.St) (H G : Hp), Inv X pins σ H s → Γ.eo ρ σ H G → wpAny (model X.prog X.w) X.A (eval e X.env) (fun u s' => ∃ items ρ1 H1 G1 sc Gw L ns a g, u = .ref a ∧ k items ρ1 ∧ Inv X pins σ H1 sc ∧ Γ.eo ρ1 σ H1 G1 ∧ Ex G G1 ∧
    Ex Gw G1 ∧ (∀ b o, Gw b = some o → ∃ xs, o = HO.tup xs) ∧ MadeAt X.prog X.w X.K X.mg X.base X.A.in1 X.stack Gw L ns items sc a g s') X.xe s
section
variable {X : Cx} {C : Addr} {Γ : Gm X C} {tg it : Expr} {body : List Stmt} {ρ : Rho} {pos : Pos} {P : Post}
theorem setGen_heap {s : Shared} {g : Nat} {x : GenState} : (s.setGen g x).heap = s.heap := rfl
theorem Env0.gw {pins : List (Addr × Obj)} {σ : L2.St} {H Gw : Hp} {s : Shared} {g : Nat} {x : GenState} (I : Inv X pins σ H s) (hG : Ex Gw H) (hGt : ∀ b o, Gw b = some o → ∃ xs, o = HO.tup xs) (hb : AllBare (s.setGen g x).gens) : Env0 X.prog X.w X.K X.mg X.base X.A.in1 X.stack (s.setGen g x) Gw := by
  have e := I.env0
  have nn : ∀ b, H b = none → Gw b = none := fun b h => by
    cases q : Gw b with
    | none => rfl
    | some o => rw [hG b o q] at h; cases h
  refine ⟨e.frames, e.mod, fun b o q => ⟨(e.bs b o q).1, nn b (e.bs b o q).2⟩, e.bsz, e.funs, fun b q => nn b (e.frf b q), fun b o q => ?_, hb⟩
  obtain ⟨xs, rfl⟩ := hGt b o q
  exact ok_tup (e.hok b _ (hG b _ q))
theorem tup_rv {G : Hp} {p : Addr} {it : List Int} (h : G p = some (.tup (it.map V.int))) : Rv G (.ref p) (encIt it) := .tup h RvA.ofInts
theorem ds_forG (vs : List Nat) (hroom : X.A.depth < recursionLimit) (hi : DMk Γ it ρ (fun items ρ1 => ∃ Iv : Nat → Rho → Prop, Iv 0 ρ1 ∧ Loop Γ.mute tg vs body P (items.map encIt) Iv))
    (hs : ∀ x, foldedSetIterable it X.env x = pure x := by intro _; rfl) (hcalm : X.calm = true := by rfl) : DS Γ (.For tg it body [] pos) ρ P := by
  refine ⟨fun pins s σ H G Dd I eo hk => ?_⟩
  refine wpAny_For (wpAny_mono (hi.run pins s σ H G I eo) (fun u s1 ⟨items, ρ1, H1, G1, sc, Gw, L, ns, a, g, eu, ⟨Iv, i0, LP⟩, Ic, eo1, ex1, hGw, hGt, M⟩ => ?_) fun _ _ h => h) hs
  subst eu
  refine wpAny_pyIter_gen M.gen ?_
  obtain ⟨go, nm, qn, hgo1, hgo2, hgo3, hgo4⟩ := id M.gen
  obtain ⟨gs0, ls0, oL0, hg0, lv0, fr0, ga0⟩ := M.go
  have I1 : Inv X pins σ H1 s1 := by
    have := Ic.call' (ch := []) (s' := s1) M.os (Un.kept M.keep) (Ic.hok.kept M.keep) M.bare (fun b z => by simp at z)
    exact this
  have hcellgo : ∀ v, go.data ≠ .cell v := fun v z => by rw [hgo3] at z; cases z
  have chgA : Chg X pins a := Inv.chg Ic M.na
  have hh : X.A.handled = none := I1.ok.hd hcalm
  refine codeAny_forLoop_any (fun n s' => ∃ i ρ2 σ2 H2 G2 gs ls oL, n = items.length - i ∧ i ≤ items.length ∧ Inv X pins σ2 H2 s' ∧ Γ.eo ρ2 σ2 H2 G2 ∧ Ex G1 G2 ∧ Iv i ρ2 ∧ s'.heap.get? a = some go ∧ H2 a = none ∧ s'.gens[g]? = some gs ∧ Lv L ns ls oL s' ∧
    (∀ q ∈ ls, Chg X pins q.1 ∧ H2 q.1 = none ∧ q.1 ≠ a) ∧ GAll X.prog X.w X.K X.mg X.base X.A.in1 X.stack Gw L ns items gs (items.length - i) ls) ?_ items.length
    ⟨0, ρ1, σ, H1, G1, gs0, ls0, oL0, rfl, Nat.zero_le _, I1, eo1, .refl _, i0, hgo1, Inv.dead Ic M.na, hg0, lv0, fun q hq => ⟨Inv.chg Ic (fr0 q hq).1, Inv.dead Ic (fr0 q hq).1, (fr0 q hq).2⟩, ga0⟩
  rintro n s3 ⟨i, ρ2, σ2, H2, G2, gs, ls, oL, rfl, hle, I3, eo2, ex2, iv, ha, hna, hgs, lv, chg, ga⟩
  have hGH : Ex Gw H2 := (hGw.trans ex2).trans eo2.gh
  have brun : AllBare (s3.setGen g .running).gens := allBare_setGen I3.bare rfl
  have gsz : g < s3.gens.size := (Array.getElem?_eq_some_iff.mp hgs).1
  have oLs : s3.heap.get? L = some oL := lv.hld _ lv.mem
  have chs : ∀ b ∈ mineO L ns oL, Chg X pins b ∧ H2 b = none := fun b hb => by
    obtain ⟨o, ho⟩ := lv.all b hb
    exact ⟨(chg _ ho).1, (chg _ ho).2.1⟩
  have nA : a ∉ mineO L ns oL := fun z => by
    obtain ⟨o, ho⟩ := lv.all a z
    exact (chg _ ho).2.2 rfl
  have agen : ∀ {s1 : Shared} {oL1 : Obj}, (s3.setGen g .running).heap.get? L = some oL1 → Strx X.prog X.w (frs X.stack) Gw (mineO L ns oL1) (s3.setGen g .running) s1 → oL1 = oL ∧ Strx X.prog X.w (frs X.stack) Gw (mineO L ns oL) s3 s1 := fun {s1 oL1} e T => by
    have e : s3.heap.get? L = some oL1 := e
    rw [oLs] at e; cases e
    exact ⟨rfl, T.os, T.bare, T.keep, T.slot, T.tups⟩
  have anst : a ∉ frs X.stack := fun z => by
    obtain ⟨_, o, ho, hf⟩ := I3.stack.mem z
    rw [ha] at ho; cases ho
    exact hf _ hgo3
  have keepA : ∀ {s1 : Shared}, Strx X.prog X.w (frs X.stack) Gw (mineO L ns oL) s3 s1 → s1.heap.get? a = some go := fun {s1} T => by
    refine T.keep a go ha nA anst ?_
    cases q : Gw a with
    | none => rfl
    | some o => rw [hGH a o q] at hna; cases hna
  refine wpAny_gsz (show g + 1 ≤ s3.gens.size from gsz) ?_
  obtain ⟨n, hn⟩ : ∃ n, n = items.length - i := ⟨_, rfl⟩
  rw [← hn] at ga
  refine next_genG (P := X.prog) (w := X.w) (F := FG X.prog X.w X.stack Gw L ns) (Er := fun _ _ => False) (Y := YG X.prog X.w X.K X.mg X.base X.A.in1 X.stack Gw L ns items) (n := n) hh I3.nolimit hroom ⟨go, nm, qn, ha, hgo2, hgo3, hgo4⟩ hgs
    (ga _ (Env0.gw I3 hGH hGt brun) lv.hld) (fun v s4 gs' hbare hY hsz => ?_) (fun s4 hF h' hk' hsz => ?_) (fun e s4 h => h.elim)
  · -- an item
    obtain ⟨oL1, p, itm, e1, e2, e3, rfl, T, okp, fresh, ls', oL', lv', lsn, wake⟩ := hY
    obtain ⟨rfl, T⟩ := agen e1 T
    have e1 : s3.heap.get? L = some oL1 := e1
    obtain ⟨H4, G4, hx, hnw, eo4, ex4, rv⟩ : ∃ H4 G4, Ex H2 H4 ∧ (∀ b o, H4 b = some o → H2 b = some o ∨ (b = p ∧ s3.heap.get? p = none ∧ o = .tup (itm.map V.int))) ∧ Γ.eo ρ2 σ2 H4 G4 ∧ Ex G2 G4 ∧ Rv G4 (.ref p) (encIt itm) := by
      rcases fresh with z | z
      · exact ⟨H2, G2, .refl _, fun b o e => .inl e, eo2, .refl _, tup_rv ((hGw.trans ex2) _ _ z)⟩
      · have z : s3.heap.get? p = none := z
        have hp := Inv.dead I3 z
        obtain ⟨q1, q2⟩ := eo2.allocG (o := .tup (itm.map V.int)) hp
        refine ⟨_, _, .new hp, fun b o e => ?_, q1, q2, tup_rv upd_same⟩
        by_cases hb : b = p
        · subst hb; rw [upd_same] at e; cases e; exact .inr ⟨rfl, z, rfl⟩
        · rw [upd_ne hb] at e; exact .inl e
    have I4 : Inv X pins σ2 H4 s4 := Inv.strd I3 T hGH hGt chs hx fun b o e => by
      rcases hnw b o e with z | ⟨rfl, z, rfl⟩
      · exact .inl z
      · exact .inr ⟨z, ok_tup okp⟩
    have dead4 : ∀ b, H2 b = none → b ≠ p → H4 b = none := fun b h1 h2 => by
      cases q : H4 b with
      | none => rfl
      | some o =>
        rcases hnw b o q with z | ⟨z, _⟩
        · rw [h1] at z; cases z
        · exact (h2 z).elim
    have nap : a ≠ p := by
      rintro rfl
      rcases fresh with z | z
      · rw [hGH _ _ z] at hna; cases hna
      · have z : s3.heap.get? a = none := z
        rw [ha] at z; cases z
    have chg' : ∀ q ∈ ls', Chg X pins q.1 ∧ H4 q.1 = none ∧ q.1 ≠ a := fun q hq => by
      obtain ⟨h1, h2⟩ := lsn q hq
      rcases h1 with z | z
      · exact ⟨(chs _ z).1, dead4 _ (chs _ z).2 h2, fun y => nA (y ▸ z)⟩
      · have z : s3.heap.get? q.1 = none := z
        exact ⟨Inv.chg I3 z, dead4 _ (Inv.dead I3 z) h2, fun y => by rw [y, ha] at z; cases z⟩
    have hGH4 : Ex Gw H4 := hGH.trans hx
    cases n with
    | zero => exact (wake (s4.setGen g .running) (Env0.gw I4 hGH4 hGt (allBare_setGen I4.bare rfl)) lv'.hld).1.elim
    | succ m =>
      have hlt : i < items.length := by omega
      have him : items[i]? = some itm := by
        have : items.length - 1 - (m + 1 - 1) = i := by omega
        rw [this] at e2; exact e2
      have ga' : GAll X.prog X.w X.K X.mg X.base X.A.in1 X.stack Gw L ns items gs' m ls' := fun s2 h1 h2 => (wake s2 h1 h2).1
      obtain ⟨k5, l5, c5, p5, fs5, cl5, rfl⟩ : ∃ k l c p fs cl, gs' = GenState.suspended k l c p fs cl := by
        obtain ⟨z1, z2⟩ := wake (s4.setGen g .running) (Env0.gw I4 hGH4 hGt (allBare_setGen I4.bare rfl)) lv'.hld
        cases gs' with
        | fresh c => exact absurd z2.1 (by simp)
        | suspended k l c p fs cl => exact ⟨k, l, c, p, fs, cl, rfl⟩
        | running => exact z1.elim
        | finished => exact z1.elim
      have hm : m = items.length - (i + 1) := by omega
      have bs5 : AllBare (s4.setGen g (.suspended k5 l5 c5 p5 fs5 cl5)).gens := allBare_setGen I4.bare hbare
      have g5 : (s4.setGen g (.suspended k5 l5 c5 p5 fs5 cl5)).gens[g]? = some (.suspended k5 l5 c5 p5 fs5 cl5) := setGen_at (by rw [setGen_size] at hsz; exact hsz)
      have I5 : Inv X pins σ2 H4 (s4.setGen g (.suspended k5 l5 c5 p5 fs5 cl5)) := inv_withG I4 bs5
      have ha5 : (s4.setGen g (.suspended k5 l5 c5 p5 fs5 cl5)).heap.get? a = some go := (keepA T : s4.heap.get? a = some go)
      have lv5 : Lv L ns ls' oL' (s4.setGen g (.suspended k5 l5 c5 p5 fs5 cl5)) := ⟨lv'.mem, lv'.hld, lv'.all, lv'.nc⟩
      generalize s4.setGen g (.suspended k5 l5 c5 p5 fs5 cl5) = s5 at bs5 g5 I5 ha5 lv5
      refine go_of ha5 hgo2 hgo3 (by decide) ?_
      have I5p : Inv X (pins ++ (a, go) :: ls') σ2 H4 s5 := I5.pins_of fun q hq => by
        rcases List.mem_append.mp hq with z | z
        · exact I5.pin q (List.mem_append_right _ z)
        · rcases List.mem_cons.mp z with z | z
          · subst z
            exact ⟨ha5, dead4 a hna nap, chgA.loc, chgA.fs, hcellgo⟩
          · exact ⟨lv5.hld q z, (chg' q z).2.1, (chg' q z).1.loc, (chg' q z).1.fs, lv5.nc q z⟩
      have x14 : Ex G1 G4 := ex2.trans ex4
      have hd : (items.map encIt)[i]? = some (encIt itm) := by rw [List.getElem?_map, him]; rfl
      refine wpAny_sleep (Q := fun _ s' => ∃ σ' H', Inv X.mute (pins ++ (a, go) :: ls') σ' H' s' ∧ ∃ ρ3, DSs Γ.mute body ρ3 { nx := Iv (i + 1), rt := P.rt, bk := P.nx, ct := Iv (i + 1) } ∧ Γ.mute.eo ρ3 σ' H' G4) (E := fun _ _ => False) I5.bare ?_ (fun _ s6 g6 hb6 hs6 q6 => ?_) fun _ _ _ _ z => z.elim
      · exact (LP.turn i _ ρ2 hd iv).run (pins ++ (a, go) :: ls') (withG s5 (s5.gens.map stuckOf)) σ2 H4 G4 (.ref p) (.ref p) (fun σ' H' => ∃ ρ3, DSs Γ.mute body ρ3 { nx := Iv (i + 1), rt := P.rt, bk := P.nx, ct := Iv (i + 1) } ∧ Γ.mute.eo ρ3 σ' H' G4)
          (inv_mute (inv_withG I5p (bare_stuck I5.bare))) rfl eo4 rv fun ρ' σ' z y _ => ⟨ρ', z, y⟩
      · obtain ⟨σ6, H6, I6, ρ6, hds, eo6⟩ := q6
        have I6 := inv_ofG I6 hb6
        have g6 := hs6 g _ _ _ _ _ _ g5
        refine wpAny_sleep (Q := SP X.mute (pins ++ (a, go) :: ls') { nx := fun σ' H' => ∃ ρ' G', Iv (i + 1) ρ' ∧ Γ.mute.eo ρ' σ' H' G' ∧ Ex G4 G', rt := Dd.rt, bk := Dd.nx, ct := fun σ' H' => ∃ ρ' G', Iv (i + 1) ρ' ∧ Γ.mute.eo ρ' σ' H' G' ∧ Ex G4 G' }) (E := fun _ _ => False) I6.bare ?_ (fun fl s7 g7 hb7 hs7 q7 => ?_) fun _ _ _ _ z => z.elim
        · refine hds.run (pins ++ (a, go) :: ls') (withG s6 (s6.gens.map stuckOf)) σ6 H6 G4 _ (inv_withG I6 (bare_stuck I6.bare)) eo6 ⟨fun ρ5 σ5 H5 G5 z y x => ⟨ρ5, G5, z, y, x⟩, fun d ρ5 v σ5 H5 G5 z y x r => hk.rt _ _ _ _ _ _ z y (ex1.trans (x14.trans x)) r, fun ρ5 σ5 H5 G5 z y x => hk.nx _ _ _ _ z y (ex1.trans (x14.trans x)), fun ρ5 σ5 H5 G5 z y x => ⟨ρ5, G5, z, y, x⟩⟩
        · have g7' := hs7 g _ _ _ _ _ _ g6
          have back : ∀ {σ7 : L2.St} {H7 : Hp}, Inv X.mute (pins ++ (a, go) :: ls') σ7 H7 (withG s7 g7) → Inv X (pins ++ (a, go) :: ls') σ7 H7 s7 := fun I7 => inv_loud (inv_ofG I7 hb7)
          have again : ∀ {σ7 : L2.St} {H7 : Hp}, Inv X.mute (pins ++ (a, go) :: ls') σ7 H7 (withG s7 g7) → (∃ ρ' G', Iv (i + 1) ρ' ∧ Γ.mute.eo ρ' σ7 H7 G' ∧ Ex G4 G') → ∃ m, m < items.length - i ∧ ∃ i ρ2 σ2 H2 G2 gs ls oL, m = items.length - i ∧ i ≤ items.length ∧ Inv X pins σ2 H2 s7 ∧ Γ.eo ρ2 σ2 H2 G2 ∧ Ex G1 G2 ∧ Iv i ρ2 ∧ s7.heap.get? a = some go ∧ H2 a = none ∧ s7.gens[g]? = some gs ∧ Lv L ns ls oL s7 ∧
              (∀ q ∈ ls, Chg X pins q.1 ∧ H2 q.1 = none ∧ q.1 ≠ a) ∧ GAll X.prog X.w X.K X.mg X.base X.A.in1 X.stack Gw L ns items gs (items.length - i) ls := fun {σ7 H7} I7 ⟨ρ7, G7, iv7, eo7, x7⟩ => by
            have I7 := back I7
            have pa := I7.pin (a, go) (List.mem_append_right _ (List.mem_append_right _ List.mem_cons_self))
            have pl : ∀ q ∈ ls', s7.heap.get? q.1 = some q.2 ∧ H7 q.1 = none := fun q hq => by
              have := I7.pin q (List.mem_append_right _ (List.mem_append_right _ (List.mem_cons_of_mem _ hq)))
              exact ⟨this.1, this.2.1⟩
            exact ⟨items.length - (i + 1), by omega, i + 1, ρ7, σ7, H7, G7, _, ls', oL', rfl, hlt, I7.unpinned, eo7, x14.trans x7, iv7, pa.1, pa.2.1, g7', ⟨lv5.mem, fun q hq => (pl q hq).1, lv5.all, lv5.nc⟩, fun q hq => ⟨(chg' q hq).1, (pl q hq).2, (chg' q hq).2.2⟩, hm ▸ ga'⟩
          cases fl with
          | next => obtain ⟨σ7, H7, I7, n7⟩ := q7; exact again I7 n7
          | cont => obtain ⟨σ7, H7, I7, n7⟩ := q7; exact again I7 n7
          | brk => obtain ⟨σ7, H7, I7, q7⟩ := q7; exact ⟨σ7, H7, (back I7).unpinned, q7⟩
          | ret v => obtain ⟨x7, σ7, H7, I7, r7, q7⟩ := q7; exact ⟨x7, σ7, H7, (back I7).unpinned, r7, q7⟩
  · -- its end
    obtain ⟨hn0, oL1, e1, T⟩ := hF
    obtain ⟨rfl, T⟩ := agen e1 T
    have I4 : Inv X pins σ2 H2 s4 := Inv.strd I3 T hGH hGt chs (.refl _) fun b o e => .inl e
    have hi : i = (items.map encIt).length := by rw [List.length_map]; omega
    have I5 : Inv X pins σ2 H2 { s4.setGen g .finished with heap := h' } := (inv_withG I4 (allBare_setGen I4.bare rfl)).kept (t' := s4.toks) hk'
    subst hi
    exact wpAny_execs_nil ⟨σ2, H2, I5, hk.nx _ _ _ _ (LP.done ρ2 iv) eo2 (ex1.trans ex2)⟩
end
end DL
namespace DL
open PySem PySem.Spec PyProof.Rows L2 GenW
/-! ### the steady tuples -/
def tupsOf (G : Hp) : Hp := fun b => match G b with
  | some (.tup xs) => some (.tup xs)
  | _ => none
theorem tupsOf_ex (G : Hp) : Ex (tupsOf G) G := fun b o h => by
  unfold tupsOf at h
  split at h
  · rename_i xs e; cases h; exact e
  · cases h
theorem tupsOf_tup (G : Hp) : ∀ b o, tupsOf G b = some o → ∃ xs, o = HO.tup xs := fun b o h => by
  unfold tupsOf at h
  split at h
  · rename_i xs e; cases h; exact ⟨xs, rfl⟩
  · cases h
mutual
def noL : D → Bool
  | .list _ => false
  | .tuple ds => noLs ds
  | _ => true
def noLs : List D → Bool
  | [] => true
  | d :: ds => noL d && noLs ds
end
mutual
theorem Rv.tups {G : Hp} : ∀ {d : D} {v : V}, noL d = true → Rv G v d → Rv (tupsOf G) v d
  | _, _, _, .non => .non
  | _, _, _, .bl b => .bl b
  | _, _, _, .int i => .int i
  | _, _, _, .str x => .str x
  | .list ds, _, n, .lst h hs => by simp [noL] at n
  | .tuple ds, _, n, .tup h hs => .tup (by unfold tupsOf; rw [h]) (RvA.tups (by rw [noL] at n; exact n) hs)
theorem RvA.tups {G : Hp} : ∀ {ds : List D} {vs : List V}, noLs ds = true → RvA G vs ds → RvA (tupsOf G) vs ds
  | [], _, _, .nil => .nil
  | _ :: _, _, n, .cons h hs => by
    rw [noLs, Bool.and_eq_true] at n
    exact .cons (Rv.tups n.1 h) (RvA.tups n.2 hs)
end
/-! ### slots -/
section
variable {H0 G0 H G : Hp} {ρ : Rho} {σ : L2.St}
theorem set_self {α : Type} {l : List α} {i : Nat} {a : α} (h : l[i]? = some a) : l.set i a = l := by
  obtain ⟨h1, h2⟩ := List.getElem?_eq_some_iff.mp h
  rw [← h2]; simp
/-- a slot is no more told of -/
theorem EO.drop (e : EO H0 G0 ρ σ H G) (i : Nat) : EO H0 G0 (ρ.set i none) σ H G := by
  by_cases hl : i < σ.length
  · have := e.forget i σ[i]
    rwa [set_self (List.getElem?_eq_getElem hl)] at this
  · have : ρ.set i none = ρ := List.set_eq_of_length_le (by rw [e.len]; omega)
    rw [this]; exact e
/-- a list of our own gets its address told -/
theorem EO.named (e : EO H0 G0 ρ σ H G) {i : Nat} {ds : List D} (h : ρ[i]? = some (some (.own none ds))) : ∃ a vs, σ[i]? = some (some (.ref a)) ∧ H a = some (.lst vs) ∧ RvA G vs ds ∧ G a = none ∧ H0 a = none ∧ EO H0 G0 (ρ.set i (some (.own (some a) ds))) σ H G := by
  obtain ⟨a, vs, h1, h2, h3, h4, h5⟩ := e.own i ds h
  have hl : i < ρ.length := (List.getElem?_eq_some_iff.mp h).1
  refine ⟨a, vs, h1, h2, h3, h4, h5, by simpa using e.len, e.h0, e.g0, e.gh, e.fr, fun j d q => ?_, fun {oa} j es q => ?_, fun {oa ob} j l es fs b q1 q2 q3 q4 => ?_, fun j b es q => ?_, fun j p q => ?_⟩
  · by_cases hj : i = j
    · subst hj; rw [List.getElem?_set_self hl] at q; cases q
    · rw [List.getElem?_set_ne hj] at q; exact e.im j d q
  · by_cases hj : i = j
    · subst hj; rw [List.getElem?_set_self hl] at q; cases q; exact ⟨a, vs, h1, h2, h3, h4, h5⟩
    · rw [List.getElem?_set_ne hj] at q; exact e.own j es q
  · have o1 : ∃ z ow, ρ[j]? = some (some (.own ow z)) := by
      by_cases hj : i = j
      · subst hj; exact ⟨_, _, h⟩
      · rw [List.getElem?_set_ne hj] at q1; exact ⟨_, _, q1⟩
    have o2 : ∃ z ow, ρ[l]? = some (some (.own ow z)) := by
      by_cases hj : i = l
      · subst hj; exact ⟨_, _, h⟩
      · rw [List.getElem?_set_ne hj] at q2; exact ⟨_, _, q2⟩
    obtain ⟨z1, w1, o1⟩ := o1
    obtain ⟨z2, w2, o2⟩ := o2
    exact e.sep j l z1 z2 b o1 o2 q3 q4
  · by_cases hj : i = j
    · subst hj; rw [List.getElem?_set_self hl] at q; cases q; exact h1
    · rw [List.getElem?_set_ne hj] at q; exact e.adr j b es q
  · by_cases hj : i = j
    · subst hj; rw [List.getElem?_set_self hl] at q; cases q
    · rw [List.getElem?_set_ne hj] at q; exact e.raw j p q
end
section
variable {X : Cx} {C : Addr} {Γ : Gm X C} {ρ : Rho} {pos p p2 : Pos} {k : D → Rho → Prop} {x : Str}
/-- tuple(xs), xs a list of our own that stays so -/
theorem de_tupleO (l : Nat) {oa : Option Addr} {ds : List D} (hl : ρ[l]? = some (some (.own oa ds))) (hm : X.mg "tuple" = none) (hk : k (.tuple ds) ρ) (hg : Gl X "tuple" := by rfl) (hN : X.N[l]? = some x := by rfl) (hv : Vis X.env.scope x := by first | exact Or.inl rfl | exact Or.inr (Or.inl rfl) | exact Or.inr (Or.inr rfl))
    (hd : (x == ("__debug__" : Str)) = false := by decide) (hcd : (x == ("__classdict__" : Str)) = false := by decide)
    (hs : starEach [.Name x p2] X.env = (false, eval (.Name x p2) X.env) :: starEach [] X.env := by rfl) : DE Γ (.Call (.Name "tuple" p) [.Name x p2] [] pos) ρ k :=
  de_of (pe_tupleOf hg hm (pe_var hN hv hd hcd) hs) fun σ H G Q eo hk' => by
    obtain ⟨b, vs, h1, h2, h3, _⟩ := eo.own l ds hl
    refine ⟨_, h1, .inl ⟨_, _, rfl, SqL.of h2, fun q hq => ?_⟩⟩
    obtain ⟨e2, x2⟩ := eo.allocG (o := .tup vs) hq
    exact hk' _ _ _ _ _ hk e2 x2 (.tup upd_same (h3.mono x2))
end
/-! ### a generator's plain statements -/
section
variable {X : Cx} {C : Addr} {Γ : Gm X C} {Aw : Around} {R : GenEnd} {Y : Protocol} {n : Nat} {s0 s : Shared} {c : Code} {fs : List Frame} {Kf : Flow → Sem PySem.Fin} {J : Value → Sem PySem.Fin} {gd : Bool → Bool} {lv : List Value → List Value} {σ : L2.St} {H G : Hp} {ρ : Rho} {M : Rho → Prop}
theorem seg_st {st : Stmt} (hx : ∀ e s, ¬ X.xe e s) (ov : Aw.over c fs = X.A) (h : DS Γ st ρ { nx := M, rt := fun _ _ => False }) (I : Inv X [] σ H s) (eo : Γ.eo ρ σ H G)
    (k : ∀ s' σ' H' G' ρ', Inv X [] σ' H' s' → Γ.eo ρ' σ' H' G' → Ex G G' → M ρ' → Seg (model X.prog X.w) Aw R Y n s0 c (Kf .next) fs s') : Seg (model X.prog X.w) Aw R Y n s0 c ((exec st X.env).wrap Kf J gd lv) fs s := by
  refine seg_wrap ?_
  rw [ov]
  refine wpAny_mono (h.run [] s σ H G { nx := fun σ' H' => ∃ ρ' G', M ρ' ∧ Γ.eo ρ' σ' H' G' ∧ Ex G G', rt := fun _ _ => False } I eo ⟨fun ρ' σ' H' G' z y x => ⟨ρ', G', z, y, x⟩, fun _ _ _ _ _ _ z => z.elim, fun _ _ _ _ z => z.elim, fun _ _ _ _ z => z.elim⟩) (fun f s' hs => ?_) fun e s' z => (hx e s' z).elim
  cases f with
  | next => obtain ⟨σ', H', I', ρ', G', z, y, x⟩ := hs; exact k s' σ' H' G' ρ' I' y x z
  | brk => obtain ⟨_, _, _, z⟩ := hs; exact z.elim
  | cont => obtain ⟨_, _, _, z⟩ := hs; exact z.elim
  | ret u => obtain ⟨_, _, _, _, _, z⟩ := hs; exact z.elim
theorem seg_sts {st : List Stmt} (hx : ∀ e s, ¬ X.xe e s) (ov : Aw.over c fs = X.A) (h : DSs Γ st ρ { nx := M, rt := fun _ _ => False }) (I : Inv X [] σ H s) (eo : Γ.eo ρ σ H G)
    (k : ∀ s' σ' H' G' ρ', Inv X [] σ' H' s' → Γ.eo ρ' σ' H' G' → Ex G G' → M ρ' → Seg (model X.prog X.w) Aw R Y n s0 c (Kf .next) fs s') : Seg (model X.prog X.w) Aw R Y n s0 c ((execs st X.env).wrap Kf J gd lv) fs s := by
  refine seg_wrap ?_
  rw [ov]
  refine wpAny_mono (h.run [] s σ H G { nx := fun σ' H' => ∃ ρ' G', M ρ' ∧ Γ.eo ρ' σ' H' G' ∧ Ex G G', rt := fun _ _ => False } I eo ⟨fun ρ' σ' H' G' z y x => ⟨ρ', G', z, y, x⟩, fun _ _ _ _ _ _ z => z.elim, fun _ _ _ _ z => z.elim, fun _ _ _ _ z => z.elim⟩) (fun f s' hs => ?_) fun e s' z => (hx e s' z).elim
  cases f with
  | next => obtain ⟨σ', H', I', ρ', G', z, y, x⟩ := hs; exact k s' σ' H' G' ρ' I' y x z
  | brk => obtain ⟨_, _, _, z⟩ := hs; exact z.elim
  | cont => obtain ⟨_, _, _, z⟩ := hs; exact z.elim
  | ret u => obtain ⟨_, _, _, _, _, z⟩ := hs; exact z.elim
end
/-- the judgements' ground within a stretch -/
noncomputable def Gm.gen (P : Program) (w : World) (K : PySem.W.Frag) (mg : Str → Option Value) (base : Heap) (N : List Str) (x : Str) (scope : Scope) (f C : Addr) (cdv : Value) (Aw : Around) (outer : List Env) (L : Addr) (Gw : Hp) (own : Own) (s : Shared) (nd : N.Nodup) : Gm (gX P w K mg base N x scope f cdv Aw outer L Gw own s) C where
  H0 := gB L Gw own s.heap
  G0 := Gw
  E := fun _ => E0
  err := fun _ _ => False
  tk := fun _ _ ⟨_, _, _, _, _, _, _, _, _, _, _, _, _, _, _, _, w⟩ => w.elim
  hE := fun _ _ _ _ _ _ h => h.elim
  pown := PassesOwn.never
  nd := nd
/-! ### the call of a generator def -/
structure Gf (P : Program) (w : World) (K : PySem.W.Frag) (mg : Str → Option Value) (base : Heap) (x p0 : Str) (lv : Nat) (Tg : D → List (List Int) → Prop) : Prop where
  ex : ∃ f fd, mg x = some (.ref f) ∧ PySem.W.keepIn K (.ref f) = true ∧ Binds K fd [p0] [] ∧ KBinds K fd [p0] [p0] (fun us ws => us ++ ws.reverse) (fun vs zs => vs ++ zs.reverse) ∧
    ∀ (A Aw : Around) (outer : List Env) (s : Shared) (H Gw : Hp) (args : Args) (u : Value) (v : V) (d : D) (items : List (List Int)), Room lv A → Aw.handled = none → Env0 P w K mg base A outer s H → BindsTo s fd args ([p0].zip [u]) → RelV v u → Ex Gw H → (∀ b o, Gw b = some o → ∃ xs, o = HO.tup xs) → Rv Gw v d → Tg d items →
      codeAny (model P w) A (.call (.ref f) args) (fun r s' => match r with
        | .ok (.ret u) => ∃ L ns a g, u = .ref a ∧ MadeAt P w K mg base Aw outer Gw L ns items s a g s'
        | _ => False) s
theorem gf_code {P : Program} {w : World} {K : PySem.W.Frag} {mg : Str → Option Value} {base : Heap} {x p0 : Str} {st : Stmt} {f : Addr} {fd : FuncData} {N : List Str} (F : FnP K x st f fd) (S : GScope N [p0] (defScope st)) (ns : List Str) (hns : ∀ n ∈ ns, n ≠ p0) (hloc : (defScope st).names.lookup p0 = some .local) {lv : Nat}
    {A Aw : Around} {outer : List Env} {s : Shared} {H Gw : Hp} {args : Args} {u : Value} {v : V} {items : List (List Int)} (hr : Room lv A) (e0 : Env0 P w K mg base A outer s H) (hb : BindsTo s fd args ([p0].zip [u])) (rv : RelV v u) (hG : Ex Gw H) (hGt : ∀ b o, Gw b = some o → ∃ xs, o = HO.tup xs)
    (hgo : ∀ (cdv : Value) (L : Addr) (m : Str → Option Value) (oL : Obj) (s2 : Shared), Rd P w K mg base Aw outer L Gw [] m s2 → m p0 = some u → s2.heap.get? L = some oL → mineO L ns oL = [L] →
      Seg (model P w) Aw (RG P w outer Gw L ns) (YG P w K mg base Aw outer Gw L ns items) items.length s2 (.func (defBody st) (gE x (defScope st) L f cdv)) ((model P w).den (.func (defBody st) (gE x (defScope st) L f cdv))) [] s2) :
    codeAny (model P w) A (.call (.ref f) args) (fun r s' => match r with
      | .ok (.ret u) => ∃ L ns a g, u = .ref a ∧ MadeAt P w K mg base Aw outer Gw L ns items s a g s'
      | _ => False) s := by
  obtain ⟨oc, od, dV, kV, doc, pm, an, cdv, ct, osl, rfl, lk, hcd, _, _⟩ := F.ex
  have KX : K.In s.heap := e0.mod.kin.keeps fun b o e => (e0.bs b o e).1
  have lim : s.heap.NoLimit := e0.mod.nolimit.keeps fun b o e => (e0.bs b o e).1
  have hkind : ∀ y ∈ [p0].zip [u], (defScope st).names.lookup y.1 = some .local ∨ ((defScope st).names.lookup y.1 = some .cell ∧ ((cellsFrom (s.heap.objs.size + 1) (defScope st).names []).lookup y.1).isSome = true) := fun ⟨n, v⟩ hy => by
    rcases S.par n (List.of_mem_zip hy).1 with q | q
    · exact .inl q
    · exact .inr ⟨q, PySem.W.cellsFrom_some _ _ _ (.inl q)⟩
  refine codeAny_call_generator hr.depth (KX _ _ lk) rfl S.co S.gen rfl (PySem.W.codeRec_of KX hcd) (hb _ _ _ _ ?_)
  refine wpAny_newFunctionEnv_cells S.kind hkind fun env he s1 xx => ?_
  subst he
  obtain ⟨h1, tk, es1, hk1⟩ := xx.done
  have kp1 : ∀ b o, s.heap.get? b = some o → s1.heap.get? b = some o := xx.toInCall.keep
  have hns1 : s1.heap.Ns s.heap.objs.size (bindL (envOfC x (defScope st) s.heap.objs.size f cdv).kindOf ([p0].zip [u]) (fun _ => none)) := xx.toInCall.ns
  refine ⟨lim.keeps kp1, ?_⟩
  have os1 : s1.os = s.os := by rw [es1]
  have gen1 : s1.gens = s.gens := by rw [es1]
  have lt1 : s.heap.objs.size < s1.heap.objs.size := hns1.lt
  have hm0 : bindL (envOfC x (defScope st) s.heap.objs.size f cdv).kindOf ([p0].zip [u]) (fun _ => none) p0 = some u := bindL_get (P := [p0]) (vs := [u]) (i := 0) (by simp) rfl rfl hloc
  have hmn : ∀ n ∈ ns, bindL (envOfC x (defScope st) s.heap.objs.size f cdv).kindOf ([p0].zip [u]) (fun _ => none) n = none := fun n hn => by
    rw [bindL_out fun w hw => ?_]
    have e : (n, w) = (p0, u) := by simpa using hw
    cases e
    exact hns p0 hn rfl
  obtain ⟨oL, es, ep, hoL, hdL, hsk, hfind⟩ := id hns1
  have mine : mineO s.heap.objs.size ns oL = [s.heap.objs.size] := by
    unfold mineO
    rw [hdL]
    have : (ns.flatMap fun n => refOf (nsFind es n)) = [] := by
      rw [List.flatMap_eq_nil_iff]
      intro n hn
      rw [hfind, hmn n hn]; rfl
    simp only [this]
  have dead : ∀ b, s.heap.objs.size ≤ b → s.heap.get? b = none := fun b hb => Heap.get?_none_of_le hb
  refine ⟨s.heap.objs.size, ns, s1.heap.objs.size, s1.gens.size, rfl, ⟨⟨_, _, _, Heap.get?_push_size _ rfl, rfl, rfl, rfl⟩, os1, AllBare.push (by rw [gen1]; exact e0.bare) rfl, fun b o e => Heap.get?_push_of_some _ (kp1 b o e), dead _ (Nat.le_of_lt lt1),
    _, [(s.heap.objs.size, oL)], oL, Array.getElem?_push_size .., ⟨List.mem_cons_self, fun q hq => ?_, fun b hb => ?_, fun q hq v z => ?_⟩, fun q hq => ?_, fun s2 hE hh => ⟨rfl, ?_⟩⟩⟩
  · rw [List.mem_singleton.mp hq]; exact Heap.get?_push_of_some _ hoL
  · rw [mine] at hb
    rw [List.mem_singleton.mp hb]; exact ⟨oL, List.mem_cons_self⟩
  · rw [List.mem_singleton.mp hq] at z
    rw [hdL] at z; cases z
  · rw [List.mem_singleton.mp hq]
    exact ⟨dead _ (Nat.le_refl _), Nat.ne_of_lt lt1⟩
  · have h2 := hh _ List.mem_cons_self
    refine hgo cdv s.heap.objs.size _ oL s2 ⟨hE, fun b o e => ⟨e0.hok.lt (hG b o e), hGt b o e⟩, fun b hb => ?_, e0.bsz, ⟨oL, es, ep, h2, hdL, hsk, hfind⟩, (fun b xs e => by cases e), (fun b hb => by cases hb)⟩ hm0 h2 mine
    obtain ⟨_, o, ho, _⟩ := e0.funs.mem hb
    exact Heap.lt_size ho
/-! ### such a call, walked over -/
section
variable {X : Cx} {C : Addr} {Γ : Gm X C} {e : Expr} {ρ : Rho} {pos p kp' : Pos} {k : List (List Int) → Rho → Prop} {x p0 : Str} {lv : Nat} {Tg : D → List (List Int) → Prop}
theorem dmk_call (F : Gf X.prog X.w X.K X.mg X.base x p0 lv Tg) (hr : Room lv X.A) (h : DE Γ e ρ (fun d ρ1 => noL d = true ∧ ∃ items, Tg d items ∧ k items ρ1)) (hg : Gl X x := by rfl) (hcalm : X.calm = true := by rfl)
    (hdb : (x == ("__debug__" : Str)) = false := by decide) (he : starEach [e] X.env = (false, eval e X.env) :: starEach [] X.env := by rfl) (hpl : (backTo pos (starEach [] X.env)).any (·.1) = false := by rfl) : DMk Γ (.Call (.Name x p) [e] [] pos) ρ k := by
  obtain ⟨f, fd, gm, kp, bd, _, run⟩ := F.ex
  refine ⟨fun pins s σ H G I eo => ?_⟩
  refine wpAny_Call_Name_kw (ld_glob I hg gm ?_ hdb)
  have hA : DA Γ [e] ρ (fun ds ρ1 => ∃ d, ds = [d] ∧ noL d = true ∧ ∃ items, Tg d items ∧ k items ρ1) := da_one (h.mono fun d ρ1 z => ⟨d, rfl, z⟩) he
  refine PySem.W.callWith_K (h₀ := X.base) I.ok.mod.kin kp (wpAny_mono (hA.run pos pins s σ H G (fun vs H1 => ∃ v d ρ1 G1 items, vs = [v] ∧ Γ.eo ρ1 σ H1 G1 ∧ Ex G G1 ∧ Rv G1 v d ∧ noL d = true ∧ Tg d items ∧ k items ρ1) I eo
    (fun ds ρ' vs H' G' z e1 x1 rs => ?_)) (fun us s1 hq => ?_) fun _ _ z => z) he hpl
  · obtain ⟨d, rfl, z1, items, z2, z3⟩ := z
    obtain ⟨v, rfl, r⟩ := rs.un
    exact ⟨v, d, ρ', G', items, rfl, e1, x1, r, z1, z2, z3⟩
  · obtain ⟨vs, H1, I1, r, v, d, ρ1, G1, items, rfl, eo1, x1, rv, z1, z2, z3⟩ := hq
    cases r with
    | @cons _ u _ us' ru rr =>
      cases rr
      refine ⟨I1.kIn, wpAny_call (codeAny_mono (run X.A X.A.in1 X.stack s1 H1 (tupsOf G1) ⟨[u], []⟩ u v d items hr (I1.ok.hd hcalm) I1.env0 (bd s1 [u] I1.kIn rfl) ru ((tupsOf_ex G1).trans eo1.gh) (tupsOf_tup G1) (rv.tups z1) z2) fun r' s' hq => ?_)⟩
      cases r' with
      | error e => exact hq.elim
      | ok fl =>
        cases fl with
        | ret u' =>
          obtain ⟨L, ns, a, g, e1, hM⟩ := hq
          exact ⟨items, ρ1, H1, G1, s1, tupsOf G1, L, ns, a, g, e1, z3, I1, eo1, x1, tupsOf_ex G1, tupsOf_tup G1, hM⟩
        | next => exact hq.elim
        | brk => exact hq.elim
        | cont => exact hq.elim
theorem dmk_callKw {kn : Option Str} (F : Gf X.prog X.w X.K X.mg X.base x p0 lv Tg) (hr : Room lv X.A) (h : DE Γ e ρ (fun d ρ1 => noL d = true ∧ ∃ items, Tg d items ∧ k items ρ1)) (hg : Gl X x := by rfl) (hcalm : X.calm = true := by rfl)
    (hall : (backToKw pos (keywordEach [⟨kn, e, kp'⟩] X.env)).all (·.1.isSome) = true := by rfl) (hks : (backToKw pos (keywordEach [⟨kn, e, kp'⟩] X.env)).filterMap (·.1) = [p0] := by rfl)
    (hdb : (x == ("__debug__" : Str)) = false := by decide) (hpl : ((backTo pos (starEach [] X.env)).any (·.1) || (backToKw pos (keywordEach [⟨kn, e, kp'⟩] X.env)).any (·.1.isNone)) = false := by rfl) :
    DMk Γ (.Call (.Name x p) [] [⟨kn, e, kp'⟩] pos) ρ k := by
  obtain ⟨f, fd, gm, kp, _, bd, run⟩ := F.ex
  refine ⟨fun pins s σ H G I eo => ?_⟩
  refine wpAny_Call_Name_kw (ld_glob I hg gm ?_ hdb)
  have hA : DKw Γ [⟨kn, e, kp'⟩] ρ (fun ds ρ1 => ∃ d, ds = [d] ∧ noL d = true ∧ ∃ items, Tg d items ∧ k items ρ1) := dkw_cons (h.mono fun d ρ1 z => dkw_nil ⟨d, rfl, z⟩)
  refine PySem.W.callWith_KW0 (h₀ := X.base) I.ok.mod.kin kp hall (wpAny_mono (hA.run pos pins s σ H G (fun vs H1 => ∃ v d ρ1 G1 items, vs = [v] ∧ Γ.eo ρ1 σ H1 G1 ∧ Ex G G1 ∧ Rv G1 v d ∧ noL d = true ∧ Tg d items ∧ k items ρ1) I eo
    (fun ds ρ' vs H' G' z e1 x1 rs => ?_)) (fun us s1 hq => ?_) fun _ _ z => z) hpl
  · obtain ⟨d, rfl, z1, items, z2, z3⟩ := z
    obtain ⟨v, rfl, r⟩ := rs.un
    exact ⟨v, d, ρ', G', items, rfl, e1, x1, r, z1, z2, z3⟩
  · obtain ⟨vs, H1, I1, r, v, d, ρ1, G1, items, rfl, eo1, x1, rv, z1, z2, z3⟩ := hq
    cases r with
    | @cons _ u _ us' ru rr =>
      cases rr
      rw [hks]
      refine ⟨I1.kIn, wpAny_call (codeAny_mono (run X.A X.A.in1 X.stack s1 H1 (tupsOf G1) ⟨[], [p0].zip [u]⟩ u v d items hr (I1.ok.hd hcalm) I1.env0 (bd.to s1 [] [u] I1.kIn rfl) ru ((tupsOf_ex G1).trans eo1.gh) (tupsOf_tup G1) (rv.tups z1) z2) fun r' s' hq => ?_)⟩
      cases r' with
      | error e => exact hq.elim
      | ok fl =>
        cases fl with
        | ret u' =>
          obtain ⟨L, ns, a, g, e1, hM⟩ := hq
          exact ⟨items, ρ1, H1, G1, s1, tupsOf G1, L, ns, a, g, e1, z3, I1, eo1, x1, tupsOf_ex G1, tupsOf_tup G1, hM⟩
        | next => exact hq.elim
        | brk => exact hq.elim
        | cont => exact hq.elim
end
end DL
namespace HL
open PySem PySem.Spec PyProof.Rows L2 DL GenW
/-! ### all_splits: its plain statements -/
abbrev gW : Stmt := (defBody s_all_splits).getD 3 (.Pass ⟨0, 0, 0, 0⟩)
abbrev gTest : Expr := match gW with | .While t _ _ _ => t | _ => .Constant .none 0 ⟨0, 0, 0, 0⟩
abbrev gBody : List Stmt := match gW with | .While _ b _ _ => b | _ => []
abbrev gRest : List Stmt := gBody.drop 1
theorem sc_all_splits : GScope N_all_splits P_all_splits (defScope s_all_splits) := ⟨rfl, rfl, rfl, by decide +kernel, rfl, by decide +kernel, by decide +kernel⟩
def rms (rows : List Row) : List Int := rows.map fun r => r.2.2
/-- the slots of all_splits -/
abbrev aR (ar as_ : Addr) (rows : List Row) (s : List Int) (b : Bool) (xp : Option Bd) : Rho :=
  [none, some (.own (some ar) ((rms rows).map .int)), some (.own (some as_) (s.map .int)), some (.im (.bool b)), xp, none]
section
variable {P : Program} {w : World} {K : PySem.W.Frag} {mg : Str → Option Value} {base : Heap} {f C : Addr} {cdv : Value} {Aw : Around} {outer : List Env} {L : Addr} {Gw : Hp} {own : Own} {s : Shared}
abbrev XA (P : Program) (w : World) (K : PySem.W.Frag) (mg : Str → Option Value) (base : Heap) (f : Addr) (cdv : Value) (Aw : Around) (outer : List Env) (L : Addr) (Gw : Hp) (own : Own) (s : Shared) : Cx := gX P w K mg base N_all_splits "all_splits" (defScope s_all_splits) f cdv Aw outer L Gw own s
theorem app_one {α : Type} {a : List α} (h : a ≠ []) : ∃ a' x, a = a' ++ [x] := ⟨_, _, (List.dropLast_concat_getLast h).symm⟩
theorem mid_at {α : Type} {a b : List α} {x : α} {n : Nat} (h : n = a.length) : (a ++ x :: b)[n]? = some x := by
  subst h; rw [List.getElem?_append_right (Nat.le_refl _), Nat.sub_self]; rfl
theorem mid_set {α : Type} {a b : List α} {x y : α} {n : Nat} (h : n = a.length) : (a ++ x :: b).set n y = a ++ y :: b := by
  subst h; rw [List.set_append_right _ _ (Nat.le_refl _), Nat.sub_self]; rfl
theorem ds_rest (B : Bi mg) (Γ : Gm (XA P w K mg base f cdv Aw outer L Gw own s) C) {ar as_ : Addr} {rows : List Row} {sp : List Int} (hr : ∀ r ∈ rows, 0 ≤ r.2.2) (hs : Sok rows sp) :
    DSs Γ gRest (aR ar as_ rows sp true none) { nx := fun ρ' => ∃ xp sp' b, (b = true → Sok rows sp' ∧ val rows sp' = val rows sp + 1) ∧ (b = false → val rows sp + 1 = tot rows) ∧ ρ' = aR ar as_ rows sp' b xp, rt := fun _ _ => False } := by
  refine dss_cons <| ds_set 4 <| de_sub <| de_lenO 1 rfl B.len <| de_int ⟨_, _, rfl, rfl, ?_⟩
  refine dss_cut (fun ρ => ∃ a b sp1, rows = a ++ b ∧ sp = sp1 ++ rms b ∧ sp1.length = a.length ∧ (a = [] ∨ ∃ a' r s' d, a = a' ++ [r] ∧ sp1 = s' ++ [d] ∧ d ≠ r.2.2) ∧ ρ = aR ar as_ rows (sp1 ++ List.replicate b.length 0) true (some (.im (.int ((a.length : Nat) - 1 : Int))))) ?_ ?_
  · refine ds_while (fun m ρ => ∃ a b sp1, m = a.length ∧ rows = a ++ b ∧ sp = sp1 ++ rms b ∧ sp1.length = a.length ∧ ρ = aR ar as_ rows (sp1 ++ List.replicate b.length 0) true (some (.im (.int ((a.length : Nat) - 1 : Int))))) rows.length ⟨rows, [], sp, rfl, by simp, by simp [rms], hs.1, ?_⟩ ?_
    · simp [aR, rms]
    · rintro m ρ1 ⟨a, b, sp1, rfl, ea, es, el, rfl⟩
      refine dt_bool <| dw_and <| dt_ge <| de_name 4 rfl <| de_int ⟨_, _, rfl, rfl, fun hc => ?_, fun hc => ?_⟩
      · have hc := of_decide_eq_true hc
        have ha : a ≠ [] := by rintro rfl; simp at hc
        obtain ⟨a', r, rfl⟩ := app_one ha
        have hs1 : sp1 ≠ [] := by rintro rfl; simp at el
        obtain ⟨s', d, rfl⟩ := app_one hs1
        have el' : s'.length = a'.length := by simpa using el
        have hpl : (((a' ++ [r]).length : Nat) - 1 : Int) = (a'.length : Nat) := by rw [List.length_append, List.length_singleton]; omega
        rw [hpl]
        have at2 : atI ((s' ++ [d] ++ List.replicate b.length (0 : Int)).map PyData.int) ((a'.length : Nat) : Int) = some (.int d) := at_of (by omega) (by
          rw [List.getElem?_map, List.append_assoc, List.singleton_append, mid_at (by rw [el']; rfl)]; rfl)
        have at1 : atI ((rms rows).map PyData.int) ((a'.length : Nat) : Int) = some (.int r.2.2) := at_of (by omega) (by
          rw [List.getElem?_map, ea]
          unfold rms
          rw [List.map_append, List.map_append, List.append_assoc, List.map_singleton, List.singleton_append, mid_at (by rw [List.length_map]; rfl)]; rfl)
        refine dw_and1 <| dt_eqI <| de_ixO 2 rfl <| de_name 4 rfl ⟨_, _, _, rfl, rfl, at2, de_ixO 1 rfl <| de_name 4 rfl ⟨_, _, _, rfl, rfl, at1, _, _, rfl, rfl, fun he => ?_, fun he => ?_⟩⟩
        · have he := of_decide_eq_true he
          subst he
          refine dss_cons <| ds_setI 2 rfl <| de_int ⟨⟨_, rfl⟩, de_name 4 rfl ⟨_, _, a'.length, rfl, rfl, ix_of (by omega) (by rw [List.length_map]; simp; omega), ?_⟩⟩
          refine dss_one <| ds_aug 4 ip_sub rfl <| de_int ⟨_, rfl, a'.length, by simp, a', r :: b, s', rfl, by rw [ea]; simp, by rw [es]; simp [rms], el', ?_⟩
          have e1 : ((s' ++ [r.2.2] ++ List.replicate b.length (0 : Int)).map PyData.int).set a'.length (.int 0) = (s' ++ List.replicate (r :: b).length (0 : Int)).map PyData.int := by
            rw [List.append_assoc, List.singleton_append, List.map_append, List.map_cons, mid_set (by rw [List.length_map, el']), List.length_cons, List.replicate_succ, List.map_append, List.map_cons]
          show [none, some (Bd.own (some ar) ((rms rows).map .int)), some (.own (some as_) (((s' ++ [r.2.2] ++ List.replicate b.length (0 : Int)).map PyData.int).set a'.length (.int 0))), some (.im (.bool true)), some (.im (.int (((a'.length : Nat) : Int) - 1))), none] = _
          rw [e1]
        · have he := of_decide_eq_false he
          exact ⟨a' ++ [r], b, s' ++ [d], ea, es, el, .inr ⟨a', r, s', d, rfl, rfl, he⟩, by rw [hpl]⟩
      · have hc := of_decide_eq_false hc
        have ha : a = [] := by
          cases a with
          | nil => rfl
          | cons r a => rw [List.length_cons] at hc; omega
        exact ⟨fun z => (by cases z), fun _ => ⟨a, b, sp1, ea, es, el, .inl ha, rfl⟩⟩
  rintro ρ1 ⟨a, b, sp1, ea, es, el, ex, rfl⟩
  refine dss_cons <| ds_set 3 <| de_ge <| de_name 4 rfl <| de_int ⟨_, _, rfl, rfl, ?_⟩
  rcases ex with rfl | ⟨a', r, s', d, rfl, rfl, hd⟩
  · have : sp1 = [] := List.length_eq_zero_iff.mp el
    subst this
    refine dss_one <| ds_if <| dt_val <| de_name 3 rfl ⟨_, rfl, fun h => by simp at h, fun _ => dss_nil ⟨_, _, false, (fun z => by cases z), fun _ => ?_, rfl⟩⟩
    rw [ea, es]
    exact val_max
  · have el' : s'.length = a'.length := by simpa using el
    have hpl : (((a' ++ [r]).length : Nat) - 1 : Int) = (a'.length : Nat) := by rw [List.length_append, List.length_singleton]; omega
    rw [hpl]
    have hge : decide ((0 : Int) ≤ ((a'.length : Nat) : Int)) = true := decide_eq_true (by omega)
    refine dss_one <| ds_if <| dt_val <| de_name 3 rfl ⟨_, rfl, fun _ => ?_, fun h => by rw [hge] at h; cases h⟩
    have e2 : ((s' ++ [d] ++ List.replicate b.length (0 : Int)).map PyData.int)[a'.length]? = some (.int d) := by
      rw [List.getElem?_map, List.append_assoc, List.singleton_append, mid_at el'.symm]; rfl
    refine dss_one <| ds_augS 2 ip_add rfl <| de_name 4 rfl ⟨_, _, a'.length, d, rfl, rfl, ix_of (by omega) (by rw [List.length_map]; simp; omega), e2, de_int ⟨_, rfl, rfl, ?_⟩⟩
    refine ⟨some (.im (.int ((a'.length : Nat) : Int))), s' ++ (d + 1) :: List.replicate b.length 0, true, fun _ => ?_, (fun z => by cases z), ?_⟩
    · have hs' : Sok (a' ++ r :: b) (s' ++ d :: b.map fun r => r.2.2) := by
        have := hs
        rw [ea, es] at this
        simpa [rms] using this
      have := val_carry (fun r z => hr r (by rw [ea]; simp [z])) hs' el' hd
      rw [ea, es]
      simpa [rms] using this
    · have e1 : ((s' ++ [d] ++ List.replicate b.length (0 : Int)).map PyData.int).set a'.length (.int (d + 1)) = (s' ++ (d + 1) :: List.replicate b.length (0 : Int)).map PyData.int := by
        rw [List.append_assoc, List.singleton_append, List.map_append, List.map_cons, mid_set (by rw [List.length_map, el']), List.map_append, List.map_cons]
      show [none, some (Bd.own (some ar) ((rms rows).map .int)), some (.own (some as_) (((s' ++ [d] ++ List.replicate b.length (0 : Int)).map PyData.int).set a'.length (.int (d + 1)))), some (.im (.bool (decide ((0 : Int) ≤ ((a'.length : Nat) : Int))))), some (.im (.int ((a'.length : Nat) : Int))), none] = _
      rw [e1, hge]
end
end HL
namespace HL
open PySem PySem.Spec PyProof.Rows L2 DL GenW
/-! ### all_splits: the run -/
abbrev nsA : List Str := ["rooms", "split"]
section
variable {ar as_ : Addr} {rows : List Row} {s : List Int} {b : Bool}
theorem aR_im {xp : Option Bd} {i : Nat} {d : D} (h : (aR ar as_ rows s b xp)[i]? = some (some (.im d))) : (i = 3 ∧ d = .bool b) ∨ i = 4 := by
  rcases i with _ | _ | _ | _ | _ | _ | i
  · cases h
  · cases h
  · cases h
  · cases h; exact .inl ⟨rfl, rfl⟩
  · exact .inr rfl
  · cases h
  · cases h
theorem aR_own {i : Nat} {oa : Option Addr} {ds : List D} (h : (aR ar as_ rows s b none)[i]? = some (some (.own oa ds))) : (i = 1 ∧ oa = some ar ∧ ds = (rms rows).map .int) ∨ (i = 2 ∧ oa = some as_ ∧ ds = s.map .int) := by
  rcases i with _ | _ | _ | _ | _ | _ | i
  · cases h
  · cases h; exact .inl ⟨rfl, rfl, rfl⟩
  · cases h; exact .inr ⟨rfl, rfl, rfl⟩
  · cases h
  · cases h
  · cases h
  · cases h
theorem aR_raw {i : Nat} {p : V → Prop} (h : (aR ar as_ rows s b none)[i]? = some (some (.raw p))) : False := by
  rcases i with _ | _ | _ | _ | _ | _ | i <;> cases h
end
def ownA (ar as_ : Addr) (rows : List Row) (s : List Int) : Own := [(ar, (rms rows).map V.int), (as_, s.map V.int)]
theorem ownA_1 {ar as_ : Addr} {rows : List Row} {s : List Int} : (ownA ar as_ rows s).lookup ar = some ((rms rows).map V.int) := by simp [ownA]
theorem ownA_2 {ar as_ : Addr} {rows : List Row} {s : List Int} (h : ar ≠ as_) : (ownA ar as_ rows s).lookup as_ = some (s.map V.int) := by
  have : (as_ == ar) = false := by simpa using Ne.symm h
  simp [ownA, List.lookup_cons, this]
theorem ownA_cases {ar as_ : Addr} {rows : List Row} {s : List Int} (h : ar ≠ as_) {b : Addr} {xs : List V} (e : (ownA ar as_ rows s).lookup b = some xs) : (b = ar ∧ xs = (rms rows).map V.int) ∨ (b = as_ ∧ xs = s.map V.int) := by
  have hb := look_mem e
  have : b = ar ∨ b = as_ := by simpa [ownA, oads] using hb
  rcases this with rfl | rfl
  · rw [ownA_1] at e; cases e; exact .inl ⟨rfl, rfl⟩
  · rw [ownA_2 h] at e; cases e; exact .inr ⟨rfl, rfl⟩
section
variable {L : Addr} {Gw H0 G0 H' G' : Hp} {h : Heap} {σ : L2.St} {ar as_ : Addr} {rows : List Row} {sp : List Int} {b : Bool}
theorem eo_wake (e : EO H0 G0 (aR ar as_ rows sp b none) σ H' G') (hne : ar ≠ as_) (h1 : Gw ar = none) (h2 : Gw as_ = none) (hg : Ex Gw (gH L Gw (ownA ar as_ rows sp) h)) :
    EO (gB L Gw (ownA ar as_ rows sp) h) Gw (aR ar as_ rows sp b none) σ (gH L Gw (ownA ar as_ rows sp) h) Gw where
  len := e.len
  h0 := gB_gH
  g0 := .refl _
  gh := hg
  fr := fun b o q z => by rw [z] at q; cases q
  im := fun i d q => by
    rcases aR_im q with ⟨rfl, rfl⟩ | rfl
    · obtain ⟨v, e1, e2⟩ := e.im 3 _ q
      cases e2
      exact ⟨_, e1, .bl b⟩
    · cases q
  own := fun {oa} i ds q => by
    rcases aR_own q with ⟨rfl, rfl, rfl⟩ | ⟨rfl, rfl, rfl⟩
    · exact ⟨ar, _, e.adr 1 ar _ q, gH_own ownA_1, RvA.ofInts, h1, gB_own (by simp [ownA, oads])⟩
    · exact ⟨as_, _, e.adr 2 as_ _ q, gH_own (ownA_2 hne), RvA.ofInts, h2, gB_own (by simp [ownA, oads])⟩
  sep := e.sep
  adr := e.adr
  raw := fun i p q => (aR_raw q).elim
end
section
variable {P : Program} {w : World} {K : PySem.W.Frag} {mg : Str → Option Value} {base : Heap} {f C : Addr} {cdv : Value} {Aw : Around} {outer : List Env} {L : Addr} {Gw : Hp}
abbrev eA (L f : Addr) (cdv : Value) : Env := gE "all_splits" (defScope s_all_splits) L f cdv
abbrev cA (L f : Addr) (cdv : Value) : Code := .func (defBody s_all_splits) (eA L f cdv)
abbrev lA (L f : Addr) (cdv : Value) : Code := .whileLoop gTest gBody [] (eA L f cdv)
theorem names_A : ∀ y, (defScope s_all_splits).names.lookup y ≠ some .cell ∧ (defScope s_all_splits).names.lookup y ≠ some .free := by
  have h : ∀ q ∈ (defScope s_all_splits).names, q.2 ≠ .cell ∧ q.2 ≠ .free := by decide +kernel
  intro y
  constructor
  · intro z; exact (h _ (PySem.mem_of_lookup z)).1 rfl
  · intro z; exact (h _ (PySem.mem_of_lookup z)).2 rfl
theorem cells_A (n : Nat) : ∀ y c, (cellsFrom n (defScope s_all_splits).names []).lookup y ≠ some c := fun y c z => by
  have e : cellsFrom n (defScope s_all_splits).names [] = [] := by rfl
  rw [e] at z; cases z
theorem seg_loop (B : Bi mg) (hd : Aw.handled = none) {rows : List Row} (hr : ∀ r ∈ rows, 0 ≤ r.2.2) (hlen : rows.length ≤ 1000) {kf : Result → Sem PySem.Fin} {l kp : List Value} {p : Pos}
    (hend : ∀ s0 s, FG P w outer Gw L nsA 0 s0 s → Seg (model P w) Aw (RG P w outer Gw L nsA) (YG P w K mg base Aw outer Gw L nsA (allS rows)) 0 s0 (cA L f cdv) (kf (.ok .next)) [] s) :
    ∀ (n i : Nat), i + n = tot rows → ∀ (own : Own) (m : Str → Option Value) (oL : Obj) (s0 s : Shared) (σ : L2.St) (H G : Hp) (sp : List Int) (xp : Option Bd) (ar as_ : Addr), Rd P w K mg base Aw outer L Gw own m s0 → s0.heap.get? L = some oL → mineO L nsA oL = L :: oads own → (∀ b ∈ oads own, b = ar ∨ b = as_) →
      Inv (XA P w K mg base f cdv Aw outer L Gw own s0) [] σ H s → EO (gB L Gw own s0.heap) Gw (aR ar as_ rows sp (decide (0 < n)) none) σ H G → (0 < n → Sok rows sp ∧ val rows sp = i) →
      Seg (model P w) Aw (RG P w outer Gw L nsA) (YG P w K mg base Aw outer Gw L nsA (allS rows)) n s0 (lA L f cdv) ((model P w).den (lA L f cdv)) [.ret kf none false l (cA L f cdv) p kp] s := by
  intro n
  have ov : Aw.over (lA L f cdv) [.ret kf none false l (cA L f cdv) p kp] = Aw.deeper (eA L f cdv) := (over_loop rfl rfl).trans over_func
  induction n with
  | zero =>
    intro i hi own m oL s0 s σ H G sp xp ar as_ R hoL hmine ho I eo hv
    refine seg_whileLoop ?_
    rw [ov]
    have hT : DT (Gm.gen P w K mg base N_all_splits "all_splits" (defScope s_all_splits) f L cdv Aw outer L Gw own s0 sc_all_splits.nd) gTest (aR ar as_ rows sp (decide (0 < 0)) none) (fun b ρ' => b = false) := dt_val <| de_name 3 rfl ⟨_, rfl, rfl⟩
    refine wpAny_mono (hT.run [] s σ H G (fun b H' => b = false ∧ Ex (gB L Gw own s0.heap) H') I eo fun b ρ' H' G' z y _ => ⟨z, y.h0⟩) (fun b s' hb => ?_) fun _ _ z => z.elim
    obtain ⟨H', I', rfl, x⟩ := hb
    rw [if_neg Bool.false_ne_true]
    refine seg_execs_nil ?_
    exact seg_leaf (.ok .next) (hend _ _ ⟨rfl, oL, hoL, by rw [hmine]; exact R.str I' x⟩)
  | succ n ih =>
    intro i hi own m oL s0 s σ H G sp xp ar as_ R hoL hmine ho I eo hv
    obtain ⟨hs, hval⟩ := hv (Nat.succ_pos n)
    refine seg_whileLoop ?_
    rw [ov]
    have hT : DT (Gm.gen P w K mg base N_all_splits "all_splits" (defScope s_all_splits) f L cdv Aw outer L Gw own s0 sc_all_splits.nd) gTest (aR ar as_ rows sp (decide (0 < n + 1)) none) (fun b ρ' => b = true ∧ ρ' = aR ar as_ rows sp true none) := dt_val <| de_name 3 rfl ⟨_, rfl, rfl, rfl⟩
    refine wpAny_mono (hT.run [] s σ H G (fun b H' => b = true ∧ ∃ G', EO (gB L Gw own s0.heap) Gw (aR ar as_ rows sp true none) σ H' G') I eo fun b ρ' H' G' ⟨z1, z2⟩ y _ => ⟨z1, G', z2 ▸ y⟩) (fun b s1 hb => ?_) fun _ _ z => z.elim
    obtain ⟨H1, I1, rfl, G1, eo1⟩ := hb
    rw [if_pos rfl]
    refine seg_execs_cons ?_
    refine seg_Expr_Yield rfl rfl rfl ?_
    rw [ov]
    have hY : DE (Gm.gen P w K mg base N_all_splits "all_splits" (defScope s_all_splits) f L cdv Aw outer L Gw own s0 sc_all_splits.nd) (match gBody with | .Expr (.Yield (some e) _) _ :: _ => e | _ => gTest) (aR ar as_ rows sp true none) (fun d ρ' => d = .tuple (sp.map .int) ∧ ρ' = aR ar as_ rows sp true none) := de_tupleO 2 rfl B.tuple ⟨rfl, rfl⟩
    refine wpAny_mono (hY.run [] s1 σ H1 G1 (fun v H' => ∃ G', EO (gB L Gw own s0.heap) Gw (aR ar as_ rows sp true none) σ H' G' ∧ Rv G' v (.tuple (sp.map .int))) I1 eo1 fun d ρ' v H' G' ⟨z1, z2⟩ y _ r => ⟨G', z2 ▸ y, z1 ▸ r⟩) (fun u s2 hu => ?_) fun _ _ z => z.elim
    obtain ⟨v, H2, I2, rv, G2, eo2, rt⟩ := hu
    cases rt with
    | @tup p2 vs _ hp2 rs =>
    obtain rfl := rs.ints
    have rv : u = .ref p2 := rv
    subst rv
    intro kap hkap
    -- where its lists stand
    have a1 := eo2.adr 1 ar _ rfl
    have a2 := eo2.adr 2 as_ _ rfl
    obtain ⟨b1, vs1, q1, q2, q3, q4, q5⟩ := eo2.own 1 _ (rfl : (aR ar as_ rows sp true none)[1]? = some (some (.own (some ar) ((rms rows).map .int))))
    rw [a1] at q1; cases q1
    obtain rfl := q3.ints
    obtain ⟨b2, vs2, r1, r2, r3, r4, r5⟩ := eo2.own 2 _ (rfl : (aR ar as_ rows sp true none)[2]? = some (some (.own (some as_) (sp.map .int))))
    rw [a2] at r1; cases r1
    obtain rfl := r3.ints
    have hne : ar ≠ as_ := by
      rintro rfl
      exact absurd (eo2.sep 1 2 _ _ ar rfl rfl a1 a2) (by decide)
    have gwn : ∀ b, G2 b = none → Gw b = none := fun b h => by
      cases q : Gw b with
      | none => rfl
      | some o => rw [eo2.g0 b o q] at h; cases h
    have hp2H := eo2.gh _ _ hp2
    have np1 : ar ≠ p2 := by rintro rfl; rw [q4] at hp2; cases hp2
    have np2 : as_ ≠ p2 := by rintro rfl; rw [r4] at hp2; cases hp2
    have npo : p2 ∉ oads own := fun z => by rcases ho _ z with e | e; exact np1 e.symm; exact np2 e.symm
    -- its frame
    obtain ⟨m2, hns2, hlook⟩ := id I2.loc
    obtain ⟨oL2, es2, ep2, hoL2, hdL2, hsk2, hfind2⟩ := id hns2
    have look : ∀ (i : Nat) (y : Str) (v : V), N_all_splits[i]? = some y → σ[i]? = some (some v) → (defScope s_all_splits).names.lookup y = some .local → ∃ u, RelV v u ∧ m2 y = some u := fun i y v h1 h2 h3 => by
      obtain ⟨u, z1, z2⟩ := hlook i y v h1 h2 (.inl h3)
      rcases z2 with ⟨_, z⟩ | ⟨_, c, z, _⟩
      · exact ⟨u, z1, z⟩
      · exact (cells_A (L + 1) y c z).elim
    have m1 : m2 "rooms" = some (.ref ar) := by
      obtain ⟨u, z1, z2⟩ := look 1 "rooms" _ rfl a1 (by decide +kernel)
      have z1 : u = .ref ar := z1
      rw [z2, z1]
    have m3 : m2 "split" = some (.ref as_) := by
      obtain ⟨u, z1, z2⟩ := look 2 "split" _ rfl a2 (by decide +kernel)
      have z1 : u = .ref as_ := z1
      rw [z2, z1]
    have mine2 : mineO L nsA oL2 = [L, ar, as_] := by
      unfold mineO
      rw [hdL2]
      show L :: (refOf (nsFind es2 "rooms") ++ (refOf (nsFind es2 "split") ++ [])) = _
      rw [hfind2, hfind2, m1, m3]; rfl
    obtain ⟨hl1, its1, n1, vr1, og1⟩ := I2.hok _ _ q2
    obtain ⟨hl2, its2, n2, vr2, og2⟩ := I2.hok _ _ r2
    have nb1 := R.nbase I2 q2
    have nb2 := R.nbase I2 r2
    have npL : L ≠ p2 := fun z => by
      have := I2.free
      rw [show (XA P w K mg base f cdv Aw outer L Gw own s0).env.locals = p2 from z, hp2H] at this; cases this
    have isI : i < tot rows := by omega
    have hspl : sp = spl rows i := by rw [← hval]; exact (spl_val hs).symm
    have fr2 : ∀ b xs, H2 b = some (.lst xs) → gB L Gw own s0.heap b = none → b ∈ mineO L nsA oL ∨ s0.heap.get? b = none := fun b xs h1 h2 => by
      rw [hmine]
      by_cases z : b ∈ oads own
      · exact .inl (List.mem_cons_of_mem _ z)
      · exact .inr (R.new I2 h1 h2 z)
    refine ⟨oL, p2, sp, hoL, ?_, ?_, rfl, by rw [hmine]; exact R.str I2 eo2.h0, I2.hok _ _ hp2H, ?_, [(L, oL2), (ar, { cls := .type "list", data := .seq its1.toArray n1 }), (as_, { cls := .type "list", data := .seq its2.toArray n2 })], oL2, ⟨List.mem_cons_self, fun q hq => ?_, fun b hb => ?_, fun q hq v z => ?_⟩, fun q hq => ?_, fun s3 hE hh => ?_⟩
    · rw [allS_len]
      have : tot rows - 1 - n = i := by omega
      rw [this, allS_get isI, hspl]
    · rw [allS_len]; omega
    · cases q : Gw p2 with
      | some o =>
        have := eo2.g0 _ _ q
        rw [hp2] at this; cases this
        exact .inl rfl
      | none => exact .inr (R.new I2 hp2H (eo2.fr p2 _ hp2 q) npo)
    · simp only [List.mem_cons, List.not_mem_nil, or_false] at hq
      rcases hq with rfl | rfl | rfl
      · exact hoL2
      · exact og1
      · exact og2
    · rw [mine2] at hb
      simp only [List.mem_cons, List.not_mem_nil, or_false] at hb
      rcases hb with rfl | rfl | rfl
      · exact ⟨_, List.mem_cons_self⟩
      · exact ⟨_, List.mem_cons_of_mem _ List.mem_cons_self⟩
      · exact ⟨_, List.mem_cons_of_mem _ (List.mem_cons_of_mem _ List.mem_cons_self)⟩
    · simp only [List.mem_cons, List.not_mem_nil, or_false] at hq
      rcases hq with rfl | rfl | rfl
      · rw [hdL2] at z; cases z
      · cases z
      · cases z
    · simp only [List.mem_cons, List.not_mem_nil, or_false] at hq
      rcases hq with rfl | rfl | rfl
      · exact ⟨.inl (by rw [hmine]; exact List.mem_cons_self), npL⟩
      · exact ⟨fr2 _ _ q2 q5, np1⟩
      · exact ⟨fr2 _ _ r2 r5, np2⟩
    · -- woken again
      have R3 : Rd P w K mg base Aw outer L Gw (ownA ar as_ rows sp) m2 s3 := ⟨hE, R.gw, R.lt, R.bz, ⟨oL2, es2, ep2, hh _ List.mem_cons_self, hdL2, hsk2, hfind2⟩, fun b xs e => by
        rcases ownA_cases hne e with ⟨rfl, rfl⟩ | ⟨rfl, rfl⟩
        · exact ⟨hl1, its1, n1, vr1, hh (_, _) (List.mem_cons_of_mem _ List.mem_cons_self)⟩
        · exact ⟨hl2, its2, n2, vr2, hh (_, _) (List.mem_cons_of_mem _ (List.mem_cons_of_mem _ List.mem_cons_self))⟩, fun b hb => by
        have : b = ar ∨ b = as_ := by simpa [ownA, oads] using hb
        rcases this with rfl | rfl
        · exact ⟨nb1.2.2, nb1.1, nb1.2.1, gwn _ q4⟩
        · exact ⟨nb2.2.2, nb2.1, nb2.2.1, gwn _ r4⟩⟩
      have I3 := R3.inv (N := N_all_splits) (x := "all_splits") (f := f) (cdv := cdv) sc_all_splits (cells_A (L + 1)) names_A hd look I2.len
      have eo3 := eo_wake (h := s3.heap) eo2 hne (gwn _ q4) (gwn _ r4) R3.gwH
      have go : Seg (model P w) Aw (RG P w outer Gw L nsA) (YG P w K mg base Aw outer Gw L nsA (allS rows)) n s3 (lA L f cdv) ((execs gRest (eA L f cdv)).wrap (fun f' => match f' with
            | .next | .cont => .pure (.again (lA L f cdv))
            | .brk => .pure (.done .next)
            | .ret v => .pure (.done (.ret v))) (fun e => (do noteFrame e (eA L f cdv); theTreesLotGoes e : Sem Unit).wrap (fun _ => .raise e) .raise id id) id id) [.ret kf none false l (cA L f cdv) p kp] s3 := by
        refine seg_sts (X := XA P w K mg base f cdv Aw outer L Gw (ownA ar as_ rows sp) s3) (fun e s z => z) ov (ds_rest B (Gm.gen P w K mg base N_all_splits "all_splits" (defScope s_all_splits) f L cdv Aw outer L Gw (ownA ar as_ rows sp) s3 sc_all_splits.nd) hr hs) I3 eo3 fun s4 σ4 H4 G4 ρ4 I4 eo4 _ ⟨xp4, sp4, b4, h1, h2, h3⟩ => ?_
        subst h3
        refine seg_again rfl (ih (i + 1) (by omega) (ownA ar as_ rows sp) m2 oL2 s3 s4 σ4 H4 G4 sp4 none ar as_ R3 (hh _ List.mem_cons_self) (by rw [mine2]; rfl) (fun b hb => by simpa [ownA, oads] using hb) I4 ?_ fun hn => ?_)
        · have hb4 : b4 = decide (0 < n) := by
            cases b4 with
            | true =>
              obtain ⟨z1, z2⟩ := h1 rfl
              have := val_lt z1
              exact (decide_eq_true (by omega)).symm
            | false =>
              have := h2 rfl
              exact (decide_eq_false (by omega)).symm
          rw [← hb4]
          exact eo4.drop 4
        · cases b4 with
          | true =>
            obtain ⟨z1, z2⟩ := h1 rfl
            exact ⟨z1, by omega⟩
          | false =>
            have := h2 rfl
            omega
      exact ⟨hkap .none s3 go, hkap (.bool true) s3 go⟩
end
end HL
namespace HL
open PySem PySem.Spec PyProof.Rows L2 DL GenW
/-! ### all_splits: its promise -/
abbrev T_all : D → List (List Int) → Prop := fun d items => ∃ w : Web, w.Ok ∧ d = encW w ∧ items = allS w.rows
section
variable {P : Program} {w : World} {K : PySem.W.Frag} {mg : Str → Option Value} {base : Heap} {f C : Addr} {fd : FuncData}
theorem gH_nil {L : Addr} {Gw : Hp} {h : Heap} : gH L Gw [] h = gB L Gw [] h := by funext b; rfl
theorem gf_all_splits (B : Bi mg) (hg : mg "all_splits" = some (.ref f)) (kp : PySem.W.keepIn K (.ref f) = true) (bd : Binds K fd P_all_splits []) (kb : KBinds K fd P_all_splits P_all_splits (fun us ws => us ++ ws.reverse) (fun vs zs => vs ++ zs.reverse))
    (F : FnP K "all_splits" s_all_splits f fd) : Gf P w K mg base "all_splits" "web" 1 T_all := by
  refine ⟨f, fd, hg, kp, bd, kb, fun A Aw outer s H Gw args u v d items hr hd e0 hb rv hG hGt rvw ⟨w0, hw, ed, ei⟩ => ?_⟩
  subst ed ei
  refine gf_code F sc_all_splits nsA (by decide) (by decide +kernel) hr e0 hb rv hG hGt fun cdv L m oL s2 R hm hoL hmine => ?_
  rw [allS_len]
  have hrows : ∀ r ∈ w0.rows, 0 ≤ r.2.2 := fun r hr => by have := hw.row r hr; omega
  have h7 := hw.r7
  have look : ∀ (i : Nat) (y : Str) (v' : V), N_all_splits[i]? = some y → (start N_all_splits [v])[i]? = some (some v') → (defScope s_all_splits).names.lookup y = some .local → ∃ u, RelV v' u ∧ m y = some u := fun i y v' h1 h2 _ => by
    rcases i with _ | _ | _ | _ | _ | _ | i
    · cases h1; cases h2; exact ⟨u, rv, hm⟩
    · cases h2
    · cases h2
    · cases h2
    · cases h2
    · cases h2
    · cases h2
  have I := R.inv (N := N_all_splits) (x := "all_splits") (f := f) (cdv := cdv) sc_all_splits (cells_A (L + 1)) names_A hd look rfl
  have eo : EO (gB L Gw [] s2.heap) Gw (startR N_all_splits [encW w0]) (start N_all_splits [v]) (gH L Gw [] s2.heap) Gw := by
    rw [gH_nil]
    exact eo_start (gH_nil ▸ R.gwH) (.cons rvw .nil)
  have ov : Aw.over (cA L f cdv) [] = Aw.deeper (eA L f cdv) := over_func
  refine seg_func ?_
  refine seg_execs_cons ?_
  refine seg_st (X := XA P w K mg base f cdv Aw outer L Gw [] s2) (Γ := Gm.gen P w K mg base N_all_splits "all_splits" (defScope s_all_splits) f L cdv Aw outer L Gw [] s2 sc_all_splits.nd) (M := fun ρ => ρ = [some (.im (encW w0)), some (.own none ((rms w0.rows).map .int)), none, none, none, none]) (fun e s z => z) ov ?_ I eo fun s3 σ3 H3 G3 ρ3 I3 eo3 _ e3 => ?_
  · refine ds_setLc 1 [("line", 5)] (by decide) (by rfl) (di_tup <| de_w1 0 rfl ⟨_, rfl, lc_map (fun d => match d with | .tuple [_, _, c] => c | _ => .none) (by rw [List.length_map]; omega) rfl (fun i d hi => ?_) ?_⟩) (hsw := by rfl)
    · obtain ⟨r, hr', rfl⟩ := rows_at hi
      exact ct_map (fun _ _ _ _ _ _ => dg_name 5 rfl) (fun _ _ _ _ _ _ => de_r2 5 rfl ⟨rfl, rfl⟩)
    · show [some (Bd.im (encW w0)), some (.own none _), none, none, none, none] = _
      have : (w0.rows.map encR).map (fun d => match d with | .tuple [_, _, c] => c | _ => .none) = (rms w0.rows).map .int := by
        unfold rms; rw [List.map_map, List.map_map]; rfl
      rw [this]
  subst e3
  refine seg_execs_cons ?_
  refine seg_st (X := XA P w K mg base f cdv Aw outer L Gw [] s2) (Γ := Gm.gen P w K mg base N_all_splits "all_splits" (defScope s_all_splits) f L cdv Aw outer L Gw [] s2 sc_all_splits.nd) (M := fun ρ => ρ = [some (.im (encW w0)), some (.own none ((rms w0.rows).map .int)), some (.own none (List.replicate w0.rows.length (.int 0))), none, none, none]) (fun e s z => z) ov ?_ I3 eo3 fun s4 σ4 H4 G4 ρ4 I4 eo4 _ e4 => ?_
  · refine ds_setN 2 <| dn_rep <| de_new <| dn_list <| da_one <| de_int ⟨Nat.le_of_ble_eq_true rfl, de_lenO 1 rfl B.len ⟨_, _, rfl, rfl, by omega, ?_, ?_⟩⟩
    · simp only [rms, List.length_map]; omega
    · simp only [rms, List.length_map, Int.toNat_natCast]; rfl
  subst e4
  refine seg_execs_cons ?_
  refine seg_st (X := XA P w K mg base f cdv Aw outer L Gw [] s2) (Γ := Gm.gen P w K mg base N_all_splits "all_splits" (defScope s_all_splits) f L cdv Aw outer L Gw [] s2 sc_all_splits.nd) (M := fun ρ => ρ = [some (.im (encW w0)), some (.own none ((rms w0.rows).map .int)), some (.own none (List.replicate w0.rows.length (.int 0))), some (.im (.bool true)), none, none]) (fun e s z => z) ov ?_ I4 eo4 fun s5 σ5 H5 G5 ρ5 I5 eo5 _ e5 => ?_
  · exact ds_set 3 <| de_bl rfl
  subst e5
  obtain ⟨ar, _, _, _, _, _, _, eo6⟩ := eo5.named (i := 1) rfl
  obtain ⟨as_, _, _, _, _, _, _, eo7⟩ := eo6.named (i := 2) rfl
  have eo8 := eo7.drop 0
  refine seg_execs_cons ?_
  refine seg_While fun p => ?_
  obtain ⟨z1, z2⟩ := Sok.zero hrows
  refine seg_loop B hd hrows (by omega) (fun s0 s hF => ?_) (tot w0.rows) 0 (Nat.zero_add _) [] m oL s2 s5 σ5 H5 G5 (List.replicate w0.rows.length 0) none ar as_ R hoL hmine (fun b hb => by cases hb) I5 ?_ fun _ => ⟨z1, z2⟩
  · exact seg_end (.ok (.ret .none)) (.inl ⟨.inl rfl, hF⟩)
  · have e1 : decide (0 < tot w0.rows) = true := decide_eq_true (tot_pos _)
    have e2 : (List.replicate w0.rows.length (0 : Int)).map PyData.int = List.replicate w0.rows.length (.int 0) := by simp
    rw [e1]
    show EO _ _ [none, some (Bd.own (some ar) ((rms w0.rows).map .int)), some (.own (some as_) ((List.replicate w0.rows.length (0 : Int)).map .int)), some (.im (.bool true)), none, none] _ _ _
    rw [e2]
    exact eo8
end
end HL
namespace DL
open PySem PySem.Spec PyProof.Rows L2
theorem swaps_list {es : List Expr} {pos : Pos} {t : Option Expr} {l : Nat} {env : Env} : swapsWith (.List es pos) t l env = pure false := by rfl
theorem folded_list {es : List Expr} {pos : Pos} {env : Env} (x : Value) : foldedSetIterable (.List es pos) env x = pure x := by rfl
section
variable {X : Cx} {C : Addr} {Γ : Gm X C} {a b c : Expr} {ρ : Rho} {pos : Pos}
/-- a <= b < c -/
theorem dt_leLt {k : Bool → Rho → Prop} (h : DE Γ a ρ (fun x ρ1 => DE Γ b ρ1 (fun y ρ2 => II x y fun i j => (i ≤ j → DE Γ c ρ2 (fun z ρ3 => ∃ l, z = .int l ∧ k (decide (j < l)) ρ3)) ∧ (¬ i ≤ j → k false ρ2))))
    (hm : lastMarks [.LtE, .Lt] [b, c] = false := by with_unfolding_all rfl) : DT Γ (.Compare a [.LtE, .Lt] [b, c] pos) ρ k :=
  dt_of (pt_chain op_le op_lt (pe_U Γ a) (pe_U Γ b) (pe_U Γ c) hm) fun σ H G Q eo hk => ⟨ρ, G, _, h, eo, fun x ρ1 u H1 G1 hm1 eo1 ex1 ru => ⟨ρ1, G1, _, hm1, eo1, fun y ρ2 v H2 G2 ⟨i, j, e1, e2, hy, hn⟩ eo2 ex2 rv => by
    subst e1; subst e2; cases ru; cases rv
    refine ⟨i, j, rfl, rfl, _, rfl, ?_⟩
    by_cases hij : i ≤ j
    · rw [decide_eq_true hij, if_pos rfl]
      refine ⟨ρ2, G2, _, hy hij, eo2, fun z ρ3 w H3 G3 ⟨l, e3, hz⟩ eo3 ex3 rw' => ?_⟩
      subst e3; cases rw'
      exact ⟨j, l, rfl, rfl, _, rfl, hk _ _ _ _ hz eo3 (ex1.trans (ex2.trans ex3))⟩
    · rw [decide_eq_false hij, if_neg Bool.false_ne_true]
      exact ⟨false, rfl, hk _ _ _ _ (hn hij) eo2 (ex1.trans ex2)⟩⟩⟩
/-- a <= b <= c -/
theorem dt_leLe {k : Bool → Rho → Prop} (h : DE Γ a ρ (fun x ρ1 => DE Γ b ρ1 (fun y ρ2 => II x y fun i j => (i ≤ j → DE Γ c ρ2 (fun z ρ3 => ∃ l, z = .int l ∧ k (decide (j ≤ l)) ρ3)) ∧ (¬ i ≤ j → k false ρ2))))
    (hm : lastMarks [.LtE, .LtE] [b, c] = false := by with_unfolding_all rfl) : DT Γ (.Compare a [.LtE, .LtE] [b, c] pos) ρ k :=
  dt_of (pt_chain op_le op_le (pe_U Γ a) (pe_U Γ b) (pe_U Γ c) hm) fun σ H G Q eo hk => ⟨ρ, G, _, h, eo, fun x ρ1 u H1 G1 hm1 eo1 ex1 ru => ⟨ρ1, G1, _, hm1, eo1, fun y ρ2 v H2 G2 ⟨i, j, e1, e2, hy, hn⟩ eo2 ex2 rv => by
    subst e1; subst e2; cases ru; cases rv
    refine ⟨i, j, rfl, rfl, _, rfl, ?_⟩
    by_cases hij : i ≤ j
    · rw [decide_eq_true hij, if_pos rfl]
      refine ⟨ρ2, G2, _, hy hij, eo2, fun z ρ3 w H3 G3 ⟨l, e3, hz⟩ eo3 ex3 rw' => ?_⟩
      subst e3; cases rw'
      exact ⟨j, l, rfl, rfl, _, rfl, hk _ _ _ _ hz eo3 (ex1.trans (ex2.trans ex3))⟩
    · rw [decide_eq_false hij, if_neg Bool.false_ne_true]
      exact ⟨false, rfl, hk _ _ _ _ (hn hij) eo2 (ex1.trans ex2)⟩⟩⟩
theorem ds_mid {st : Stmt} {P : Post} (M : Rho → Prop) (h : DS Γ st ρ { P with nx := M }) (h2 : ∀ ρ1, M ρ1 → P.nx ρ1) : DS Γ st ρ P :=
  .mk fun pins s σ H G Dd I eo hk => h.run pins s σ H G Dd I eo ⟨fun ρ1 σ1 H1 G1 m e x => hk.nx ρ1 σ1 H1 G1 (h2 ρ1 m) e x, hk.rt, hk.bk, hk.ct⟩
end
end DL
namespace HL
open PySem PySem.Spec PyProof.Rows L2 DL GenW
/-! ### the list of all splits -/
theorem rm_le {r : Row} : ∀ {rows : List Row}, r ∈ rows → rm r ≤ tot rows
  | [], h => by simp at h
  | a :: rows, h => by
    have hp := tot_pos rows
    show rm r ≤ rm a * tot rows
    rcases List.mem_cons.mp h with rfl | h
    · exact Nat.le_mul_of_pos_right _ hp
    · exact Nat.le_trans (rm_le h) (Nat.le_mul_of_pos_left _ (Nat.succ_pos _))
abbrev T_law_listed : DL.Tm := fun ds r e => ∃ w : Web, w.Ok ∧ tot w.rows ≤ 10000 ∧ ds = [encW w, .int (tot w.rows : Nat)] ∧ r = is (.list ((allS w.rows).map encIt)) ∧ e = noE
theorem noL_W (w : Web) : noL (encW w) = true := by
  have h : ∀ rows : List Row, noLs (rows.map encR) = true := fun rows => by
    induction rows with
    | nil => rfl
    | cons r rows ih => show (noL (encR r) && noLs (rows.map encR)) = true; rw [ih]; rfl
  show (noL (.int (w.n : Nat)) && (noL (.tuple (w.rows.map encR)) && noLs [])) = true
  have : noL (.tuple (w.rows.map encR)) = true := h _
  rw [this]; rfl
theorem items_get {rows : List Row} {i : Nat} {d : D} (h : ((allS rows).map encIt)[i]? = some d) : i < tot rows ∧ d = encIt (spl rows i) := by
  have hl := (List.getElem?_eq_some_iff.mp h).1
  rw [List.length_map, allS_len] at hl
  rw [List.getElem?_map, allS_get hl] at h
  cases h
  exact ⟨hl, rfl⟩
/-- the number so far -/
def numAt (rows : List Row) (s : List Int) (k : Nat) : Int := ((rows.zip s).take k).foldl (fun (a : Int) p => a * (p.1.2.2 + 1) + p.2) 0
theorem numAt_next {rows : List Row} {s : List Int} {k : Nat} {r : Row} {d : Int} (h1 : rows[k]? = some r) (h2 : s[k]? = some d) : numAt rows s (k + 1) = numAt rows s k * (r.2.2 + 1) + d := by
  unfold numAt
  have h : (rows.zip s)[k]? = some (r, d) := by rw [List.getElem?_zip_eq_some]; exact ⟨h1, h2⟩
  rw [take_next h, List.foldl_append]; rfl
theorem numAt_all {rows : List Row} {s : List Int} (h : Sok rows s) : numAt rows s s.length = (val rows s : Nat) := by
  unfold numAt
  rw [List.take_of_length_le (by rw [List.length_zip, h.1]; omega), val_fold 0 h]; omega
section
variable {P : Program} {w : World} {K : PySem.W.Frag} {mg : Str → Option Value} {base : Heap} {f C : Addr} {fd : FuncData}
theorem ok_law_listed (B : Bi mg) (Li : Df P w K mg base "_law_int" P_law_int 1 (spT C T_law_int)) (La : Gf P w K mg base "all_splits" "web" 1 T_all) (F : FnP K "_law_listed" s_law_listed f fd) : FnOk P w K mg base (L2.CX P w) 3 f fd P_law_listed (spT C T_law_listed) := by
  refine fn_ok F sc_law_listed (fun ds r e ⟨w, _, _, h, _⟩ => by rw [h]; rfl) fun cdv A outer s0 H E Γ hr ds r e ⟨w, hw, ht, ed, er, ee⟩ herr => ?_
  subst ed er ee
  have hr1 := hr.mono (show 1 ≤ 2 by decide)
  have h7 := hw.r7
  have hrows : ∀ r ∈ w.rows, 0 ≤ r.2.2 := fun r hr => by have := hw.row r hr; omega
  refine dss_cons <| ds_setN 2 <| dn_list <| da_nil ⟨Nat.le_of_ble_eq_true rfl, ?_⟩
  refine dss_cut (fun ρ => ∃ x3 x4 x5, ρ = [some (.im (encW w)), some (.im (.int (tot w.rows : Nat))), some (.own none ((allS w.rows).map encIt)), x3, x4, x5]) ?_ ?_
  · refine ds_forG [3] hr.depth (dmk_call La hr1 <| de_name 0 rfl ⟨noL_W w, _, ⟨w, hw, rfl, rfl⟩,
      fun i ρ => ∃ x3 x4 x5, ρ = [some (.im (encW w)), some (.im (.int (tot w.rows : Nat))), some (.own none (((allS w.rows).map encIt).take i)), x3, x4, x5], ⟨_, _, _, rfl⟩, ?_, ?_⟩)
    · rintro i d ρ2 hi ⟨x3, x4, x5, rfl⟩
      obtain ⟨hlt, rfl⟩ := items_get hi
      obtain ⟨hs, hval⟩ := spl_ok hrows hlt
      generalize hsp : spl w.rows i = sp at hi hs hval
      have gl : (((allS w.rows).map encIt).take i).length = i := by rw [List.length_take, List.length_map, allS_len]; omega
      refine dg_name 3 <| dss_cons <| ds_if <| dt_ge <| de_lenO 2 rfl B.len <| de_name 1 rfl ⟨_, _, rfl, rfl, fun z => ?_, fun _ => dss_nil ?_⟩
      · have := of_decide_eq_true z
        rw [gl] at this; omega
      have hl := hs.1
      refine dss_cons <| ds_if <| dt_bool <| dw_or <| dt_not <| dt_val <| de_isiT B.isinstance B.tuple <| de_name 3 rfl ⟨_, rfl, fun z => by simp [isTup, encIt] at z, fun _ => dw_or1 <| dt_neI <| de_lenT B.len <| de_name 3 rfl ⟨_, rfl, de_lenT B.len <| de_w1 0 rfl ⟨_, rfl, _, _, rfl, rfl, fun z => ?_, fun _ => dss_nil ?_⟩⟩⟩
      · have := of_decide_eq_true z
        rw [List.length_map, List.length_map] at this; omega
      refine dss_cons <| ds_set 4 <| de_int ?_
      refine dss_cut (fun ρ => ∃ x5, ρ = [some (.im (encW w)), some (.im (.int (tot w.rows : Nat))), some (.own none (((allS w.rows).map encIt).take i)), some (.im (encIt sp)), some (.im (.int (numAt w.rows sp sp.length))), x5]) ?_ ?_
      · refine ds_for [5] <| di_range B.range <| de_lenT B.len <| de_name 3 rfl ⟨_, rfl, _, rfl, by omega, by rw [List.length_map]; omega,
          fun k ρ => ∃ x5, ρ = [some (.im (encW w)), some (.im (.int (tot w.rows : Nat))), some (.own none (((allS w.rows).map encIt).take i)), some (.im (encIt sp)), some (.im (.int (numAt w.rows sp k))), x5], ⟨_, rfl⟩, ?_, ?_⟩
        · rintro k d ρ3 hk ⟨x5, rfl⟩
          obtain ⟨hk', rfl⟩ := upto_get hk
          have hk' : k < sp.length := by simpa using hk'
          obtain ⟨r, hr'⟩ : ∃ r, w.rows[k]? = some r := ⟨_, List.getElem?_eq_getElem (by omega)⟩
          obtain ⟨d, hd⟩ : ∃ d, sp[k]? = some d := ⟨_, List.getElem?_eq_getElem hk'⟩
          have hz := hs.2 (r, d) (List.mem_of_getElem? (List.getElem?_zip_eq_some.mpr ⟨hr', hd⟩))
          have hrm := rm_le (List.mem_of_getElem? hr')
          have hr0 := hrows r (List.mem_of_getElem? hr')
          have row_at : atI (w.rows.map encR) ((k : Nat) : Int) = some (encR r) := at_of (by omega) (by rw [List.getElem?_map]; show Option.map _ w.rows[k]? = _; rw [hr']; rfl)
          have half_at : atI (sp.map PyData.int) ((k : Nat) : Int) = some (.int d) := at_of (by omega) (by rw [List.getElem?_map]; show Option.map _ sp[k]? = _; rw [hd]; rfl)
          refine dg_name 5 <| dss_cons <| ds_if <| dt_bool <| dw_or <| dt_not <| dt_val <| de_call Li hr1 <| da_one <| de_ixT <| de_name 3 rfl <| de_name 5 rfl ⟨_, _, _, rfl, rfl, half_at, _, _, ⟨_, rfl, rfl, rfl⟩, (fun _ z => z.elim), ?_⟩
          rintro d' rfl
          refine ⟨_, rfl, fun z => by simp [isI] at z, fun _ => dw_or1 <| dt_not <| dt_leLe <| de_int <| de_ixT <| de_name 3 rfl <| de_name 5 rfl ⟨_, _, _, rfl, rfl, half_at, _, _, rfl, rfl, fun h1 => de_ixT <| de_ixT <| de_w1 0 rfl <| de_name 5 rfl ⟨_, _, _, rfl, rfl, row_at, de_int ⟨_, _, _, rfl, rfl, rfl, _, rfl, fun hb => ?_, fun hb => dss_nil ?_⟩⟩, fun h1 => (h1 hz.1).elim⟩⟩
          · have : decide (d ≤ r.2.2) = true := decide_eq_true hz.2
            rw [this] at hb; cases hb
          refine dss_one <| ds_set 4 <| de_add <| de_mul <| de_name 4 rfl <| de_add <| de_ixT <| de_ixT <| de_w1 0 rfl <| de_name 5 rfl ⟨_, _, _, rfl, rfl, row_at, de_int ⟨_, _, _, rfl, rfl, rfl, de_int ⟨_, _, rfl, rfl, _, _, rfl, rfl, .inr ⟨?_, ?_⟩, de_ixT <| de_name 3 rfl <| de_name 5 rfl ⟨_, _, _, rfl, rfl, half_at, _, _, rfl, rfl, some (.im (.int ((k : Nat) : Int))), ?_⟩⟩⟩⟩
          · omega
          · unfold rm at hrm; omega
          · rw [numAt_next hr' hd]; rfl
        · rintro ρ3 ⟨x5, rfl⟩
          rw [upto_len]
          exact ⟨x5, by simp⟩
      rintro ρ3 ⟨x5, rfl⟩
      rw [numAt_all hs, hval]
      refine dss_cons <| ds_if <| dt_neI <| de_name 4 rfl <| de_lenO 2 rfl B.len ⟨_, _, rfl, rfl, fun z => ?_, fun _ => dss_nil ?_⟩
      · have := of_decide_eq_true z
        rw [gl] at this; exact (this rfl).elim
      refine dss_one <| ds_append 2 rfl <| de_name 3 rfl ⟨_, rfl, by rw [gl, sizeLine_eq]; omega, ?_⟩
      refine ⟨some (.im (encIt sp)), some (.im (.int ((i : Nat) : Int))), x5, ?_⟩
      rw [take_next hi]; rfl
    · rintro ρ2 ⟨x3, x4, x5, rfl⟩
      rw [List.take_length]
      exact ⟨_, _, _, rfl⟩
  rintro ρ1 ⟨x3, x4, x5, rfl⟩
  refine dss_cons <| ds_if <| dt_neI <| de_lenO 2 rfl B.len <| de_name 1 rfl ⟨_, _, rfl, rfl, fun z => ?_, fun _ => dss_nil ?_⟩
  · have := of_decide_eq_true z
    rw [List.length_map, allS_len] at this; exact (this rfl).elim
  exact dss_one <| ds_ret <| de_own 2 rfl rfl
end
end HL
namespace HL
open PySem PySem.Spec PyProof.Rows L2 DL GenW
/-! ### two webs by turns -/
abbrev T_law_turns : DL.Tm := fun ds r e => ∃ w : Web, w.Ok ∧ tot w.rows ≤ 10000 ∧ ds = [encW w, .list ((allS w.rows).map encIt)] ∧ r = is (.bool true) ∧ e = noE
def web2 : Web := ⟨2, [(0, 1, 2), (0, 1, 1)]⟩
theorem web2_ok : web2.Ok := ⟨by decide, by decide, by decide, by decide⟩
abbrev told2 : List D := [.tuple [.int 0, .int 0], .tuple [.int 0, .int 1], .tuple [.int 1, .int 0], .tuple [.int 1, .int 1], .tuple [.int 2, .int 0], .tuple [.int 2, .int 1]]
theorem all_2 : allS web2.rows = [[0, 0], [0, 1], [1, 0], [1, 1], [2, 0], [2, 1]] := by decide +kernel
theorem told_2 : (allS web2.rows).map encIt = told2 := by rw [all_2]; rfl
theorem tot_2 : tot web2.rows = 6 := by decide +kernel
section
variable {P : Program} {w : World} {K : PySem.W.Frag} {mg : Str → Option Value} {base : Heap} {f C : Addr} {fd : FuncData}
theorem ok_law_turns (B : Bi mg) (La : Gf P w K mg base "all_splits" "web" 1 T_all) (F : FnP K "_law_turns" s_law_turns f fd) : FnOk P w K mg base (L2.CX P w) 3 f fd P_law_turns (spT C T_law_turns) := by
  refine fn_ok F sc_law_turns (fun ds r e ⟨w, _, _, h, _⟩ => by rw [h]; rfl) fun cdv A outer s0 H E Γ hr ds r e ⟨w, hw, ht, ed, er, ee⟩ herr => ?_
  subst ed er ee
  have hr1 := hr.mono (show 1 ≤ 2 by decide)
  have hu := hr.un
  have gl : ((allS w.rows).map encIt).length = tot w.rows := by rw [List.length_map, allS_len]
  refine dss_cut (fun ρ => ρ = [some (.im (encW w)), some (.im (.list ((allS w.rows).map encIt))), some (.im (encW web2)), none, none, none, none, none]) ?_ ?_
  · refine ds_set 2 <| de_tup <| da_cons <| de_int <| da_one <| de_tup <| da_cons <| de_tup <| da_cons <| de_int <| da_cons <| de_int <| da_one <| de_int ⟨Nat.le_of_ble_eq_true rfl, ?_⟩
    exact da_one <| de_tup <| da_cons <| de_int <| da_cons <| de_int <| da_one <| de_int ⟨Nat.le_of_ble_eq_true rfl, Nat.le_of_ble_eq_true rfl, Nat.le_of_ble_eq_true rfl, rfl⟩
  rintro ρ1 rfl
  refine dss_cut (fun ρ => ρ = [some (.im (encW w)), some (.im (.list ((allS w.rows).map encIt))), some (.im (encW web2)), some (.im (.list told2)), none, none, none, none]) ?_ ?_
  · refine ds_set (hs := swaps_list) 3 <| de_new <| dn_list <| da_cons <| de_tup <| da_cons <| de_int <| da_one <| de_int ⟨Nat.le_of_ble_eq_true rfl, ?_⟩
    refine da_cons <| de_tup <| da_cons <| de_int <| da_one <| de_int ⟨Nat.le_of_ble_eq_true rfl, ?_⟩
    refine da_cons <| de_tup <| da_cons <| de_int <| da_one <| de_int ⟨Nat.le_of_ble_eq_true rfl, ?_⟩
    refine da_cons <| de_tup <| da_cons <| de_int <| da_one <| de_int ⟨Nat.le_of_ble_eq_true rfl, ?_⟩
    refine da_cons <| de_tup <| da_cons <| de_int <| da_one <| de_int ⟨Nat.le_of_ble_eq_true rfl, ?_⟩
    exact da_one <| de_tup <| da_cons <| de_int <| da_one <| de_int ⟨Nat.le_of_ble_eq_true rfl, Nat.le_of_ble_eq_true rfl, rfl⟩
  rintro ρ1 rfl
  refine dss_cons <| ds_set 4 <| de_int ?_
  refine dss_cut (fun ρ => ∃ x5 x6 x7, ρ = [some (.im (encW w)), some (.im (.list ((allS w.rows).map encIt))), some (.im (encW web2)), some (.im (.list told2)), some (.im (.int 6)), x5, x6, x7]) ?_ ?_
  · refine ds_forG [5] hr.depth (dmk_call La hr1 <| de_name 2 rfl ⟨noL_W _, _, ⟨web2, web2_ok, rfl, rfl⟩,
      fun i ρ => ∃ x5 x6 x7, ρ = [some (.im (encW w)), some (.im (.list ((allS w.rows).map encIt))), some (.im (encW web2)), some (.im (.list told2)), some (.im (.int (i : Nat))), x5, x6, x7], ⟨_, _, _, rfl⟩, ?_, ?_⟩)
    · rintro i d ρ2 hi ⟨x5, x6, x7, rfl⟩
      have hi6 : i < 6 := by have := (items_get hi).1; rw [tot_2] at this; exact this
      rw [told_2] at hi
      have told_at : atI told2 ((i : Nat) : Int) = some d := at_of (by omega) hi
      have hde : ∃ s : List Int, d = encIt s := by
        rw [← told_2] at hi
        exact ⟨_, (items_get hi).2⟩
      obtain ⟨sd, rfl⟩ := hde
      refine dg_name 5 <| dss_cons <| ds_if <| dt_bool <| dw_or <| dt_ge <| de_name 4 rfl <| de_int ⟨_, _, rfl, rfl, fun z => ?_, fun _ => dw_or1 <| dt_neD hr.units <| de_name 5 rfl <| de_ixL <| de_name 3 rfl <| de_name 4 rfl ⟨_, _, _, rfl, rfl, told_at, shaped_encT sd, shaped_encT sd, fun z => ?_, fun _ => dss_nil ?_⟩⟩
      · have := of_decide_eq_true z; omega
      · have e : PyData.eqv (encIt sd) (encIt sd) = true := eqv_encT sd
        rw [e] at z; cases z
      refine dss_cons <| ds_set 4 <| de_add <| de_name 4 rfl <| de_int ⟨_, _, rfl, rfl, ?_⟩
      refine dss_cons <| ds_set 6 <| de_int ?_
      refine dss_cut (fun ρ => ∃ x7, ρ = [some (.im (encW w)), some (.im (.list ((allS w.rows).map encIt))), some (.im (encW web2)), some (.im (.list told2)), some (.im (.int ((i : Nat) + 1))), some (.im (encIt sd)), some (.im (.int (min ((tot w.rows : Nat) : Int) 7))), x7]) ?_ ?_
      · refine ds_forG [7] hr.depth (dmk_callKw La hr1 <| de_name 0 rfl ⟨noL_W _, _, ⟨w, hw, rfl, rfl⟩,
          fun j ρ => j ≤ 6 ∧ ∃ x7, ρ = [some (.im (encW w)), some (.im (.list ((allS w.rows).map encIt))), some (.im (encW web2)), some (.im (.list told2)), some (.im (.int ((i : Nat) + 1))), some (.im (encIt sd)), some (.im (.int (j : Nat))), x7], ⟨by omega, _, rfl⟩, ?_, ?_⟩)
        · rintro j d ρ2 hj ⟨hj6, x7, rfl⟩
          have got_at : atI ((allS w.rows).map encIt) ((j : Nat) : Int) = some d := at_of (by omega) hj
          obtain ⟨hjt, rfl⟩ := items_get hj
          refine dg_name 7 <| dss_cons <| ds_if <| dt_bool <| dw_or <| dt_ge <| de_name 6 rfl <| de_lenL B.len <| de_name 1 rfl ⟨_, rfl, _, _, rfl, rfl, fun z => ?_, fun _ => dw_or1 <| dt_neD hr.units <| de_name 7 rfl <| de_ixL <| de_name 1 rfl <| de_name 6 rfl ⟨_, _, _, rfl, rfl, got_at, shaped_encT _, shaped_encT _, fun z => ?_, fun _ => dss_nil ?_⟩⟩
          · have := of_decide_eq_true z
            rw [gl] at this; omega
          · have e : PyData.eqv (encIt (spl w.rows j)) (encIt (spl w.rows j)) = true := eqv_encT _
            rw [e] at z; cases z
          refine dss_cons <| ds_set 6 <| de_add <| de_name 6 rfl <| de_int ⟨_, _, rfl, rfl, ?_⟩
          refine dss_one <| ds_if <| dt_gt <| de_name 6 rfl <| de_int ⟨_, _, rfl, rfl, fun z => dss_one <| ds_break ?_, fun z => dss_nil ?_⟩
          · have := of_decide_eq_true z
            have hj7 : j = 6 := by omega
            subst hj7
            have e : min ((tot w.rows : Nat) : Int) 7 = ((6 : Nat) : Int) + 1 := by omega
            rw [e]
            exact ⟨_, rfl⟩
          · have := of_decide_eq_false z
            exact ⟨by omega, _, rfl⟩
        · rintro ρ2 ⟨hj6, x7, rfl⟩
          rw [gl] at hj6 ⊢
          have e : min ((tot w.rows : Nat) : Int) 7 = ((tot w.rows : Nat) : Int) := by omega
          rw [e]
          exact ⟨_, rfl⟩
      rintro ρ2 ⟨x7, rfl⟩
      refine dss_one <| ds_if <| dt_neI <| de_name 6 rfl <| de_min2 B.min <| de_lenL B.len <| de_name 1 rfl ⟨_, rfl, de_int ⟨_, _, rfl, rfl, _, _, rfl, rfl, fun z => ?_, fun _ => dss_nil ⟨_, _, _, rfl⟩⟩⟩
      have := of_decide_eq_true z
      rw [gl] at this
      exact (this rfl).elim
    · rintro ρ2 ⟨x5, x6, x7, rfl⟩
      have : ((allS web2.rows).map encIt).length = 6 := by rw [told_2]; rfl
      rw [this]
      exact ⟨_, _, _, rfl⟩
  rintro ρ1 ⟨x5, x6, x7, rfl⟩
  exact dss_one <| ds_ret <| de_eqI <| de_name 4 rfl <| de_int ⟨_, _, rfl, rfl, rfl⟩
end
end HL
namespace HL
open PySem L2 DL
/-! ### the own goal -/
def goF (rows : List Row) (o : Option (List Int × Int)) (x : D) : Option (List Int × Int) := o.bind fun p => if p.2 ∈ p.1 then none else (stepD rows x p.2).map fun h => (p.1 ++ [p.2], h)
def goalT (rows : List Row) (a : Int) (xs : List D) : Int :=
  if xs = [] then -1 else match xs.foldl (goF rows) (some ([], a)) with
    | none => -1
    | some p => if p.2 ∈ p.1.drop 1 ∨ (p.2 = a ∧ (xs.length < 2 ∨ (xs.length = 2 ∧ toI (xs.getD 0 .none) = toI (xs.getD 1 .none)))) then -1 else p.2
def goalF (rows : List Row) (a : Int) : D → Int
  | .tuple xs => goalT rows a xs
  | _ => -1
theorem goF_none (rows : List Row) : ∀ xs : List D, xs.foldl (goF rows) none = none
  | [] => rfl
  | _ :: xs => goF_none rows xs
theorem goS_some {rows : List Row} {x : D} {hs : List Int} {h : Int} (e : stepD rows x (hs.getLastD 0) = some h) : goS rows (some hs) x = some (hs ++ [h]) := by
  unfold goS; rw [Option.bind_some, e]; rfl
theorem goS_no {rows : List Row} {x : D} {hs : List Int} (e : stepD rows x (hs.getLastD 0) = none) : goS rows (some hs) x = none := by
  unfold goS; rw [Option.bind_some, e]; rfl
theorem last_snoc (l : List Int) (x : Int) : (l ++ [x]).getLastD 0 = x := by rw [List.getLastD_eq_getLast?, List.getLast?_append]; rfl
/-- the goal's walk is a walk whose left houses are unlike -/
theorem goF_walk {rows : List Row} : ∀ {xs : List D} {m0 : List Int} {n0 : Int} {m : List Int} {n : Int}, xs.foldl (goF rows) (some (m0, n0)) = some (m, n) → m0.Nodup → xs.foldl (goS rows) (some (m0 ++ [n0])) = some (m ++ [n]) ∧ m.Nodup
  | [], m0, n0, m, n, h, nd => by cases h; exact ⟨rfl, nd⟩
  | x :: xs, m0, n0, m, n, h, nd => by
    rw [List.foldl_cons] at h
    by_cases c : n0 ∈ m0
    · rw [show goF rows (some (m0, n0)) x = none by unfold goF; rw [Option.bind_some, if_pos c], goF_none] at h; cases h
    · cases e : stepD rows x n0 with
      | none => rw [show goF rows (some (m0, n0)) x = none by unfold goF; rw [Option.bind_some, if_neg c, e]; rfl, goF_none] at h; cases h
      | some y =>
        rw [show goF rows (some (m0, n0)) x = some (m0 ++ [n0], y) by unfold goF; rw [Option.bind_some, if_neg c, e]; rfl] at h
        rw [List.foldl_cons, goS_some (by rw [last_snoc]; exact e)]
        exact goF_walk h (List.nodup_append.mpr ⟨nd, by simp, fun a ha b hb => by rw [List.mem_singleton.mp hb]; exact fun z => c (z ▸ ha)⟩)
theorem goS_pre {rows : List Row} : ∀ {xs : List D} {h0 hs : List Int}, xs.foldl (goS rows) (some h0) = some hs → ∃ r, hs = h0 ++ r
  | [], h0, hs, h => by cases h; exact ⟨[], by simp⟩
  | x :: xs, h0, hs, h => by
    rw [List.foldl_cons] at h
    cases e : stepD rows x (h0.getLastD 0) with
    | none => rw [goS_no e, goS_none] at h; cases h
    | some y =>
      rw [goS_some e] at h
      obtain ⟨r, rfl⟩ := goS_pre h
      exact ⟨y :: r, by simp⟩
theorem walk_goF {rows : List Row} : ∀ {xs : List D} {m0 : List Int} {n0 : Int} {m : List Int} {n : Int}, xs.foldl (goS rows) (some (m0 ++ [n0])) = some (m ++ [n]) → m.Nodup → xs.foldl (goF rows) (some (m0, n0)) = some (m, n)
  | [], m0, n0, m, n, h, nd => by
    have h : some (m0 ++ [n0]) = some (m ++ [n]) := h
    injection h with h
    obtain ⟨e1, e2⟩ := List.append_inj' h rfl
    cases e2; rw [e1]; rfl
  | x :: xs, m0, n0, m, n, h, nd => by
    rw [List.foldl_cons] at h
    cases e : stepD rows x ((m0 ++ [n0]).getLastD 0) with
    | none => rw [goS_no e, goS_none] at h; cases h
    | some y =>
      rw [goS_some e] at h
      rw [last_snoc] at e
      have c : ¬ n0 ∈ m0 := by
        obtain ⟨r, hr⟩ := goS_pre h
        -- m is m0 ++ [n0] and more
        have : ∃ r', m = m0 ++ [n0] ++ r' := by
          have hr2 : m ++ [n] = (m0 ++ [n0]) ++ (y :: r) := by rw [hr]; simp
          have hl : (m ++ [n]).dropLast = ((m0 ++ [n0]) ++ (y :: r)).dropLast := by rw [hr2]
          rw [List.dropLast_concat, List.dropLast_append_of_ne_nil (by simp)] at hl
          exact ⟨_, hl⟩
        obtain ⟨r', rfl⟩ := this
        have n1 := (List.nodup_append.mp nd).1
        intro z
        exact (List.nodup_append.mp n1).2.2 n0 z n0 (by simp) rfl
      rw [List.foldl_cons, show goF rows (some (m0, n0)) x = some (m0 ++ [n0], y) by unfold goF; rw [Option.bind_some, if_neg c, e]; rfl]
      exact walk_goF h nd
/-- step by step -/
theorem goS_at {rows : List Row} : ∀ {xs : List D} {h0 hs : List Int}, h0 ≠ [] → xs.foldl (goS rows) (some h0) = some hs → ∀ i x, xs[i]? = some x → stepD rows x (hs.getD (h0.length - 1 + i) 0) = some (hs.getD (h0.length + i) 0)
  | [], h0, hs, _, h, i, x, hx => by simp at hx
  | y :: xs, h0, hs, ne, h, i, x, hx => by
    rw [List.foldl_cons] at h
    have l0 : 0 < h0.length := List.length_pos_iff.mpr ne
    cases e : stepD rows y (h0.getLastD 0) with
    | none => rw [goS_no e, goS_none] at h; cases h
    | some z =>
      rw [goS_some e] at h
      cases i with
      | zero =>
        cases hx
        obtain ⟨r, rfl⟩ := goS_pre h
        have e1 : (h0 ++ [z] ++ r).getD (h0.length - 1 + 0) 0 = h0.getLastD 0 := by
          rw [List.getD_eq_getElem?_getD, List.append_assoc, List.getElem?_append_left (by omega), List.getLastD_eq_getLast?, List.getLast?_eq_getElem?]; rfl
        have e2 : (h0 ++ [z] ++ r).getD (h0.length + 0) 0 = z := by
          rw [List.getD_eq_getElem?_getD, List.append_assoc, List.getElem?_append_right (by omega)]; simp
        rw [e1, e2]; exact e
      | succ i =>
        have := goS_at (by simp) h i x (by simpa using hx)
        rw [List.length_append, List.length_singleton] at this
        rw [show h0.length - 1 + (i + 1) = h0.length + 1 - 1 + i by omega, show h0.length + (i + 1) = h0.length + 1 + i by omega]
        exact this
theorem along_at {rows : List Row} {a : Int} {xs : List D} {hs : List Int} (h : along rows a xs = some hs) {i : Nat} {x : D} (hx : xs[i]? = some x) : stepD rows x (hs.getD i 0) = some (hs.getD (i + 1) 0) := by
  have := goS_at (by simp) h i x hx
  simpa [Nat.add_comm] using this
theorem along_head {rows : List Row} {a : Int} {xs : List D} {hs : List Int} (h : along rows a xs = some hs) : ∃ r, hs = a :: r ∧ r.length = xs.length := by
  obtain ⟨r, rfl⟩ := goS_pre h
  have := along_len (h := a) h
  exact ⟨r, rfl, by simpa [Nat.add_comm] using this⟩
theorem stepD_row {rows : List Row} {x : D} {h h' : Int} (e : stepD rows x h = some h') : ∃ (i : Int) (r : Row), x = .int i ∧ 0 ≤ i ∧ i < rows.length ∧ rows[i.toNat]? = some r ∧ ((r.1 = h ∧ h' = r.2.1) ∨ (r.1 ≠ h ∧ r.2.1 = h ∧ h' = r.1)) := by
  unfold stepD at e
  by_cases c : isH rows.length x = true
  · rw [if_pos c] at e
    obtain ⟨i, rfl, i0, i1⟩ := isH_int c
    rw [Option.bind_eq_some_iff] at e
    obtain ⟨r, e1, e2⟩ := e
    refine ⟨i, r, rfl, i0, i1, e1, ?_⟩
    unfold far at e2
    by_cases c1 : r.1 = h
    · rw [if_pos c1] at e2; cases e2; exact .inl ⟨c1, rfl⟩
    · rw [if_neg c1] at e2
      by_cases c2 : r.2.1 = h
      · rw [if_pos c2] at e2; cases e2; exact .inr ⟨c1, c2, rfl⟩
      · rw [if_neg c2] at e2; cases e2
  · rw [if_neg c] at e; cases e
/-- in a ring of at least three the lines are unlike -/
theorem ring_lines {w : Web} (hw : w.Ok) {a : Int} {is : List Int} {m : List Int} (h : along w.rows a (is.map .int) = some (m ++ [a])) (nd : m.Nodup) (h2 : is.length ≠ 2) : is.Nodup := by
  obtain ⟨r, hr, hl⟩ := along_head h
  rw [List.length_map] at hl
  have lm : m.length = is.length := by
    have := congrArg List.length hr
    simp at this; omega
  have g1 : ∀ i, i < is.length → (m ++ [a]).getD i 0 = m.getD i 0 := fun i hi => by
    rw [List.getD_eq_getElem?_getD, List.getElem?_append_left (by omega), List.getD_eq_getElem?_getD]
  have g2 : (m ++ [a]).getD is.length 0 = a := by
    rw [List.getD_eq_getElem?_getD, List.getElem?_append_right (by omega), lm, Nat.sub_self]; rfl
  have inj : ∀ i j, i < is.length → j < is.length → m.getD i 0 = m.getD j 0 → i = j := fun i j hi hj e => by
    rw [List.getD_eq_getElem?_getD, List.getD_eq_getElem?_getD, List.getElem?_eq_getElem (by omega), List.getElem?_eq_getElem (by omega)] at e
    rw [List.nodup_iff_pairwise_ne, List.pairwise_iff_getElem] at nd
    have e : m[i]'(by omega) = m[j]'(by omega) := e
    rcases Nat.lt_trichotomy i j with c | c | c
    · exact (nd i j (by omega) (by omega) c e).elim
    · exact c
    · exact (nd j i (by omega) (by omega) c e.symm).elim
  have hd : 0 < is.length → m.getD 0 0 = a := fun hp => by
    have := congrArg (fun l => List.getD l 0 0) hr
    simp only [g1 0 hp] at this
    rw [this]; rfl
  rw [List.nodup_iff_pairwise_ne, List.pairwise_iff_getElem]
  intro i j hi hj hij e
  have s1 := along_at h (i := i) (x := .int is[i]) (by rw [List.getElem?_map, List.getElem?_eq_getElem hi]; rfl)
  have s2 := along_at h (i := j) (x := .int is[j]) (by rw [List.getElem?_map, List.getElem?_eq_getElem hj]; rfl)
  obtain ⟨k, q, e1, k0, k1, kq, c1⟩ := stepD_row s1
  obtain ⟨k', q', e2, _, _, kq', c2⟩ := stepD_row s2
  cases e1; cases e2
  rw [e] at kq
  rw [kq] at kq'
  cases kq'
  have ne := (hw.row q (List.mem_of_getElem? kq)).2.1
  rw [g1 i hi] at c1
  rw [g1 j hj] at c2
  have nij : m.getD i 0 ≠ m.getD j 0 := fun z => by have := inj i j hi hj z; omega
  -- the later one begins where the first one ends
  have b1 : m.getD j 0 = (m ++ [a]).getD (i + 1) 0 := by
    rcases c1 with ⟨x1, x2⟩ | ⟨_, x1, x2⟩ <;> rcases c2 with ⟨y1, y2⟩ | ⟨_, y1, y2⟩
    · exact (nij (x1.symm.trans y1)).elim
    · rw [x2, ← y1]
    · rw [x2, ← y1]
    · exact (nij (x1.symm.trans y1)).elim
  have b2 : m.getD i 0 = (m ++ [a]).getD (j + 1) 0 := by
    rcases c1 with ⟨x1, x2⟩ | ⟨_, x1, x2⟩ <;> rcases c2 with ⟨y1, y2⟩ | ⟨_, y1, y2⟩
    · exact (nij (x1.symm.trans y1)).elim
    · rw [y2, ← x1]
    · rw [y2, ← x1]
    · exact (nij (x1.symm.trans y1)).elim
  rw [g1 (i + 1) (by omega)] at b1
  have j1 : j = i + 1 := inj j (i + 1) hj (by omega) b1
  subst j1
  by_cases c : i + 1 + 1 < is.length
  · rw [g1 _ c] at b2
    have := inj i (i + 1 + 1) hi c b2
    omega
  · have e5 : i + 1 + 1 = is.length := by omega
    rw [e5, g2] at b2
    have := inj i 0 hi (by omega) (b2.trans (hd (by omega)).symm)
    omega
theorem nodup_snoc {m : List Int} {n : Int} : (m ++ [n]).Nodup ↔ m.Nodup ∧ n ∉ m := by
  rw [List.nodup_append]
  constructor
  · rintro ⟨h1, _, h3⟩
    exact ⟨h1, fun z => h3 n z n (by simp) rfl⟩
  · rintro ⟨h1, h2⟩
    exact ⟨h1, by simp, fun x hx y hy => by rw [List.mem_singleton.mp hy]; exact fun z => h2 (z ▸ hx)⟩
/-- what the goal is, where there is a walk -/
theorem goalT_walk {rows : List Row} {a : Int} {xs : List D} {m : List Int} {n : Int} (hx : xs ≠ []) (h : along rows a xs = some (m ++ [n])) :
    goalT rows a xs = if m.Nodup ∧ n ∉ m.drop 1 ∧ ¬ (n = a ∧ (xs.length < 2 ∨ (xs.length = 2 ∧ toI (xs.getD 0 .none) = toI (xs.getD 1 .none)))) then n else -1 := by
  unfold goalT
  rw [if_neg hx]
  by_cases nd : m.Nodup
  · rw [walk_goF (m0 := []) h nd]
    by_cases c : n ∈ m.drop 1 ∨ (n = a ∧ (xs.length < 2 ∨ (xs.length = 2 ∧ toI (xs.getD 0 .none) = toI (xs.getD 1 .none))))
    · show (if n ∈ m.drop 1 ∨ _ then _ else _) = _
      rw [if_pos c, if_neg]
      rintro ⟨_, c1, c2⟩
      exact c.elim c1 c2
    · show (if n ∈ m.drop 1 ∨ _ then _ else _) = _
      rw [if_neg c, if_pos ⟨nd, fun z => c (.inl z), fun z => c (.inr z)⟩]
  · cases e : xs.foldl (goF rows) (some ([], a)) with
    | none => rw [if_neg (fun z => nd z.1)]
    | some p =>
      obtain ⟨e1, e2⟩ := goF_walk e (by simp)
      have : some (p.1 ++ [p.2]) = some (m ++ [n]) := e1.symm.trans h
      injection this with this
      obtain ⟨e3, e4⟩ := List.append_inj' this rfl
      exact (nd (e3 ▸ e2)).elim
theorem goalT_none {rows : List Row} {a : Int} {xs : List D} (h : along rows a xs = none) : goalT rows a xs = -1 := by
  unfold goalT
  split
  · rfl
  · cases e : xs.foldl (goF rows) (some ([], a)) with
    | none => rfl
    | some p =>
      obtain ⟨e1, _⟩ := goF_walk e (by simp)
      have : some (p.1 ++ [p.2]) = none := e1.symm.trans h
      cases this
theorem snoc_of {hs : List Int} (h : hs ≠ []) : ∃ m n, hs = m ++ [n] := ⟨hs.dropLast, hs.getLast h, (List.dropLast_concat_getLast h).symm⟩
theorem drop_nodup {a : Int} {m : List Int} {n : Int} (hd : ∃ m', m = a :: m') (nd : m.Nodup) : n ∉ m ↔ n ∉ m.drop 1 ∧ n ≠ a := by
  obtain ⟨m', rfl⟩ := hd
  simp [and_comm]
theorem head_of {rows : List Row} {a : Int} {xs : List D} {m : List Int} {n : Int} (hx : xs ≠ []) (h : along rows a xs = some (m ++ [n])) : (∃ m', m = a :: m') ∧ m.length = xs.length := by
  obtain ⟨r, hr, hl⟩ := along_head h
  have lx := List.length_pos_iff.mpr hx
  cases m with
  | nil => simp at hr; rw [hr.2] at hl; simp at hl; omega
  | cons b m =>
    simp at hr
    refine ⟨⟨m, by rw [hr.1]⟩, ?_⟩
    have := congrArg List.length hr.2
    simp at this
    simp; omega
theorem way_goal {w : Web} {a b : Int} (hab : a ≠ b) (hb : 0 ≤ b) (t : D) : wayB w.rows a b t = decide (goalF w.rows a t = b) := by
  cases t with
  | tuple xs =>
    show (match along w.rows a xs with | none => false | some hs => decide (hs.getLastD 0 = b) && decide hs.Nodup) = decide (goalT w.rows a xs = b)
    cases e : along w.rows a xs with
    | none => rw [goalT_none e]; exact (decide_eq_false (by omega)).symm
    | some hs =>
      by_cases hx : xs = []
      · subst hx
        cases e
        show (decide (a = b) && _) = _
        rw [decide_eq_false hab]
        exact (decide_eq_false (by show ¬ (-1 : Int) = b; omega)).symm
      · obtain ⟨r, hr, _⟩ := along_head e
        obtain ⟨m, n, rfl⟩ := snoc_of (hs := hs) (by rw [hr]; simp)
        obtain ⟨hd, _⟩ := head_of hx e
        rw [goalT_walk hx e]
        show (decide ((m ++ [n]).getLastD 0 = b) && decide (m ++ [n]).Nodup) = _
        rw [last_snoc, ← Bool.decide_and]
        refine decide_eq_decide.mpr ?_
        rw [nodup_snoc]
        constructor
        · rintro ⟨rfl, nd, nm⟩
          rw [if_pos ⟨nd, ((drop_nodup hd nd).mp nm).1, fun z => hab z.1.symm⟩]
        · intro h
          split at h
          · rename_i c
            subst h
            exact ⟨rfl, c.1, (drop_nodup hd c.1).mpr ⟨c.2.1, fun z => hab z.symm⟩⟩
          · omega
  | _ => exact (decide_eq_false (by show ¬ (-1 : Int) = b; omega)).symm
theorem ring_goal {w : Web} (hw : w.Ok) {a : Int} (ha : 0 ≤ a) (t : D) : ringB w.rows a t = decide (goalF w.rows a t = a) := by
  cases t with
  | tuple xs =>
    show (match along w.rows a xs with | none => false | some hs => !decide (xs.length < 2) && (decide (hs.getLastD 0 = a) && (decide (hs.drop 1).Nodup && decide (xs.map toI).Nodup))) = decide (goalT w.rows a xs = a)
    cases e : along w.rows a xs with
    | none => rw [goalT_none e]; exact (decide_eq_false (by omega)).symm
    | some hs =>
      by_cases hx : xs = []
      · subst hx
        exact (decide_eq_false (by show ¬ (-1 : Int) = a; omega)).symm
      · obtain ⟨r, hr, _⟩ := along_head e
        obtain ⟨m, n, rfl⟩ := snoc_of (hs := hs) (by rw [hr]; simp)
        obtain ⟨hd, lm⟩ := head_of hx e
        rw [goalT_walk hx e]
        show (!decide (xs.length < 2) && (decide ((m ++ [n]).getLastD 0 = a) && (decide ((m ++ [n]).drop 1).Nodup && decide (xs.map toI).Nodup))) = _
        rw [last_snoc, ← decide_not, ← Bool.decide_and, ← Bool.decide_and, ← Bool.decide_and]
        refine decide_eq_decide.mpr ?_
        obtain ⟨is, rfl, _⟩ := hs_of_isH (along_ints (h := a) e)
        have ei : (is.map PyData.int).map toI = is := by rw [List.map_map]; exact List.map_id is
        rw [ei, List.length_map]
        have key : is.length = 2 → (is.Nodup ↔ ¬ toI ((is.map PyData.int).getD 0 .none) = toI ((is.map PyData.int).getD 1 .none)) := fun h2 => by
          match is, h2 with
          | [x, y], _ => simp [toI]
        obtain ⟨m', rfl⟩ := hd
        have e3 : ((a :: m') ++ [n]).drop 1 = m' ++ [n] := rfl
        rw [e3, nodup_snoc]
        constructor
        · rintro ⟨h2, rfl, ⟨nd, nm⟩, ln⟩
          have nd2 : (n :: m').Nodup := List.nodup_cons.mpr ⟨nm, nd⟩
          rw [if_pos]
          refine ⟨nd2, nm, ?_⟩
          rintro ⟨_, h3 | ⟨h3, h4⟩⟩
          · exact h2 h3
          · exact (key h3).mp ln h4
        · intro h
          split at h
          · rename_i c
            obtain ⟨nd, nm, c2⟩ := c
            subst h
            obtain ⟨_, nd'⟩ := List.nodup_cons.mp nd
            refine ⟨fun z => c2 ⟨rfl, .inl z⟩, rfl, ⟨nd', nm⟩, ?_⟩
            by_cases h2 : is.length = 2
            · exact (key h2).mpr fun z => c2 ⟨rfl, .inr ⟨h2, z⟩⟩
            · exact ring_lines hw e nd h2
          · omega
  | _ => exact (decide_eq_false (by show ¬ (-1 : Int) = a; omega)).symm
theorem along_nonneg {w : Web} (hw : w.Ok) : ∀ {xs : List D} {h0 hs : List Int}, h0 ≠ [] → (∀ h ∈ h0, 0 ≤ h) → xs.foldl (goS w.rows) (some h0) = some hs → ∀ h ∈ hs, 0 ≤ h
  | [], h0, hs, _, h1, e => by cases e; exact h1
  | x :: xs, h0, hs, ne, h1, e => by
    rw [List.foldl_cons] at e
    cases e1 : stepD w.rows x (h0.getLastD 0) with
    | none => rw [goS_no e1, goS_none] at e; cases e
    | some y =>
      rw [goS_some e1] at e
      refine along_nonneg hw (by simp) (fun h hh => ?_) e
      rcases List.mem_append.mp hh with hh | hh
      · exact h1 h hh
      · rw [List.mem_singleton.mp hh]
        obtain ⟨i, r, _, _, _, hr, c⟩ := stepD_row e1
        obtain ⟨r0, r1, _⟩ := hw.row r (List.mem_of_getElem? hr)
        rcases c with ⟨_, z⟩ | ⟨_, _, z⟩ <;> rw [z] <;> omega
theorem leads_goal {w : Web} (hw : w.Ok) {a : Int} (ha : 0 ≤ a) (t : D) : leadsB w.rows a t = decide (0 ≤ goalF w.rows a t) := by
  cases t with
  | tuple xs =>
    cases e : along w.rows a xs with
    | none =>
      have e1 : leadsB w.rows a (.tuple xs) = false := by unfold leadsB; rw [show alongD w.rows a (.tuple xs) = none from e]
      rw [e1]
      show false = decide (0 ≤ goalT w.rows a xs)
      rw [goalT_none e]; rfl
    | some hs =>
      have e1 : leadsB w.rows a (.tuple xs) = (!decide (xs.length = 0) && (if hs.getLastD 0 = a then ringB w.rows a (.tuple xs) else decide hs.Nodup)) := by unfold leadsB; rw [show alongD w.rows a (.tuple xs) = some hs from e]; rfl
      rw [e1]
      show _ = decide (0 ≤ goalT w.rows a xs)
      by_cases hx : xs = []
      · subst hx; rfl
      · have lx := List.length_pos_iff.mpr hx
        rw [decide_eq_false (by omega : ¬ xs.length = 0)]
        show (true && _) = _
        rw [Bool.true_and]
        obtain ⟨r, hr, _⟩ := along_head e
        obtain ⟨m, n, rfl⟩ := snoc_of (hs := hs) (by rw [hr]; simp)
        obtain ⟨hd, lm⟩ := head_of hx e
        have hn : 0 ≤ n := along_nonneg hw (by simp) (fun h hh => by rw [List.mem_singleton.mp hh]; exact ha) e n (by simp)
        rw [last_snoc]
        by_cases c : n = a
        · rw [if_pos c, ring_goal hw ha]
          show decide (goalT w.rows a xs = a) = _
          refine decide_eq_decide.mpr ?_
          rw [goalT_walk hx e]
          split
          · exact ⟨fun _ => hn, fun _ => c⟩
          · constructor <;> intro z <;> omega
        · rw [if_neg c]
          refine decide_eq_decide.mpr ?_
          rw [goalT_walk hx e, nodup_snoc]
          constructor
          · rintro ⟨nd, nm⟩
            rw [if_pos ⟨nd, ((drop_nodup hd nd).mp nm).1, fun z => c z.1⟩]; exact hn
          · intro h
            split at h
            · rename_i q
              exact ⟨q.1, (drop_nodup hd q.1).mpr ⟨q.2.1, c⟩⟩
            · omega
  | _ => rfl
end HL
namespace HL
open PySem PySem.Spec PyProof.Rows L2 DL
section
variable {X : Cx} {C : Addr} {Γ : Gm X C} {a b : Expr} {ρ ρ' : Rho} {pos : Pos} {A B : Bool}
theorem dt_or2 (ha : DT Γ a ρ (fun c ρ1 => c = A ∧ ρ1 = ρ')) (hb : A = false → DT Γ b ρ' (fun c ρ1 => c = B ∧ ρ1 = ρ')) : DT Γ (.BoolOp .Or [a, b] pos) ρ (fun c ρ1 => c = (A || B) ∧ ρ1 = ρ') := by
  refine dt_bool (dw_or <| .mk fun pins s σ H G Q I eo hk => ha.run pins s σ H G Q I eo ?_)
  rintro c ρ1 H' G' ⟨rfl, rfl⟩ e x
  refine hk _ _ _ _ ⟨fun h => ⟨by rw [h]; rfl, rfl⟩, fun h => dw_or1 ?_⟩ e x
  have := hb h
  rw [h, Bool.false_or]; exact this
theorem dt_and2 (ha : DT Γ a ρ (fun c ρ1 => c = A ∧ ρ1 = ρ')) (hb : A = true → DT Γ b ρ' (fun c ρ1 => c = B ∧ ρ1 = ρ')) : DT Γ (.BoolOp .And [a, b] pos) ρ (fun c ρ1 => c = (A && B) ∧ ρ1 = ρ') := by
  refine dt_bool (dw_and <| .mk fun pins s σ H G Q I eo hk => ha.run pins s σ H G Q I eo ?_)
  rintro c ρ1 H' G' ⟨rfl, rfl⟩ e x
  refine hk _ _ _ _ ⟨fun h => dw_and1 ?_, fun h => ⟨by rw [h]; rfl, rfl⟩⟩ e x
  have := hb h
  rw [h, Bool.true_and]; exact this
end
theorem dt_is2 {X : Cx} {C : Addr} {Γ : Gm X C} {e : Expr} {ρ ρ' : Rho} (b0 : Bool) {k : Bool → Rho → Prop} (h : DT Γ e ρ (fun d ρ1 => d = b0 ∧ ρ1 = ρ')) (hk : k b0 ρ') : DT Γ e ρ k := .mk fun pins s σ H G Q I eo hq => h.run pins s σ H G Q I eo (by rintro d ρ1 H' G' ⟨rfl, rfl⟩ e x; exact hq _ _ _ _ hk e x)
theorem foldl_split {α β : Type} {f : β → α → β} {b : β} {xs : List α} {i : Nat} {x : α} (hx : xs[i]? = some x) : xs.foldl f b = (xs.drop (i + 1)).foldl f (f ((xs.take i).foldl f b) x) := by
  have e : xs = xs.take i ++ x :: xs.drop (i + 1) := by
    have := List.take_append_drop i xs
    rw [← List.getElem_cons_drop (List.getElem?_eq_some_iff.mp hx).1, (List.getElem?_eq_some_iff.mp hx).2] at this
    exact this.symm
  conv => lhs; rw [e]
  rw [List.foldl_append]; rfl
abbrev T_law_goal : DL.Tm := fun ds r e => ∃ (w : Web) (a : Int) (t : D), w.Ok ∧ lenD t ≤ 1000 ∧ ds = [encW w, .int a, t] ∧ r = is (.int (goalF w.rows a t)) ∧ e = noE
abbrev T_law_truth : DL.Tm := fun ds r e => ∃ b c : Bool, ds = [.bool b, .bool c] ∧ r = is (.bool (decide (b = c))) ∧ e = noE
abbrev T_law_asked : DL.Tm := fun ds r e => ∃ (w : Web) (a b : Int) (t : D) (nm : Bool), w.Ok ∧ 0 ≤ a ∧ a < w.n ∧ 0 ≤ b ∧ b < w.n ∧ lenD t ≤ 1000 ∧ ds = [encW w, .int a, .int b, t, .bool nm] ∧ r = is (.bool true) ∧ e = noE
theorem goalT_fold {rows : List Row} {a : Int} {xs : List D} (h : xs.foldl (goF rows) (some ([], a)) = none) : goalT rows a xs = -1 := by
  unfold goalT; rw [h]; split <;> rfl
section
variable {P : Program} {w : World} {K : PySem.W.Frag} {mg : Str → Option Value} {base : Heap} {f C : Addr} {fd : FuncData}
theorem ok_law_goal (B : Bi mg) (Li : Df P w K mg base "_law_int" P_law_int 1 (spT C T_law_int)) (F : FnP K "_law_goal" s_law_goal f fd) : FnOk P w K mg base (L2.CX P w) 2 f fd P_law_goal (spT C T_law_goal) := by
  refine fn_ok F sc_law_goal (by rintro _ _ _ ⟨x, _, _, _, _, rfl, _⟩; rfl) fun cdv A outer s0 H E Γ hr ds r e hT _ => ?_
  obtain ⟨w, a, t, hw, ht, rfl, rfl, rfl⟩ := hT
  cases hx : isTup t with
  | false =>
    refine dss_cons <| ds_if <| dt_bool <| dw_or <| dt_not <| dt_val <| de_isiT B.isinstance B.tuple <| de_name 2 rfl ⟨_, rfl, ?_⟩
    rw [hx]
    refine ⟨fun _ => ⟨fun _ => dss_one <| ds_ret <| de_neg <| de_int ⟨_, rfl, ?_⟩, fun h => by cases h⟩, fun h => by cases h⟩
    show PyData.int (-1) = .int (goalF w.rows a t)
    cases t <;> first | rfl | cases hx
  | true =>
    obtain ⟨xs, rfl⟩ := isTup_tup hx
    refine dss_cons <| ds_if <| dt_bool <| dw_or <| dt_not <| dt_val <| de_isiT B.isinstance B.tuple <| de_name 2 rfl ⟨_, rfl, fun h => (by cases h), fun _ => dw_or1 <| dt_eqI <| de_lenT B.len <| de_name 2 rfl ⟨_, rfl, de_int ⟨_, _, rfl, rfl, fun h0 => ?_, fun h0 => dss_nil ?_⟩⟩⟩
    · have h0 := of_decide_eq_true h0
      obtain rfl : xs = [] := List.length_eq_zero_iff.mp (by omega)
      exact dss_one <| ds_ret <| de_neg <| de_int ⟨_, rfl, rfl⟩
    have hne : xs ≠ [] := fun z => of_decide_eq_false h0 (by rw [z]; rfl)
    have lx : xs.length ≤ 1000 := ht
    refine dss_cons <| ds_setN 3 <| dn_list <| da_nil ⟨Nat.le_of_ble_eq_true rfl, ?_⟩
    refine dss_cons <| ds_set 4 <| de_name 1 rfl ?_
    refine dss_cons <| ds_for [5] <| di_tup <| de_name 2 rfl ⟨_, rfl,
      fun i ρ => ∃ met now u, (xs.take i).foldl (goF w.rows) (some ([], a)) = some (met, now) ∧ met.length = i ∧ i ≤ xs.length ∧ ρ = [some (.im (encW w)), some (.im (.int a)), some (.im (.tuple xs)), some (.own none (met.map .int)), some (.im (.int now)), u], ⟨[], a, _, rfl, rfl, by omega, rfl⟩, ?_, ?_⟩
    · rintro i d ρ2 hi ⟨met, now, u, ha, hml, hil, rfl⟩
      have il : i < xs.length := (List.getElem?_eq_some_iff.mp hi).1
      have step : xs.foldl (goF w.rows) (some ([], a)) = (xs.drop (i + 1)).foldl (goF w.rows) (goF w.rows (some (met, now)) d) := by rw [foldl_split hi, ha]
      have step1 : (xs.take (i + 1)).foldl (goF w.rows) (some ([], a)) = goF w.rows (some (met, now)) d := by rw [← ha]; exact fold_next _ _ hi
      have fail : goF w.rows (some (met, now)) d = none → PyData.int (-1) = .int (goalF w.rows a (.tuple xs)) := fun z => by
        show _ = PyData.int (goalT w.rows a xs)
        rw [goalT_fold (by rw [step, z, goF_none])]
      refine dg_name 5 <| dss_cons <| ds_if <| dt_bool <| dw_or <| dt_not <| dt_val <| de_call Li hr <| da_one <| de_name 5 rfl ⟨_, _, ⟨d, rfl, rfl, rfl⟩, noerr, ?_⟩
      rintro d' rfl
      refine ⟨_, rfl, fun hb => ⟨fun _ => dss_one <| ds_ret <| de_neg <| de_int ⟨_, rfl, fail ?_⟩, fun z => absurd z (by simp)⟩, fun hb => ?_⟩
      · unfold goF; rw [Option.bind_some]; split
        · rfl
        · unfold stepD; rw [if_neg]; · rfl
          intro z; obtain ⟨i, rfl, _⟩ := isH_int z; cases hb
      obtain ⟨j, rfl⟩ := isI_int (x := d) (by simpa using hb)
      refine dw_or <| dt_not <| dt_leLt <| de_int <| de_name 5 rfl ⟨_, _, rfl, rfl, fun h1 => de_lenT B.len <| de_w1 0 rfl ⟨_, rfl, _, rfl, fun hb2 => ?_, fun hb2 => ?_⟩, fun h1 => ⟨fun _ => ?_, fun z => (by cases z)⟩⟩
      · refine ⟨fun _ => dss_one <| ds_ret <| de_neg <| de_int ⟨_, rfl, fail ?_⟩, fun z => absurd z (by simp)⟩
        have h2 := of_decide_eq_false (by simpa using hb2 : decide (j < ((w.rows.map encR).length : Int)) = false)
        rw [List.length_map] at h2
        unfold goF; rw [Option.bind_some]; split
        · rfl
        · unfold stepD; rw [if_neg]; · rfl
          intro z; obtain ⟨i, e, _, z2⟩ := isH_int z; cases e; exact h2 z2
      rotate_left
      · refine ⟨fun _ => dss_one <| ds_ret <| de_neg <| de_int ⟨_, rfl, fail ?_⟩, fun z => absurd z (by simp)⟩
        unfold goF; rw [Option.bind_some]; split
        · rfl
        · unfold stepD; rw [if_neg]; · rfl
          intro z; obtain ⟨i, e, z2, _⟩ := isH_int z; cases e; exact h1 z2
      have h2 := of_decide_eq_true (by simpa using hb2 : decide (j < ((w.rows.map encR).length : Int)) = true)
      rw [List.length_map] at h2
      obtain ⟨l, hl⟩ : ∃ l, w.rows[j.toNat]? = some l := ⟨_, List.getElem?_eq_getElem (by omega)⟩
      have hH : isH w.rows.length (.int j) = true := isH_ok h1 h2
      have row_at : atI (w.rows.map encR) j = some (encR l) := at_of h1 (by rw [List.getElem?_map, hl]; rfl)
      have sd : stepD w.rows (.int j) now = far l now := by
        unfold stepD; rw [if_pos hH]; show (w.rows[j.toNat]?).bind _ = _; rw [hl]; rfl
      refine dw_or <| dt_inO 3 (by rfl) <| de_name 4 rfl ⟨now, met, rfl, rfl, fun hb3 => ⟨fun _ => dss_one <| ds_ret <| de_neg <| de_int ⟨_, rfl, fail ?_⟩, fun z => absurd z (by simp)⟩, fun hb3 => ?_⟩
      · unfold goF; rw [Option.bind_some, if_pos (of_decide_eq_true hb3)]
      have h3 := of_decide_eq_false hb3
      refine dw_or1 <| dt_is (!(decide (l.1 = now) || decide (l.2.1 = now))) ?_ ⟨fun hb4 => ?_, fun hb4 => ?_⟩
      · have e1 : (!(decide (l.1 = now) || decide (l.2.1 = now))) = (decide (now ≠ l.1) && decide (now ≠ l.2.1)) := by
          rw [Bool.not_or, ← decide_not, ← decide_not]
          congr 1 <;> exact decide_eq_decide.mpr ⟨fun z => Ne.symm z, fun z => Ne.symm z⟩
        rw [e1]
        exact dt_and2 (dt_neI <| de_name 4 rfl <| de_ixT <| de_ixT <| de_w1 0 rfl <| de_name 5 rfl ⟨_, _, _, rfl, rfl, row_at, de_int ⟨_, _, _, rfl, rfl, rfl, _, _, rfl, rfl, rfl, rfl⟩⟩)
          (fun _ => dt_neI <| de_name 4 rfl <| de_ixT <| de_ixT <| de_w1 0 rfl <| de_name 5 rfl ⟨_, _, _, rfl, rfl, row_at, de_int ⟨_, _, _, rfl, rfl, rfl, _, _, rfl, rfl, rfl, rfl⟩⟩)
      · refine dss_one <| ds_ret <| de_neg <| de_int ⟨_, rfl, fail ?_⟩
        simp at hb4
        unfold goF; rw [Option.bind_some, if_neg h3, sd]; unfold far; rw [if_neg hb4.1, if_neg hb4.2]; rfl
      refine dss_nil <| dss_cons <| ds_append 3 rfl <| de_name 4 rfl ⟨_, rfl, by rw [List.length_map, sizeLine_eq]; omega, ?_⟩
      rw [snoc_int]
      refine dss_one <| ds_set 4 <| de_sub <| de_add <| de_ixT <| de_ixT <| de_w1 0 rfl <| de_name 5 rfl ⟨_, _, _, rfl, rfl, row_at, de_int ⟨_, _, _, rfl, rfl, rfl, de_ixT <| de_ixT <| de_w1 0 rfl <| de_name 5 rfl ⟨_, _, _, rfl, rfl, row_at, de_int ⟨_, _, _, rfl, rfl, rfl, _, _, rfl, rfl, de_name 4 rfl ⟨_, _, rfl, rfl, ?_⟩⟩⟩⟩⟩
      refine ⟨met ++ [now], l.1 + l.2.1 - now, _, ?_, by rw [List.length_append, List.length_singleton, hml], by omega, rfl⟩
      rw [step1]; unfold goF; rw [Option.bind_some, if_neg h3, sd]; unfold far
      by_cases c1 : l.1 = now
      · rw [if_pos c1]; show some (_, _) = some (_, _); congr 2; omega
      · have c2 : l.2.1 = now := by
          by_cases c2 : l.2.1 = now
          · exact c2
          · rw [decide_eq_false c1, decide_eq_false c2] at hb4; cases hb4
        rw [if_neg c1, if_pos c2]; show some (_, _) = some (_, _); congr 2; omega
    · rintro ρ2 ⟨met, now, u, ha, hml, hil, rfl⟩
      rw [List.take_length] at ha
      obtain ⟨hal, nd⟩ := goF_walk ha (by simp)
      obtain ⟨is', rfl, _⟩ := hs_of_isH (along_ints (h := a) hal)
      have mne : 1 ≤ met.length := by
        have := List.length_pos_iff.mpr hne
        omega
      have hgoal : goalF w.rows a (.tuple (is'.map .int)) = if (decide (now ∈ met.drop 1) || (decide (now = a) && (decide (is'.length < 2) || (decide (is'.length = 2) && decide (toI ((is'.map PyData.int).getD 0 .none) = toI ((is'.map PyData.int).getD 1 .none)))))) = true then -1 else now := by
        show goalT w.rows a _ = _
        unfold goalT
        rw [if_neg hne, ha]
        show (if now ∈ met.drop 1 ∨ _ then _ else _) = _
        simp only [Bool.or_eq_true, Bool.and_eq_true, decide_eq_true_eq, List.length_map]
      have cut1 : DL.cutD (met.map PyData.int) (some 1) none = (met.drop 1).map .int := by
        have := cut_nat (xs := met.map PyData.int) (i := 1) (by rw [List.length_map]; exact mne)
        rw [List.map_drop]; exact this
      refine dss_cons <| ds_if <| dt_is2 (decide (now ∈ met.drop 1) || (decide (now = a) && (decide (is'.length < 2) || (decide (is'.length = 2) && decide (toI ((is'.map PyData.int).getD 0 .none) = toI ((is'.map PyData.int).getD 1 .none)))))) (ρ' := [some (.im (encW w)), some (.im (.int a)), some (.im (.tuple (is'.map .int))), some (.im (.list (met.map .int))), some (.im (.int now)), u]) ?_ ⟨fun hb => ?_, fun hb => ?_⟩
      · refine dt_or2 (dt_in (by rfl) <| de_name 4 rfl <| de_new <| dn_slL <| de_own 3 rfl <| dpo_some <| de_int ⟨1, rfl, dpo_none ⟨_, rfl, now, met.drop 1, rfl, .inl (by rw [cut1]), rfl, rfl⟩⟩) fun _ => ?_
        refine dt_and2 (dt_eqI <| de_name 4 rfl <| de_name 1 rfl ⟨_, _, rfl, rfl, rfl, rfl⟩) fun _ => ?_
        refine dt_or2 (dt_lt <| de_lenT B.len <| de_name 2 rfl ⟨_, rfl, de_int ⟨_, _, rfl, rfl, ?_, rfl⟩⟩) fun _ => ?_
        · rw [List.length_map]; exact decide_eq_decide.mpr (by omega)
        refine dt_and2 (dt_eqI <| de_lenT B.len <| de_name 2 rfl ⟨_, rfl, de_int ⟨_, _, rfl, rfl, ?_, rfl⟩⟩) fun h2 => ?_
        · rw [List.length_map]; exact decide_eq_decide.mpr (by omega)
        have h2 := of_decide_eq_true h2
        match is', h2 with
        | [x0, x1], _ => exact dt_eqI <| de_ixT <| de_name 2 rfl <| de_int ⟨_, _, _, rfl, rfl, rfl, de_ixT <| de_name 2 rfl <| de_int ⟨_, _, _, rfl, rfl, rfl, _, _, rfl, rfl, rfl, rfl⟩⟩
      · refine dss_one <| ds_ret <| de_neg <| de_int ⟨_, rfl, ?_⟩
        show PyData.int (-1) = _
        rw [hgoal, if_pos hb]
      · refine dss_nil <| dss_one <| ds_ret <| de_name 4 rfl ?_
        show PyData.int now = _
        rw [hgoal, if_neg (by rw [hb]; exact Bool.false_ne_true)]
theorem ok_law_truth (F : FnP K "_law_truth" s_law_truth f fd) : FnOk P w K mg base (L2.CX P w) 1 f fd P_law_truth (spT C T_law_truth) := by
  refine fn_ok F sc_law_truth (by rintro _ _ _ ⟨x, _, rfl, _⟩; rfl) fun cdv A outer s0 H E Γ hr ds r e hT _ => ?_
  obtain ⟨b, c, rfl, rfl, rfl⟩ := hT
  refine dss_cons <| ds_if <| dt_val <| de_name 1 rfl ⟨c, rfl, fun h => ?_, fun h => dss_nil ?_⟩
  · refine dss_one <| ds_ret <| de_isB <| de_name 0 rfl <| de_bl ⟨_, _, rfl, rfl, ?_⟩
    rw [h]; rfl
  · refine dss_one <| ds_ret <| de_isB <| de_name 0 rfl <| de_bl ⟨_, _, rfl, rfl, ?_⟩
    rw [h]; rfl
end
end HL
namespace HL
open PySem PySem.Spec PyProof.Rows L2 DL
abbrev Q_walk : Pp := { n := 2, pre := fun _ ds => ∃ (w : Web) (a : Int), w.Ok ∧ ds = [encW w, .int a], ok := fun _ ds d _ => ∃ is' : List Int, d = encT is' ∧ is'.length ≤ 5 }
abbrev T_law_led : DL.Tm := fun ds r e => ∃ (w : Web) (s : List Int) (a : Int) (is' hs : List Int) (c : Int), w.Ok ∧ s.length = w.rows.length ∧ along w.rows a (is'.map .int) = some hs ∧ ds = [encW w, encT s, .int a, encT is', .int c] ∧ r = is (ledD (led w.rows s a is' c)) ∧ e = noE
abbrev T_law_least : DL.Tm := fun ds r e => ∃ (w : Web) (s : List Int) (a : Int) (t : D), w.Ok ∧ s.length = w.rows.length ∧ 0 ≤ a ∧ lenD t ≤ 1000 ∧ ds = [encW w, encT s, .int a, t] ∧ r = (fun d => ∃ i : Int, d = .int i) ∧ e = noE
/-- is_way, is_ring at what is right -/
abbrev U_is_ring : DL.Tm := fun ds r e => ∃ (w : Web) (a : Int) (t : D), w.Ok ∧ 0 ≤ a ∧ a < w.n ∧ lenD t ≤ 1000 ∧ ds = [encW w, .int a, t] ∧ r = is (.bool (decide (goalF w.rows a t = a))) ∧ e = noE
theorem wk_is_ring : Wk T_is_ring U_is_ring := by
  rintro ds r e ⟨w, a, t, hw, a0, a1, ht, rfl, rfl, rfl⟩
  refine ⟨_, _, ⟨w, .int a, t, hw, by omega, rfl, rfl, rfl⟩, ?_, ?_⟩
  · rintro d ⟨_, rfl⟩; show PyData.bool (ringB w.rows a t) = _; rw [ring_goal hw a0]
  · rintro w' ⟨z, _⟩; rw [isH_ok a0 a1] at z; cases z
abbrev U_is_way : DL.Tm := fun ds r e => ∃ (w : Web) (a b : Int) (t : D), w.Ok ∧ 0 ≤ a ∧ a < w.n ∧ 0 ≤ b ∧ b < w.n ∧ a ≠ b ∧ lenD t ≤ 1000 ∧ ds = [encW w, .int a, .int b, t] ∧ r = is (.bool (decide (goalF w.rows a t = b))) ∧ e = noE
theorem wk_is_way : Wk T_is_way U_is_way := by
  rintro ds r e ⟨w, a, b, t, hw, a0, a1, b0, b1, hab, ht, rfl, rfl, rfl⟩
  have hth : okTh w.n (.int a) (.int b) = true := by
    show (isH w.n (.int b) && decide (b ≠ a)) = true
    rw [isH_ok b0 b1, decide_eq_true (Ne.symm hab)]; rfl
  refine ⟨_, _, ⟨w, .int a, .int b, t, hw, by omega, rfl, rfl, rfl⟩, ?_, ?_⟩
  · rintro d ⟨_, _, rfl⟩; show PyData.bool (wayB w.rows a b t) = _; rw [way_goal hab b0]
  · rintro w' (⟨z, _⟩ | ⟨_, z, _⟩)
    · rw [isH_ok a0 a1] at z; cases z
    · rw [hth] at z; cases z
section
variable {P : Program} {w : World} {K : PySem.W.Frag} {mg : Str → Option Value} {base : Heap} {f C : Addr} {fd : FuncData}
theorem ok_law_asked (Lg : Df P w K mg base "_law_goal" P_law_goal 2 (spT C T_law_goal)) (Lt : Df P w K mg base "_law_truth" P_law_truth 1 (spT C T_law_truth)) (L5 : Df P w K mg base "is_way" P_is_way 6 (spT C T_is_way)) (L6 : Df P w K mg base "is_ring" P_is_ring 6 (spT C T_is_ring))
    (M5 : Dk P w K mg base "is_way" P_is_way 6 (spT C T_is_way)) (M6 : Dk P w K mg base "is_ring" P_is_ring 6 (spT C T_is_ring)) (F : FnP K "_law_asked" s_law_asked f fd) : FnOk P w K mg base (L2.CX P w) 7 f fd P_law_asked (spT C T_law_asked) := by
  refine fn_ok F sc_law_asked (by rintro _ _ _ ⟨x, _, _, _, _, _, _, _, _, _, _, rfl, _⟩; rfl) fun cdv A outer s0 H E Γ hr ds r e hT _ => ?_
  obtain ⟨w, a, b, t, nm, hw, a0, a1, b0, b1, ht, rfl, rfl, rfl⟩ := hT
  refine dss_cons <| ds_set 5 <| de_call Lg (hr.mono (by decide)) <| da_cons <| de_name 0 rfl <| da_cons <| de_name 1 rfl <| da_one <| de_name 3 rfl ⟨_, _, ⟨w, a, t, hw, ht, rfl, rfl, rfl⟩, noerr, ?_⟩
  rintro d rfl
  refine dss_cut (fun ρ => ρ = [some (.im (encW w)), some (.im (.int a)), some (.im (.int b)), some (.im t), some (.im (.bool nm)), some (.im (.int (goalF w.rows a t))), some (.im (.bool (decide (goalF w.rows a t = a))))]) ?_ ?_
  · refine ds_if <| dt_val <| de_name 4 rfl ⟨nm, rfl, fun _ => ?_, fun _ => ?_⟩
    · refine dss_one <| ds_set 6 <| de_callKw (M6.weak wk_is_ring) hr <| dkw_cons <| de_name 3 rfl <| dkw_cons <| de_name 1 rfl <| dkw_cons <| de_name 0 rfl <| dkw_nil ⟨_, _, ⟨w, a, t, hw, a0, a1, ht, rfl, rfl, rfl⟩, noerr, ?_⟩
      rintro d rfl; rfl
    · refine dss_one <| ds_set 6 <| de_call (L6.weak wk_is_ring) hr <| da_cons <| de_name 0 rfl <| da_cons <| de_name 1 rfl <| da_one <| de_name 3 rfl ⟨_, _, ⟨w, a, t, hw, a0, a1, ht, rfl, rfl, rfl⟩, noerr, ?_⟩
      rintro d rfl; rfl
  rintro ρ1 rfl
  refine dss_cons <| ds_if <| dt_not <| dt_val <| de_call Lt (hr.mono (by decide)) <| da_cons <| de_name 6 rfl <| da_one <| de_eqI <| de_name 5 rfl <| de_name 1 rfl ⟨_, _, rfl, rfl, _, _, ⟨_, _, rfl, rfl, rfl⟩, noerr, ?_⟩
  rintro d rfl
  refine ⟨_, rfl, fun h => absurd h (by simp), fun _ => dss_nil ?_⟩
  refine dss_cons <| ds_if <| dt_eqI <| de_name 1 rfl <| de_name 2 rfl ⟨_, _, rfl, rfl, fun _ => dss_one <| ds_ret <| de_bl rfl, fun h => dss_nil ?_⟩
  have hab := of_decide_eq_false h
  have tt : ∀ q : Bool, PyData.bool (decide (q = q)) = .bool true := fun q => by simp
  refine dss_cons <| ds_if <| dt_val <| de_name 4 rfl ⟨nm, rfl, fun _ => ?_, fun _ => dss_nil ?_⟩
  · refine dss_one <| ds_ret <| de_call Lt (hr.mono (by decide)) <| da_cons <| de_callKw (M5.weak wk_is_way) hr <| dkw_cons <| de_name 3 rfl <| dkw_cons <| de_name 2 rfl <| dkw_cons <| de_name 1 rfl <| dkw_cons <| de_name 0 rfl <| dkw_nil ⟨_, _, ⟨w, a, b, t, hw, a0, a1, b0, b1, hab, ht, rfl, rfl, rfl⟩, noerr, ?_⟩
    rintro d rfl
    refine da_one <| de_eqI <| de_name 5 rfl <| de_name 2 rfl ⟨_, _, rfl, rfl, _, _, ⟨_, _, rfl, rfl, rfl⟩, noerr, ?_⟩
    rintro d rfl
    exact tt _
  · refine dss_one <| ds_ret <| de_call Lt (hr.mono (by decide)) <| da_cons <| de_call (L5.weak wk_is_way) hr <| da_cons <| de_name 0 rfl <| da_cons <| de_name 1 rfl <| da_cons <| de_name 2 rfl <| da_one <| de_name 3 rfl ⟨_, _, ⟨w, a, b, t, hw, a0, a1, b0, b1, hab, ht, rfl, rfl, rfl⟩, noerr, ?_⟩
    rintro d rfl
    refine da_one <| de_eqI <| de_name 5 rfl <| de_name 2 rfl ⟨_, _, rfl, rfl, _, _, ⟨_, _, rfl, rfl, rfl⟩, noerr, ?_⟩
    rintro d rfl
    exact tt _
theorem ok_law_walk (B : Bi mg) (L : Df P w K mg base "_law_take" P_law_take 1 (spPl Q_take)) (F : FnP K "_law_walk" s_law_walk f fd) : FnOk P w K mg base (L2.CX P w) 2 f fd P_law_walk (spPl Q_walk) := by
  refine fn_okP (C := f) F sc_law_walk rfl fun cdv A outer s H E Γ hr p qs ds hl hp => ?_
  obtain ⟨w, a, hw, rfl⟩ := hp
  refine dss_cons <| ds_setN 3 <| dn_list <| da_nil ⟨Nat.le_of_ble_eq_true rfl, ?_⟩
  refine dss_cons <| ds_set 4 <| de_name 2 rfl ?_
  refine dss_cons <| ds_for [5] <| di_range B.range <| de_add <| de_int <| de_take 0 rfl L hr <| de_int ⟨5, rfl, by decide, qs, rfl, fun n ps n0 n1 => ⟨_, _, rfl, rfl, _, rfl, by omega, by omega,
    fun i ρ => ∃ (ps is' : List Int) (now : Int) (u v y z : Option Bd), is'.length ≤ i ∧ i ≤ 5 ∧ ρ = [some (.own (some p) (ps.map .int)), some (.im (encW w)), some (.im (.int a)), some (.own none (is'.map .int)), some (.im (.int now)), u, v, y, z], ⟨ps, [], a, _, _, _, _, by simp, by omega, rfl⟩, ?_, ?_⟩⟩
  · rintro i d ρ2 hi ⟨ps, is', now, u, v, y, z, hl, hi5, rfl⟩
    obtain ⟨hi', rfl⟩ := upto_get hi
    have hi' : i < 5 := by omega
    refine dg_name 5 <| dss_cons <| ds_setN 6 <| dn_list <| da_nil ⟨Nat.le_of_ble_eq_true rfl, ?_⟩
    refine dss_cons <| ds_for [7] <| di_range B.range <| de_lenT B.len <| de_w1 1 rfl ⟨_, rfl, _, rfl, by omega, by have := hw.r7; rw [List.length_map]; omega,
      fun j ρ => ∃ (ws : List Int) (y : Option Bd), (∀ k ∈ ws, 0 ≤ k ∧ k < w.rows.length) ∧ ws.length ≤ j ∧ j ≤ w.rows.length ∧ ρ = [some (.own (some p) (ps.map .int)), some (.im (encW w)), some (.im (.int a)), some (.own none (is'.map .int)), some (.im (.int now)), some (.im (.int (i : Nat))), some (.own none (ws.map .int)), y, z], ⟨[], y, by simp, by simp, by omega, rfl⟩, ?_, ?_⟩
    · rintro j d ρ2 hj ⟨ws, y, hws, hwl, hjr, rfl⟩
      obtain ⟨hj', rfl⟩ := upto_get hj
      have hj : j < w.rows.length := by simpa using hj'
      obtain ⟨l, hl1⟩ : ∃ l, w.rows[j]? = some l := ⟨_, List.getElem?_eq_getElem hj⟩
      have row_at : atI (w.rows.map encR) ((j : Nat) : Int) = some (encR l) := at_of (by omega) (by rw [List.getElem?_map]; show (w.rows[j]?).map _ = _; rw [hl1]; rfl)
      refine dg_name 7 <| dss_one <| ds_if <| dt_is (decide (now = l.1) || decide (now = l.2.1)) ?_ ⟨fun _ => ?_, fun _ => dss_nil ⟨ws, _, hws, by omega, by omega, rfl⟩⟩
      · exact dt_or2 (dt_eqI <| de_name 4 rfl <| de_ixT <| de_ixT <| de_w1 1 rfl <| de_name 7 rfl ⟨_, _, _, rfl, rfl, row_at, de_int ⟨_, _, _, rfl, rfl, rfl, _, _, rfl, rfl, rfl, rfl⟩⟩)
          (fun _ => dt_eqI <| de_name 4 rfl <| de_ixT <| de_ixT <| de_w1 1 rfl <| de_name 7 rfl ⟨_, _, _, rfl, rfl, row_at, de_int ⟨_, _, _, rfl, rfl, rfl, _, _, rfl, rfl, rfl, rfl⟩⟩)
      · refine dss_one <| ds_append 6 rfl <| de_name 7 rfl ⟨_, rfl, by have := hw.r7; rw [List.length_map, sizeLine_eq]; omega, ?_⟩
        rw [snoc_int]
        refine ⟨ws ++ [((j : Nat) : Int)], _, fun k hk => ?_, by rw [List.length_append, List.length_singleton]; omega, by omega, rfl⟩
        rcases List.mem_append.mp hk with hk | hk
        · exact hws k hk
        · rw [List.mem_singleton.mp hk]; omega
    · rintro ρ2 ⟨ws, y, hws, hwl, hjr, rfl⟩
      have hwl : ws.length ≤ 7 := by
        rw [upto_len] at hwl
        have := hw.r7
        rw [List.length_map] at hwl
        omega
      refine dss_cons <| ds_setLcI 8 [("_law_k", 7)] (by decide) (by rfl) (di_list <| de_own 6 rfl ⟨_, rfl,
        fun j ρ acc => ∃ fs : List Int, acc = fs.map .int ∧ (∀ k ∈ fs, 0 ≤ k ∧ k < w.rows.length) ∧ fs.length ≤ j ∧ j ≤ 7 ∧ ρ = [some (.own (some p) (ps.map .int)), some (.im (encW w)), some (.im (.int a)), some (.own none (is'.map .int)), some (.im (.int now)), some (.im (.int (i : Nat))), some (.im (.list (ws.map .int))), none, z], ⟨[], rfl, by simp, by simp, by omega, rfl⟩, ?_, ?_⟩) (hsw := by rfl)
      · rintro j d ρ2 acc hj ⟨fs, rfl, hfs, hfl, hj7, rfl⟩
        have hj9 : j < 7 := by
          have := (List.getElem?_eq_some_iff.mp hj).1
          rw [List.length_map] at this; omega
        rw [List.getElem?_map, Option.map_eq_some_iff] at hj
        obtain ⟨k, hk, rfl⟩ := hj
        refine ct_if (!decide (k ∈ is')) (fun _ _ _ _ _ _ => dg_name 7 rfl) (fun _ _ _ _ _ _ => dt_notInO 3 (by rfl) <| de_name 7 rfl ⟨_, _, rfl, rfl, rfl, rfl⟩) (fun _ _ _ _ _ _ _ => de_name 7 rfl ⟨by rw [List.length_map, sizeLine_eq]; omega, fs ++ [k], by rw [List.map_append]; rfl, fun q hq => ?_, by rw [List.length_append, List.length_singleton]; omega, by omega, rfl⟩) (fun _ => ⟨fs, rfl, hfs, by omega, by omega, rfl⟩)
        rcases List.mem_append.mp hq with hq | hq
        · exact hfs q hq
        · rw [List.mem_singleton.mp hq]; exact hws k (List.mem_of_getElem? hk)
      rintro ρ2 acc ⟨fs, rfl, hfs, hfl, hj7, rfl⟩
      refine dss_cut (fun ρ => ∃ (ps ws : List Int) (z : Option Bd), (∀ k ∈ ws, 0 ≤ k ∧ k < w.rows.length) ∧ ρ = [some (.own (some p) (ps.map .int)), some (.im (encW w)), some (.im (.int a)), some (.own none (is'.map .int)), some (.im (.int now)), some (.im (.int (i : Nat))), some (.im (.list (ws.map .int))), none, z]) ?_ ?_
      · refine ds_if <| dt_bool <| dw_and <| dt_gt <| de_lenL B.len <| de_name 8 rfl ⟨_, rfl, de_int ⟨_, _, rfl, rfl, fun _ => dw_and1 <| dt_lt <| de_take 0 rfl L hr <| de_int ⟨5, rfl, by decide, ps, rfl, fun t ps t0 t1 => de_int ⟨_, _, rfl, rfl, fun _ => ?_, fun _ => dss_nil ⟨ps, ws, _, hws, rfl⟩⟩⟩, fun _ => ⟨fun z => (by cases z), fun _ => dss_nil ⟨ps, ws, _, hws, rfl⟩⟩⟩⟩
        exact dss_one <| ds_set 6 <| de_name 8 rfl ⟨ps, fs, _, hfs, rfl⟩
      rintro ρ1 ⟨ps, ws, z, hws, rfl⟩
      refine dss_cons <| ds_if <| dt_eqI <| de_lenL B.len <| de_name 6 rfl ⟨_, rfl, de_int ⟨_, _, rfl, rfl, fun _ => dss_one <| ds_break ?_, fun hz => dss_nil ?_⟩⟩
      · exact dss_one <| ds_ret <| de_tupleL B.tuple <| de_own 3 rfl ⟨_, rfl, ps, rfl, is', rfl, by omega⟩
      have hz := of_decide_eq_false hz
      rw [List.length_map] at hz
      refine dss_cons <| ds_set 7 <| de_ixL <| de_name 6 rfl <| de_take 0 rfl L hr <| de_lenL B.len <| de_name 6 rfl ⟨_, rfl, _, rfl, by rw [List.length_map]; omega, ps, rfl, fun t ps t0 t1 => ?_⟩
      rw [List.length_map] at t1
      have tl : t.toNat < ws.length := by omega
      refine ⟨_, _, .int (ws.getD t.toNat 0), rfl, rfl, at_of t0 (map_int_at tl), ?_⟩
      have hk : 0 ≤ ws.getD t.toNat 0 ∧ ws.getD t.toNat 0 < w.rows.length := by
        rw [List.getD_eq_getElem?_getD, List.getElem?_eq_getElem tl]
        exact hws _ (List.getElem_mem tl)
      generalize ws.getD t.toNat 0 = k at hk
      obtain ⟨k0, k1⟩ := hk
      obtain ⟨l, hl1⟩ : ∃ l, w.rows[k.toNat]? = some l := ⟨_, List.getElem?_eq_getElem (by omega)⟩
      have row_at : atI (w.rows.map encR) k = some (encR l) := at_of k0 (by rw [List.getElem?_map, hl1]; rfl)
      refine dss_cons <| ds_append 3 rfl <| de_name 7 rfl ⟨_, rfl, by rw [List.length_map, sizeLine_eq]; omega, ?_⟩
      rw [snoc_int]
      refine dss_one <| ds_set 4 <| de_sub <| de_add <| de_ixT <| de_ixT <| de_w1 1 rfl <| de_name 7 rfl ⟨_, _, _, rfl, rfl, row_at, de_int ⟨_, _, _, rfl, rfl, rfl, de_ixT <| de_ixT <| de_w1 1 rfl <| de_name 7 rfl ⟨_, _, _, rfl, rfl, row_at, de_int ⟨_, _, _, rfl, rfl, rfl, _, _, rfl, rfl, de_name 4 rfl ⟨_, _, rfl, rfl, ?_⟩⟩⟩⟩⟩
      exact ⟨ps, is' ++ [k], l.1 + l.2.1 - now, _, _, _, _, by rw [List.length_append, List.length_singleton]; omega, by omega, rfl⟩
  · rintro ρ2 ⟨ps, is', now, u, v, y, z, hl, hi5, rfl⟩
    exact dss_one <| ds_ret <| de_tupleL B.tuple <| de_own 3 rfl ⟨_, rfl, ps, rfl, is', rfl, by omega⟩
theorem ok_law_led (B : Bi mg) (F : FnP K "_law_led" s_law_led f fd) : FnOk P w K mg base (L2.CX P w) 1 f fd P_law_led (spT C T_law_led) := by
  refine fn_ok F sc_law_led (by rintro _ _ _ ⟨x, _, _, _, _, _, _, _, _, rfl, _⟩; rfl) fun cdv A outer s0 H E Γ hr ds r e hT _ => ?_
  obtain ⟨w, s, a, is', hs, c, hw, hsl, hal, rfl, rfl, rfl⟩ := hT
  refine dss_cons <| ds_setN 5 <| dn_listT B.list <| de_name 1 rfl ⟨_, .inl rfl, ?_⟩
  refine dss_cons <| ds_set 6 <| de_name 2 rfl ?_
  refine dss_cons <| ds_for [7] <| di_tup <| de_name 3 rfl ⟨_, rfl,
    fun i ρ => ∃ es h u, led w.rows s a (is'.take i) c = some (es, h) ∧ h = hs.getD i 0 ∧ ρ = [some (.im (encW w)), some (.im (encT s)), some (.im (.int a)), some (.im (encT is')), some (.im (.int c)), some (.own none (es.map .int)), some (.im (.int h)), u], ⟨s, a, _, rfl, ?_, rfl⟩, ?_, ?_⟩
  · obtain ⟨r, hr, _⟩ := along_head hal
    rw [hr]; rfl
  · rintro i d ρ2 hi ⟨es, h, u, ha, hh, rfl⟩
    have hid := hi
    rw [List.getElem?_map, Option.map_eq_some_iff] at hi
    obtain ⟨j, hj, rfl⟩ := hi
    obtain ⟨j', l, ej, j0, j1, hl, cc⟩ := stepD_row (along_at hal hid)
    cases ej
    have ne := (hw.row l (List.mem_of_getElem? hl)).2.1
    have eL : es.length = w.rows.length := (led_len ha).trans hsl
    have step : led w.rows s a is' c = (is'.drop (i + 1)).foldl (ledS w.rows c) (ledS w.rows c (some (es, h)) j) := by rw [led_split hj, ha]
    have step1 : led w.rows s a (is'.take (i + 1)) c = ledS w.rows c (some (es, h)) j := by rw [← ha]; exact fold_next _ _ hj
    have row_at : atI (w.rows.map encR) j = some (encR l) := at_of j0 (by rw [List.getElem?_map, hl]; rfl)
    have eE : es.getD j.toNat 0 + c * (2 * b2 (decide (h = l.2.1)) - 1) = ledE w.rows c (es, h) j := by
      unfold ledE; rw [rowAt_of hl]
      rw [← hh] at cc
      rcases cc with ⟨x1, _⟩ | ⟨x1, x2, _⟩
      · rw [if_pos x1.symm, decide_eq_false (by omega)]; show es.getD j.toNat 0 + c * (2 * 0 - 1) = es.getD j.toNat 0 - c; omega
      · rw [if_neg (fun z => x1 z.symm), decide_eq_true x2.symm]; show es.getD j.toNat 0 + c * (2 * 1 - 1) = es.getD j.toNat 0 + c; omega
    have eH : l.1 + l.2.1 - h = ledH w.rows (es, h) j ∧ ledH w.rows (es, h) j = hs.getD (i + 1) 0 := by
      unfold ledH; rw [rowAt_of hl]
      rw [← hh] at cc
      rcases cc with ⟨x1, x2⟩ | ⟨x1, x2, x3⟩
      · rw [if_pos x1.symm, x2]; exact ⟨by omega, rfl⟩
      · rw [if_neg (fun z => x1 z.symm), x3]; exact ⟨by omega, rfl⟩
    have eS : ledS w.rows c (some (es, h)) j = if ledE w.rows c (es, h) j < 0 ∨ ledE w.rows c (es, h) j > l.2.2 then none else some (es.set j.toNat (ledE w.rows c (es, h) j), ledH w.rows (es, h) j) := by
      unfold ledS; rw [Option.bind_some, rowAt_of hl]
    have ix0 : ixN (es.map PyData.int).length j = some j.toNat := ix_of j0 (by rw [List.length_map]; omega)
    have at0 : (es.map PyData.int)[j.toNat]? = some (.int (es.getD j.toNat 0)) := map_int_at (by omega)
    have at1 : ∀ e : Int, atI ((es.set j.toNat e).map PyData.int) j = some (.int e) := fun e => at_of j0 (by rw [List.getElem?_map, List.getElem?_set_self (by omega)]; rfl)
    have b2s : ∀ c : Bool, -(2 ^ 64) < 2 * b2 c - 1 ∧ 2 * b2 c - 1 < 2 ^ 64 := fun c => by cases c <;> exact ⟨by decide, by decide⟩
    refine dg_name 7 <| dss_cons <| ds_augS 5 ip_add rfl <| de_name 7 rfl ⟨_, _, _, _, rfl, rfl, ix0, at0, de_mul <| de_name 4 rfl <| de_sub <| de_mul <| de_int <| de_intB B.int <| de_eqI <| de_name 6 rfl <| de_ixT <| de_ixT <| de_w1 0 rfl <| de_name 7 rfl ⟨_, _, _, rfl, rfl, row_at, de_int ⟨_, _, _, rfl, rfl, rfl, _, _, rfl, rfl, _, rfl, _, _, rfl, rfl, .inl ⟨by decide, by decide⟩, de_int ⟨_, _, rfl, rfl, _, _, rfl, rfl, .inr (b2s _), _, rfl, rfl, ?_⟩⟩⟩⟩
    rw [map_set_int, eE]
    refine dss_cons <| ds_if <| dt_not <| dt_leLe <| de_int <| de_ixO 5 rfl <| de_name 7 rfl ⟨_, _, _, rfl, rfl, at1 _, _, _, rfl, rfl, fun h1 => de_ixT <| de_ixT <| de_w1 0 rfl <| de_name 7 rfl ⟨_, _, _, rfl, rfl, row_at, de_int ⟨_, _, _, rfl, rfl, rfl, _, rfl, fun hb => ?_, fun hb => dss_nil ?_⟩⟩, fun h1 => ⟨fun _ => ?_, fun z => (by cases z)⟩⟩
    · have h2 := of_decide_eq_false (by simpa using hb : decide (ledE w.rows c (es, h) j ≤ l.2.2) = false)
      refine dss_one <| ds_ret <| de_non ?_
      show PyData.none = ledD (led w.rows s a is' c)
      rw [step, eS, if_pos (.inr (by omega)), ledS_none]; rfl
    · have h2 := of_decide_eq_true (by simpa using hb : decide (ledE w.rows c (es, h) j ≤ l.2.2) = true)
      refine dss_one <| ds_set 6 <| de_sub <| de_add <| de_ixT <| de_ixT <| de_w1 0 rfl <| de_name 7 rfl ⟨_, _, _, rfl, rfl, row_at, de_int ⟨_, _, _, rfl, rfl, rfl, de_ixT <| de_ixT <| de_w1 0 rfl <| de_name 7 rfl ⟨_, _, _, rfl, rfl, row_at, de_int ⟨_, _, _, rfl, rfl, rfl, _, _, rfl, rfl, de_name 6 rfl ⟨_, _, rfl, rfl, ?_⟩⟩⟩⟩⟩
      exact ⟨_, l.1 + l.2.1 - h, _, by rw [step1, eS, if_neg (by omega), eH.1], eH.1.trans eH.2, rfl⟩
    · refine dss_one <| ds_ret <| de_non ?_
      show PyData.none = ledD (led w.rows s a is' c)
      rw [step, eS, if_pos (.inl (by omega)), ledS_none]; rfl
  · rintro ρ2 ⟨es, h, u, ha, hh, rfl⟩
    rw [List.length_map, List.take_length] at ha
    refine dss_one <| ds_ret <| de_tupleL B.tuple <| de_own 5 rfl ⟨_, rfl, ?_⟩
    show PyData.tuple _ = ledD (led w.rows s a is' c)
    rw [ha]; rfl
theorem ok_law_least (B : Bi mg) (Lg : Df P w K mg base "_law_goal" P_law_goal 2 (spT C T_law_goal)) (F : FnP K "_law_least" s_law_least f fd) : FnOk P w K mg base (L2.CX P w) 3 f fd P_law_least (spT C T_law_least) := by
  refine fn_ok F sc_law_least (by rintro _ _ _ ⟨x, _, _, _, _, _, _, _, rfl, _⟩; rfl) fun cdv A outer s0 H E Γ hr ds r e hT _ => ?_
  obtain ⟨w, s, a, t, hw, hsl, a0, ht, rfl, rfl, rfl⟩ := hT
  refine dss_cons <| ds_set 4 <| de_pow <| de_int <| de_int ⟨_, _, rfl, rfl, ⟨by decide, by decide, by decide⟩, ?_⟩
  refine dss_cons <| ds_if <| dt_lt <| de_call Lg hr <| da_cons <| de_name 0 rfl <| da_cons <| de_name 2 rfl <| da_one <| de_name 3 rfl ⟨_, _, ⟨w, a, t, hw, ht, rfl, rfl, rfl⟩, noerr, ?_⟩
  rintro d rfl
  refine de_int ⟨_, _, rfl, rfl, fun _ => dss_one <| ds_ret <| de_int ⟨_, rfl⟩, fun hg => dss_nil ?_⟩
  have hg := of_decide_eq_false hg
  have hl : leadsB w.rows a t = true := by rw [leads_goal hw a0]; exact decide_eq_true (by omega)
  obtain ⟨hs, ea⟩ := leads_along hl
  obtain ⟨is', rfl, hi, _⟩ := alongD_tup ea
  refine dss_cons <| ds_set 5 <| de_name 2 rfl ?_
  refine dss_cons <| ds_for [6] <| di_tup <| de_name 3 rfl ⟨_, rfl,
    fun i ρ => ∃ (m now : Int) (u : Option Bd), ρ = [some (.im (encW w)), some (.im (encT s)), some (.im (.int a)), some (.im (encT is')), some (.im (.int m)), some (.im (.int now)), u], ⟨_, _, _, rfl⟩, ?_, ?_⟩
  · rintro i d ρ2 hid ⟨m, now, u, rfl⟩
    rw [List.getElem?_map, Option.map_eq_some_iff] at hid
    obtain ⟨j, hj, rfl⟩ := hid
    obtain ⟨j0, j1⟩ := hi j (List.mem_of_getElem? hj)
    obtain ⟨l, hl⟩ : ∃ l, w.rows[j.toNat]? = some l := ⟨_, List.getElem?_eq_getElem (by omega)⟩
    have row_at : atI (w.rows.map encR) j = some (encR l) := at_of j0 (by rw [List.getElem?_map, hl]; rfl)
    have half_at : atI (s.map PyData.int) j = some (.int (s.getD j.toNat 0)) := at_of j0 (map_int_at (by omega))
    refine dg_name 6 <| dss_cut (fun ρ => ∃ m : Int, ρ = [some (.im (encW w)), some (.im (encT s)), some (.im (.int a)), some (.im (encT is')), some (.im (.int m)), some (.im (.int now)), some (.im (.int j))]) ?_ ?_
    · refine ds_if <| dt_eqI <| de_name 5 rfl <| de_ixT <| de_ixT <| de_w1 0 rfl <| de_name 6 rfl ⟨_, _, _, rfl, rfl, row_at, de_int ⟨_, _, _, rfl, rfl, rfl, _, _, rfl, rfl, fun _ => ?_, fun _ => ?_⟩⟩
      · exact dss_one <| ds_set 4 <| de_min2 B.min <| de_name 4 rfl <| de_ixT <| de_name 1 rfl <| de_name 6 rfl ⟨_, _, _, rfl, rfl, half_at, _, _, rfl, rfl, _, rfl⟩
      · exact dss_one <| ds_set 4 <| de_min2 B.min <| de_name 4 rfl <| de_sub <| de_ixT <| de_ixT <| de_w1 0 rfl <| de_name 6 rfl ⟨_, _, _, rfl, rfl, row_at, de_int ⟨_, _, _, rfl, rfl, rfl, de_ixT <| de_name 1 rfl <| de_name 6 rfl ⟨_, _, _, rfl, rfl, half_at, _, _, rfl, rfl, _, _, rfl, rfl, _, rfl⟩⟩⟩
    rintro ρ1 ⟨m, rfl⟩
    exact dss_one <| ds_set 5 <| de_sub <| de_add <| de_ixT <| de_ixT <| de_w1 0 rfl <| de_name 6 rfl ⟨_, _, _, rfl, rfl, row_at, de_int ⟨_, _, _, rfl, rfl, rfl, de_ixT <| de_ixT <| de_w1 0 rfl <| de_name 6 rfl ⟨_, _, _, rfl, rfl, row_at, de_int ⟨_, _, _, rfl, rfl, rfl, _, _, rfl, rfl, de_name 5 rfl ⟨_, _, rfl, rfl, _, _, _, rfl⟩⟩⟩⟩⟩
  · rintro ρ2 ⟨m, now, u, rfl⟩
    exact dss_one <| ds_ret <| de_name 4 rfl ⟨_, rfl⟩
end
end HL
namespace HL
open PySem PySem.Spec PyProof.Rows L2 DL
abbrev T_law_lead : DL.Tm := fun ds r e => ∃ (w : Web) (s : List Int) (y t c : D) (nm : Bool), w.Ok ∧ Sok w.rows s ∧ lenD t ≤ 1000 ∧ ds = [encW w, encT s, y, t, c, .bool nm] ∧ r = is (.bool true) ∧ e = noE
theorem isH_false {n : Nat} {y : D} (h : isI y = false) : isH n y = false := by cases y <;> first | rfl | cases h
section
variable {P : Program} {w : World} {K : PySem.W.Frag} {mg : Str → Option Value} {base : Heap} {f C : Addr} {fd : FuncData}
theorem ok_law_lead (B : Bi mg) (U : Nu P w K mg base C) (T : Kc K mg C) (Lk : Dh P w K mg base C "_law_kin" P_law_kin 2 spKin) (Li : Df P w K mg base "_law_int" P_law_int 1 (spT C T_law_int)) (Lr : Df P w K mg base "_law_row" P_law_row 2 (spT C T_law_row))
    (Lg : Df P w K mg base "_law_goal" P_law_goal 2 (spT C T_law_goal)) (Ll : Df P w K mg base "_law_led" P_law_led 1 (spT C T_law_led)) (L7 : Df P w K mg base "led_along" P_led_along 8 (spT C T_led_along)) (M7 : Dk P w K mg base "led_along" P_led_along 8 (spT C T_led_along))
    (F : FnP K "_law_lead" s_law_lead f fd) : FnOk P w K mg base (L2.CX P w) 9 f fd P_law_lead (spT C T_law_lead) := by
  obtain ⟨fi, fdi, i1, i2, i3, i4⟩ := Lk.ex
  refine fn_ok F sc_law_lead (by rintro _ _ _ ⟨x, _, _, _, _, _, _, _, _, rfl, _⟩; rfl) fun cdv A outer s0 H E Γ hr ds r e hT _ => ?_
  obtain ⟨w, s, y, t, c, nm, hw, hs, ht, rfl, rfl, rfl⟩ := hT
  have hr1 := hr.mono (show 1 ≤ 8 by decide)
  have hr2 := hr.mono (show 2 ≤ 8 by decide)
  have hx := split_ok hs
  refine dss_cons <| ds_set 6 <| de_neg <| de_int ⟨_, rfl, ?_⟩
  refine dss_cut (fun ρ => ρ = [some (.im (encW w)), some (.im (encT s)), some (.im y), some (.im t), some (.im c), some (.im (.bool nm)), some (.im (.int (if isH w.n y = true then goalF w.rows (toI y) t else -1))), none, none, none, none]) ?_ ?_
  · refine ds_if <| dt_is (isH w.n y) ?_ ⟨fun h => ?_, fun h => dss_nil ?_⟩
    · refine dt_bool <| dw_and <| dt_val <| de_call Li hr1 <| da_one <| de_name 2 rfl ⟨_, _, ⟨y, rfl, rfl, rfl⟩, noerr, ?_⟩
      rintro d rfl
      refine ⟨_, rfl, fun h => ?_, fun h => ⟨(isH_false h).symm, rfl⟩⟩
      obtain ⟨i, rfl⟩ := isI_int h
      refine dw_and1 <| dt_leLt <| de_int <| de_name 2 rfl ⟨_, _, rfl, rfl, fun h0 => de_w0 0 rfl ⟨_, rfl, ?_, rfl⟩, fun h0 => ⟨?_, rfl⟩⟩
      · show decide (i < (w.n : Int)) = (decide (0 ≤ i) && decide (i < (w.n : Int))); rw [decide_eq_true h0, Bool.true_and]
      · show false = (decide (0 ≤ i) && decide (i < (w.n : Int))); rw [decide_eq_false h0, Bool.false_and]
    · obtain ⟨i, rfl, i0, i1'⟩ := isH_int h
      refine dss_one <| ds_set 6 <| de_call Lg hr2 <| da_cons <| de_name 0 rfl <| da_cons <| de_name 2 rfl <| da_one <| de_name 3 rfl ⟨_, _, ⟨w, i, t, hw, ht, rfl, rfl, rfl⟩, noerr, ?_⟩
      rintro d rfl
      rw [if_pos h]; rfl
    · rw [if_neg (by rw [h]; exact Bool.false_ne_true)]; rfl
  rintro ρ1 rfl
  refine dss_cons <| ds_set 7 <| de_str ?_
  refine dss_cons <| ds_set 8 <| de_non ?_
  refine dss_cut (fun ρ => ∃ (fa : Str) (du : D), ρ = [some (.im (encW w)), some (.im (encT s)), some (.im y), some (.im t), some (.im c), some (.im (.bool nm)), some (.im (.int (if isH w.n y = true then goalF w.rows (toI y) t else -1))), some (.im (.str fa)), some (.im du), none, none] ∧
    (∀ e, ledR w (encT s) y t c = .error e → du = .none ∧ fa = e) ∧ (∀ d, ledR w (encT s) y t c = .ok d → du = d ∧ ∃ s' : List Int, d = encT s' ∧ s'.length ≤ 1000)) ?_ ?_
  · refine ds_if <| dt_is (!isH w.n y) ?_ ⟨fun h => ?_, fun h => ?_⟩
    · refine dt_bool <| dw_or <| dt_not <| dt_val <| de_call Li hr1 <| da_one <| de_name 2 rfl ⟨_, _, ⟨y, rfl, rfl, rfl⟩, noerr, ?_⟩
      rintro d rfl
      refine ⟨_, rfl, fun h => ⟨by rw [isH_false (by simpa using h)]; rfl, rfl⟩, fun h => ?_⟩
      obtain ⟨i, rfl⟩ := isI_int (x := y) (by simpa using h)
      refine dw_or1 <| dt_not <| dt_leLt <| de_int <| de_name 2 rfl ⟨_, _, rfl, rfl, fun h0 => de_w0 0 rfl ⟨_, rfl, ?_, rfl⟩, fun h0 => ⟨?_, rfl⟩⟩
      · show (!decide (i < (w.n : Int))) = !(decide (0 ≤ i) && decide (i < (w.n : Int))); rw [decide_eq_true h0, Bool.true_and]
      · show (!false) = !(decide (0 ≤ i) && decide (i < (w.n : Int))); rw [decide_eq_false h0, Bool.false_and]
    · have hR : ledR w (encT s) y t c = .error "house" := by
        unfold ledR; rw [if_pos hx, if_neg (by simpa using h)]
      exact dss_one <| ds_set 7 <| de_str ⟨_, _, rfl, fun e z => ⟨rfl, by rw [hR] at z; cases z; rfl⟩, fun d z => by rw [hR] at z; cases z⟩
    have hH : isH w.n y = true := by simpa using h
    obtain ⟨a, rfl, a0, a1⟩ := isH_int hH
    refine dss_one <| ds_if <| dt_lt <| de_name 6 rfl <| de_int ⟨_, _, rfl, rfl, fun hg => ?_, fun hg => ?_⟩
    · have hg := of_decide_eq_true hg
      rw [if_pos hH] at hg
      have hl : ¬ leadsB w.rows (toI (.int a)) t = true := by
        rw [leads_goal hw (show 0 ≤ toI (.int a) from a0)]; simpa using hg
      have hR : ledR w (encT s) (.int a) t c = .error "way" := by
        unfold ledR; rw [if_pos hx, if_pos hH, if_neg hl]
      exact dss_one <| ds_set 7 <| de_str ⟨_, _, rfl, fun e z => ⟨rfl, by rw [hR] at z; cases z; rfl⟩, fun d z => by rw [hR] at z; cases z⟩
    have hg := of_decide_eq_false hg
    rw [if_pos hH] at hg
    have hl : leadsB w.rows (toI (.int a)) t = true := by
      rw [leads_goal hw (show 0 ≤ toI (.int a) from a0)]; simpa using hg
    obtain ⟨hs', ea⟩ := leads_along hl
    obtain ⟨is', rfl, hi, _⟩ := alongD_tup ea
    refine dss_one <| ds_if <| dt_is (posB c) ?_ ⟨fun hp => ?_, fun hp => dss_nil ?_⟩
    · refine dt_bool <| dw_and <| dt_val <| de_call Li hr1 <| da_one <| de_name 4 rfl ⟨_, _, ⟨c, rfl, rfl, rfl⟩, noerr, ?_⟩
      rintro d rfl
      refine ⟨_, rfl, fun h => ?_, fun h => ⟨(by cases c <;> first | rfl | cases h), rfl⟩⟩
      obtain ⟨i, rfl⟩ := isI_int h
      refine dw_and1 <| dt_gt <| de_name 4 rfl <| de_int ⟨_, _, rfl, rfl, ?_, rfl⟩
      show decide (0 < i) = decide (1 ≤ i)
      exact decide_eq_decide.mpr (by omega)
    · obtain ⟨c, rfl⟩ : ∃ c', c = .int c' := by cases c <;> first | exact ⟨_, rfl⟩ | cases hp
      have hR : ledR w (encT s) (.int a) (encT is') (.int c) = match led w.rows s a is' c with | none => .error "coins" | some p => .ok (encT p.1) := by
        unfold ledR; rw [if_pos hx, if_pos hH, if_pos hl, if_pos hp, toIs_enc, toIs_enc]; rfl
      refine dss_one <| ds_set 8 <| de_call Ll hr1 <| da_cons <| de_name 0 rfl <| da_cons <| de_name 1 rfl <| da_cons <| de_name 2 rfl <| da_cons <| de_name 3 rfl <| da_one <| de_name 4 rfl ⟨_, _, ⟨w, s, a, is', hs', c, hw, hs.1, ea, rfl, rfl, rfl⟩, noerr, ?_⟩
      rintro d rfl
      refine ⟨_, _, rfl, fun e z => ?_, fun d z => ?_⟩
      · rw [hR] at z
        cases el : led w.rows s a is' c with
        | none => rw [el] at z; cases z; exact ⟨rfl, rfl⟩
        | some p => rw [el] at z; cases z
      · rw [hR] at z
        cases el : led w.rows s a is' c with
        | none => rw [el] at z; cases z
        | some p => rw [el] at z; cases z; exact ⟨rfl, p.1, rfl, by rw [led_len el, hs.1]; have := hw.r7; omega⟩
    · have hR : ledR w (encT s) (.int a) (encT is') c = .error "coins" := by
        unfold ledR; rw [if_pos hx, if_pos hH, if_pos hl, if_neg (by rw [hp]; exact Bool.false_ne_true)]
      exact ⟨_, _, rfl, fun e z => ⟨rfl, by rw [hR] at z; cases z; rfl⟩, fun d z => by rw [hR] at z; cases z⟩
  rintro ρ1 ⟨fa, du, rfl, he, hk⟩
  have hsv : ∀ e, ledR w (encT s) y t c = .error e → SV 10 (fun a dx => tAndV (tIsN (tVar 8)) (tCallE spKin a dx (tCons (tVar 10) (tCons (tVar 7) tNil)))) (is (.bool true)) e [some (.im (encW w)), some (.im (encT s)), some (.im y), some (.im t), some (.im c), some (.im (.bool nm)), some (.im (.int (if isH w.n y = true then goalF w.rows (toI y) t else -1))), some (.im (.str fa)), some (.im du), none, none] := by
    intro e z
    obtain ⟨rfl, rfl⟩ := he e z
    intro σ1 H1 G1 H0 G0 dx a Q eo hx ha hq
    have l10 : 10 < σ1.length := by rw [← eo.len]; exact Nat.le_of_ble_eq_true rfl
    obtain ⟨v8, q1, q2⟩ := eo.im 8 _ rfl
    cases q2
    refine ⟨.non, set_other q1 (by decide), true, rfl, ?_⟩
    rw [if_pos rfl]
    exact ⟨_, set_at l10, _, set_other (EO.im_at eo rfl) (by decide), fa, rfl, hx, fun H' x => hq true H' rfl x⟩
  refine dss_cut (fun ρ => ∃ s' : List Int, du = encT s' ∧ s'.length ≤ 1000 ∧ ρ = [some (.im (encW w)), some (.im (encT s)), some (.im y), some (.im t), some (.im c), some (.im (.bool nm)), some (.im (.int (if isH w.n y = true then goalF w.rows (toI y) t else -1))), some (.im (.str fa)), some (.im du), some (.im du), none]) ?_ ?_
  · refine ds_tryN (R := is (.bool true)) (te := fun a dx => tAndV (tIsN (tVar 8)) (tCallE spKin a dx (tCons (tVar 10) (tCons (tVar 7) tNil)))) 10 ⟨by rfl, by decide, .inl U.g⟩ T.te
      (fun a oe dx pn hx => pe_and (pe_cmp (pc_isN (pe_var (by rfl) (Or.inl rfl) (by decide) (by decide)))) (pe_one (pe_callE (p := (a, oe)) i4 ⟨(hr.mono (show 2 ≤ 8 by decide)).dp, (hr.mono (show 2 ≤ 8 by decide)).un⟩ hx (List.mem_cons_self) (by rfl) i1 i2 i3 (pa_cons (pe_var (by rfl) (Or.inl rfl) (by decide) (by decide)) (pa_cons (pe_var (by rfl) (Or.inl rfl) (by decide) (by decide)) pa_nil)))))
      (fun pn xe Γ' hsv' => dss_one <| ds_if <| dt_val <| de_name 5 rfl ⟨nm, rfl, fun _ => ?_, fun _ => ?_⟩)
    · refine dss_one <| ds_set 9 <| de_callKw M7 hr <| dkw_cons <| de_name 4 rfl <| dkw_cons <| de_name 3 rfl <| dkw_cons <| de_name 2 rfl <| dkw_cons <| de_name 1 rfl <| dkw_cons <| de_name 0 rfl <| dkw_nil ⟨_, _, ⟨w, encT s, y, t, c, hw, by omega, rfl, rfl, rfl⟩, fun e z => hsv' _ _ (hsv e z), fun d z => ?_⟩
      obtain ⟨rfl, s', rfl, hl⟩ := hk d z
      exact ⟨s', rfl, hl, rfl⟩
    · refine dss_one <| ds_set 9 <| de_call L7 hr <| da_cons <| de_name 0 rfl <| da_cons <| de_name 1 rfl <| da_cons <| de_name 2 rfl <| da_cons <| de_name 3 rfl <| da_one <| de_name 4 rfl ⟨_, _, ⟨w, encT s, y, t, c, hw, by omega, rfl, rfl, rfl⟩, fun e z => hsv' _ _ (hsv e z), fun d z => ?_⟩
      obtain ⟨rfl, s', rfl, hl⟩ := hk d z
      exact ⟨s', rfl, hl, rfl⟩
  rintro ρ1 ⟨s', rfl, hl, rfl⟩
  refine dss_one <| ds_ret <| de_and <| de_notN <| de_name 8 rfl ⟨_, rfl, fun _ => de_one <| de_call Lr hr2 <| da_cons <| de_name 9 rfl <| da_one <| de_name 8 rfl ⟨_, _, ⟨s', _, hl, .inr rfl, rfl, rfl, rfl⟩, noerr, fun d z => z⟩, fun z => (by cases z)⟩
end
end HL
namespace HL
open PySem PySem.Spec PyProof.Rows L2 DL
abbrev T_law_bad_split : DL.Tm := fun ds r e => ∃ (w : Web) (x : D), w.Ok ∧ isSplit w.rows x = false ∧ ds = [encW w, x] ∧ r = is (.bool true) ∧ e = noE
abbrev Q_refusals : Pp := { n := 2, pre := fun _ ds => ∃ (w : Web) (s : List Int), w.Ok ∧ (∀ r ∈ w.rows, r.2.2 ≤ 10 ^ 30) ∧ Sok w.rows s ∧ ds = [encW w, encT s], ok := fun _ _ d _ => d = .bool true }
/-! ### refusals -/
theorem rf_purses_of {w : Web} (hw : w.Ok) {x : D} (h : isSplit w.rows x = false) : Rf "purses_of" [encW w, x] "split" := by
  refine ⟨_, _, .inl ⟨rfl, _, _, rfl, w, x, hw, rfl, rfl, rfl⟩, ?_, ?_⟩
  · rintro d ⟨s, rfl, hs, _⟩; rw [split_ok hs] at h; cases h
  · rintro w' ⟨_, rfl⟩; rfl
theorem rf_turned_over {w : Web} (hw : w.Ok) {x : D} (h : isSplit w.rows x = false) : Rf "turned_over" [encW w, x] "split" := by
  refine ⟨_, _, .inr (.inl ⟨rfl, _, _, rfl, w, x, hw, rfl, rfl, rfl⟩), ?_, ?_⟩
  · rintro d ⟨s, rfl, hs, _⟩; rw [split_ok hs] at h; cases h
  · rintro w' ⟨_, rfl⟩; rfl
theorem rf_ends_split {w : Web} (hw : w.Ok) {x y : D} (h : isSplit w.rows x = false) : Rf "ends_at" [encW w, x, y] "split" := by
  refine ⟨_, _, .inr (.inr (.inr (.inr (.inr (.inr ⟨rfl, _, _, _, rfl, w, x, y, hw, rfl, rfl, rfl⟩))))), ?_, ?_⟩
  · rintro d ⟨s, _, rfl, hs, _⟩; rw [split_ok hs] at h; cases h
  · rintro w' (⟨_, rfl⟩ | ⟨z, _⟩)
    · rfl
    · rw [h] at z; cases z
theorem rf_ends_house {w : Web} (hw : w.Ok) {s : List Int} (hs : Sok w.rows s) {y : D} (h : isH w.n y = false) : Rf "ends_at" [encW w, encT s, y] "house" := by
  refine ⟨_, _, .inr (.inr (.inr (.inr (.inr (.inr ⟨rfl, _, _, _, rfl, w, encT s, y, hw, rfl, rfl, rfl⟩))))), ?_, ?_⟩
  · rintro d ⟨_, i, _, _, rfl, h0, h1, _⟩; rw [isH_ok h0 h1] at h; cases h
  · rintro w' (⟨z, _⟩ | ⟨_, _, rfl⟩)
    · rw [split_ok hs] at z; cases z
    · rfl
/-- no purses that can be turned over -/
def badP (w : Web) (v : D) : Prop := ∀ p : List Int, v = encT p → p.length = w.n → (∀ y ∈ p, 0 ≤ y) → ∃ q ∈ (List.range p.length).zip p, hold w (q.1 : Nat) - q.2 < 0
theorem rf_turned_purses {w : Web} (hw : w.Ok) {x : D} (h : badP w x) : Rf "turned_purses" [encW w, x] "purses" := by
  refine ⟨_, _, .inr (.inr (.inl ⟨rfl, _, _, rfl, w, x, hw, rfl, rfl, rfl⟩)), ?_, ?_⟩
  · rintro d ⟨p, rfl, h1, h2, h3, _⟩
    obtain ⟨q, hq, z⟩ := h p rfl h1 h2
    have := h3 q hq
    omega
  · rintro w' ⟨rfl, _⟩; rfl
theorem rf_way_here {w : Web} (hw : w.Ok) {x y : D} (h : isH w.n x = false) : Rf "is_way" [encW w, x, y] "here" := by
  refine ⟨_, _, .inr (.inr (.inr (.inl ⟨rfl, _, _, _, rfl, w, x, y, .tuple [], hw, by show 0 ≤ 3000; decide, rfl, rfl, rfl⟩))), ?_, ?_⟩
  · rintro d ⟨z, _⟩; rw [h] at z; cases z
  · rintro w' (⟨_, rfl⟩ | ⟨z, _⟩)
    · rfl
    · rw [h] at z; cases z
theorem rf_way_there {w : Web} (hw : w.Ok) {a : Int} (a0 : 0 ≤ a) (a1 : a < w.n) {y : D} (h : okTh w.n (.int a) y = false) : Rf "is_way" [encW w, .int a, y] "there" := by
  refine ⟨_, _, .inr (.inr (.inr (.inl ⟨rfl, _, _, _, rfl, w, .int a, y, .tuple [], hw, by show 0 ≤ 3000; decide, rfl, rfl, rfl⟩))), ?_, ?_⟩
  · rintro d ⟨_, z, _⟩; rw [h] at z; cases z
  · rintro w' (⟨z, _⟩ | ⟨_, _, rfl⟩)
    · rw [isH_ok a0 a1] at z; cases z
    · rfl
theorem rf_ring {w : Web} (hw : w.Ok) {x : D} (h : isH w.n x = false) : Rf "is_ring" [encW w, x] "house" := by
  refine ⟨_, _, .inr (.inr (.inr (.inr (.inl ⟨rfl, _, _, rfl, w, x, .tuple [], hw, by show 0 ≤ 3000; decide, rfl, rfl, rfl⟩)))), ?_, ?_⟩
  · rintro d ⟨z, _⟩; rw [h] at z; cases z
  · rintro w' ⟨_, rfl⟩; rfl
theorem rf_led {w : Web} (hw : w.Ok) {x : D} (h : isSplit w.rows x = false) : Rf "led_along" [encW w, x] "split" := by
  have e : ledR w x (.int 0) (.tuple [.int 0]) (.int 0) = .error "split" := by unfold ledR; rw [if_neg (by rw [h]; exact Bool.false_ne_true)]
  refine ⟨_, _, .inr (.inr (.inr (.inr (.inr (.inl ⟨rfl, _, _, rfl, w, x, .int 0, .tuple [.int 0], .int 0, hw, by show 1 ≤ 3000; decide, rfl, rfl, rfl⟩))))), ?_, ?_⟩
  · intro d z; have z : ledR _ _ _ _ _ = _ := z; rw [e] at z; cases z
  · intro w' z; have z : ledR _ _ _ _ _ = _ := z; rw [e] at z; cases z; rfl
/-! ### what is no split, no house, no purses -/
theorem ns_len {rows : List Row} {ds : List D} (h : ds.length ≠ rows.length) : isSplit rows (.tuple ds) = false := by
  show (decide (ds.length = rows.length) && _) = false
  rw [decide_eq_false h, Bool.false_and]
theorem ns_at {rows : List Row} {ds : List D} {i : Nat} {r : Row} {d : D} (hr : rows[i]? = some r) (hd : ds[i]? = some d) (h : okN r d = false) : isSplit rows (.tuple ds) = false := by
  show (decide (ds.length = rows.length) && ((rows.zip ds).all fun p => okN p.1 p.2)) = false
  rw [all_no (i := i) (a := (r, d)) (List.getElem?_zip_eq_some.mpr ⟨hr, hd⟩) h, Bool.and_false]
theorem ns_any {rows : List Row} {ds : List D} {i : Nat} {d : D} (hd : ds[i]? = some d) (h : ∀ r, okN r d = false) : isSplit rows (.tuple ds) = false := by
  by_cases hl : ds.length = rows.length
  · have hi := (List.getElem?_eq_some_iff.mp hd).1
    exact ns_at (List.getElem?_eq_getElem (by omega)) hd (h _)
  · exact ns_len hl
theorem cut_take {α : Type} {xs : List α} {i : Nat} (h : i ≤ xs.length) : DL.cutD xs none (some (i : Nat)) = xs.take i := by
  have e1 : HT.sIx xs.length xs.length (some ((i : Nat) : Int)) = i := (HT.sIx_nat _ _ _).trans (Nat.min_eq_left h)
  have e2 : HT.sIx xs.length 0 none = 0 := rfl
  unfold DL.cutD
  rw [e1, e2]; simp
theorem cut_last {α : Type} {xs : List α} : DL.cutD xs none (some (-1)) = xs.take (xs.length - 1) := by
  have e1 : HT.sIx xs.length xs.length (some (-1)) = xs.length - 1 := by
    show (if (-1 : Int) < 0 then ((-1 : Int) + (xs.length : Int)).toNat else min (-1 : Int).toNat xs.length) = _
    rw [if_pos (by decide)]; omega
  have e2 : HT.sIx xs.length 0 none = 0 := rfl
  unfold DL.cutD
  rw [e1, e2]; simp
theorem okN_big {r : Row} {j : Int} (h : r.2.2 < j) : okN r (.int j) = false := by
  show (decide (0 ≤ j) && decide (j ≤ r.2.2)) = false
  rw [decide_eq_false (by omega : ¬ j ≤ r.2.2), Bool.and_false]
theorem isH_big {n : Nat} {j : Int} (h : (n : Int) ≤ j) : isH n (.int j) = false := by
  show (decide (0 ≤ j) && decide (j < (n : Int))) = false
  rw [decide_eq_false (by omega : ¬ j < (n : Int)), Bool.and_false]
theorem put_at {α : Type} {xs : List α} {i : Nat} {v : α} (h : i < xs.length) : (xs.take i ++ [v] ++ xs.drop (i + 1))[i]? = some v ∧ (xs.take i ++ [v] ++ xs.drop (i + 1)).length = xs.length := by
  constructor
  · rw [List.append_assoc, List.getElem?_append_right (by rw [List.length_take]; omega), List.length_take, Nat.min_eq_left (by omega), Nat.sub_self]; rfl
  · simp only [List.length_append, List.length_take, List.length_drop, List.length_singleton]; omega
section
variable {P : Program} {w : World} {K : PySem.W.Frag} {mg : Str → Option Value} {base : Heap} {f C : Addr} {fd : FuncData}
/-- a refusal asked -/
theorem de_ref {X : Cx} {C : Addr} {Γ : Gm X C} {ρ : Rho} {a b c : Expr} {k : D → Rho → Prop} {p pos : Pos} (L : Df X.prog X.w X.K X.mg X.base "_law_refused" P_law_refused 10 (spT C T_law_refused)) (hr : Room 10 X.A)
    (h : DA Γ [a, b, c] ρ (fun ds ρ1 => ∃ deed row due, ds = [.str deed, .tuple row, .str due] ∧ Rf deed row due ∧ k (.bool true) ρ1)) (hg : Gl X "_law_refused" := by rfl)
    (he : starEach [a, b, c] X.env = (false, eval a X.env) :: starEach [b, c] X.env := by rfl) (hpl : (backTo pos (starEach [b, c] X.env)).any (·.1) = false := by rfl) : DE Γ (.Call (.Name "_law_refused" p) [a, b, c] [] pos) ρ k := by
  refine de_call L hr (.mk fun ps pins s σ H G Q I eo hq => h.run ps pins s σ H G Q I eo ?_) hg (by decide) he hpl
  rintro ds ρ1 vs H' G' ⟨deed, row, due, rfl, hrf, hk⟩ e x r
  exact hq _ _ _ _ _ ⟨_, _, ⟨deed, row, due, hrf, rfl, rfl, rfl⟩, noerr, fun d z => by rw [show d = .bool true from z]; exact hk⟩ e x r
theorem ok_law_bad_split (L : Df P w K mg base "_law_refused" P_law_refused 10 (spT C T_law_refused)) (F : FnP K "_law_bad_split" s_law_bad_split f fd) : FnOk P w K mg base (L2.CX P w) 11 f fd P_law_bad_split (spT C T_law_bad_split) := by
  refine fn_ok F sc_law_bad_split (by rintro _ _ _ ⟨x, _, _, _, rfl, _⟩; rfl) fun cdv A outer s0 H E Γ hr ds r e hT _ => ?_
  obtain ⟨w, x, hw, hx, rfl, rfl, rfl⟩ := hT
  refine dss_cons <| ds_set 2 <| de_and <| de_ref L hr <| da_cons <| de_str <| da_cons <| de_tup <| da_cons <| de_name 0 rfl <| da_one <| de_name 1 rfl ⟨Nat.le_of_ble_eq_true rfl, da_one <| de_str ⟨_, _, _, rfl, rf_purses_of hw hx, _, rfl, fun _ => ?_, fun z => (by cases z)⟩⟩
  refine de_one <| de_ref L hr <| da_cons <| de_str <| da_cons <| de_tup <| da_cons <| de_name 0 rfl <| da_one <| de_name 1 rfl ⟨Nat.le_of_ble_eq_true rfl, da_one <| de_str ⟨_, _, _, rfl, rf_turned_over hw hx, ?_⟩⟩
  refine dss_one <| ds_ret <| de_and <| de_name 2 rfl ⟨_, rfl, fun _ => ?_, fun z => (by cases z)⟩
  exact de_one <| de_ref L hr <| da_cons <| de_str <| da_cons <| de_tup <| da_cons <| de_name 0 rfl <| da_cons <| de_name 1 rfl <| da_one <| de_non ⟨Nat.le_of_ble_eq_true rfl, da_one <| de_str ⟨_, _, _, rfl, rf_ends_split hw hx, rfl⟩⟩
theorem mem_get {α : Type} {l : List α} {i : Nat} {d : α} {p : α → Prop} (h : l[i]? = some d) (hp : ∀ x ∈ l, p x) : p d := hp d (List.mem_of_getElem? h)
theorem ok_law_refusals (B : Bi mg) (L : Df P w K mg base "_law_take" P_law_take 1 (spPl Q_take)) (Lr : Df P w K mg base "_law_refused" P_law_refused 10 (spT C T_law_refused)) (Lb : Df P w K mg base "_law_bad_split" P_law_bad_split 11 (spT C T_law_bad_split)) (Lh : Df P w K mg base "_law_holds" P_law_holds 1 (spT C T_law_holds))
    (F : FnP K "_law_refusals" s_law_refusals f fd) : FnOk P w K mg base (L2.CX P w) 12 f fd P_law_refusals (spPl Q_refusals) := by
  refine fn_okP (C := C) F sc_law_refusals rfl fun cdv A outer s0 H E Γ hr p qs ds hl hp => ?_
  obtain ⟨w, s, hw, hbig, hs, rfl⟩ := hp
  have hr1 := hr.mono (show 1 ≤ 11 by decide)
  have hr10 := hr.mono (show 10 ≤ 11 by decide)
  have sl : s.length ≤ 7 := by rw [hs.1]; exact hw.r7
  have sm : ∀ {n : Nat}, n ≤ 1000 → n ≤ sizeLine := fun h => by rw [sizeLine_eq]; omega
  refine dss_cons <| ds_setN 3 <| dn_list <| da_cons <| de_non <| da_cons <| de_int <| da_cons <| de_bl <| da_cons <| de_str <| da_cons <| de_str <| da_cons <| de_new <| dn_listT B.list <| de_name 2 rfl ⟨_, .inl rfl, da_cons <| de_catT <| de_name 2 rfl <| de_tup <| da_one <| de_int ⟨Nat.le_of_ble_eq_true rfl, _, _, rfl, rfl, sm (by rw [List.length_map]; show _ + 1 ≤ _; omega),
    da_cons <| de_catT <| de_name 2 rfl <| de_tup <| da_one <| de_non ⟨Nat.le_of_ble_eq_true rfl, _, _, rfl, rfl, sm (by rw [List.length_map]; show _ + 1 ≤ _; omega), da_cons <| de_name 1 rfl <| da_cons <| de_tup <| da_one <| de_tup <| da_nil ⟨Nat.le_of_ble_eq_true rfl, Nat.le_of_ble_eq_true rfl, da_one <| de_tup <| da_one <| de_name 2 rfl ⟨Nat.le_of_ble_eq_true rfl, Nat.le_of_ble_eq_true rfl, ?_⟩⟩⟩⟩⟩
  have bad0 : ∀ d ∈ [PyData.none, .int 0, .bool true, .str "", .str "00", .list (s.map .int), .tuple (s.map .int ++ [.int 0]), .tuple (s.map .int ++ [.none]), encW w, .tuple [.tuple []], .tuple [encT s]], isSplit w.rows d = false := by
    intro d hd
    simp only [List.mem_cons, List.not_mem_nil, or_false] at hd
    rcases hd with rfl | rfl | rfl | rfl | rfl | rfl | rfl | rfl | rfl | rfl | rfl
    · rfl
    · rfl
    · rfl
    · rfl
    · rfl
    · rfl
    · exact ns_len (by rw [List.length_append, List.length_map, hs.1]; show _ + 1 ≠ _; omega)
    · exact ns_len (by rw [List.length_append, List.length_map, hs.1]; show _ + 1 ≠ _; omega)
    · exact ns_any (i := 1) (d := encL w.rows) rfl fun r => rfl
    · exact ns_any (i := 0) (d := .tuple []) rfl fun r => rfl
    · exact ns_any (i := 0) (d := encT s) rfl fun r => rfl
  refine dss_cut (fun ρ => ∃ (ps : List Int) (bad : List D) (u v : Option Bd), (∀ d ∈ bad, isSplit w.rows d = false) ∧ bad.length ≤ 100 ∧ ρ = [some (.own (some p) (ps.map .int)), some (.im (encW w)), some (.im (encT s)), some (.own none bad), u, v, none]) ?_ ?_
  · refine ds_if <| dt_gt <| de_lenT B.len <| de_name 2 rfl ⟨_, rfl, de_int ⟨_, _, rfl, rfl, fun h0 => ?_, fun h0 => dss_nil ⟨qs, _, _, _, bad0, Nat.le_of_ble_eq_true rfl, rfl⟩⟩⟩
    have h0 := of_decide_eq_true h0
    rw [List.length_map] at h0
    refine dss_cons <| ds_set 4 <| de_take 0 rfl L hr1 <| de_lenT B.len <| de_name 2 rfl ⟨_, rfl, _, rfl, by rw [List.length_map]; omega, qs, rfl, fun j ps j0 j1 => ?_⟩
    rw [List.length_map] at j1
    obtain ⟨i, rfl⟩ : ∃ i : Nat, j = (i : Nat) := ⟨j.toNat, by omega⟩
    have hi : i < s.length := by omega
    obtain ⟨r, hr1'⟩ : ∃ r, w.rows[i]? = some r := ⟨_, List.getElem?_eq_getElem (by rw [← hs.1]; exact hi)⟩
    have rb := hbig r (List.mem_of_getElem? hr1')
    have row_at : atI (w.rows.map encR) ((i : Nat) : Int) = some (encR r) := at_of (by omega) (by rw [List.getElem?_map]; show (w.rows[i]?).map _ = _; rw [hr1']; rfl)
    have lm : (s.map PyData.int).length = s.length := List.length_map _
    refine dss_cons <| ds_for [5] <| di_list <| de_new <| dn_list <| da_cons <| de_neg <| de_int ⟨_, rfl, da_cons <| de_add <| de_ixT <| de_ixT <| de_w1 1 rfl <| de_name 4 rfl ⟨_, _, _, rfl, rfl, row_at, de_int ⟨_, _, _, rfl, rfl, rfl, de_int ⟨_, _, rfl, rfl, da_cons <| de_non <| da_cons <| de_bl <| da_cons <| de_bl <| da_cons <| de_str <| da_cons <| de_tup <| da_one <| de_int ⟨Nat.le_of_ble_eq_true rfl,
      da_cons <| de_new <| dn_list <| da_one <| de_int ⟨Nat.le_of_ble_eq_true rfl, da_one <| de_pow <| de_int <| de_int ⟨_, _, rfl, rfl, ⟨by decide, by decide, by decide⟩, Nat.le_of_ble_eq_true rfl, _, rfl,
      fun j ρ => ∃ (bad : List D) (u v : Option Bd), (∀ d ∈ bad, isSplit w.rows d = false) ∧ bad.length ≤ 11 + j ∧ j ≤ 9 ∧ ρ = [some (.own (some p) (ps.map .int)), some (.im (encW w)), some (.im (encT s)), some (.own none bad), some (.im (.int (i : Nat))), v, none], ⟨_, none, _, bad0, Nat.le_of_ble_eq_true rfl, by decide, rfl⟩, ?_, ?_⟩⟩⟩⟩⟩⟩⟩
    · rintro j d ρ2 hj ⟨bad, u, v, hb, hbl, hj9, rfl⟩
      have hj8 : j < 9 := (List.getElem?_eq_some_iff.mp hj).1
      have hd : okN r d = false := by
        refine mem_get (p := fun d => okN r d = false) hj ?_
        intro d hd
        simp only [List.mem_cons, List.not_mem_nil, or_false] at hd
        rcases hd with rfl | rfl | rfl | rfl | rfl | rfl | rfl | rfl | rfl
        · rfl
        · exact okN_big (by omega)
        · rfl
        · rfl
        · rfl
        · rfl
        · rfl
        · rfl
        · exact okN_big (Int.lt_of_le_of_lt rb (by decide))
      obtain ⟨p1, p2⟩ := put_at (v := d) (by rw [lm]; exact hi : i < (s.map PyData.int).length)
      have c1 : DL.cutD (s.map PyData.int) none (some ((i : Nat) : Int)) = (s.map PyData.int).take i := cut_take (by rw [lm]; omega)
      have c2 : DL.cutD (s.map PyData.int) (some (((i : Nat) : Int) + 1)) none = (s.map PyData.int).drop (i + 1) := by
        have := cut_nat (xs := s.map PyData.int) (i := i + 1) (by rw [lm]; omega)
        rw [← this]; congr 1
      have t1 : ((s.map PyData.int).take i).length ≤ 7 := by rw [List.length_take]; omega
      have t2 : ((s.map PyData.int).drop (i + 1)).length ≤ 7 := by rw [List.length_drop]; omega
      refine dg_name 5 <| dss_one <| ds_append 3 rfl <| de_catT <| de_catT <| de_slT <| de_name 2 rfl <| dpo_none <| dpo_some <| de_name 4 rfl ⟨_, rfl, _, rfl, de_tup <| da_one <| de_name 5 rfl ⟨Nat.le_of_ble_eq_true rfl, _, _, rfl, rfl, sm (by rw [c1]; show _ + 1 ≤ _; omega),
        de_slT <| de_name 2 rfl <| dpo_some <| de_add <| de_name 4 rfl <| de_int ⟨_, _, rfl, rfl, _, rfl, dpo_none ⟨_, rfl, _, _, rfl, rfl, sm (by rw [c1, c2, List.length_append]; show _ + 1 + _ ≤ _; omega), _, rfl, by rw [sizeLine_eq]; omega, ?_⟩⟩⟩⟩
      rw [c1, c2]
      refine ⟨bad ++ [.tuple ((s.map PyData.int).take i ++ [d] ++ (s.map PyData.int).drop (i + 1))], none, _, fun q hq => ?_, by rw [List.length_append, List.length_singleton]; omega, by omega, rfl⟩
      rcases List.mem_append.mp hq with hq | hq
      · exact hb q hq
      · rw [List.mem_singleton.mp hq]; exact ns_at hr1' p1 hd
    · rintro ρ2 ⟨bad, u, v, hb, hbl, hj9, rfl⟩
      have hbl : bad.length ≤ 20 := hbl
      refine dss_cons <| ds_append 3 rfl <| de_slT <| de_name 2 rfl <| dpo_none <| dpo_some <| de_neg <| de_int ⟨_, rfl, _, rfl, _, rfl, _, rfl, by rw [sizeLine_eq]; omega, ?_⟩
      refine dss_one <| ds_append 3 rfl <| de_tup <| da_nil ⟨Nat.le_of_ble_eq_true rfl, _, rfl, by rw [List.length_append, List.length_singleton, sizeLine_eq]; omega, ?_⟩
      refine ⟨ps, _, _, _, fun q hq => ?_, by rw [List.length_append, List.length_append, List.length_singleton, List.length_singleton]; omega, rfl⟩
      rcases List.mem_append.mp hq with hq | hq
      · rcases List.mem_append.mp hq with hq | hq
        · exact hb q hq
        · rw [List.mem_singleton.mp hq]
          refine ns_len ?_
          have e : DL.cutD (s.map PyData.int) none (some (-1)) = _ := cut_last
          show (DL.cutD (s.map PyData.int) none (some (-1))).length ≠ _
          rw [e, List.length_take, List.length_map, ← hs.1]; omega
      · rw [List.mem_singleton.mp hq]
        exact ns_len (by show 0 ≠ _; rw [← hs.1]; omega)
  rintro ρ1 ⟨ps, bad, u, v, hb, hbl, rfl⟩
  refine dss_cons <| ds_for [5] <| di_list <| de_own 3 rfl ⟨_, rfl, fun j ρ => ∃ v, ρ = [some (.own (some p) (ps.map .int)), some (.im (encW w)), some (.im (encT s)), some (.im (.list bad)), u, v, none], ⟨_, rfl⟩, ?_, ?_⟩
  · rintro j d ρ2 hj ⟨v, rfl⟩
    have hd := mem_get (p := fun d => isSplit w.rows d = false) hj hb
    refine dg_name 5 <| dss_one <| ds_if <| dt_not <| dt_val <| de_call Lb hr <| da_cons <| de_name 1 rfl <| da_one <| de_name 5 rfl ⟨_, _, ⟨w, d, hw, hd, rfl, rfl, rfl⟩, noerr, ?_⟩
    rintro d' rfl
    exact ⟨_, rfl, fun z => absurd z (by simp), fun _ => dss_nil ⟨_, rfl⟩⟩
  rintro ρ2 ⟨v, rfl⟩
  refine dss_cons <| ds_for [5] <| di_list <| de_new <| dn_list <| da_cons <| de_non <| da_cons <| de_bl <| da_cons <| de_bl <| da_cons <| de_neg <| de_int ⟨_, rfl, da_cons <| de_w0 1 rfl <| da_cons <| de_str <| da_cons <| de_tup <| da_one <| de_int ⟨Nat.le_of_ble_eq_true rfl, da_cons <| de_new <| dn_list <| da_one <| de_int ⟨Nat.le_of_ble_eq_true rfl, da_cons <| de_tup <| da_nil ⟨Nat.le_of_ble_eq_true rfl, da_one <| de_pow <| de_int <| de_int ⟨_, _, rfl, rfl, ⟨by decide, by decide, by decide⟩, Nat.le_of_ble_eq_true rfl, _, rfl,
    fun j ρ => ∃ v, ρ = [some (.own (some p) (ps.map .int)), some (.im (encW w)), some (.im (encT s)), some (.im (.list bad)), u, v, none], ⟨_, rfl⟩, ?_, ?_⟩⟩⟩⟩⟩
  · rintro j d ρ2 hj ⟨v, rfl⟩
    have hd : isH w.n d = false := by
      refine mem_get (p := fun d => isH w.n d = false) hj ?_
      intro d hd
      have n8 := hw.n8
      simp only [List.mem_cons, List.not_mem_nil, or_false] at hd
      rcases hd with rfl | rfl | rfl | rfl | rfl | rfl | rfl | rfl | rfl | rfl
      · rfl
      · rfl
      · rfl
      · rfl
      · exact isH_big (Int.le_refl _)
      · rfl
      · rfl
      · rfl
      · rfl
      · exact isH_big (Int.le_trans (show (w.n : Int) ≤ 8 by omega) (by decide))
    refine dg_name 5 <| dss_one <| ds_if <| dt_not <| dt_val <| de_ref Lr hr10 <| da_cons <| de_str <| da_cons <| de_tup <| da_cons <| de_name 1 rfl <| da_cons <| de_name 2 rfl <| da_one <| de_name 5 rfl ⟨Nat.le_of_ble_eq_true rfl, da_one <| de_str ⟨_, _, _, rfl, rf_ends_house hw hs hd, _, rfl, fun z => absurd z (by simp), fun _ => dss_nil ⟨_, rfl⟩⟩⟩
  rintro ρ2 ⟨v, rfl⟩
  have hl : (holds w).length = w.n := by unfold holds; rw [List.length_map, List.length_range]
  have n8 := hw.n8
  have n1 := hw.n1
  refine dss_cons <| ds_set 6 <| de_tupleL B.tuple <| de_call Lh hr1 <| da_one <| de_name 1 rfl ⟨_, _, ⟨w, hw, rfl, rfl, rfl⟩, noerr, ?_⟩
  rintro d rfl
  refine ⟨_, rfl, ?_⟩
  refine dss_cons <| ds_set 4 <| de_take 0 rfl L hr1 <| de_w0 1 rfl ⟨_, rfl, by omega, ps, rfl, fun j ps j0 j1 => ?_⟩
  obtain ⟨i, rfl⟩ : ∃ i : Nat, j = (i : Nat) := ⟨j.toNat, by omega⟩
  have hi : i < (holds w).length := by omega
  have lm : ((holds w).map PyData.int).length = (holds w).length := List.length_map _
  have c3 : DL.cutD ((holds w).map PyData.int) none (some (-1)) = ((holds w).map PyData.int).take (((holds w).map PyData.int).length - 1) := cut_last
  have hold_at : (holds w).getD i 0 = hold w (i : Nat) := by
    unfold holds; rw [List.getD_eq_getElem?_getD, List.getElem?_map, List.getElem?_range (by omega)]; rfl
  refine dss_cons <| ds_setN 3 <| dn_list <| da_cons <| de_non <| da_cons <| de_int <| da_cons <| de_str <| da_cons <| de_new <| dn_listT B.list <| de_name 6 rfl ⟨_, .inl rfl, da_cons <| de_catT <| de_name 6 rfl <| de_tup <| da_one <| de_int ⟨Nat.le_of_ble_eq_true rfl, _, _, rfl, rfl, sm (by rw [lm]; show _ + 1 ≤ _; omega),
    da_cons <| de_slT <| de_name 6 rfl <| dpo_none <| dpo_some <| de_neg <| de_int ⟨_, rfl, _, rfl, _, rfl, da_cons <| de_tup <| da_nil ⟨Nat.le_of_ble_eq_true rfl, da_one <| de_tup <| da_one <| de_tup <| da_nil ⟨Nat.le_of_ble_eq_true rfl, Nat.le_of_ble_eq_true rfl, Nat.le_of_ble_eq_true rfl, ?_⟩⟩⟩⟩⟩
  have badl : ∀ (v : D) (l : List D), v = .tuple l → l.length ≠ w.n → badP w v := fun v l hv hl p hp hpn _ => by
    rw [hv] at hp
    have : l = p.map .int := by injection hp
    rw [this, List.length_map] at hl
    exact (hl hpn).elim
  have bad1 : ∀ d ∈ [PyData.none, .int 0, .str "", .list ((holds w).map .int), .tuple ((holds w).map .int ++ [.int 0]), .tuple (DL.cutD ((holds w).map PyData.int) none (some (-1))), .tuple [], .tuple [.tuple []]], badP w d := by
    intro d hd
    simp only [List.mem_cons, List.not_mem_nil, or_false] at hd
    rcases hd with rfl | rfl | rfl | rfl | rfl | rfl | rfl | rfl
    · intro p h; cases h
    · intro p h; cases h
    · intro p h; cases h
    · intro p h; cases h
    · exact badl _ _ rfl (by rw [List.length_append, lm, hl]; show _ + 1 ≠ _; omega)
    · exact badl _ _ rfl (by rw [c3, List.length_take, lm, hl]; omega)
    · exact badl _ _ rfl (by show 0 ≠ _; omega)
    · intro p h
      cases p with
      | nil => cases h
      | cons x p => unfold encT at h; rw [List.map_cons] at h; injection h with h; injection h with h; cases h
  refine dss_cons <| ds_for [5] <| di_list <| de_new <| dn_list <| da_cons <| de_neg <| de_int ⟨_, rfl, da_cons <| de_add <| de_ixT <| de_name 6 rfl <| de_name 4 rfl ⟨_, _, _, rfl, rfl, int_list_at hi, de_int ⟨_, _, rfl, rfl, da_cons <| de_non <| da_cons <| de_bl <| da_cons <| de_bl <| da_cons <| de_str <| da_one <| de_tup <| da_one <| de_int ⟨Nat.le_of_ble_eq_true rfl, Nat.le_of_ble_eq_true rfl, _, rfl,
    fun j ρ => ∃ (bad : List D) (v : Option Bd), (∀ d ∈ bad, badP w d) ∧ bad.length ≤ 8 + j ∧ j ≤ 7 ∧ ρ = [some (.own (some p) (ps.map .int)), some (.im (encW w)), some (.im (encT s)), some (.own none bad), some (.im (.int (i : Nat))), v, some (.im (.tuple ((holds w).map .int)))], ⟨_, _, bad1, Nat.le_of_ble_eq_true rfl, by decide, rfl⟩, ?_, ?_⟩⟩⟩⟩
  · rintro j d ρ2 hj ⟨bad, v, hb, hbl, hj9, rfl⟩
    have hj8 : j < 7 := (List.getElem?_eq_some_iff.mp hj).1
    obtain ⟨p1, p2⟩ := put_at (v := d) (by rw [lm]; exact hi : i < ((holds w).map PyData.int).length)
    have c1 : DL.cutD ((holds w).map PyData.int) none (some ((i : Nat) : Int)) = ((holds w).map PyData.int).take i := cut_take (by rw [lm]; omega)
    have c2 : DL.cutD ((holds w).map PyData.int) (some (((i : Nat) : Int) + 1)) none = ((holds w).map PyData.int).drop (i + 1) := by
      have := cut_nat (xs := (holds w).map PyData.int) (i := i + 1) (by rw [lm]; omega)
      rw [← this]; congr 1
    have t1 : (((holds w).map PyData.int).take i).length ≤ 8 := by rw [List.length_take, lm]; omega
    have t2 : (((holds w).map PyData.int).drop (i + 1)).length ≤ 8 := by rw [List.length_drop, lm]; omega
    have hbad : badP w (.tuple (((holds w).map PyData.int).take i ++ [d] ++ ((holds w).map PyData.int).drop (i + 1))) := by
      intro q hq hqn hq0
      have e : ((holds w).map PyData.int).take i ++ [d] ++ ((holds w).map PyData.int).drop (i + 1) = q.map .int := by
        unfold encT at hq; injection hq
      rw [e, List.getElem?_map, Option.map_eq_some_iff] at p1
      obtain ⟨x, hx, rfl⟩ := p1
      have hm := List.mem_of_getElem? hj
      simp only [List.mem_cons, List.not_mem_nil, or_false] at hm
      rcases hm with h | h | h | h | h | h | h
      · injection h with h
        have := hq0 x (List.mem_of_getElem? hx)
        omega
      · injection h with h
        rw [hold_at] at h
        refine ⟨(i, x), List.mem_of_getElem? (i := i) (List.getElem?_zip_eq_some.mpr ⟨by rw [List.getElem?_range (by omega)], hx⟩), ?_⟩
        show hold w (i : Nat) - x < 0
        omega
      all_goals cases h
    refine dg_name 5 <| dss_one <| ds_append 3 rfl <| de_catT <| de_catT <| de_slT <| de_name 6 rfl <| dpo_none <| dpo_some <| de_name 4 rfl ⟨_, rfl, _, rfl, de_tup <| da_one <| de_name 5 rfl ⟨Nat.le_of_ble_eq_true rfl, _, _, rfl, rfl, sm (by rw [c1]; show _ + 1 ≤ _; omega),
      de_slT <| de_name 6 rfl <| dpo_some <| de_add <| de_name 4 rfl <| de_int ⟨_, _, rfl, rfl, _, rfl, dpo_none ⟨_, rfl, _, _, rfl, rfl, sm (by rw [c1, c2, List.length_append]; show _ + 1 + _ ≤ _; omega), _, rfl, by rw [sizeLine_eq]; omega, ?_⟩⟩⟩⟩
    rw [c1, c2]
    refine ⟨bad ++ [.tuple (((holds w).map PyData.int).take i ++ [d] ++ ((holds w).map PyData.int).drop (i + 1))], _, fun q hq => ?_, by rw [List.length_append, List.length_singleton]; omega, by omega, rfl⟩
    rcases List.mem_append.mp hq with hq | hq
    · exact hb q hq
    · rw [List.mem_singleton.mp hq]; exact hbad
  rintro ρ2 ⟨bad, v, hb, hbl, hj9, rfl⟩
  refine dss_cons <| ds_for [5] <| di_list <| de_own 3 rfl ⟨_, rfl, fun j ρ => ∃ v, ρ = [some (.own (some p) (ps.map .int)), some (.im (encW w)), some (.im (encT s)), some (.im (.list bad)), some (.im (.int (i : Nat))), v, some (.im (.tuple ((holds w).map .int)))], ⟨_, rfl⟩, ?_, ?_⟩
  · rintro j d ρ2 hj ⟨v, rfl⟩
    have hd := mem_get (p := fun d => badP w d) hj hb
    exact dg_name 5 <| dss_one <| ds_if <| dt_not <| dt_val <| de_ref Lr hr10 <| da_cons <| de_str <| da_cons <| de_tup <| da_cons <| de_name 1 rfl <| da_one <| de_name 5 rfl ⟨Nat.le_of_ble_eq_true rfl, da_one <| de_str ⟨_, _, _, rfl, rf_turned_purses hw hd, _, rfl, fun z => absurd z (by simp), fun _ => dss_nil ⟨_, rfl⟩⟩⟩
  rintro ρ2 ⟨v, rfl⟩
  exact dss_one <| ds_ret <| de_bl ⟨ps, rfl, rfl⟩
end
end HL
namespace HL
open PySem PySem.Spec PyProof.Rows L2 DL
abbrev Q_ways : Pp := { n := 0, pre := fun _ _ => True, ok := fun _ _ d _ => d = .bool true }
theorem list_3 {j : Int} (h0 : 0 ≤ j) (h1 : j < 3) : ∃ c : Int, atI [PyData.int 200, .int 0, .int 200] j = some (.int c) ∧ (c = 0 ∨ c = 200) := by
  have : j = 0 ∨ j = 1 ∨ j = 2 := by omega
  rcases this with rfl | rfl | rfl
  · exact ⟨200, rfl, .inr rfl⟩
  · exact ⟨0, rfl, .inl rfl⟩
  · exact ⟨200, rfl, .inr rfl⟩
/-- one more, turned about -/
def ap0 : D → D
  | .tuple l => .tuple (l ++ [.int 0])
  | d => d
def rv0 : D → D
  | .tuple l => .tuple l.reverse
  | d => d
section
variable {P : Program} {w : World} {K : PySem.W.Frag} {mg : Str → Option Value} {base : Heap} {f C : Addr} {fd : FuncData}
/-- the slots of _law_ways -/
abbrev wR (p : Addr) (ps : List Int) (w : Web) (s : List Int) (nm : Bool) (a b : Int) (odd walks : Option Bd) (x4 x10 x12 x13 x14 x15 x16 : Option Bd) : Rho :=
  [some (.own (some p) (ps.map .int)), some (.im (encW w)), some (.im (.int (w.n : Nat))), some (.im (.int (w.rows.length : Nat))), x4, some (.im (encT s)), some (.im (.bool nm)), some (.im (.int a)), some (.im (.int b)), odd, x10, walks, x12, x13, x14, x15, x16, none]
theorem ok_law_ways (B : Bi mg) (L : Df P w K mg base "_law_take" P_law_take 1 (spPl Q_take)) (Ln : Df P w K mg base "_law_net" P_law_net 3 (spPl Q_net)) (Lw : Df P w K mg base "_law_walk" P_law_walk 2 (spPl Q_walk)) (La : Df P w K mg base "_law_asked" P_law_asked 7 (spT C T_law_asked))
    (Ll : Df P w K mg base "_law_least" P_law_least 3 (spT C T_law_least)) (Ld : Df P w K mg base "_law_lead" P_law_lead 9 (spT C T_law_lead)) (Lr : Df P w K mg base "_law_refused" P_law_refused 10 (spT C T_law_refused)) (F : FnP K "_law_ways" s_law_ways f fd) :
    FnOk P w K mg base (L2.CX P w) 11 f fd P_law_ways (spPl Q_ways) := by
  refine fn_okP (C := C) F sc_law_ways rfl fun cdv A outer s0 H E Γ hr p qs ds hl hp => ?_
  obtain rfl : ds = [] := List.length_eq_zero_iff.mp hl
  have hr1 := hr.mono (show 1 ≤ 10 by decide)
  have sm : ∀ {n : Nat}, n ≤ 1000 → n ≤ sizeLine := fun h => by rw [sizeLine_eq]; omega
  refine dss_cons <| ds_set 1 <| de_callP 0 rfl Ln (hr.mono (by decide)) <| da_one <| de_ixL <| de_new <| dn_list <| da_cons <| de_int <| da_cons <| de_int <| da_one <| de_int ⟨Nat.le_of_ble_eq_true rfl, ?_⟩
  refine de_take 0 rfl L hr1 <| de_int ⟨3, rfl, by decide, qs, rfl, fun j ps j0 j1 => ?_⟩
  obtain ⟨most, em, hm⟩ := list_3 j0 j1
  refine ⟨_, _, _, rfl, rfl, em, rfl, ps, rfl, ⟨most, hm, rfl⟩, ?_⟩
  rintro d ps ⟨_, w, _, hf, rfl⟩
  have hw := hf.ok
  have n1 := hw.n1
  have n8 := hw.n8
  have r7 := hw.r7
  have lm : (w.rows.map encR).length = w.rows.length := List.length_map _
  refine dss_cons <| ds_set 2 <| de_w0 1 rfl ?_
  refine dss_cons <| ds_set 3 <| de_lenT B.len <| de_w1 1 rfl ⟨_, rfl, ?_⟩
  rw [lm]
  -- a drawn split
  refine dss_cons <| ds_set 5 <| de_tupleL B.tuple <| de_new <| dn_lc [("_law_row_here", 4)] (by decide) (by rfl) <| di_tup <| de_w1 1 rfl ⟨_, rfl,
    fun i ρ acc => ∃ (ps s : List Int), acc = s.map .int ∧ Sok (w.rows.take i) s ∧ i ≤ w.rows.length ∧ ρ = [some (.own (some p) (ps.map .int)), some (.im (encW w)), some (.im (.int (w.n : Nat))), some (.im (.int (w.rows.length : Nat))), none, none, none, none, none, none, none, none, none, none, none, none, none, none],
      ⟨ps, [], rfl, ⟨rfl, by simp⟩, by omega, rfl⟩, ?_, ?_⟩
  · rintro i d ρ2 acc hi ⟨ps, s, rfl, hs, hil, rfl⟩
    obtain ⟨r, hr', rfl⟩ := rows_at hi
    have il : i < w.rows.length := (List.getElem?_eq_some_iff.mp hr').1
    have hrow := hw.row r (List.mem_of_getElem? hr')
    refine ct_map (fun _ _ _ _ _ _ => dg_name 4 rfl) (fun _ _ _ _ _ _ => de_mod <| de_intI B.int <| de_take 0 rfl L hr1 <| de_int ⟨1009, rfl, by decide, ps, rfl, fun t ps t0 t1 => ⟨_, rfl, de_add <| de_r2 4 rfl <| de_int ⟨_, _, rfl, rfl, _, _, rfl, rfl, by omega, ?_, ps, s ++ [t % (r.2.2 + 1)], by rw [List.map_append]; rfl, ?_, by omega, rfl⟩⟩⟩)
    · have := hs.1
      rw [List.length_take] at this
      rw [List.length_map, sizeLine_eq]; omega
    · rw [take_next hr']
      refine ⟨by rw [List.length_append, List.length_append, hs.1]; rfl, fun q hq => ?_⟩
      rw [List.zip_append hs.1.symm] at hq
      rcases List.mem_append.mp hq with hq | hq
      · exact hs.2 q hq
      · rw [List.mem_singleton.mp hq]
        have := Int.emod_nonneg t (show r.2.2 + 1 ≠ 0 by omega)
        have := Int.emod_lt_of_pos t (show 0 < r.2.2 + 1 by omega)
        exact ⟨by omega, by show t % (r.2.2 + 1) ≤ r.2.2; omega⟩
  rintro ρ2 acc ⟨ps, s, rfl, hs, _, rfl⟩
  rw [List.length_map, List.take_length] at hs
  refine ⟨_, rfl, ?_⟩
  refine dss_cons <| ds_set 6 <| de_eqI <| de_take 0 rfl L hr1 <| de_int ⟨2, rfl, by decide, ps, rfl, fun t ps _ _ => de_int ⟨_, _, rfl, rfl, ?_⟩⟩
  obtain ⟨nm, hnm⟩ : ∃ nm, nm = decide (t = 1) := ⟨_, rfl⟩
  rw [← hnm]
  refine dss_cons <| ds_set 7 <| de_take 0 rfl L hr1 <| de_name 2 rfl ⟨_, rfl, by omega, ps, rfl, fun a ps a0 a1 => ?_⟩
  refine dss_cons <| ds_set 8 <| de_mod <| de_intI B.int <| de_add <| de_name 7 rfl <| de_mul <| de_intB B.int <| de_gt <| de_name 2 rfl <| de_int ⟨_, _, rfl, rfl, _, rfl, ?_⟩
  refine de_add <| de_int <| de_take 0 rfl L hr1 <| de_max2 B.max <| de_int <| de_sub <| de_name 2 rfl <| de_int ⟨_, _, rfl, rfl, _, _, rfl, rfl, _, rfl, by omega, ps, rfl, fun t2 ps _ _ => ?_⟩
  refine ⟨_, _, rfl, rfl, _, _, rfl, rfl, .inl ?_, _, _, rfl, rfl, _, rfl, de_name 2 rfl ⟨_, _, rfl, rfl, by omega, ?_⟩⟩
  · generalize decide (1 < ((w.n : Nat) : Int)) = c
    cases c <;> exact ⟨by decide, by decide⟩
  generalize hb : (a + b2 (decide (1 < ((w.n : Nat) : Int))) * (1 + t2)) % ((w.n : Nat) : Int) = b
  have b0 : 0 ≤ b := by rw [← hb]; exact Int.emod_nonneg _ (by omega)
  have b1 : b < w.n := by rw [← hb]; exact Int.emod_lt_of_pos _ (by omega)
  -- odd rows
  refine dss_cut (fun ρ => ∃ odd : List D, (∀ d ∈ odd, lenD d ≤ 10) ∧ odd.length ≤ 15 ∧ ρ = wR p ps w s nm a b (some (.im (.list odd))) none none none none none none none none) ?_ ?_
  · refine ds_set (hs := swaps_list) 9 <| de_new <| dn_list <| da_cons <| de_non <| da_cons <| de_int <| da_cons <| de_str ?_
    refine da_cons <| de_new <| dn_list <| da_one <| de_int ⟨Nat.le_of_ble_eq_true rfl, ?_⟩
    refine da_cons <| de_new <| dn_list <| da_cons <| de_int <| da_one <| de_int ⟨Nat.le_of_ble_eq_true rfl, ?_⟩
    refine da_cons <| de_tup <| da_nil ⟨Nat.le_of_ble_eq_true rfl, ?_⟩
    refine da_cons <| de_tup <| da_one <| de_bl ⟨Nat.le_of_ble_eq_true rfl, ?_⟩
    refine da_cons <| de_tup <| da_cons <| de_int <| da_one <| de_bl ⟨Nat.le_of_ble_eq_true rfl, ?_⟩
    refine da_cons <| de_tup <| da_cons <| de_bl <| da_one <| de_int ⟨Nat.le_of_ble_eq_true rfl, ?_⟩
    refine da_cons <| de_tup <| da_one <| de_name 3 rfl ⟨Nat.le_of_ble_eq_true rfl, ?_⟩
    refine da_cons <| de_tup <| da_one <| de_neg <| de_int ⟨_, rfl, Nat.le_of_ble_eq_true rfl, ?_⟩
    refine da_cons <| de_tup <| da_cons <| de_int <| da_one <| de_name 3 rfl ⟨Nat.le_of_ble_eq_true rfl, ?_⟩
    refine da_cons <| de_tup <| da_one <| de_tup <| da_one <| de_int ⟨Nat.le_of_ble_eq_true rfl, Nat.le_of_ble_eq_true rfl, ?_⟩
    refine da_cons <| de_tup <| da_one <| de_str ⟨Nat.le_of_ble_eq_true rfl, ?_⟩
    refine da_one <| de_tup <| da_cons <| de_int <| da_one <| de_int ⟨Nat.le_of_ble_eq_true rfl, Nat.le_of_ble_eq_true rfl, _, ?_, Nat.le_of_ble_eq_true rfl, rfl⟩
    intro d hd
    simp only [List.mem_cons, List.not_mem_nil, or_false] at hd
    rcases hd with rfl | rfl | rfl | rfl | rfl | rfl | rfl | rfl | rfl | rfl | rfl | rfl | rfl | rfl | rfl <;> exact Nat.le_of_ble_eq_true rfl
  rintro ρ1 ⟨odd, ho, hol, rfl⟩
  refine dss_cut (fun ρ => ∃ odd : List D, (∀ d ∈ odd, lenD d ≤ 10) ∧ odd.length ≤ 25 ∧ ρ = wR p ps w s nm a b (some (.im (.list odd))) none none none none none none none none) ?_ ?_
  · refine ds_set 9 <| de_new <| dn_cat <| de_name 9 rfl <| de_new <| dn_lc [("_law_k", 10)] (by decide) (by rfl) <| di_range B.range <| de_name 3 rfl ⟨_, rfl, by omega, by omega,
      fun i ρ acc => ρ = wR p ps w s nm a b (some (.im (.list odd))) none none none none none none none none ∧ (∀ d ∈ acc, lenD d ≤ 10) ∧ acc.length ≤ i ∧ i ≤ 7, ⟨rfl, by simp, by simp, by omega⟩, ?_, ?_⟩
    · rintro i d ρ2 acc hi ⟨rfl, ha, hal, hi7⟩
      obtain ⟨hi', rfl⟩ := upto_get hi
      refine ct_map (fun _ _ _ _ _ _ => dg_name 10 rfl) (fun _ _ _ _ _ _ => de_tup <| da_one <| de_name 10 rfl ⟨Nat.le_of_ble_eq_true rfl, by rw [sizeLine_eq]; omega, rfl, fun d hd => ?_, by rw [List.length_append, List.length_singleton]; omega, by omega⟩)
      rcases List.mem_append.mp hd with hd | hd
      · exact ha d hd
      · rw [List.mem_singleton.mp hd]; exact Nat.le_of_ble_eq_true rfl
    · rintro ρ2 acc ⟨rfl, ha, hal, hi7⟩
      refine ⟨_, _, rfl, rfl, sm (by omega), _, fun d hd => ?_, by rw [List.length_append]; omega, rfl⟩
      rcases List.mem_append.mp hd with hd | hd
      · exact ho d hd
      · exact ha d hd
  rintro ρ1 ⟨odd, ho, hol, rfl⟩
  refine dss_cut (fun ρ => ∃ (odd : List D) (ps : List Int) (x10 : Option Bd), (∀ d ∈ odd, lenD d ≤ 10) ∧ odd.length ≤ 100 ∧ ρ = wR p ps w s nm a b (some (.im (.list odd))) none none x10 none none none none none) ?_ ?_
  · refine ds_if <| dt_gt <| de_take 0 rfl L hr1 <| de_int ⟨3, rfl, by decide, ps, rfl, fun t ps _ _ => de_int ⟨_, _, rfl, rfl, fun _ => ?_, fun _ => dss_nil ⟨odd, ps, _, ho, by omega, rfl⟩⟩⟩
    refine dss_one <| ds_for [10] <| di_range B.range <| de_name 3 rfl ⟨_, rfl, by omega, by omega,
      fun k ρ => ∃ (odd : List D) (x10 : Option Bd), (∀ d ∈ odd, lenD d ≤ 10) ∧ odd.length ≤ 25 + 7 * k ∧ k ≤ 7 ∧ ρ = wR p ps w s nm a b (some (.im (.list odd))) none none x10 none none none none none, ⟨odd, _, ho, by omega, by omega, rfl⟩, ?_, ?_⟩
    · rintro k d ρ2 hk ⟨odd, x10, ho, hol, hk7, rfl⟩
      obtain ⟨hk', rfl⟩ := upto_get hk
      refine dg_name 10 <| dss_one <| ds_set 9 <| de_new <| dn_cat <| de_name 9 rfl <| de_new <| dn_lc [("_law_i", 17)] (by decide) (by rfl) <| di_range B.range <| de_name 3 rfl ⟨_, rfl, by omega, by omega,
        fun i ρ acc => ρ = wR p ps w s nm a b (some (.im (.list odd))) none none (some (.im (.int (k : Nat)))) none none none none none ∧ (∀ d ∈ acc, lenD d ≤ 10) ∧ acc.length ≤ i ∧ i ≤ 7, ⟨rfl, by simp, by simp, by omega⟩, ?_, ?_⟩
      · rintro i d ρ2 acc hi ⟨rfl, ha, hal, hi7⟩
        obtain ⟨hi', rfl⟩ := upto_get hi
        refine ct_map (fun _ _ _ _ _ _ => dg_name 17 rfl) (fun _ _ _ _ _ _ => de_tup <| da_cons <| de_name 10 rfl <| da_one <| de_name 17 rfl ⟨Nat.le_of_ble_eq_true rfl, by rw [sizeLine_eq]; omega, rfl, fun d hd => ?_, by rw [List.length_append, List.length_singleton]; omega, by omega⟩)
        rcases List.mem_append.mp hd with hd | hd
        · exact ha d hd
        · rw [List.mem_singleton.mp hd]; exact Nat.le_of_ble_eq_true rfl
      · rintro ρ2 acc ⟨rfl, ha, hal, hi7⟩
        refine ⟨_, _, rfl, rfl, sm (by omega), odd ++ acc, _, fun d hd => ?_, by rw [List.length_append]; omega, by omega, rfl⟩
        rcases List.mem_append.mp hd with hd | hd
        · exact ho d hd
        · exact ha d hd
    · rintro ρ2 ⟨odd, x10, ho, hol, hk7, rfl⟩
      exact ⟨odd, ps, _, ho, by omega, rfl⟩
  rintro ρ1 ⟨odd, ps, x10, ho, hol, rfl⟩
  -- walks
  refine dss_cut (fun ρ => ∃ (walks : List (List Int)) (ps : List Int), (∀ d ∈ walks, d.length ≤ 5) ∧ walks.length = 5 ∧ ρ = wR p ps w s nm a b (some (.im (.list odd))) (some (.im (.list (walks.map encT)))) none none none none none none none) ?_ ?_
  · refine ds_setLcI 11 [("_law_k", 10)] (by decide) (by rfl) (di_range B.range <| de_int ⟨5, rfl, by decide, by decide,
      fun i ρ acc => ∃ (walks : List (List Int)) (ps : List Int), acc = walks.map encT ∧ (∀ d ∈ walks, d.length ≤ 5) ∧ walks.length = i ∧ i ≤ 5 ∧ ρ = wR p ps w s nm a b (some (.im (.list odd))) none none none none none none none none, ⟨[], ps, rfl, by simp, rfl, by decide, rfl⟩, ?_, ?_⟩) (hsw := by rfl)
    · rintro i d ρ2 acc hi ⟨walks, ps, rfl, hwk, hwl, hi5, rfl⟩
      obtain ⟨hi', rfl⟩ := upto_get hi
      have hi' : i < 5 := hi'
      refine ct_map (fun _ _ _ _ _ _ => dg_name 10 rfl) (fun _ _ _ _ _ _ => de_callP 0 rfl Lw (hr.mono (show 2 ≤ 10 by decide)) <| da_cons <| de_name 1 rfl <| da_one <| de_name 7 rfl ⟨rfl, ps, rfl, ⟨w, a, hw, rfl⟩, ?_⟩)
      rintro d ps ⟨is', rfl, hil⟩
      refine ⟨by rw [List.length_map, sizeLine_eq]; omega, walks ++ [is'], ps, by rw [List.map_append]; rfl, fun q hq => ?_, by rw [List.length_append, List.length_singleton, hwl], by omega, rfl⟩
      rcases List.mem_append.mp hq with hq | hq
      · exact hwk q hq
      · rw [List.mem_singleton.mp hq]; exact hil
    · rintro ρ2 acc ⟨walks, ps, rfl, hwk, hwl, hi5, rfl⟩
      exact ⟨walks, ps, hwk, hwl, rfl⟩
  rintro ρ1 ⟨walks, ps, hwk, hwl, rfl⟩
  have lw : (walks.map encT).length = 5 := by rw [List.length_map, hwl]
  have w0 : atI (walks.map encT) 0 = some (encT (walks.getD 0 [])) := at_of (by decide) (by
    show (walks.map encT)[0]? = _
    rw [List.getElem?_map, List.getD_eq_getElem?_getD, List.getElem?_eq_getElem (by omega)]; rfl)
  have w05 : (walks.getD 0 []).length ≤ 5 := by
    rw [List.getD_eq_getElem?_getD, List.getElem?_eq_getElem (by omega)]
    exact hwk _ (List.getElem_mem _)
  have wlen : ∀ d ∈ walks.map encT, lenD d ≤ 10 := fun d hd => by
    obtain ⟨q, hq, rfl⟩ := List.mem_map.mp hd
    have := hwk q hq
    rw [lenD_enc]; omega
  have l5 : ∀ f : D → D, ((walks.map encT).map f).length = 5 := fun f => by rw [List.length_map, lw]
  -- asked
  refine dss_cut (fun ρ => ∃ x4, ρ = wR p ps w s nm a b (some (.im (.list odd))) (some (.im (.list (walks.map encT)))) x4 none none none none none none) ?_ ?_
  · refine ds_for [4] <| di_list <| de_is (.list (odd ++ walks.map encT ++ (walks.map encT).map ap0 ++ (walks.map encT).map rv0 ++ [.list ((walks.getD 0 []).map .int)])) ?_ ⟨_, rfl, fun i ρ => ∃ x4, ρ = wR p ps w s nm a b (some (.im (.list odd))) (some (.im (.list (walks.map encT)))) x4 none none none none none none, ⟨_, rfl⟩, ?_, ?_⟩
    · refine de_new <| dn_cat <| de_new <| dn_cat <| de_new <| dn_cat <| de_new <| dn_cat <| de_name 9 rfl <| de_name 11 rfl ⟨_, _, rfl, rfl, sm (by omega), ?_⟩
      refine de_is (.list ((walks.map encT).map ap0)) ?_ ⟨_, _, rfl, rfl, sm (by rw [List.length_append, lw, l5]; omega), ?_⟩
      rotate_left
      refine de_is (.list ((walks.map encT).map rv0)) ?_ ⟨_, _, rfl, rfl, sm (by rw [List.length_append, List.length_append, lw, l5, l5]; omega), ?_⟩
      rotate_left
      refine de_new <| dn_list <| da_one <| de_new <| dn_listT B.list <| de_ixL <| de_name 11 rfl <| de_int ⟨_, _, _, rfl, rfl, w0, _, .inl rfl, Nat.le_of_ble_eq_true rfl, _, _, rfl, rfl, sm (by rw [List.length_append, List.length_append, List.length_append, lw, l5, l5, List.length_singleton]; omega), rfl, rfl⟩
      · refine de_new <| dn_lc [("_law_row_here", 4)] (by decide) (by rfl) <| di_list <| de_name 11 rfl ⟨_, rfl, lc_map ap0 (by omega) rfl (fun i d hi => ?_) ⟨rfl, rfl⟩⟩
        obtain ⟨q, hq, rfl⟩ := List.mem_map.mp (List.mem_of_getElem? hi)
        exact ct_map (fun _ _ _ _ _ _ => dg_name 4 rfl) (fun _ _ _ _ _ _ => de_catT <| de_name 4 rfl <| de_tup <| da_one <| de_int ⟨Nat.le_of_ble_eq_true rfl, _, _, rfl, rfl, sm (by have := hwk q hq; rw [List.length_map]; show _ + 1 ≤ _; omega), rfl, rfl⟩)
      · refine de_new <| dn_lc [("_law_row_here", 4)] (by decide) (by rfl) <| di_list <| de_name 11 rfl ⟨_, rfl, lc_map rv0 (by omega) rfl (fun i d hi => ?_) ⟨rfl, rfl⟩⟩
        obtain ⟨q, hq, rfl⟩ := List.mem_map.mp (List.mem_of_getElem? hi)
        exact ct_map (fun _ _ _ _ _ _ => dg_name 4 rfl) (fun _ _ _ _ _ _ => de_revT <| de_name 4 rfl ⟨_, rfl, rfl, rfl⟩)
    · rintro i d ρ2 hi ⟨x4, rfl⟩
      have hd : lenD d ≤ 1000 := by
        refine mem_get (p := fun d => lenD d ≤ 1000) hi ?_
        intro d hd
        simp only [List.mem_append, List.mem_singleton] at hd
        rcases hd with (((hd | hd) | hd) | hd) | rfl
        · have := ho d hd; omega
        · have := wlen d hd; omega
        · obtain ⟨e, he, rfl⟩ := List.mem_map.mp hd
          obtain ⟨q, hq, rfl⟩ := List.mem_map.mp he
          have := hwk q hq
          show (q.map PyData.int ++ [PyData.int 0]).length ≤ _
          rw [List.length_append, List.length_map]; show _ + 1 ≤ _; omega
        · obtain ⟨e, he, rfl⟩ := List.mem_map.mp hd
          obtain ⟨q, hq, rfl⟩ := List.mem_map.mp he
          have := hwk q hq
          show (q.map PyData.int).reverse.length ≤ _
          rw [List.length_reverse, List.length_map]; omega
        · exact Nat.le_of_ble_eq_true rfl
      refine dg_name 4 <| dss_one <| ds_if <| dt_not <| dt_val <| de_call La (hr.mono (show 7 ≤ 10 by decide)) <| da_cons <| de_name 1 rfl <| da_cons <| de_name 7 rfl <| da_cons <| de_name 8 rfl <| da_cons <| de_name 4 rfl <| da_one <| de_name 6 rfl ⟨_, _, ⟨w, a, b, d, nm, hw, a0, a1, b0, b1, hd, rfl, rfl, rfl⟩, noerr, ?_⟩
      rintro d' rfl
      exact ⟨_, rfl, fun z => absurd z (by simp), fun _ => dss_nil ⟨_, rfl⟩⟩
    · rintro ρ2 ⟨x4, rfl⟩
      exact ⟨x4, rfl⟩
  rintro ρ1 ⟨x4, rfl⟩
  -- led
  refine dss_cut (fun ρ => ∃ x4 x12 x13, ρ = wR p ps w s nm a b (some (.im (.list odd))) (some (.im (.list (walks.map encT)))) x4 none x12 x13 none none none) ?_ ?_
  · refine ds_for [4] <| di_list <| de_new <| dn_cat <| de_name 11 rfl <| de_new <| dn_slL <| de_name 9 rfl <| dpo_none <| dpo_some <| de_int ⟨15, rfl, _, rfl, _, _, rfl, rfl, sm ?_, _, rfl, fun i ρ => ∃ x4 x12 x13, ρ = wR p ps w s nm a b (some (.im (.list odd))) (some (.im (.list (walks.map encT)))) x4 none x12 x13 none none none, ⟨_, _, _, rfl⟩, ?_, ?_⟩
    · have : (DL.cutD odd none (some 15)).length ≤ odd.length := by
        unfold DL.cutD; rw [List.length_take, List.length_drop]; omega
      omega
    · rintro i d ρ2 hi ⟨x4, x12, x13, rfl⟩
      have hd : lenD d ≤ 1000 := by
        refine mem_get (p := fun d => lenD d ≤ 1000) hi ?_
        intro d hd
        rcases List.mem_append.mp hd with hd | hd
        · have := wlen d hd; omega
        · have hd : d ∈ DL.cutD odd none (some 15) := hd
          unfold DL.cutD at hd
          have := ho d (List.mem_of_mem_drop (List.mem_of_mem_take hd)); omega
      refine dg_name 4 <| dss_cons <| ds_set 12 <| de_call Ll (hr.mono (show 3 ≤ 10 by decide)) <| da_cons <| de_name 1 rfl <| da_cons <| de_name 5 rfl <| da_cons <| de_name 7 rfl <| da_one <| de_name 4 rfl ⟨_, _, ⟨w, s, a, d, hw, hs.1, a0, hd, rfl, rfl, rfl⟩, noerr, ?_⟩
      rintro d' ⟨mo, rfl⟩
      refine dss_one <| ds_for (hs := folded_list) [13] <| di_list <| de_new <| dn_list <| da_cons <| de_int <| da_cons <| de_name 12 rfl <| da_cons <| de_min2 B.min <| de_add <| de_name 12 rfl <| de_int ⟨_, _, rfl, rfl, de_pow <| de_int <| de_int ⟨_, _, rfl, rfl, ⟨by decide, by decide, by decide⟩, _, _, rfl, rfl, ?_⟩⟩
      refine da_cons <| de_int <| da_cons <| de_bl <| da_cons <| de_non <| da_one <| de_neg <| de_int ⟨_, rfl, Nat.le_of_ble_eq_true rfl, ?_⟩
      refine ⟨_, rfl,
        fun j ρ => ∃ x13, ρ = wR p ps w s nm a b (some (.im (.list odd))) (some (.im (.list (walks.map encT)))) (some (.im d)) none (some (.im (.int mo))) x13 none none none, ⟨_, rfl⟩, ?_, ?_⟩
      · rintro j c ρ2 hj ⟨x13, rfl⟩
        refine dg_name 13 <| dss_one <| ds_if <| dt_not <| dt_val <| de_call Ld (hr.mono (show 9 ≤ 10 by decide)) <| da_cons <| de_name 1 rfl <| da_cons <| de_name 5 rfl <| da_cons <| de_name 7 rfl <| da_cons <| de_name 4 rfl <| da_cons <| de_name 13 rfl <| da_one <| de_name 6 rfl ⟨_, _, ⟨w, s, .int a, d, c, nm, hw, hs, hd, rfl, rfl, rfl⟩, noerr, ?_⟩
        rintro d' rfl
        exact ⟨_, rfl, fun z => absurd z (by simp), fun _ => dss_nil ⟨_, rfl⟩⟩
      · rintro ρ2 ⟨x13, rfl⟩
        exact ⟨_, _, _, rfl⟩
    · rintro ρ2 ⟨x4, x12, x13, rfl⟩
      exact ⟨x4, x12, x13, rfl⟩
  rintro ρ1 ⟨x4, x12, x13, rfl⟩
  refine dss_cut (fun ρ => ∃ x14, ρ = wR p ps w s nm a b (some (.im (.list odd))) (some (.im (.list (walks.map encT)))) x4 none x12 x13 x14 none none) ?_ ?_
  · refine ds_for (hs := folded_list) [14] <| di_list <| de_new <| dn_list <| da_cons <| de_non <| da_cons <| de_bl <| da_cons <| de_neg <| de_int ⟨_, rfl, ?_⟩
    refine da_cons <| de_name 2 rfl <| da_cons <| de_str <| da_one <| de_tup <| da_one <| de_int ⟨Nat.le_of_ble_eq_true rfl, Nat.le_of_ble_eq_true rfl, ?_⟩
    refine ⟨_, rfl,
      fun j ρ => ∃ x14, ρ = wR p ps w s nm a b (some (.im (.list odd))) (some (.im (.list (walks.map encT)))) x4 none x12 x13 x14 none none, ⟨_, rfl⟩, ?_, fun ρ2 z => z⟩
    rintro j d ρ2 hj ⟨x14, rfl⟩
    refine dg_name 14 <| dss_one <| ds_if <| dt_not <| dt_val <| de_call Ld (hr.mono (show 9 ≤ 10 by decide)) <| da_cons <| de_name 1 rfl <| da_cons <| de_name 5 rfl <| da_cons <| de_name 14 rfl <| da_cons <| de_ixL <| de_name 11 rfl <| de_int ⟨_, _, _, rfl, rfl, w0, da_cons <| de_non <| da_one <| de_not <| de_name 6 rfl ⟨_, rfl, _, _, ⟨w, s, d, encT (walks.getD 0 []), .none, !nm, hw, hs, by rw [lenD_enc]; omega, rfl, rfl, rfl⟩, noerr, ?_⟩⟩
    rintro d' rfl
    exact ⟨_, rfl, fun z => absurd z (by simp), fun _ => dss_nil ⟨_, rfl⟩⟩
  rintro ρ1 ⟨x14, rfl⟩
  have badH : ∀ d ∈ [PyData.none, .bool true, .int (-1), .int (w.n : Nat), .str "0", .tuple [.int 0]], isH w.n d = false := by
    intro d hd
    simp only [List.mem_cons, List.not_mem_nil, or_false] at hd
    rcases hd with rfl | rfl | rfl | rfl | rfl | rfl
    · rfl
    · rfl
    · rfl
    · exact isH_big (Int.le_refl _)
    · rfl
    · rfl
  refine dss_cut (fun ρ => ∃ x15 x16, ρ = wR p ps w s nm a b (some (.im (.list odd))) (some (.im (.list (walks.map encT)))) x4 none x12 x13 x14 x15 x16) ?_ ?_
  · refine ds_for (hs := folded_list) [15] <| di_list <| de_new <| dn_list <| da_cons <| de_non <| da_cons <| de_bl <| da_cons <| de_neg <| de_int ⟨_, rfl, ?_⟩
    refine da_cons <| de_name 2 rfl <| da_cons <| de_str <| da_one <| de_tup <| da_one <| de_int ⟨Nat.le_of_ble_eq_true rfl, Nat.le_of_ble_eq_true rfl, ?_⟩
    refine ⟨_, rfl,
      fun j ρ => ∃ x15 x16, ρ = wR p ps w s nm a b (some (.im (.list odd))) (some (.im (.list (walks.map encT)))) x4 none x12 x13 x14 x15 x16, ⟨_, _, rfl⟩, ?_, fun ρ2 z => z⟩
    rintro j d ρ2 hj ⟨x15, x16, rfl⟩
    have hd := mem_get (p := fun d => isH w.n d = false) hj badH
    have hth : okTh w.n (.int a) d = false := by
      show (isH w.n d && _) = false
      rw [hd, Bool.false_and]
    refine dg_name 15 <| dss_cons <| ds_set 16 <| de_and <| de_ref Lr hr <| da_cons <| de_str <| da_cons <| de_tup <| da_cons <| de_name 1 rfl <| da_cons <| de_name 15 rfl <| da_one <| de_name 15 rfl ⟨Nat.le_of_ble_eq_true rfl, da_one <| de_str ⟨_, _, _, rfl, rf_way_here hw hd, _, rfl, fun _ => ?_, fun z => (by cases z)⟩⟩
    refine de_one <| de_ref Lr hr <| da_cons <| de_str <| da_cons <| de_tup <| da_cons <| de_name 1 rfl <| da_one <| de_name 15 rfl ⟨Nat.le_of_ble_eq_true rfl, da_one <| de_str ⟨_, _, _, rfl, rf_ring hw hd, ?_⟩⟩
    refine dss_one <| ds_if <| dt_bool <| dw_or <| dt_not <| dt_val <| de_name 16 rfl ⟨_, rfl, fun z => absurd z (by simp), fun _ => dw_or1 <| dt_not <| dt_val <| de_ref Lr hr <| da_cons <| de_str <| da_cons <| de_tup <| da_cons <| de_name 1 rfl <| da_cons <| de_name 7 rfl <| da_one <| de_name 15 rfl ⟨Nat.le_of_ble_eq_true rfl, da_one <| de_str ⟨_, _, _, rfl, rf_way_there hw a0 a1 hth, _, rfl, fun z => absurd z (by simp), fun _ => dss_nil ⟨_, _, rfl⟩⟩⟩⟩
  rintro ρ1 ⟨x15, x16, rfl⟩
  have haa : okTh w.n (.int a) (.int a) = false := by
    show (isH w.n (.int a) && decide (a ≠ a)) = false
    rw [decide_eq_false (by simp), Bool.and_false]
  refine dss_cons <| ds_if <| dt_not <| dt_val <| de_ref Lr hr <| da_cons <| de_str <| da_cons <| de_tup <| da_cons <| de_name 1 rfl <| da_cons <| de_name 7 rfl <| da_one <| de_name 7 rfl ⟨Nat.le_of_ble_eq_true rfl, da_one <| de_str ⟨_, _, _, rfl, rf_way_there hw a0 a1 haa, _, rfl, fun z => absurd z (by simp), fun _ => dss_nil ?_⟩⟩
  have sl : s.length ≤ 7 := by rw [hs.1]; exact r7
  have c3 : DL.cutD (s.map PyData.int) none (some (-1)) = (s.map PyData.int).take ((s.map PyData.int).length - 1) := cut_last
  refine dss_cons <| ds_for (hs := folded_list) [15] <| di_list <| de_new <| dn_list <| da_cons <| de_non <| da_cons <| de_catT <| de_name 5 rfl <| de_tup <| da_one <| de_int ⟨Nat.le_of_ble_eq_true rfl, _, _, rfl, rfl, sm (by rw [List.length_map]; show _ + 1 ≤ _; omega), ?_⟩
  refine da_cons <| de_new <| dn_listT B.list <| de_name 5 rfl ⟨_, .inl rfl, ?_⟩
  refine da_cons <| de_catT <| de_slT <| de_name 5 rfl <| dpo_none <| dpo_some <| de_neg <| de_int ⟨_, rfl, _, rfl, _, rfl, de_tup <| da_one <| de_neg <| de_int ⟨_, rfl, Nat.le_of_ble_eq_true rfl, _, _, rfl, rfl, sm (by show (DL.cutD (s.map PyData.int) none (some (-1))).length + 1 ≤ _; rw [c3, List.length_take, List.length_map]; omega), ?_⟩⟩
  refine da_one <| de_bl ⟨Nat.le_of_ble_eq_true rfl, ?_⟩
  refine ⟨_, rfl, fun j ρ => ∃ x15, ρ = wR p ps w s nm a b (some (.im (.list odd))) (some (.im (.list (walks.map encT)))) x4 none x12 x13 x14 x15 x16, ⟨_, rfl⟩, ?_, ?_⟩
  · rintro j d ρ2 hj ⟨x15, rfl⟩
    have hd : isSplit w.rows d = false := by
      refine mem_get (p := fun d => isSplit w.rows d = false) hj ?_
      intro d hd
      simp only [List.mem_cons, List.not_mem_nil, or_false] at hd
      rcases hd with rfl | rfl | rfl | rfl | rfl
      · rfl
      · exact ns_len (by rw [List.length_append, List.length_map, hs.1]; show _ + 1 ≠ _; omega)
      · rfl
      · show isSplit w.rows (.tuple (DL.cutD (s.map PyData.int) none (some (-1)) ++ [.int (-1)])) = false
        rw [c3]
        refine ns_any (i := ((s.map PyData.int).take ((s.map PyData.int).length - 1)).length) (d := .int (-1)) ?_ fun r => rfl
        rw [List.getElem?_append_right (Nat.le_refl _), Nat.sub_self]; rfl
      · rfl
    exact dg_name 15 <| dss_one <| ds_if <| dt_not <| dt_val <| de_ref Lr hr <| da_cons <| de_str <| da_cons <| de_tup <| da_cons <| de_name 1 rfl <| da_one <| de_name 15 rfl ⟨Nat.le_of_ble_eq_true rfl, da_one <| de_str ⟨_, _, _, rfl, rf_led hw hd, _, rfl, fun z => absurd z (by simp), fun _ => dss_nil ⟨_, rfl⟩⟩⟩
  · rintro ρ2 ⟨x15, rfl⟩
    exact dss_one <| ds_ret <| de_bl ⟨ps, rfl, rfl⟩
end
end HL
namespace HL
open PySem PySem.Spec PyProof.Rows L2 DL GenW
/-! ### the law: numbers -/
theorem tot_take {rows : List Row} {i : Nat} {r : Row} (h : rows[i]? = some r) : tot (rows.take (i + 1)) = tot (rows.take i) * rm r := by
  rw [take_next h, tot_app]; show _ * (rm r * 1) = _; rw [Nat.mul_one]
theorem cnt_tot : ∀ {rows : List Row} (acc : Int), (∀ r ∈ rows, 0 ≤ r.2.2) → rows.foldl (fun (t : Int) r => t * (r.2.2 + 1)) acc = acc * (tot rows : Nat)
  | [], acc, _ => by simp [tot]
  | r :: rows, acc, h => by
    have h0 := h r (by simp)
    show rows.foldl _ (acc * (r.2.2 + 1)) = acc * ((rm r * tot rows : Nat) : Int)
    rw [cnt_tot _ fun r z => h r (List.mem_cons_of_mem _ z)]
    have e1 : ((rm r : Nat) : Int) = r.2.2 + 1 := by unfold rm; omega
    rw [Int.natCast_mul, e1, Int.mul_assoc]
theorem tot_cnt {rows : List Row} (h : ∀ r ∈ rows, 0 ≤ r.2.2) : cnt rows = (tot rows : Nat) := by
  have := cnt_tot 1 h
  rw [Int.one_mul] at this
  exact this
theorem tot_le : ∀ {rows : List Row}, (∀ r ∈ rows, r.2.2 ≤ 10 ^ 30) → tot rows ≤ (10 ^ 30 + 1) ^ rows.length
  | [], _ => Nat.le_refl _
  | r :: rows, h => by
    have h0 := h r (by simp)
    have ih := tot_le (rows := rows) fun r z => h r (List.mem_cons_of_mem _ z)
    show rm r * tot rows ≤ (10 ^ 30 + 1) ^ (rows.length + 1)
    rw [Nat.pow_succ, Nat.mul_comm]
    refine Nat.mul_le_mul ih ?_
    unfold rm; omega
theorem log_small {n : Nat} (h : n ≤ (10 ^ 30 + 1) ^ 7) : n.log2 < 1000 := by
  by_cases h0 : n = 0
  · subst h0; decide
  · rw [Nat.log2_lt h0]
    exact Nat.lt_of_le_of_lt h (by decide +kernel)
theorem mulw {rows : List Row} {r : Row} (h : ∀ r ∈ rows, 0 ≤ r.2.2 ∧ r.2.2 ≤ 10 ^ 30) (hl : rows.length ≤ 7) (h0 : 0 ≤ r.2.2) (h1 : r.2.2 ≤ 10 ^ 30) : CMulW ((tot rows : Nat) : Int) (r.2.2 + 1) := by
  unfold CMulW
  have e1 : tot rows ≤ (10 ^ 30 + 1) ^ 7 := Nat.le_trans (tot_le fun r z => (h r z).2) (Nat.pow_le_pow_right (by decide) hl)
  have e2 : (r.2.2 + 1).natAbs ≤ (10 ^ 30 + 1) ^ 7 := by
    have : (r.2.2 + 1).natAbs ≤ 10 ^ 30 + 1 := by omega
    exact Nat.le_trans this (Nat.le_self_pow (by decide) _)
  have l1 := log_small e1
  have l2 := log_small e2
  rw [Int.natAbs_natCast]
  omega
theorem hold_pos {w : Web} (hw : w.Ok) (h : Int) : 0 ≤ hold w h := by
  unfold hold
  refine sum_nonneg fun x hx => ?_
  obtain ⟨r, hr, rfl⟩ := List.mem_map.mp hx
  have := hw.row r (List.mem_filter.mp hr).1
  omega
theorem holds_len (w : Web) : (holds w).length = w.n := by simp [holds]
theorem holds_at {w : Web} {i : Nat} (h : i < w.n) : (holds w)[i]? = some (hold w (i : Nat)) := by
  unfold holds
  rw [List.getElem?_map, List.getElem?_range h]; rfl
/-- a row below the holds -/
def Below (w : Web) (p : List Int) : Prop := p.length = w.n ∧ ∀ (i : Nat) (x : Int), p[i]? = some x → 0 ≤ x ∧ x ≤ hold w (i : Nat)
theorem Below.nonneg {w : Web} {p : List Int} (h : Below w p) : ∀ y ∈ p, 0 ≤ y := fun y hy => by
  obtain ⟨i, hi, rfl⟩ := List.mem_iff_getElem.mp hy
  exact (h.2 i _ (List.getElem?_eq_getElem hi)).1
theorem Below.rest {w : Web} {p : List Int} (h : Below w p) : ∀ q ∈ (List.range p.length).zip p, 0 ≤ hold w (q.1 : Nat) - q.2 := fun q hq => by
  obtain ⟨i, hi, e⟩ := List.mem_iff_getElem.mp hq
  have hg : ((List.range p.length).zip p)[i]? = some q := by rw [List.getElem?_eq_getElem hi, e]
  rw [List.getElem?_zip_eq_some] at hg
  obtain ⟨h1, h2⟩ := hg
  have hl : i < p.length := (List.getElem?_eq_some_iff.mp h2).1
  rw [List.getElem?_range hl] at h1
  have := h.2 i _ h2
  cases h1
  omega
theorem rests_at {w : Web} {p : List Int} {i : Nat} {x : Int} (h : p[i]? = some x) : (rests w p)[i]? = some (hold w (i : Nat) - x) := by
  unfold rests
  have hl : i < p.length := (List.getElem?_eq_some_iff.mp h).1
  have : ((List.range p.length).zip p)[i]? = some (i, x) := List.getElem?_zip_eq_some.mpr ⟨List.getElem?_range hl, h⟩
  rw [List.getElem?_map, this]; rfl
theorem rests_len (w : Web) (p : List Int) : (rests w p).length = p.length := by simp [rests]
theorem below_holds {w : Web} (hw : w.Ok) : Below w (holds w) := by
  refine ⟨holds_len w, fun i x h => ?_⟩
  have hl : i < w.n := by rw [← holds_len w]; exact (List.getElem?_eq_some_iff.mp h).1
  rw [holds_at hl] at h
  cases h
  exact ⟨hold_pos hw _, Int.le_refl _⟩
theorem rests_holds (w : Web) : rests w (holds w) = List.replicate w.n 0 := by
  refine List.ext_getElem? fun i => ?_
  by_cases hl : i < w.n
  · rw [rests_at (holds_at hl), List.getElem?_replicate, if_pos hl, Int.sub_self]
  · rw [List.getElem?_eq_none_iff.mpr (by rw [rests_len, holds_len]; omega), List.getElem?_eq_none_iff.mpr (by rw [List.length_replicate]; omega)]
def web3 : Web := ⟨3, [(0, 1, 9), (0, 2, 19), (1, 2, 9)]⟩
theorem web3_ok : web3.Ok := ⟨by decide, by decide, by decide, by decide⟩
theorem web3_tot : tot web3.rows = 2000 := by decide +kernel
theorem rows_pos {w : Web} (hw : w.Ok) : ∀ r ∈ w.rows, 0 ≤ r.2.2 := fun r hr => by have := hw.row r hr; omega
end HL
namespace HL
open PySem PySem.Spec PyProof.Rows L2 DL GenW
/-- the slots of law -/
abbrev vR (r0 : Option Bd) (ps : List Int) (sc most : Int) (w : Web) (nm : Bool) (x6 x7 x8 x9 x10 x11 x12 x13 x14 : Option Bd) : Rho :=
  [r0, some (.own none (ps.map .int)), some (.im (.int sc)), some (.im (.int most)), some (.im (encW w)), some (.im (.bool nm)), x6, x7, x8, x9, x10, x11, x12, x13, x14, none, none]
theorem list_3h {r : Row} {t : Int} {j : Int} (h0 : 0 ≤ j) (h1 : j < 3) (hr : 0 ≤ r.2.2) (t0 : 0 ≤ t) (t1 : t ≤ r.2.2) : ∃ c : Int, atI [PyData.int 0, .int r.2.2, .int t] j = some (.int c) ∧ 0 ≤ c ∧ c ≤ r.2.2 := by
  have : j = 0 ∨ j = 1 ∨ j = 2 := by omega
  rcases this with rfl | rfl | rfl
  · exact ⟨0, rfl, by omega, hr⟩
  · exact ⟨r.2.2, rfl, hr, by omega⟩
  · exact ⟨t, rfl, t0, t1⟩
theorem cdv11 (i : Int) : CDiv i 11 := ⟨by decide, by decide⟩
theorem dt_any {X : Cx} {C : Addr} {Γ : Gm X C} {e : Expr} {ρ : Rho} {k : Bool → Rho → Prop} (h : DT Γ e ρ (fun _ ρ' => ρ' = ρ)) (hk : ∀ b, k b ρ) : DT Γ e ρ k := .mk fun pins s σ H G Q I eo hq => h.run pins s σ H G Q I eo (by rintro d ρ1 H' G' rfl e x; exact hq _ _ _ _ (hk d) e x)
section
variable {P : Program} {w : World} {K : PySem.W.Frag} {mg : Str → Option Value} {base : Heap} {f C : Addr} {fd : FuncData}
theorem ok_law (B : Bi mg) (Lp : Df P w K mg base "_law_pool" P_law_pool 1 (spPool K)) (L : Df P w K mg base "_law_take" P_law_take 1 (spPl Q_take)) (Lg : Df P w K mg base "_law_great" P_law_great 2 (spPl Q_great)) (Ln : Df P w K mg base "_law_net" P_law_net 3 (spPl Q_net))
    (Lw : Df P w K mg base "_law_ways" P_law_ways 11 (spPl Q_ways)) (Ll : Df P w K mg base "_law_listed" P_law_listed 3 (spT C T_law_listed)) (Lt : Df P w K mg base "_law_turns" P_law_turns 3 (spT C T_law_turns)) (Lc : Df P w K mg base "_law_checked" P_law_checked 7 (spT C T_law_checked))
    (Lh : Df P w K mg base "_law_holds" P_law_holds 1 (spT C T_law_holds)) (Lr : Df P w K mg base "_law_row" P_law_row 2 (spT C T_law_row)) (L3 : Df P w K mg base "turned_purses" P_turned_purses 6 (spT C T_turned_purses)) (Lf : Df P w K mg base "_law_refusals" P_law_refusals 12 (spPl Q_refusals))
    (F : FnP K "law" s_law f fd) : FnOk P w K mg base (L2.CX P w) 13 f fd P_law (spLaw K) := by
  refine fn_okLaw (C := C) F sc_law rfl fun cdv A outer s0 H E Γ hr hG ns => ?_
  have hr1 := hr.mono (show 1 ≤ 12 by decide)
  have L3' := L3.weak wk_turned_purses
  have sm : ∀ {n : Nat}, n ≤ 100000 → n ≤ sizeLine := fun h => by rw [sizeLine_eq]; omega
  refine dss_cons <| ds_setN 1 <| dn_callPool 0 Lp hr1 hG rfl fun qs => ?_
  generalize hr0 : some (Bd.raw (scrP K Γ.G0 ns)) = r0
  refine dss_cons <| ds_if <| dt_eqI <| de_take 1 rfl L hr1 <| de_int ⟨2, rfl, by decide, qs, rfl, fun t qs _ _ => de_int ⟨_, _, rfl, rfl, fun _ => ?_, fun _ => dss_nil ?_⟩⟩
  · exact dss_one <| ds_ret <| de_callP 1 rfl Lw (hr.mono (by decide)) <| da_nil ⟨rfl, qs, rfl, trivial, fun d ps' z => z⟩
  refine dss_cons <| ds_set 2 <| de_take 1 rfl L hr1 <| de_int ⟨16, rfl, by decide, qs, rfl, fun sc qs c0 c1 => ?_⟩
  obtain ⟨big, hbig⟩ : ∃ big, big = decide (sc < 13 ∨ sc = 15) := ⟨_, rfl⟩
  refine dss_cut (fun ρ => ρ = [some (.raw (scrP K Γ.G0 ns)), some (.own none (qs.map .int)), some (.im (.int sc)), some (.im (.int (200 * b2 big))), none, none, none, none, none, none, none, none, none, none, none, none, none]) ?_ ?_
  · have cb : CMul 200 (b2 big) := .inl ⟨by decide, by decide⟩
    refine ds_set 3 <| de_mul <| de_int <| de_intB B.int <| de_or <| de_lt <| de_name 2 rfl <| de_int ⟨_, _, rfl, rfl, _, rfl, fun z => ?_, fun z => de_one <| de_eqI <| de_name 2 rfl <| de_int ⟨_, _, rfl, rfl, ?_⟩⟩
    · have e : big = true := by rw [hbig]; exact decide_eq_true (.inl (of_decide_eq_true z))
      rw [← e]
      exact ⟨_, rfl, _, _, rfl, rfl, cb, rfl⟩
    · have e : decide (sc = 15) = big := by
        have h1 := of_decide_eq_false z
        rw [hbig]
        by_cases h2 : sc = 15
        · rw [decide_eq_true h2, decide_eq_true (.inr h2)]
        · rw [decide_eq_false h2, decide_eq_false (by rintro (h | h); exact h1 h; exact h2 h)]
      exact ⟨_, rfl, _, _, rfl, rfl, .inl ⟨by decide, by decide⟩, by rw [e]; rfl⟩
  rintro ρ1 rfl
  rw [hr0]
  obtain ⟨most, hmost⟩ : ∃ most : Int, most = 200 * b2 big := ⟨_, rfl⟩
  rw [← hmost]
  have most2 : most = 0 ∨ most = 200 := by rw [hmost]; cases big; exact .inl rfl; exact .inr rfl
  refine dss_cons <| ds_set 4 <| de_callP 1 rfl Ln (hr.mono (by decide)) <| da_one <| de_name 3 rfl ⟨rfl, qs, rfl, ⟨most, most2, rfl⟩, ?_⟩
  rintro d qs ⟨most', w, hm', hf, rfl⟩
  cases hm'
  refine dss_cut (fun ρ => ∃ w : Web, w.Ok ∧ (∀ r ∈ w.rows, r.2.2 ≤ 10 ^ 30) ∧ (0 < most → tot w.rows ≤ 2000) ∧ ρ = [r0, some (.own none (qs.map .int)), some (.im (.int sc)), some (.im (.int most)), some (.im (encW w)), none, none, none, none, none, none, none, none, none, none, none, none]) ?_ ?_
  · refine ds_if <| dt_eqI <| de_name 2 rfl <| de_int ⟨_, _, rfl, rfl, fun z => ?_, fun z => dss_nil ⟨w, hf.ok, hf.big, fun h => ?_, rfl⟩⟩
    · refine dss_one <| ds_set 4 <| de_tup <| da_cons <| de_int <| da_one <| de_tup <| da_cons <| de_tup <| da_cons <| de_int <| da_cons <| de_int <| da_one <| de_int ⟨Nat.le_of_ble_eq_true rfl, ?_⟩
      refine da_cons <| de_tup <| da_cons <| de_int <| da_cons <| de_int <| da_one <| de_int ⟨Nat.le_of_ble_eq_true rfl, ?_⟩
      refine da_one <| de_tup <| da_cons <| de_int <| da_cons <| de_int <| da_one <| de_int ⟨Nat.le_of_ble_eq_true rfl, Nat.le_of_ble_eq_true rfl, Nat.le_of_ble_eq_true rfl, ?_⟩
      exact ⟨web3, web3_ok, by decide, fun _ => Nat.le_of_eq web3_tot, rfl⟩
    · have h2 : most = 200 := by omega
      have := hf.cnt h2
      rw [tot_cnt (rows_pos hf.ok)] at this
      omega
  clear hf
  rintro ρ1 ⟨w, hw, hbig2, htot, rfl⟩
  have n1 := hw.n1
  have n8 := hw.n8
  have r7 := hw.r7
  have lm : (w.rows.map encR).length = w.rows.length := List.length_map _
  refine dss_cons <| ds_set 5 <| de_eqI <| de_take 1 rfl L hr1 <| de_int ⟨2, rfl, by decide, qs, rfl, fun t qs _ _ => de_int ⟨_, _, rfl, rfl, ?_⟩⟩
  obtain ⟨nm, hnm⟩ : ∃ nm, nm = decide (t = 1) := ⟨_, rfl⟩
  rw [← hnm]
  refine dss_cons <| ds_set 6 <| de_int ?_
  -- the number of splits
  refine dss_cut (fun ρ => ∃ x7, ρ = vR r0 qs sc most w nm (some (.im (.int (tot w.rows : Nat)))) x7 none none none none none none none) ?_ ?_
  · refine ds_for [7] <| di_tup <| de_w1 4 rfl ⟨_, rfl, fun i ρ => ∃ x7, ρ = vR r0 qs sc most w nm (some (.im (.int (tot (w.rows.take i) : Nat)))) x7 none none none none none none none, ⟨_, rfl⟩, ?_, ?_⟩
    · rintro i d ρ2 hi ⟨x7, rfl⟩
      obtain ⟨r, hr', rfl⟩ := rows_at hi
      have hm := List.mem_of_getElem? hr'
      have h0 := rows_pos hw r hm
      have h1 := hbig2 r hm
      have hc : CMulW ((tot (w.rows.take i) : Nat) : Int) (r.2.2 + 1) := mulw (fun r z => ⟨rows_pos hw r (List.mem_of_mem_take z), hbig2 r (List.mem_of_mem_take z)⟩) (by rw [List.length_take]; omega) h0 h1
      refine dg_name 7 <| dss_one <| ds_set 6 <| de_mulW <| de_name 6 rfl <| de_add <| de_r2 7 rfl <| de_int ⟨_, _, rfl, rfl, _, _, rfl, rfl, hc, some (.im (encR r)), ?_⟩
      have e1 : ((rm r : Nat) : Int) = r.2.2 + 1 := by unfold rm; omega
      rw [tot_take hr', Int.natCast_mul, e1]; rfl
    · rintro ρ2 ⟨x7, rfl⟩
      rw [lm, List.take_length]
      exact ⟨_, rfl⟩
  rintro ρ1 ⟨x7, rfl⟩
  -- the list, or drawn splits
  refine dss_cut (fun ρ => ∃ (qs : List Int) (x7 x8 x9 x10 x11 x12 : Option Bd), ρ = vR r0 qs sc most w nm (some (.im (.int (tot w.rows : Nat)))) x7 x8 x9 x10 x11 x12 none none) ?_ ?_
  · refine ds_if <| dt_gt <| de_name 3 rfl <| de_int ⟨_, _, rfl, rfl, fun z => ?_, fun z => ?_⟩
    · have htot := htot (of_decide_eq_true z)
      have tp := tot_pos w.rows
      have gl : ((allS w.rows).map encIt).length = tot w.rows := by rw [List.length_map, allS_len]
      refine dss_cons <| ds_set 8 <| de_call Ll (hr.mono (show 3 ≤ 12 by decide)) <| da_cons <| de_name 4 rfl <| da_one <| de_name 6 rfl ⟨_, _, ⟨w, hw, by omega, rfl, rfl, rfl⟩, noerr, ?_⟩
      rintro d rfl
      refine dss_cons <| ds_if <| dt_bool <| dw_or <| dt_eqI <| de_lenL B.len <| de_name 8 rfl ⟨_, rfl, de_int ⟨_, _, rfl, rfl, fun z => ?_, fun _ => dw_or1 <| dt_not <| dt_val <| de_call Lt (hr.mono (show 3 ≤ 12 by decide)) <| da_cons <| de_name 4 rfl <| da_one <| de_name 8 rfl ⟨_, _, ⟨w, hw, by omega, rfl, rfl, rfl⟩, noerr, ?_⟩⟩⟩
      · have := of_decide_eq_true z
        rw [gl] at this; omega
      rintro d rfl
      refine ⟨_, rfl, fun z => absurd z (by simp), fun _ => dss_nil ?_⟩
      refine dss_cut (fun ρ => ∃ pace : Int, 0 < pace ∧ ρ = vR r0 qs sc most w nm (some (.im (.int (tot w.rows : Nat)))) x7 (some (.im (.list ((allS w.rows).map encIt)))) (some (.im (.int pace))) none none none none none) ?_ ?_
      · exact ds_set 9 <| de_add <| de_int <| de_fdiv <| de_name 6 rfl <| de_int ⟨_, _, rfl, rfl, cdv11 _, _, _, rfl, rfl, _, by omega, rfl⟩
      rintro ρ1 ⟨pace, pace0, rfl⟩
      refine dss_cut (fun ρ => ∃ (bg : Int) (qs : List Int), ρ = vR r0 qs sc most w nm (some (.im (.int (tot w.rows : Nat)))) x7 (some (.im (.list ((allS w.rows).map encIt)))) (some (.im (.int pace))) (some (.im (.int bg))) none none none none) ?_ ?_
      · exact ds_set 10 <| de_mod <| de_intI B.int <| de_take 1 rfl L hr1 <| de_int ⟨200, rfl, by decide, qs, rfl, fun t qs _ _ => ⟨_, rfl, de_name 9 rfl ⟨_, _, rfl, rfl, pace0, _, qs, rfl⟩⟩⟩
      rintro ρ1 ⟨bg, qs, rfl⟩
      refine dss_one <| ds_for [11] <| di_range B.range <| de_name 6 rfl ⟨_, rfl, by omega, by omega,
        fun k ρ => ∃ x11, ρ = vR r0 qs sc most w nm (some (.im (.int (tot w.rows : Nat)))) x7 (some (.im (.list ((allS w.rows).map encIt)))) (some (.im (.int pace))) (some (.im (.int bg))) x11 none none none, ⟨_, rfl⟩, ?_, ?_⟩
      · rintro k d ρ2 hk ⟨x11, rfl⟩
        obtain ⟨hk', rfl⟩ := upto_get hk
        have hk' : k < tot w.rows := by simpa using hk'
        have got_at : atI ((allS w.rows).map encIt) ((k : Nat) : Int) = some (encIt (spl w.rows k)) := at_of (by omega) (by rw [List.getElem?_map]; show Option.map _ (allS w.rows)[k]? = _; rw [allS_get hk']; rfl)
        obtain ⟨hs, _⟩ := spl_ok (rows_pos hw) hk'
        refine dg_name 11 <| dss_one <| ds_if <| dt_any ?_ fun b => ⟨fun _ => ?_, fun _ => dss_nil ⟨_, rfl⟩⟩
        · exact dt_bool <| dw_or <| dt_eqI <| de_name 11 rfl <| de_int ⟨_, _, rfl, rfl, fun _ => rfl, fun _ => dw_or <| dt_eqI <| de_name 11 rfl <| de_sub <| de_name 6 rfl <| de_int ⟨_, _, rfl, rfl, _, _, rfl, rfl, fun _ => rfl, fun _ => dw_or1 <| dt_eqI <| de_mod <| de_intI B.int <| de_name 11 rfl ⟨_, rfl, de_name 9 rfl ⟨_, _, rfl, rfl, pace0, de_name 10 rfl ⟨_, _, rfl, rfl, rfl⟩⟩⟩⟩⟩
        · refine dss_one <| ds_if <| dt_not <| dt_val <| de_call Lc (hr.mono (show 7 ≤ 12 by decide)) <| da_cons <| de_name 4 rfl <| da_cons <| de_ixL <| de_name 8 rfl <| de_name 11 rfl ⟨_, _, _, rfl, rfl, got_at, da_one <| de_name 5 rfl ⟨_, _, ⟨w, _, nm, hw, hs, rfl, rfl, rfl⟩, noerr, ?_⟩⟩
          rintro d rfl
          exact ⟨_, rfl, fun z => absurd z (by simp), fun _ => dss_nil ⟨_, rfl⟩⟩
      · rintro ρ2 ⟨x11, rfl⟩
        exact ⟨_, _, _, _, _, _, _, rfl⟩
    · refine dss_one <| ds_for [11] <| di_range B.range <| de_int ⟨3, rfl, by decide, by decide,
        fun k ρ => ∃ (qs : List Int) (x7 x11 x12 : Option Bd), ρ = vR r0 qs sc most w nm (some (.im (.int (tot w.rows : Nat)))) x7 none none none x11 x12 none none, ⟨_, _, _, _, rfl⟩, ?_, ?_⟩
      · rintro k d ρ2 hk ⟨qs, x7, x11, x12, rfl⟩
        refine dg_name 11 <| dss_cut (fun ρ => ∃ (qs s : List Int), Sok w.rows s ∧ ρ = vR r0 qs sc most w nm (some (.im (.int (tot w.rows : Nat)))) none none none none (some (.im d)) (some (.im (encT s))) none none) ?_ ?_
        · refine ds_set 12 <| de_tupleL B.tuple <| de_new <| dn_lc [("_law_row_here", 7)] (by decide) (by rfl) <| di_tup <| de_w1 4 rfl ⟨_, rfl,
            fun i ρ acc => ∃ (ps s : List Int), acc = s.map .int ∧ Sok (w.rows.take i) s ∧ i ≤ w.rows.length ∧ ρ = vR r0 ps sc most w nm (some (.im (.int (tot w.rows : Nat)))) none none none none (some (.im d)) x12 none none, ⟨qs, [], rfl, ⟨rfl, by simp⟩, by omega, rfl⟩, ?_, ?_⟩
          · rintro i d2 ρ2 acc hi ⟨ps, s, rfl, hs, hil, rfl⟩
            obtain ⟨r, hr', rfl⟩ := rows_at hi
            have il : i < w.rows.length := (List.getElem?_eq_some_iff.mp hr').1
            have h0 := rows_pos hw r (List.mem_of_getElem? hr')
            refine ct_map (fun _ _ _ _ _ _ => dg_name 7 rfl) (fun _ _ _ _ _ _ => de_ixL <| de_new <| dn_list <| da_cons <| de_int <| da_cons <| de_r2 7 rfl <| da_one <| de_mod <| de_intI B.int <| de_callP 1 rfl Lg (hr.mono (show 2 ≤ 12 by decide)) <| da_nil ⟨rfl, ps, rfl, trivial, ?_⟩)
            rintro d3 ps ⟨g, rfl, g0, g1⟩
            refine ⟨_, rfl, de_add <| de_r2 7 rfl <| de_int ⟨_, _, rfl, rfl, _, _, rfl, rfl, by omega, Nat.le_of_ble_eq_true rfl, de_take 1 rfl L hr1 <| de_int ⟨3, rfl, by decide, ps, rfl, fun t ps t0 t1 => ?_⟩⟩⟩
            obtain ⟨c, hc, c0, c1⟩ := list_3h (r := r) (t := g % (r.2.2 + 1)) t0 t1 h0 (Int.emod_nonneg _ (by omega)) (by have := Int.emod_lt_of_pos g (show 0 < r.2.2 + 1 by omega); omega)
            refine ⟨_, _, _, rfl, rfl, hc, ?_, ps, s ++ [c], by rw [List.map_append]; rfl, ?_, by omega, rfl⟩
            · have := hs.1
              rw [List.length_take] at this
              rw [List.length_map, sizeLine_eq]; omega
            · rw [take_next hr']
              exact hs.app (.cons c0 c1 .nil)
          · rintro ρ2 acc ⟨ps, s, rfl, hs, _, rfl⟩
            rw [List.length_map, List.take_length] at hs
            exact ⟨_, rfl, ps, s, hs, rfl⟩
        rintro ρ2 ⟨qs, s, hs, rfl⟩
        refine dss_one <| ds_if <| dt_not <| dt_val <| de_call Lc (hr.mono (show 7 ≤ 12 by decide)) <| da_cons <| de_name 4 rfl <| da_cons <| de_name 12 rfl <| da_one <| de_name 5 rfl ⟨_, _, ⟨w, s, nm, hw, hs, rfl, rfl, rfl⟩, noerr, ?_⟩
        rintro d' rfl
        exact ⟨_, rfl, fun z => absurd z (by simp), fun _ => dss_nil ⟨_, _, _, _, rfl⟩⟩
      · rintro ρ2 ⟨qs, x7, x11, x12, rfl⟩
        exact ⟨_, _, _, _, _, _, _, rfl⟩
  rintro ρ1 ⟨qs, x7, x8, x9, x10, x11, x12, rfl⟩
  -- a drawn split
  refine dss_cut (fun ρ => ∃ (qs s : List Int), Sok w.rows s ∧ ρ = vR r0 qs sc most w nm (some (.im (.int (tot w.rows : Nat)))) none x8 x9 x10 x11 (some (.im (encT s))) none none) ?_ ?_
  · refine ds_set 12 <| de_tupleL B.tuple <| de_new <| dn_lc [("_law_row_here", 7)] (by decide) (by rfl) <| di_tup <| de_w1 4 rfl ⟨_, rfl,
      fun i ρ acc => ∃ (ps s : List Int), acc = s.map .int ∧ Sok (w.rows.take i) s ∧ i ≤ w.rows.length ∧ ρ = vR r0 ps sc most w nm (some (.im (.int (tot w.rows : Nat)))) none x8 x9 x10 x11 x12 none none, ⟨qs, [], rfl, ⟨rfl, by simp⟩, by omega, rfl⟩, ?_, ?_⟩
    · rintro i d2 ρ2 acc hi ⟨ps, s, rfl, hs, hil, rfl⟩
      obtain ⟨r, hr', rfl⟩ := rows_at hi
      have il : i < w.rows.length := (List.getElem?_eq_some_iff.mp hr').1
      have h0 := rows_pos hw r (List.mem_of_getElem? hr')
      refine ct_map (fun _ _ _ _ _ _ => dg_name 7 rfl) (fun _ _ _ _ _ _ => de_mod <| de_intI B.int <| de_take 1 rfl L hr1 <| de_int ⟨1000, rfl, by decide, ps, rfl, fun t ps t0 t1 => ⟨_, rfl, de_add <| de_r2 7 rfl <| de_int ⟨_, _, rfl, rfl, _, _, rfl, rfl, by omega, ?_, ps, s ++ [t % (r.2.2 + 1)], by rw [List.map_append]; rfl, ?_, by omega, rfl⟩⟩⟩)
      · have := hs.1
        rw [List.length_take] at this
        rw [List.length_map, sizeLine_eq]; omega
      · rw [take_next hr']
        have := Int.emod_nonneg t (show r.2.2 + 1 ≠ 0 by omega)
        have := Int.emod_lt_of_pos t (show 0 < r.2.2 + 1 by omega)
        exact hs.app (.cons (by omega) (by omega) .nil)
    · rintro ρ2 acc ⟨ps, s, rfl, hs, _, rfl⟩
      rw [List.length_map, List.take_length] at hs
      exact ⟨_, rfl, ps, s, hs, rfl⟩
  rintro ρ1 ⟨qs, s, hs, rfl⟩
  -- the holds, a row below them
  refine dss_cons <| ds_set 13 <| de_call Lh hr1 <| da_one <| de_name 4 rfl ⟨_, _, ⟨w, hw, rfl, rfl, rfl⟩, noerr, ?_⟩
  rintro d rfl
  refine dss_cut (fun ρ => ∃ (qs p : List Int), Below w p ∧ ρ = vR r0 qs sc most w nm (some (.im (.int (tot w.rows : Nat)))) none x8 x9 x10 x11 (some (.im (encT s))) (some (.im (encI (holds w)))) (some (.im (encI p)))) ?_ ?_
  · refine ds_set 14 <| de_new <| dn_lc [("_law_x", 15)] (by decide) (by rfl) <| di_list <| de_name 13 rfl ⟨_, rfl,
      fun i ρ acc => ∃ (ps s' : List Int), acc = s'.map .int ∧ s'.length = i ∧ (∀ (j : Nat) (x : Int), s'[j]? = some x → 0 ≤ x ∧ x ≤ hold w (j : Nat)) ∧ i ≤ w.n ∧ ρ = vR r0 ps sc most w nm (some (.im (.int (tot w.rows : Nat)))) none x8 x9 x10 x11 (some (.im (encT s))) (some (.im (encI (holds w)))) none, ⟨qs, [], rfl, rfl, (fun j x h => by simp at h), by omega, rfl⟩, ?_, ?_⟩
    · rintro i d2 ρ2 acc hi ⟨ps, s', rfl, hsl, hb, hil, rfl⟩
      have il : i < w.n := by
        have := (List.getElem?_eq_some_iff.mp hi).1
        rw [List.length_map, holds_len] at this; exact this
      have hd2 : d2 = .int (hold w (i : Nat)) := by
        rw [List.getElem?_map, holds_at il] at hi
        cases hi; rfl
      subst hd2
      have h0 := hold_pos hw ((i : Nat) : Int)
      refine ct_map (fun _ _ _ _ _ _ => dg_name 15 rfl) (fun _ _ _ _ _ _ => de_mod <| de_intI B.int <| de_take 1 rfl L hr1 <| de_int ⟨1000, rfl, by decide, ps, rfl, fun t ps t0 t1 => ⟨_, rfl, de_add <| de_name 15 rfl <| de_int ⟨_, _, rfl, rfl, _, _, rfl, rfl, by omega, by rw [List.length_map, sizeLine_eq]; omega, ps, s' ++ [t % (hold w (i : Nat) + 1)], by rw [List.map_append]; rfl, by rw [List.length_append, List.length_singleton, hsl], fun j x hx => ?_, by omega, rfl⟩⟩⟩)
      by_cases hj : j < s'.length
      · rw [List.getElem?_append_left hj] at hx; exact hb j x hx
      · have hje : j = i := by
          have := (List.getElem?_eq_some_iff.mp hx).1
          rw [List.length_append, List.length_singleton] at this; omega
        subst hje
        rw [List.getElem?_append_right (by omega), hsl, Nat.sub_self] at hx
        cases hx
        have := Int.emod_nonneg t (show hold w (j : Nat) + 1 ≠ 0 by omega)
        have := Int.emod_lt_of_pos t (show 0 < hold w (j : Nat) + 1 by omega)
        exact ⟨by omega, by omega⟩
    · rintro ρ2 acc ⟨ps, s', rfl, hsl, hb, hil, rfl⟩
      rw [List.length_map, holds_len] at hsl
      exact ⟨ps, s', ⟨hsl, hb⟩, rfl⟩
  rintro ρ1 ⟨qs, p, hp, rfl⟩
  have pl : p.length ≤ 1000 := by rw [hp.1]; omega
  -- turned purses
  refine dss_cons <| ds_if <| dt_not <| dt_val <| de_call Lr (hr.mono (show 2 ≤ 12 by decide)) <| da_cons <| de_call L3' (hr.mono (show 6 ≤ 12 by decide)) <| da_cons <| de_name 4 rfl <| da_one <| de_tupleL B.tuple <| de_name 14 rfl ⟨_, rfl, _, _, ⟨w, p, hw, hp.1, hp.nonneg, hp.rest, rfl, rfl, rfl⟩, noerr, ?_⟩
  rintro d rfl
  refine da_one <| de_new <| dn_lc [("_law_h", 16)] (by decide) (by rfl) <| di_range B.range <| de_w0 4 rfl ⟨_, rfl, by omega, by omega,
    fun i ρ acc => acc = ((rests w p).take i).map .int ∧ i ≤ w.n ∧ ρ = vR r0 qs sc most w nm (some (.im (.int (tot w.rows : Nat)))) none x8 x9 x10 x11 (some (.im (encT s))) (some (.im (encI (holds w)))) (some (.im (encI p))), ⟨rfl, by omega, rfl⟩, ?_, ?_⟩
  · rintro i d2 ρ2 acc hi ⟨rfl, hil, rfl⟩
    obtain ⟨hi', rfl⟩ := upto_get hi
    have il : i < w.n := by simpa using hi'
    obtain ⟨x, hx⟩ : ∃ x, p[i]? = some x := ⟨_, List.getElem?_eq_getElem (by rw [hp.1]; exact il)⟩
    have h_at : atI ((holds w).map PyData.int) ((i : Nat) : Int) = some (.int (hold w (i : Nat))) := at_of (by omega) (by rw [List.getElem?_map]; show Option.map _ (holds w)[i]? = _; rw [holds_at il]; rfl)
    have p_at : atI (p.map PyData.int) ((i : Nat) : Int) = some (.int x) := at_of (by omega) (by rw [List.getElem?_map]; show Option.map _ p[i]? = _; rw [hx]; rfl)
    refine ct_map (fun _ _ _ _ _ _ => dg_name 16 rfl) (fun _ _ _ _ _ _ => de_sub <| de_ixL <| de_name 13 rfl <| de_name 16 rfl ⟨_, _, _, rfl, rfl, h_at, de_ixL <| de_name 14 rfl <| de_name 16 rfl ⟨_, _, _, rfl, rfl, p_at, _, _, rfl, rfl, by rw [List.length_map, List.length_take, sizeLine_eq]; omega, by rw [take_next (rests_at hx), List.map_append]; rfl, by omega, rfl⟩⟩)
  rintro ρ2 acc ⟨rfl, _, rfl⟩
  rw [upto_len, Int.toNat_natCast, List.take_of_length_le (by rw [rests_len, hp.1]; omega)]
  refine ⟨_, _, ⟨rests w p, encI (rests w p), by rw [rests_len]; exact pl, .inl rfl, rfl, rfl, rfl⟩, noerr, ?_⟩
  rintro d rfl
  refine ⟨_, rfl, fun z => absurd z (by simp), fun _ => dss_nil ?_⟩
  have hh := below_holds hw
  refine dss_cons <| ds_if <| dt_not <| dt_val <| de_call Lr (hr.mono (show 2 ≤ 12 by decide)) <| da_cons <| de_call L3' (hr.mono (show 6 ≤ 12 by decide)) <| da_cons <| de_name 4 rfl <| da_one <| de_tupleL B.tuple <| de_name 13 rfl ⟨_, rfl, _, _, ⟨w, holds w, hw, hh.1, hh.nonneg, hh.rest, rfl, rfl, rfl⟩, noerr, ?_⟩
  rintro d rfl
  refine da_one <| de_new <| dn_rep <| de_new <| dn_list <| da_one <| de_int ⟨Nat.le_of_ble_eq_true rfl, de_w0 4 rfl ⟨_, _, rfl, rfl, by omega, by omega, ?_⟩⟩
  refine ⟨_, _, ⟨rests w (holds w), encI (rests w (holds w)), by rw [rests_len, holds_len]; omega, .inl rfl, by rw [rests_holds]; simp [encI, encT], rfl, rfl⟩, noerr, ?_⟩
  rintro d rfl
  refine ⟨_, rfl, fun z => absurd z (by simp), fun _ => dss_nil ?_⟩
  -- refusals
  refine dss_cut (fun ρ => ∃ qs : List Int, ρ = vR r0 qs sc most w nm (some (.im (.int (tot w.rows : Nat)))) none x8 x9 x10 x11 (some (.im (encT s))) (some (.im (encI (holds w)))) (some (.im (encI p)))) ?_ ?_
  · refine ds_if <| dt_bool <| dw_and <| dt_eqI <| de_take 1 rfl L hr1 <| de_int ⟨4, rfl, by decide, qs, rfl, fun t qs _ _ => de_int ⟨_, _, rfl, rfl, fun _ => dw_and1 <| dt_not <| dt_val <| de_callP 1 rfl Lf hr <| da_cons <| de_name 4 rfl <| da_one <| de_name 12 rfl ⟨rfl, qs, rfl, ⟨w, s, hw, hbig2, hs, rfl⟩, ?_⟩, fun _ => ⟨fun z => (by cases z), fun _ => dss_nil ⟨qs, rfl⟩⟩⟩⟩
    rintro d qs rfl
    exact ⟨_, rfl, fun z => absurd z (by simp), fun _ => dss_nil ⟨qs, rfl⟩⟩
  rintro ρ1 ⟨qs, rfl⟩
  refine dss_cut (fun ρ => ρ = vR r0 qs sc most w nm (some (.im (.int (tot w.rows : Nat)))) none x8 x9 x10 x11 (some (.im (encT s))) (some (.im (encI (holds w)))) (some (.im (encI p)))) ?_ ?_
  · refine ds_if <| dt_bool <| dw_and <| dt_eqI <| de_name 2 rfl <| de_int ⟨_, _, rfl, rfl, fun _ => ?_, fun _ => ⟨fun z => (by cases z), fun _ => dss_nil rfl⟩⟩
    refine dw_and <| dt_gt <| de_name 3 rfl <| de_int ⟨_, _, rfl, rfl, fun z => ?_, fun _ => ⟨fun z => (by cases z), fun _ => dss_nil rfl⟩⟩
    have ht := htot (of_decide_eq_true z)
    refine dw_and1 <| dt_neI <| de_lenL B.len <| de_call Ll (hr.mono (show 3 ≤ 12 by decide)) <| da_cons <| de_name 4 rfl <| da_one <| de_name 6 rfl ⟨_, _, ⟨w, hw, by omega, rfl, rfl, rfl⟩, noerr, ?_⟩
    rintro d rfl
    refine ⟨_, rfl, de_name 6 rfl ⟨_, _, rfl, rfl, fun z => ?_, fun _ => dss_nil rfl⟩⟩
    have := of_decide_eq_true z
    rw [List.length_map, allS_len] at this
    exact (this rfl).elim
  rintro ρ1 rfl
  refine dss_one <| ds_ret <| de_call Lc (hr.mono (show 7 ≤ 12 by decide)) <| da_cons <| de_name 4 rfl <| da_cons <| de_name 12 rfl <| da_one <| de_not <| de_name 5 rfl ⟨_, rfl, _, _, ⟨w, s, !nm, hw, hs, rfl, rfl, rfl⟩, noerr, ?_⟩
  rintro d rfl
  rfl
end
end HL
namespace HL
open PySem PySem.Spec PyProof.Rows L2 DL
/-! ### how the defs bind their arguments -/
theorem lens {n : Nat} {P : List Value → List Value → Prop} (h : ∀ l : List Value, l.length = n → ∀ k, k ≤ n → P (l.take k) (l.drop k)) (us ws : List Value) (e : us.length + ws.length = n) : P us ws := by
  have z := h (us ++ ws) (by rw [List.length_append, e]) us.length (by omega)
  rwa [List.take_left' rfl, List.drop_left' rfl] at z
theorem kb_of {K : PySem.W.Frag} {x qual : Str} {params : Arguments} {body : List Stmt} {scope : Scope} {f : Addr} {fd : FuncData} {ps : List Str} (F : FunD K x qual params body scope [] [] f fd)
    (h : ∀ (kV doc pm : Value) (an : Option Addr) (cdv ct : Value) (l : List Value), l.length = ps.length → ∀ k, k ≤ ps.length → bindArgs (PySem.W.fnOf x qual params body scope .none kV doc pm an cdv ct) ⟨l.take k, ps.reverse.zip (l.drop k)⟩ = pure (ps.zip (l.take k ++ (l.drop k).reverse))) :
    KBinds K fd ps ps.reverse (fun us ws => us ++ ws.reverse) (fun vs zs => vs ++ zs.reverse) := by
  obtain ⟨oc, od, dV, kV, doc, pm, an, cdv, ct, osl, rfl, lk, hcd, hD, hK⟩ := F.ex
  rcases hD with ⟨_, rfl⟩ | ⟨e, _⟩
  · refine ⟨fun s us ws _ hl => .of_eq ?_, fun r1 r2 => r1.append r2.reverse⟩
    refine lens (n := ps.length) (P := fun us ws => bindArgs (PySem.W.fnOf x qual params body scope .none kV doc pm an cdv ct) ⟨us, ps.reverse.zip ws⟩ = pure (ps.zip (us ++ ws.reverse))) (fun l e k hk => h kV doc pm an cdv ct l e k hk) us ws ?_
    rw [List.length_append, List.length_reverse] at hl
    exact hl
  · exact absurd rfl e
theorem bd_law_pool {K : PySem.W.Frag} {f : Addr} {fd : FuncData} (F : FnP K "_law_pool" s_law_pool f fd) : Binds K fd P_law_pool [] := F.bindsN fun _ _ _ _ _ _ us hl => match us, hl with | [_], _ => rfl
theorem bd_law_take {K : PySem.W.Frag} {f : Addr} {fd : FuncData} (F : FnP K "_law_take" s_law_take f fd) : Binds K fd P_law_take [] := F.bindsN fun _ _ _ _ _ _ us hl => match us, hl with | [_, _], _ => rfl
theorem bd_law_great {K : PySem.W.Frag} {f : Addr} {fd : FuncData} (F : FnP K "_law_great" s_law_great f fd) : Binds K fd P_law_great [] := F.bindsN fun _ _ _ _ _ _ us hl => match us, hl with | [_], _ => rfl
theorem bd_law_net {K : PySem.W.Frag} {f : Addr} {fd : FuncData} (F : FnP K "_law_net" s_law_net f fd) : Binds K fd P_law_net [] := F.bindsN fun _ _ _ _ _ _ us hl => match us, hl with | [_, _], _ => rfl
theorem bd_law_walk {K : PySem.W.Frag} {f : Addr} {fd : FuncData} (F : FnP K "_law_walk" s_law_walk f fd) : Binds K fd P_law_walk [] := F.bindsN fun _ _ _ _ _ _ us hl => match us, hl with | [_, _, _], _ => rfl
theorem bd_law_int {K : PySem.W.Frag} {f : Addr} {fd : FuncData} (F : FnP K "_law_int" s_law_int f fd) : Binds K fd P_law_int [] := F.bindsN fun _ _ _ _ _ _ us hl => match us, hl with | [_], _ => rfl
theorem bd_law_goal {K : PySem.W.Frag} {f : Addr} {fd : FuncData} (F : FnP K "_law_goal" s_law_goal f fd) : Binds K fd P_law_goal [] := F.bindsN fun _ _ _ _ _ _ us hl => match us, hl with | [_, _, _], _ => rfl
theorem bd_law_truth {K : PySem.W.Frag} {f : Addr} {fd : FuncData} (F : FnP K "_law_truth" s_law_truth f fd) : Binds K fd P_law_truth [] := F.bindsN fun _ _ _ _ _ _ us hl => match us, hl with | [_, _], _ => rfl
theorem bd_is_integer {K : PySem.W.Frag} {f : Addr} {fd : FuncData} (F : FnP K "is_integer" s_is_integer f fd) : Binds K fd P_is_integer [] := F.bindsN fun _ _ _ _ _ _ us hl => match us, hl with | [_], _ => rfl
theorem bd_is_number {K : PySem.W.Frag} {f : Addr} {fd : FuncData} (F : FnP K "is_number" s_is_number f fd) : Binds K fd P_is_number [] := F.bindsN fun _ _ _ _ _ _ us hl => match us, hl with | [_], _ => rfl
theorem bd_need {K : PySem.W.Frag} {f : Addr} {fd : FuncData} (F : FnP K "need" s_need f fd) : Binds K fd P_need [] := F.bindsN fun _ _ _ _ _ _ us hl => match us, hl with | [_, _], _ => rfl
theorem bd_need_house {K : PySem.W.Frag} {f : Addr} {fd : FuncData} (F : FnP K "need_house" s_need_house f fd) : Binds K fd P_need_house [] := F.bindsN fun _ _ _ _ _ _ us hl => match us, hl with | [_, _, _], _ => rfl
theorem bd_need_houses {K : PySem.W.Frag} {f : Addr} {fd : FuncData} (F : FnP K "need_houses" s_need_houses f fd) : Binds K fd P_need_houses [] := F.bindsN fun _ _ _ _ _ _ us hl => match us, hl with | [_, _, _], _ => rfl
theorem bd_is_place {K : PySem.W.Frag} {f : Addr} {fd : FuncData} (F : FnP K "is_place" s_is_place f fd) : Binds K fd P_is_place [] := F.bindsN fun _ _ _ _ _ _ us hl => match us, hl with | [_, _], _ => rfl
theorem bd_far_house {K : PySem.W.Frag} {f : Addr} {fd : FuncData} (F : FnP K "far_house" s_far_house f fd) : Binds K fd P_far_house [] := F.bindsN fun _ _ _ _ _ _ us hl => match us, hl with | [_, _], _ => rfl
theorem bd_houses_along {K : PySem.W.Frag} {f : Addr} {fd : FuncData} (F : FnP K "houses_along" s_houses_along f fd) : Binds K fd P_houses_along [] := F.bindsN fun _ _ _ _ _ _ us hl => match us, hl with | [_, _, _], _ => rfl
theorem bd_all_unlike {K : PySem.W.Frag} {f : Addr} {fd : FuncData} (F : FnP K "all_unlike" s_all_unlike f fd) : Binds K fd P_all_unlike [] := F.bindsN fun _ _ _ _ _ _ us hl => match us, hl with | [_], _ => rfl
theorem bd_is_way {K : PySem.W.Frag} {f : Addr} {fd : FuncData} (F : FnP K "is_way" s_is_way f fd) : Binds K fd P_is_way [] := F.bindsN fun _ _ _ _ _ _ us hl => match us, hl with | [_, _, _, _], _ => rfl
theorem kb_is_way {K : PySem.W.Frag} {f : Addr} {fd : FuncData} (F : FnP K "is_way" s_is_way f fd) : KBinds K fd P_is_way P_is_way.reverse (fun us ws => us ++ ws.reverse) (fun vs zs => vs ++ zs.reverse) := kb_of F fun _ _ _ _ _ _ l hl k hk => match l, hl, k, hk with | [_, _, _, _], _, 0, _ => rfl | [_, _, _, _], _, 1, _ => rfl | [_, _, _, _], _, 2, _ => rfl | [_, _, _, _], _, 3, _ => rfl | [_, _, _, _], _, 4, _ => rfl | [_, _, _, _], _, k + 5, h => absurd h (Nat.not_le.mpr (Nat.le_add_left 5 k))
theorem bd_is_ring {K : PySem.W.Frag} {f : Addr} {fd : FuncData} (F : FnP K "is_ring" s_is_ring f fd) : Binds K fd P_is_ring [] := F.bindsN fun _ _ _ _ _ _ us hl => match us, hl with | [_, _, _], _ => rfl
theorem kb_is_ring {K : PySem.W.Frag} {f : Addr} {fd : FuncData} (F : FnP K "is_ring" s_is_ring f fd) : KBinds K fd P_is_ring P_is_ring.reverse (fun us ws => us ++ ws.reverse) (fun vs zs => vs ++ zs.reverse) := kb_of F fun _ _ _ _ _ _ l hl k hk => match l, hl, k, hk with | [_, _, _], _, 0, _ => rfl | [_, _, _], _, 1, _ => rfl | [_, _, _], _, 2, _ => rfl | [_, _, _], _, 3, _ => rfl | [_, _, _], _, k + 4, h => absurd h (Nat.not_le.mpr (Nat.le_add_left 4 k))
theorem bd_law_asked {K : PySem.W.Frag} {f : Addr} {fd : FuncData} (F : FnP K "_law_asked" s_law_asked f fd) : Binds K fd P_law_asked [] := F.bindsN fun _ _ _ _ _ _ us hl => match us, hl with | [_, _, _, _, _], _ => rfl
theorem bd_law_least {K : PySem.W.Frag} {f : Addr} {fd : FuncData} (F : FnP K "_law_least" s_law_least f fd) : Binds K fd P_law_least [] := F.bindsN fun _ _ _ _ _ _ us hl => match us, hl with | [_, _, _, _], _ => rfl
theorem bd_law_row {K : PySem.W.Frag} {f : Addr} {fd : FuncData} (F : FnP K "_law_row" s_law_row f fd) : Binds K fd P_law_row [] := F.bindsN fun _ _ _ _ _ _ us hl => match us, hl with | [_, _], _ => rfl
theorem bd_law_led {K : PySem.W.Frag} {f : Addr} {fd : FuncData} (F : FnP K "_law_led" s_law_led f fd) : Binds K fd P_law_led [] := F.bindsN fun _ _ _ _ _ _ us hl => match us, hl with | [_, _, _, _, _], _ => rfl
theorem bd_is_split {K : PySem.W.Frag} {f : Addr} {fd : FuncData} (F : FnP K "is_split" s_is_split f fd) : Binds K fd P_is_split [] := F.bindsN fun _ _ _ _ _ _ us hl => match us, hl with | [_, _], _ => rfl
theorem bd_need_split {K : PySem.W.Frag} {f : Addr} {fd : FuncData} (F : FnP K "need_split" s_need_split f fd) : Binds K fd P_need_split [] := F.bindsN fun _ _ _ _ _ _ us hl => match us, hl with | [_, _], _ => rfl
theorem bd_leads_from {K : PySem.W.Frag} {f : Addr} {fd : FuncData} (F : FnP K "leads_from" s_leads_from f fd) : Binds K fd P_leads_from [] := F.bindsN fun _ _ _ _ _ _ us hl => match us, hl with | [_, _, _], _ => rfl
theorem bd_led_if {K : PySem.W.Frag} {f : Addr} {fd : FuncData} (F : FnP K "led_if" s_led_if f fd) : Binds K fd P_led_if [] := F.bindsN fun _ _ _ _ _ _ us hl => match us, hl with | [_, _, _, _, _], _ => rfl
theorem bd_led_along {K : PySem.W.Frag} {f : Addr} {fd : FuncData} (F : FnP K "led_along" s_led_along f fd) : Binds K fd P_led_along [] := F.bindsN fun _ _ _ _ _ _ us hl => match us, hl with | [_, _, _, _, _], _ => rfl
theorem kb_led_along {K : PySem.W.Frag} {f : Addr} {fd : FuncData} (F : FnP K "led_along" s_led_along f fd) : KBinds K fd P_led_along P_led_along.reverse (fun us ws => us ++ ws.reverse) (fun vs zs => vs ++ zs.reverse) := kb_of F fun _ _ _ _ _ _ l hl k hk => match l, hl, k, hk with | [_, _, _, _, _], _, 0, _ => rfl | [_, _, _, _, _], _, 1, _ => rfl | [_, _, _, _, _], _, 2, _ => rfl | [_, _, _, _, _], _, 3, _ => rfl | [_, _, _, _, _], _, 4, _ => rfl | [_, _, _, _, _], _, 5, _ => rfl | [_, _, _, _, _], _, k + 6, h => absurd h (Nat.not_le.mpr (Nat.le_add_left 6 k))
theorem bd_law_lead {K : PySem.W.Frag} {f : Addr} {fd : FuncData} (F : FnP K "_law_lead" s_law_lead f fd) : Binds K fd P_law_lead [] := F.bindsN fun _ _ _ _ _ _ us hl => match us, hl with | [_, _, _, _, _, _], _ => rfl
theorem bd_purses_of {K : PySem.W.Frag} {f : Addr} {fd : FuncData} (F : FnP K "purses_of" s_purses_of f fd) : Binds K fd P_purses_of [] := F.bindsN fun _ _ _ _ _ _ us hl => match us, hl with | [_, _], _ => rfl
theorem kb_purses_of {K : PySem.W.Frag} {f : Addr} {fd : FuncData} (F : FnP K "purses_of" s_purses_of f fd) : KBinds K fd P_purses_of P_purses_of.reverse (fun us ws => us ++ ws.reverse) (fun vs zs => vs ++ zs.reverse) := kb_of F fun _ _ _ _ _ _ l hl k hk => match l, hl, k, hk with | [_, _], _, 0, _ => rfl | [_, _], _, 1, _ => rfl | [_, _], _, 2, _ => rfl | [_, _], _, k + 3, h => absurd h (Nat.not_le.mpr (Nat.le_add_left 3 k))
theorem bd_turned_over {K : PySem.W.Frag} {f : Addr} {fd : FuncData} (F : FnP K "turned_over" s_turned_over f fd) : Binds K fd P_turned_over [] := F.bindsN fun _ _ _ _ _ _ us hl => match us, hl with | [_, _], _ => rfl
theorem kb_turned_over {K : PySem.W.Frag} {f : Addr} {fd : FuncData} (F : FnP K "turned_over" s_turned_over f fd) : KBinds K fd P_turned_over P_turned_over.reverse (fun us ws => us ++ ws.reverse) (fun vs zs => vs ++ zs.reverse) := kb_of F fun _ _ _ _ _ _ l hl k hk => match l, hl, k, hk with | [_, _], _, 0, _ => rfl | [_, _], _, 1, _ => rfl | [_, _], _, 2, _ => rfl | [_, _], _, k + 3, h => absurd h (Nat.not_le.mpr (Nat.le_add_left 3 k))
theorem bd_is_purses {K : PySem.W.Frag} {f : Addr} {fd : FuncData} (F : FnP K "is_purses" s_is_purses f fd) : Binds K fd P_is_purses [] := F.bindsN fun _ _ _ _ _ _ us hl => match us, hl with | [_, _], _ => rfl
theorem bd_hold_of {K : PySem.W.Frag} {f : Addr} {fd : FuncData} (F : FnP K "hold_of" s_hold_of f fd) : Binds K fd P_hold_of [] := F.bindsN fun _ _ _ _ _ _ us hl => match us, hl with | [_, _], _ => rfl
theorem bd_turned_purses {K : PySem.W.Frag} {f : Addr} {fd : FuncData} (F : FnP K "turned_purses" s_turned_purses f fd) : Binds K fd P_turned_purses [] := F.bindsN fun _ _ _ _ _ _ us hl => match us, hl with | [_, _], _ => rfl
theorem kb_turned_purses {K : PySem.W.Frag} {f : Addr} {fd : FuncData} (F : FnP K "turned_purses" s_turned_purses f fd) : KBinds K fd P_turned_purses P_turned_purses.reverse (fun us ws => us ++ ws.reverse) (fun vs zs => vs ++ zs.reverse) := kb_of F fun _ _ _ _ _ _ l hl k hk => match l, hl, k, hk with | [_, _], _, 0, _ => rfl | [_, _], _, 1, _ => rfl | [_, _], _, 2, _ => rfl | [_, _], _, k + 3, h => absurd h (Nat.not_le.mpr (Nat.le_add_left 3 k))
theorem bd_ends_at {K : PySem.W.Frag} {f : Addr} {fd : FuncData} (F : FnP K "ends_at" s_ends_at f fd) : Binds K fd P_ends_at [] := F.bindsN fun _ _ _ _ _ _ us hl => match us, hl with | [_, _, _], _ => rfl
theorem kb_ends_at {K : PySem.W.Frag} {f : Addr} {fd : FuncData} (F : FnP K "ends_at" s_ends_at f fd) : KBinds K fd P_ends_at P_ends_at.reverse (fun us ws => us ++ ws.reverse) (fun vs zs => vs ++ zs.reverse) := kb_of F fun _ _ _ _ _ _ l hl k hk => match l, hl, k, hk with | [_, _, _], _, 0, _ => rfl | [_, _, _], _, 1, _ => rfl | [_, _, _], _, 2, _ => rfl | [_, _, _], _, 3, _ => rfl | [_, _, _], _, k + 4, h => absurd h (Nat.not_le.mpr (Nat.le_add_left 4 k))
theorem bd_law_deed {K : PySem.W.Frag} {f : Addr} {fd : FuncData} (F : FnP K "_law_deed" s_law_deed f fd) : Binds K fd P_law_deed [] := F.bindsN fun _ _ _ _ _ _ us hl => match us, hl with | [_, _], _ => rfl
theorem bd_law_refused {K : PySem.W.Frag} {f : Addr} {fd : FuncData} (F : FnP K "_law_refused" s_law_refused f fd) : Binds K fd P_law_refused [] := F.bindsN fun _ _ _ _ _ _ us hl => match us, hl with | [_, _, _], _ => rfl
theorem bd_law_ways {K : PySem.W.Frag} {f : Addr} {fd : FuncData} (F : FnP K "_law_ways" s_law_ways f fd) : Binds K fd P_law_ways [] := F.bindsN fun _ _ _ _ _ _ us hl => match us, hl with | [_], _ => rfl
theorem bd_all_splits {K : PySem.W.Frag} {f : Addr} {fd : FuncData} (F : FnP K "all_splits" s_all_splits f fd) : Binds K fd P_all_splits [] := F.bindsN fun _ _ _ _ _ _ us hl => match us, hl with | [_], _ => rfl
theorem kb_all_splits {K : PySem.W.Frag} {f : Addr} {fd : FuncData} (F : FnP K "all_splits" s_all_splits f fd) : KBinds K fd P_all_splits P_all_splits.reverse (fun us ws => us ++ ws.reverse) (fun vs zs => vs ++ zs.reverse) := kb_of F fun _ _ _ _ _ _ l hl k hk => match l, hl, k, hk with | [_], _, 0, _ => rfl | [_], _, 1, _ => rfl | [_], _, k + 2, h => absurd h (Nat.not_le.mpr (Nat.le_add_left 2 k))
theorem bd_law_listed {K : PySem.W.Frag} {f : Addr} {fd : FuncData} (F : FnP K "_law_listed" s_law_listed f fd) : Binds K fd P_law_listed [] := F.bindsN fun _ _ _ _ _ _ us hl => match us, hl with | [_, _], _ => rfl
theorem bd_law_turns {K : PySem.W.Frag} {f : Addr} {fd : FuncData} (F : FnP K "_law_turns" s_law_turns f fd) : Binds K fd P_law_turns [] := F.bindsN fun _ _ _ _ _ _ us hl => match us, hl with | [_, _], _ => rfl
theorem bd_law_purses {K : PySem.W.Frag} {f : Addr} {fd : FuncData} (F : FnP K "_law_purses" s_law_purses f fd) : Binds K fd P_law_purses [] := F.bindsN fun _ _ _ _ _ _ us hl => match us, hl with | [_, _], _ => rfl
theorem bd_law_holds {K : PySem.W.Frag} {f : Addr} {fd : FuncData} (F : FnP K "_law_holds" s_law_holds f fd) : Binds K fd P_law_holds [] := F.bindsN fun _ _ _ _ _ _ us hl => match us, hl with | [_], _ => rfl
theorem bd_law_checked {K : PySem.W.Frag} {f : Addr} {fd : FuncData} (F : FnP K "_law_checked" s_law_checked f fd) : Binds K fd P_law_checked [] := F.bindsN fun _ _ _ _ _ _ us hl => match us, hl with | [_, _, _], _ => rfl
theorem bd_law_bad_split {K : PySem.W.Frag} {f : Addr} {fd : FuncData} (F : FnP K "_law_bad_split" s_law_bad_split f fd) : Binds K fd P_law_bad_split [] := F.bindsN fun _ _ _ _ _ _ us hl => match us, hl with | [_, _], _ => rfl
theorem bd_law_refusals {K : PySem.W.Frag} {f : Addr} {fd : FuncData} (F : FnP K "_law_refusals" s_law_refusals f fd) : Binds K fd P_law_refusals [] := F.bindsN fun _ _ _ _ _ _ us hl => match us, hl with | [_, _, _], _ => rfl
theorem bd_law_kin {K : PySem.W.Frag} {f : Addr} {fd : FuncData} (F : FnP K "_law_kin" s_law_kin f fd) : Binds K fd P_law_kin [] := F.bindsN fun _ _ _ _ _ _ us hl => match us, hl with | [_, _], _ => rfl
theorem bd_init {K : PySem.W.Frag} {f : Addr} {fd : FuncData} (F : FunD K "__init__" "NotUsable.__init__" (defArgs s_init) (defBody s_init) (defScope s_init) [] [] f fd) : Binds K fd ["self", "word", "at"] [] := F.bindsN fun _ _ _ _ _ _ us hl => match us, hl with | [_, _, _], _ => rfl
/-! ### the facts by names -/
section
variable {P : Program} {w : World} {K : PySem.W.Frag} {h : Heap} {mg : Str → Option Value}
theorem bi_of (X : K.In h) (G : h.Ns mainGlobals mg) (c : He.SaysD fa fn K) : Bi mg :=
  ⟨He.free_ok X G (c.fact 55 (f := .free "isinstance") rfl), He.free_ok X G (c.fact 56 (f := .free "int") rfl), He.free_ok X G (c.fact 57 (f := .free "bool") rfl), He.free_ok X G (c.fact 58 (f := .free "str") rfl), He.free_ok X G (c.fact 59 (f := .free "tuple") rfl), He.free_ok X G (c.fact 60 (f := .free "list") rfl), He.free_ok X G (c.fact 61 (f := .free "set") rfl), He.free_ok X G (c.fact 62 (f := .free "len") rfl), He.free_ok X G (c.fact 63 (f := .free "zip") rfl), He.free_ok X G (c.fact 64 (f := .free "range") rfl), He.free_ok X G (c.fact 65 (f := .free "enumerate") rfl), He.free_ok X G (c.fact 66 (f := .free "sum") rfl), He.free_ok X G (c.fact 67 (f := .free "min") rfl), He.free_ok X G (c.fact 68 (f := .free "max") rfl), He.free_ok X G (c.fact 69 (f := .free "ValueError") rfl)⟩
theorem kc_of (X : K.In h) (G : h.Ns mainGlobals mg) (c : He.SaysD fa fn K) (e : ex K = true) : OexC K (He.ga K "NotUsable") ∧ Kc K mg (He.ga K "NotUsable") ∧ PySem.W.typeIn K (.ref (He.ma K (He.ga K "NotUsable") "__init__")) = some (.type "function") :=
  exB_ok e (He.glo_ok X G (c.fact 5 (f := .glo "WebError") rfl)) (He.glo_ok X G (c.fact 3 (f := .glo "LedError") rfl)) (He.glo_ok X G (c.fact 4 (f := .glo "PaperError") rfl))
theorem nu_of {base : Heap} (X : K.In h) (G : h.Ns mainGlobals mg) (c : He.SaysD fa fn K) (e : ex K = true) : Nu P w K mg base (He.ga K "NotUsable") := by
  obtain ⟨o1, _, o3⟩ := kc_of X G c e
  obtain ⟨fd, F⟩ := c.def_ 0 (d := dI) rfl
  have m := He.meth_ok (c.fact 2 (f := .meth "NotUsable" "__init__") rfl)
  exact ⟨He.glo_ok X G (c.fact 6 (f := .glo "NotUsable") rfl), o1, He.noat_ok (c.fact 0 (f := .noat "NotUsable" "word") rfl), He.noat_ok (c.fact 1 (f := .noat "NotUsable" "at") rfl), _, fd, m.at_, o3, bd_init F, F⟩
theorem facts (X : K.In h) (G : h.Ns mainGlobals mg) {fL : Addr} (hfa : mg ("law" : Str) = some (.ref fL)) (c : He.SaysD fa fn K) (e : ex K = true) :
    ∃ fd : FuncData, (∀ (s : Shared) (v : Value), BindsTo s fd ⟨[v], []⟩ [("_law_script", v)]) ∧ ∀ base : Heap, K.In base → base.Ns mainGlobals mg → FnOk P w K mg base (L2.CX P w) 13 fL fd ["_law_script"] (spLaw K) := by
  have B := bi_of X G c
  have T := (kc_of X G c e).2.1
  obtain ⟨fd_is_integer, F_is_integer⟩ := c.def_ 1 (d := dOf "is_integer" s_is_integer) rfl
  have g_is_integer : mg "is_integer" = some (.ref (He.ga K "is_integer")) := He.glo_ok X G (c.fact 7 (f := .glo "is_integer") rfl)
  obtain ⟨fd_is_number, F_is_number⟩ := c.def_ 2 (d := dOf "is_number" s_is_number) rfl
  have g_is_number : mg "is_number" = some (.ref (He.ga K "is_number")) := He.glo_ok X G (c.fact 8 (f := .glo "is_number") rfl)
  obtain ⟨fd_is_split, F_is_split⟩ := c.def_ 3 (d := dOf "is_split" s_is_split) rfl
  have g_is_split : mg "is_split" = some (.ref (He.ga K "is_split")) := He.glo_ok X G (c.fact 9 (f := .glo "is_split") rfl)
  obtain ⟨fd_is_purses, F_is_purses⟩ := c.def_ 4 (d := dOf "is_purses" s_is_purses) rfl
  have g_is_purses : mg "is_purses" = some (.ref (He.ga K "is_purses")) := He.glo_ok X G (c.fact 10 (f := .glo "is_purses") rfl)
  obtain ⟨fd_need, F_need⟩ := c.def_ 5 (d := dOf "need" s_need) rfl
  have g_need : mg "need" = some (.ref (He.ga K "need")) := He.glo_ok X G (c.fact 11 (f := .glo "need") rfl)
  obtain ⟨fd_need_house, F_need_house⟩ := c.def_ 6 (d := dOf "need_house" s_need_house) rfl
  have g_need_house : mg "need_house" = some (.ref (He.ga K "need_house")) := He.glo_ok X G (c.fact 12 (f := .glo "need_house") rfl)
  obtain ⟨fd_need_houses, F_need_houses⟩ := c.def_ 7 (d := dOf "need_houses" s_need_houses) rfl
  have g_need_houses : mg "need_houses" = some (.ref (He.ga K "need_houses")) := He.glo_ok X G (c.fact 13 (f := .glo "need_houses") rfl)
  obtain ⟨fd_need_split, F_need_split⟩ := c.def_ 8 (d := dOf "need_split" s_need_split) rfl
  have g_need_split : mg "need_split" = some (.ref (He.ga K "need_split")) := He.glo_ok X G (c.fact 14 (f := .glo "need_split") rfl)
  obtain ⟨fd_is_place, F_is_place⟩ := c.def_ 9 (d := dOf "is_place" s_is_place) rfl
  have g_is_place : mg "is_place" = some (.ref (He.ga K "is_place")) := He.glo_ok X G (c.fact 15 (f := .glo "is_place") rfl)
  obtain ⟨fd_far_house, F_far_house⟩ := c.def_ 10 (d := dOf "far_house" s_far_house) rfl
  have g_far_house : mg "far_house" = some (.ref (He.ga K "far_house")) := He.glo_ok X G (c.fact 16 (f := .glo "far_house") rfl)
  obtain ⟨fd_hold_of, F_hold_of⟩ := c.def_ 11 (d := dOf "hold_of" s_hold_of) rfl
  have g_hold_of : mg "hold_of" = some (.ref (He.ga K "hold_of")) := He.glo_ok X G (c.fact 17 (f := .glo "hold_of") rfl)
  obtain ⟨fd_purses_of, F_purses_of⟩ := c.def_ 12 (d := dOf "purses_of" s_purses_of) rfl
  have g_purses_of : mg "purses_of" = some (.ref (He.ga K "purses_of")) := He.glo_ok X G (c.fact 18 (f := .glo "purses_of") rfl)
  obtain ⟨fd_ends_at, F_ends_at⟩ := c.def_ 13 (d := dOf "ends_at" s_ends_at) rfl
  have g_ends_at : mg "ends_at" = some (.ref (He.ga K "ends_at")) := He.glo_ok X G (c.fact 19 (f := .glo "ends_at") rfl)
  obtain ⟨fd_turned_over, F_turned_over⟩ := c.def_ 14 (d := dOf "turned_over" s_turned_over) rfl
  have g_turned_over : mg "turned_over" = some (.ref (He.ga K "turned_over")) := He.glo_ok X G (c.fact 20 (f := .glo "turned_over") rfl)
  obtain ⟨fd_turned_purses, F_turned_purses⟩ := c.def_ 15 (d := dOf "turned_purses" s_turned_purses) rfl
  have g_turned_purses : mg "turned_purses" = some (.ref (He.ga K "turned_purses")) := He.glo_ok X G (c.fact 21 (f := .glo "turned_purses") rfl)
  obtain ⟨fd_all_splits, F_all_splits⟩ := c.def_ 16 (d := dOf "all_splits" s_all_splits) rfl
  have g_all_splits : mg "all_splits" = some (.ref (He.ga K "all_splits")) := He.glo_ok X G (c.fact 22 (f := .glo "all_splits") rfl)
  obtain ⟨fd_houses_along, F_houses_along⟩ := c.def_ 17 (d := dOf "houses_along" s_houses_along) rfl
  have g_houses_along : mg "houses_along" = some (.ref (He.ga K "houses_along")) := He.glo_ok X G (c.fact 23 (f := .glo "houses_along") rfl)
  obtain ⟨fd_all_unlike, F_all_unlike⟩ := c.def_ 18 (d := dOf "all_unlike" s_all_unlike) rfl
  have g_all_unlike : mg "all_unlike" = some (.ref (He.ga K "all_unlike")) := He.glo_ok X G (c.fact 24 (f := .glo "all_unlike") rfl)
  obtain ⟨fd_is_way, F_is_way⟩ := c.def_ 19 (d := dOf "is_way" s_is_way) rfl
  have g_is_way : mg "is_way" = some (.ref (He.ga K "is_way")) := He.glo_ok X G (c.fact 25 (f := .glo "is_way") rfl)
  obtain ⟨fd_is_ring, F_is_ring⟩ := c.def_ 20 (d := dOf "is_ring" s_is_ring) rfl
  have g_is_ring : mg "is_ring" = some (.ref (He.ga K "is_ring")) := He.glo_ok X G (c.fact 26 (f := .glo "is_ring") rfl)
  obtain ⟨fd_leads_from, F_leads_from⟩ := c.def_ 21 (d := dOf "leads_from" s_leads_from) rfl
  have g_leads_from : mg "leads_from" = some (.ref (He.ga K "leads_from")) := He.glo_ok X G (c.fact 27 (f := .glo "leads_from") rfl)
  obtain ⟨fd_led_if, F_led_if⟩ := c.def_ 22 (d := dOf "led_if" s_led_if) rfl
  have g_led_if : mg "led_if" = some (.ref (He.ga K "led_if")) := He.glo_ok X G (c.fact 28 (f := .glo "led_if") rfl)
  obtain ⟨fd_led_along, F_led_along⟩ := c.def_ 23 (d := dOf "led_along" s_led_along) rfl
  have g_led_along : mg "led_along" = some (.ref (He.ga K "led_along")) := He.glo_ok X G (c.fact 29 (f := .glo "led_along") rfl)
  obtain ⟨fd_law_pool, F_law_pool⟩ := c.def_ 24 (d := dOf "_law_pool" s_law_pool) rfl
  have g_law_pool : mg "_law_pool" = some (.ref (He.ga K "_law_pool")) := He.glo_ok X G (c.fact 30 (f := .glo "_law_pool") rfl)
  obtain ⟨fd_law_take, F_law_take⟩ := c.def_ 25 (d := dOf "_law_take" s_law_take) rfl
  have g_law_take : mg "_law_take" = some (.ref (He.ga K "_law_take")) := He.glo_ok X G (c.fact 31 (f := .glo "_law_take") rfl)
  obtain ⟨fd_law_great, F_law_great⟩ := c.def_ 26 (d := dOf "_law_great" s_law_great) rfl
  have g_law_great : mg "_law_great" = some (.ref (He.ga K "_law_great")) := He.glo_ok X G (c.fact 32 (f := .glo "_law_great") rfl)
  obtain ⟨fd_law_net, F_law_net⟩ := c.def_ 27 (d := dOf "_law_net" s_law_net) rfl
  have g_law_net : mg "_law_net" = some (.ref (He.ga K "_law_net")) := He.glo_ok X G (c.fact 33 (f := .glo "_law_net") rfl)
  obtain ⟨fd_law_int, F_law_int⟩ := c.def_ 28 (d := dOf "_law_int" s_law_int) rfl
  have g_law_int : mg "_law_int" = some (.ref (He.ga K "_law_int")) := He.glo_ok X G (c.fact 34 (f := .glo "_law_int") rfl)
  obtain ⟨fd_law_row, F_law_row⟩ := c.def_ 29 (d := dOf "_law_row" s_law_row) rfl
  have g_law_row : mg "_law_row" = some (.ref (He.ga K "_law_row")) := He.glo_ok X G (c.fact 35 (f := .glo "_law_row") rfl)
  obtain ⟨fd_law_purses, F_law_purses⟩ := c.def_ 30 (d := dOf "_law_purses" s_law_purses) rfl
  have g_law_purses : mg "_law_purses" = some (.ref (He.ga K "_law_purses")) := He.glo_ok X G (c.fact 36 (f := .glo "_law_purses") rfl)
  obtain ⟨fd_law_holds, F_law_holds⟩ := c.def_ 31 (d := dOf "_law_holds" s_law_holds) rfl
  have g_law_holds : mg "_law_holds" = some (.ref (He.ga K "_law_holds")) := He.glo_ok X G (c.fact 37 (f := .glo "_law_holds") rfl)
  obtain ⟨fd_law_checked, F_law_checked⟩ := c.def_ 32 (d := dOf "_law_checked" s_law_checked) rfl
  have g_law_checked : mg "_law_checked" = some (.ref (He.ga K "_law_checked")) := He.glo_ok X G (c.fact 38 (f := .glo "_law_checked") rfl)
  obtain ⟨fd_law_listed, F_law_listed⟩ := c.def_ 33 (d := dOf "_law_listed" s_law_listed) rfl
  have g_law_listed : mg "_law_listed" = some (.ref (He.ga K "_law_listed")) := He.glo_ok X G (c.fact 39 (f := .glo "_law_listed") rfl)
  obtain ⟨fd_law_turns, F_law_turns⟩ := c.def_ 34 (d := dOf "_law_turns" s_law_turns) rfl
  have g_law_turns : mg "_law_turns" = some (.ref (He.ga K "_law_turns")) := He.glo_ok X G (c.fact 40 (f := .glo "_law_turns") rfl)
  obtain ⟨fd_law_deed, F_law_deed⟩ := c.def_ 35 (d := dOf "_law_deed" s_law_deed) rfl
  have g_law_deed : mg "_law_deed" = some (.ref (He.ga K "_law_deed")) := He.glo_ok X G (c.fact 41 (f := .glo "_law_deed") rfl)
  obtain ⟨fd_law_kin, F_law_kin⟩ := c.def_ 36 (d := dOf "_law_kin" s_law_kin) rfl
  have g_law_kin : mg "_law_kin" = some (.ref (He.ga K "_law_kin")) := He.glo_ok X G (c.fact 42 (f := .glo "_law_kin") rfl)
  obtain ⟨fd_law_refused, F_law_refused⟩ := c.def_ 37 (d := dOf "_law_refused" s_law_refused) rfl
  have g_law_refused : mg "_law_refused" = some (.ref (He.ga K "_law_refused")) := He.glo_ok X G (c.fact 43 (f := .glo "_law_refused") rfl)
  obtain ⟨fd_law_bad_split, F_law_bad_split⟩ := c.def_ 38 (d := dOf "_law_bad_split" s_law_bad_split) rfl
  have g_law_bad_split : mg "_law_bad_split" = some (.ref (He.ga K "_law_bad_split")) := He.glo_ok X G (c.fact 44 (f := .glo "_law_bad_split") rfl)
  obtain ⟨fd_law_refusals, F_law_refusals⟩ := c.def_ 39 (d := dOf "_law_refusals" s_law_refusals) rfl
  have g_law_refusals : mg "_law_refusals" = some (.ref (He.ga K "_law_refusals")) := He.glo_ok X G (c.fact 45 (f := .glo "_law_refusals") rfl)
  obtain ⟨fd_law_goal, F_law_goal⟩ := c.def_ 40 (d := dOf "_law_goal" s_law_goal) rfl
  have g_law_goal : mg "_law_goal" = some (.ref (He.ga K "_law_goal")) := He.glo_ok X G (c.fact 46 (f := .glo "_law_goal") rfl)
  obtain ⟨fd_law_truth, F_law_truth⟩ := c.def_ 41 (d := dOf "_law_truth" s_law_truth) rfl
  have g_law_truth : mg "_law_truth" = some (.ref (He.ga K "_law_truth")) := He.glo_ok X G (c.fact 47 (f := .glo "_law_truth") rfl)
  obtain ⟨fd_law_asked, F_law_asked⟩ := c.def_ 42 (d := dOf "_law_asked" s_law_asked) rfl
  have g_law_asked : mg "_law_asked" = some (.ref (He.ga K "_law_asked")) := He.glo_ok X G (c.fact 48 (f := .glo "_law_asked") rfl)
  obtain ⟨fd_law_walk, F_law_walk⟩ := c.def_ 43 (d := dOf "_law_walk" s_law_walk) rfl
  have g_law_walk : mg "_law_walk" = some (.ref (He.ga K "_law_walk")) := He.glo_ok X G (c.fact 49 (f := .glo "_law_walk") rfl)
  obtain ⟨fd_law_led, F_law_led⟩ := c.def_ 44 (d := dOf "_law_led" s_law_led) rfl
  have g_law_led : mg "_law_led" = some (.ref (He.ga K "_law_led")) := He.glo_ok X G (c.fact 50 (f := .glo "_law_led") rfl)
  obtain ⟨fd_law_least, F_law_least⟩ := c.def_ 45 (d := dOf "_law_least" s_law_least) rfl
  have g_law_least : mg "_law_least" = some (.ref (He.ga K "_law_least")) := He.glo_ok X G (c.fact 51 (f := .glo "_law_least") rfl)
  obtain ⟨fd_law_lead, F_law_lead⟩ := c.def_ 46 (d := dOf "_law_lead" s_law_lead) rfl
  have g_law_lead : mg "_law_lead" = some (.ref (He.ga K "_law_lead")) := He.glo_ok X G (c.fact 52 (f := .glo "_law_lead") rfl)
  obtain ⟨fd_law_ways, F_law_ways⟩ := c.def_ 47 (d := dOf "_law_ways" s_law_ways) rfl
  have g_law_ways : mg "_law_ways" = some (.ref (He.ga K "_law_ways")) := He.glo_ok X G (c.fact 53 (f := .glo "_law_ways") rfl)
  obtain ⟨fd_law, F_law⟩ := c.def_ 48 (d := dOf "law" s_law) rfl
  have g_law : mg "law" = some (.ref (He.ga K "law")) := He.glo_ok X G (c.fact 54 (f := .glo "law") rfl)
  have ee := hfa.symm.trans g_law
  cases ee
  refine ⟨fd_law, fun s v => FunD.bindsA (ps := P_law) F_law (fun _ _ _ _ _ _ us hl => match us, hl with | [_], _ => rfl) s [v] rfl, fun base _ _ => ?_⟩
  have U : Nu P w K mg base (He.ga K "NotUsable") := nu_of X G c e
  have O_law_pool : FnOk P w K mg base (L2.CX P w) 1 (He.ga K "_law_pool") fd_law_pool P_law_pool (spPool K) := ok_law_pool B F_law_pool
  have D_law_pool : Df P w K mg base "_law_pool" P_law_pool 1 (spPool K) := ⟨⟨_, fd_law_pool, g_law_pool, F_law_pool.kp, bd_law_pool F_law_pool, O_law_pool⟩⟩
  have O_law_take : FnOk P w K mg base (L2.CX P w) 1 (He.ga K "_law_take") fd_law_take P_law_take (spPl Q_take) := ok_law_take B F_law_take
  have D_law_take : Df P w K mg base "_law_take" P_law_take 1 (spPl Q_take) := ⟨⟨_, fd_law_take, g_law_take, F_law_take.kp, bd_law_take F_law_take, O_law_take⟩⟩
  have O_law_great : FnOk P w K mg base (L2.CX P w) 2 (He.ga K "_law_great") fd_law_great P_law_great (spPl Q_great) := ok_law_great B D_law_take F_law_great
  have D_law_great : Df P w K mg base "_law_great" P_law_great 2 (spPl Q_great) := ⟨⟨_, fd_law_great, g_law_great, F_law_great.kp, bd_law_great F_law_great, O_law_great⟩⟩
  have O_law_net : FnOk P w K mg base (L2.CX P w) 3 (He.ga K "_law_net") fd_law_net P_law_net (spPl Q_net) := ok_law_net B D_law_take D_law_great F_law_net
  have D_law_net : Df P w K mg base "_law_net" P_law_net 3 (spPl Q_net) := ⟨⟨_, fd_law_net, g_law_net, F_law_net.kp, bd_law_net F_law_net, O_law_net⟩⟩
  have O_law_walk : FnOk P w K mg base (L2.CX P w) 2 (He.ga K "_law_walk") fd_law_walk P_law_walk (spPl Q_walk) := ok_law_walk B D_law_take F_law_walk
  have D_law_walk : Df P w K mg base "_law_walk" P_law_walk 2 (spPl Q_walk) := ⟨⟨_, fd_law_walk, g_law_walk, F_law_walk.kp, bd_law_walk F_law_walk, O_law_walk⟩⟩
  have O_law_int : FnOk P w K mg base (L2.CX P w) 1 (He.ga K "_law_int") fd_law_int P_law_int (spT (He.ga K "NotUsable") T_law_int) := ok_law_int B F_law_int
  have D_law_int : Df P w K mg base "_law_int" P_law_int 1 (spT (He.ga K "NotUsable") T_law_int) := ⟨⟨_, fd_law_int, g_law_int, F_law_int.kp, bd_law_int F_law_int, O_law_int⟩⟩
  have O_law_goal : FnOk P w K mg base (L2.CX P w) 2 (He.ga K "_law_goal") fd_law_goal P_law_goal (spT (He.ga K "NotUsable") T_law_goal) := ok_law_goal B D_law_int F_law_goal
  have D_law_goal : Df P w K mg base "_law_goal" P_law_goal 2 (spT (He.ga K "NotUsable") T_law_goal) := ⟨⟨_, fd_law_goal, g_law_goal, F_law_goal.kp, bd_law_goal F_law_goal, O_law_goal⟩⟩
  have O_law_truth : FnOk P w K mg base (L2.CX P w) 1 (He.ga K "_law_truth") fd_law_truth P_law_truth (spT (He.ga K "NotUsable") T_law_truth) := ok_law_truth F_law_truth
  have D_law_truth : Df P w K mg base "_law_truth" P_law_truth 1 (spT (He.ga K "NotUsable") T_law_truth) := ⟨⟨_, fd_law_truth, g_law_truth, F_law_truth.kp, bd_law_truth F_law_truth, O_law_truth⟩⟩
  have O_is_integer : FnOk P w K mg base (L2.CX P w) 1 (He.ga K "is_integer") fd_is_integer P_is_integer (spT (He.ga K "NotUsable") T_is_integer) := ok_is_integer B F_is_integer
  have D_is_integer : Df P w K mg base "is_integer" P_is_integer 1 (spT (He.ga K "NotUsable") T_is_integer) := ⟨⟨_, fd_is_integer, g_is_integer, F_is_integer.kp, bd_is_integer F_is_integer, O_is_integer⟩⟩
  have O_is_number : FnOk P w K mg base (L2.CX P w) 2 (He.ga K "is_number") fd_is_number P_is_number (spT (He.ga K "NotUsable") T_is_number) := ok_is_number D_is_integer F_is_number
  have D_is_number : Df P w K mg base "is_number" P_is_number 2 (spT (He.ga K "NotUsable") T_is_number) := ⟨⟨_, fd_is_number, g_is_number, F_is_number.kp, bd_is_number F_is_number, O_is_number⟩⟩
  have O_need : FnOk P w K mg base (L2.CX P w) 3 (He.ga K "need") fd_need P_need (spT (He.ga K "NotUsable") T_need) := ok_need U F_need
  have D_need : Df P w K mg base "need" P_need 3 (spT (He.ga K "NotUsable") T_need) := ⟨⟨_, fd_need, g_need, F_need.kp, bd_need F_need, O_need⟩⟩
  have O_need_house : FnOk P w K mg base (L2.CX P w) 4 (He.ga K "need_house") fd_need_house P_need_house (spT (He.ga K "NotUsable") T_need_house) := ok_need_house D_is_number D_need F_need_house
  have D_need_house : Df P w K mg base "need_house" P_need_house 4 (spT (He.ga K "NotUsable") T_need_house) := ⟨⟨_, fd_need_house, g_need_house, F_need_house.kp, bd_need_house F_need_house, O_need_house⟩⟩
  have O_need_houses : FnOk P w K mg base (L2.CX P w) 5 (He.ga K "need_houses") fd_need_houses P_need_houses (spT (He.ga K "NotUsable") T_need_houses) := ok_need_houses D_is_number D_need D_need_house F_need_houses
  have D_need_houses : Df P w K mg base "need_houses" P_need_houses 5 (spT (He.ga K "NotUsable") T_need_houses) := ⟨⟨_, fd_need_houses, g_need_houses, F_need_houses.kp, bd_need_houses F_need_houses, O_need_houses⟩⟩
  have O_is_place : FnOk P w K mg base (L2.CX P w) 3 (He.ga K "is_place") fd_is_place P_is_place (spT (He.ga K "NotUsable") T_is_place) := ok_is_place B D_is_number F_is_place
  have D_is_place : Df P w K mg base "is_place" P_is_place 3 (spT (He.ga K "NotUsable") T_is_place) := ⟨⟨_, fd_is_place, g_is_place, F_is_place.kp, bd_is_place F_is_place, O_is_place⟩⟩
  have O_far_house : FnOk P w K mg base (L2.CX P w) 1 (He.ga K "far_house") fd_far_house P_far_house (spT (He.ga K "NotUsable") T_far_house) := ok_far_house F_far_house
  have D_far_house : Df P w K mg base "far_house" P_far_house 1 (spT (He.ga K "NotUsable") T_far_house) := ⟨⟨_, fd_far_house, g_far_house, F_far_house.kp, bd_far_house F_far_house, O_far_house⟩⟩
  have O_houses_along : FnOk P w K mg base (L2.CX P w) 4 (He.ga K "houses_along") fd_houses_along P_houses_along (spT (He.ga K "NotUsable") T_houses_along) := ok_houses_along B D_is_place D_far_house F_houses_along
  have D_houses_along : Df P w K mg base "houses_along" P_houses_along 4 (spT (He.ga K "NotUsable") T_houses_along) := ⟨⟨_, fd_houses_along, g_houses_along, F_houses_along.kp, bd_houses_along F_houses_along, O_houses_along⟩⟩
  have O_all_unlike : FnOk P w K mg base (L2.CX P w) 1 (He.ga K "all_unlike") fd_all_unlike P_all_unlike (spT (He.ga K "NotUsable") T_all_unlike) := ok_all_unlike B F_all_unlike
  have D_all_unlike : Df P w K mg base "all_unlike" P_all_unlike 1 (spT (He.ga K "NotUsable") T_all_unlike) := ⟨⟨_, fd_all_unlike, g_all_unlike, F_all_unlike.kp, bd_all_unlike F_all_unlike, O_all_unlike⟩⟩
  have O_is_way : FnOk P w K mg base (L2.CX P w) 6 (He.ga K "is_way") fd_is_way P_is_way (spT (He.ga K "NotUsable") T_is_way) := ok_is_way B D_need_houses D_houses_along D_all_unlike F_is_way
  have D_is_way : Df P w K mg base "is_way" P_is_way 6 (spT (He.ga K "NotUsable") T_is_way) := ⟨⟨_, fd_is_way, g_is_way, F_is_way.kp, bd_is_way F_is_way, O_is_way⟩⟩
  have K_is_way : Dk P w K mg base "is_way" P_is_way 6 (spT (He.ga K "NotUsable") T_is_way) := ⟨⟨_, fd_is_way, g_is_way, F_is_way.kp, kb_is_way F_is_way, O_is_way⟩⟩
  have O_is_ring : FnOk P w K mg base (L2.CX P w) 6 (He.ga K "is_ring") fd_is_ring P_is_ring (spT (He.ga K "NotUsable") T_is_ring) := ok_is_ring B D_need_house D_houses_along D_all_unlike F_is_ring
  have D_is_ring : Df P w K mg base "is_ring" P_is_ring 6 (spT (He.ga K "NotUsable") T_is_ring) := ⟨⟨_, fd_is_ring, g_is_ring, F_is_ring.kp, bd_is_ring F_is_ring, O_is_ring⟩⟩
  have K_is_ring : Dk P w K mg base "is_ring" P_is_ring 6 (spT (He.ga K "NotUsable") T_is_ring) := ⟨⟨_, fd_is_ring, g_is_ring, F_is_ring.kp, kb_is_ring F_is_ring, O_is_ring⟩⟩
  have O_law_asked : FnOk P w K mg base (L2.CX P w) 7 (He.ga K "_law_asked") fd_law_asked P_law_asked (spT (He.ga K "NotUsable") T_law_asked) := ok_law_asked D_law_goal D_law_truth D_is_way D_is_ring K_is_way K_is_ring F_law_asked
  have D_law_asked : Df P w K mg base "_law_asked" P_law_asked 7 (spT (He.ga K "NotUsable") T_law_asked) := ⟨⟨_, fd_law_asked, g_law_asked, F_law_asked.kp, bd_law_asked F_law_asked, O_law_asked⟩⟩
  have O_law_least : FnOk P w K mg base (L2.CX P w) 3 (He.ga K "_law_least") fd_law_least P_law_least (spT (He.ga K "NotUsable") T_law_least) := ok_law_least B D_law_goal F_law_least
  have D_law_least : Df P w K mg base "_law_least" P_law_least 3 (spT (He.ga K "NotUsable") T_law_least) := ⟨⟨_, fd_law_least, g_law_least, F_law_least.kp, bd_law_least F_law_least, O_law_least⟩⟩
  have H_law_int : Dh P w K mg base (He.ga K "NotUsable") "_law_int" P_law_int 1 ((spE1 fun x => .bool (isI x))) := ⟨⟨_, fd_law_int, g_law_int, F_law_int.kp, bd_law_int F_law_int, hot_law_int B F_law_int⟩⟩
  have H_law_kin : Dh P w K mg base (He.ga K "NotUsable") "_law_kin" P_law_kin 2 (spKin) := ⟨⟨_, fd_law_kin, g_law_kin, F_law_kin.kp, bd_law_kin F_law_kin, hot_law_kin B U T H_law_int F_law_kin⟩⟩
  have O_law_row : FnOk P w K mg base (L2.CX P w) 2 (He.ga K "_law_row") fd_law_row P_law_row (spT (He.ga K "NotUsable") T_law_row) := ok_law_row B D_law_int F_law_row
  have D_law_row : Df P w K mg base "_law_row" P_law_row 2 (spT (He.ga K "NotUsable") T_law_row) := ⟨⟨_, fd_law_row, g_law_row, F_law_row.kp, bd_law_row F_law_row, O_law_row⟩⟩
  have O_law_led : FnOk P w K mg base (L2.CX P w) 1 (He.ga K "_law_led") fd_law_led P_law_led (spT (He.ga K "NotUsable") T_law_led) := ok_law_led B F_law_led
  have D_law_led : Df P w K mg base "_law_led" P_law_led 1 (spT (He.ga K "NotUsable") T_law_led) := ⟨⟨_, fd_law_led, g_law_led, F_law_led.kp, bd_law_led F_law_led, O_law_led⟩⟩
  have O_is_split : FnOk P w K mg base (L2.CX P w) 3 (He.ga K "is_split") fd_is_split P_is_split (spT (He.ga K "NotUsable") T_is_split) := ok_is_split B D_is_number F_is_split
  have D_is_split : Df P w K mg base "is_split" P_is_split 3 (spT (He.ga K "NotUsable") T_is_split) := ⟨⟨_, fd_is_split, g_is_split, F_is_split.kp, bd_is_split F_is_split, O_is_split⟩⟩
  have O_need_split : FnOk P w K mg base (L2.CX P w) 4 (He.ga K "need_split") fd_need_split P_need_split (spT (He.ga K "NotUsable") T_need_split) := ok_need_split D_need D_is_split F_need_split
  have D_need_split : Df P w K mg base "need_split" P_need_split 4 (spT (He.ga K "NotUsable") T_need_split) := ⟨⟨_, fd_need_split, g_need_split, F_need_split.kp, bd_need_split F_need_split, O_need_split⟩⟩
  have O_leads_from : FnOk P w K mg base (L2.CX P w) 7 (He.ga K "leads_from") fd_leads_from P_leads_from (spT (He.ga K "NotUsable") T_leads_from) := ok_leads_from B D_houses_along D_is_ring D_all_unlike F_leads_from
  have D_leads_from : Df P w K mg base "leads_from" P_leads_from 7 (spT (He.ga K "NotUsable") T_leads_from) := ⟨⟨_, fd_leads_from, g_leads_from, F_leads_from.kp, bd_leads_from F_leads_from, O_leads_from⟩⟩
  have O_led_if : FnOk P w K mg base (L2.CX P w) 1 (He.ga K "led_if") fd_led_if P_led_if (spT (He.ga K "NotUsable") T_led_if) := ok_led_if B F_led_if
  have D_led_if : Df P w K mg base "led_if" P_led_if 1 (spT (He.ga K "NotUsable") T_led_if) := ⟨⟨_, fd_led_if, g_led_if, F_led_if.kp, bd_led_if F_led_if, O_led_if⟩⟩
  have O_led_along : FnOk P w K mg base (L2.CX P w) 8 (He.ga K "led_along") fd_led_along P_led_along (spT (He.ga K "NotUsable") T_led_along) := ok_led_along B D_need D_need_split D_need_house D_leads_from D_is_integer D_led_if F_led_along
  have D_led_along : Df P w K mg base "led_along" P_led_along 8 (spT (He.ga K "NotUsable") T_led_along) := ⟨⟨_, fd_led_along, g_led_along, F_led_along.kp, bd_led_along F_led_along, O_led_along⟩⟩
  have K_led_along : Dk P w K mg base "led_along" P_led_along 8 (spT (He.ga K "NotUsable") T_led_along) := ⟨⟨_, fd_led_along, g_led_along, F_led_along.kp, kb_led_along F_led_along, O_led_along⟩⟩
  have O_law_lead : FnOk P w K mg base (L2.CX P w) 9 (He.ga K "_law_lead") fd_law_lead P_law_lead (spT (He.ga K "NotUsable") T_law_lead) := ok_law_lead B U T H_law_kin D_law_int D_law_row D_law_goal D_law_led D_led_along K_led_along F_law_lead
  have D_law_lead : Df P w K mg base "_law_lead" P_law_lead 9 (spT (He.ga K "NotUsable") T_law_lead) := ⟨⟨_, fd_law_lead, g_law_lead, F_law_lead.kp, bd_law_lead F_law_lead, O_law_lead⟩⟩
  have O_purses_of : FnOk P w K mg base (L2.CX P w) 5 (He.ga K "purses_of") fd_purses_of P_purses_of (spT (He.ga K "NotUsable") T_purses_of) := ok_purses_of B D_need_split F_purses_of
  have D_purses_of : Df P w K mg base "purses_of" P_purses_of 5 (spT (He.ga K "NotUsable") T_purses_of) := ⟨⟨_, fd_purses_of, g_purses_of, F_purses_of.kp, bd_purses_of F_purses_of, O_purses_of⟩⟩
  have K_purses_of : Dk P w K mg base "purses_of" P_purses_of 5 (spT (He.ga K "NotUsable") T_purses_of) := ⟨⟨_, fd_purses_of, g_purses_of, F_purses_of.kp, kb_purses_of F_purses_of, O_purses_of⟩⟩
  have O_turned_over : FnOk P w K mg base (L2.CX P w) 5 (He.ga K "turned_over") fd_turned_over P_turned_over (spT (He.ga K "NotUsable") T_turned_over) := ok_turned_over B D_need_split F_turned_over
  have D_turned_over : Df P w K mg base "turned_over" P_turned_over 5 (spT (He.ga K "NotUsable") T_turned_over) := ⟨⟨_, fd_turned_over, g_turned_over, F_turned_over.kp, bd_turned_over F_turned_over, O_turned_over⟩⟩
  have K_turned_over : Dk P w K mg base "turned_over" P_turned_over 5 (spT (He.ga K "NotUsable") T_turned_over) := ⟨⟨_, fd_turned_over, g_turned_over, F_turned_over.kp, kb_turned_over F_turned_over, O_turned_over⟩⟩
  have O_is_purses : FnOk P w K mg base (L2.CX P w) 3 (He.ga K "is_purses") fd_is_purses P_is_purses (spT (He.ga K "NotUsable") T_is_purses) := ok_is_purses B D_is_number F_is_purses
  have D_is_purses : Df P w K mg base "is_purses" P_is_purses 3 (spT (He.ga K "NotUsable") T_is_purses) := ⟨⟨_, fd_is_purses, g_is_purses, F_is_purses.kp, bd_is_purses F_is_purses, O_is_purses⟩⟩
  have O_hold_of : FnOk P w K mg base (L2.CX P w) 5 (He.ga K "hold_of") fd_hold_of P_hold_of (spT (He.ga K "NotUsable") T_hold_of) := ok_hold_of B D_need_house F_hold_of
  have D_hold_of : Df P w K mg base "hold_of" P_hold_of 5 (spT (He.ga K "NotUsable") T_hold_of) := ⟨⟨_, fd_hold_of, g_hold_of, F_hold_of.kp, bd_hold_of F_hold_of, O_hold_of⟩⟩
  have O_turned_purses : FnOk P w K mg base (L2.CX P w) 6 (He.ga K "turned_purses") fd_turned_purses P_turned_purses (spT (He.ga K "NotUsable") T_turned_purses) := ok_turned_purses B D_need D_is_purses D_hold_of F_turned_purses
  have D_turned_purses : Df P w K mg base "turned_purses" P_turned_purses 6 (spT (He.ga K "NotUsable") T_turned_purses) := ⟨⟨_, fd_turned_purses, g_turned_purses, F_turned_purses.kp, bd_turned_purses F_turned_purses, O_turned_purses⟩⟩
  have K_turned_purses : Dk P w K mg base "turned_purses" P_turned_purses 6 (spT (He.ga K "NotUsable") T_turned_purses) := ⟨⟨_, fd_turned_purses, g_turned_purses, F_turned_purses.kp, kb_turned_purses F_turned_purses, O_turned_purses⟩⟩
  have O_ends_at : FnOk P w K mg base (L2.CX P w) 5 (He.ga K "ends_at") fd_ends_at P_ends_at (spT (He.ga K "NotUsable") T_ends_at) := ok_ends_at B D_need_split D_need_house F_ends_at
  have D_ends_at : Df P w K mg base "ends_at" P_ends_at 5 (spT (He.ga K "NotUsable") T_ends_at) := ⟨⟨_, fd_ends_at, g_ends_at, F_ends_at.kp, bd_ends_at F_ends_at, O_ends_at⟩⟩
  have K_ends_at : Dk P w K mg base "ends_at" P_ends_at 5 (spT (He.ga K "NotUsable") T_ends_at) := ⟨⟨_, fd_ends_at, g_ends_at, F_ends_at.kp, kb_ends_at F_ends_at, O_ends_at⟩⟩
  have O_law_deed : FnOk P w K mg base (L2.CX P w) 9 (He.ga K "_law_deed") fd_law_deed P_law_deed (spT (He.ga K "NotUsable") T_law_deed) := ok_law_deed D_purses_of D_turned_over D_turned_purses D_ends_at D_is_way D_is_ring D_led_along F_law_deed
  have D_law_deed : Df P w K mg base "_law_deed" P_law_deed 9 (spT (He.ga K "NotUsable") T_law_deed) := ⟨⟨_, fd_law_deed, g_law_deed, F_law_deed.kp, bd_law_deed F_law_deed, O_law_deed⟩⟩
  have O_law_refused : FnOk P w K mg base (L2.CX P w) 10 (He.ga K "_law_refused") fd_law_refused P_law_refused (spT (He.ga K "NotUsable") T_law_refused) := ok_law_refused U T H_law_kin D_law_deed F_law_refused
  have D_law_refused : Df P w K mg base "_law_refused" P_law_refused 10 (spT (He.ga K "NotUsable") T_law_refused) := ⟨⟨_, fd_law_refused, g_law_refused, F_law_refused.kp, bd_law_refused F_law_refused, O_law_refused⟩⟩
  have O_law_ways : FnOk P w K mg base (L2.CX P w) 11 (He.ga K "_law_ways") fd_law_ways P_law_ways (spPl Q_ways) := ok_law_ways B D_law_take D_law_net D_law_walk D_law_asked D_law_least D_law_lead D_law_refused F_law_ways
  have D_law_ways : Df P w K mg base "_law_ways" P_law_ways 11 (spPl Q_ways) := ⟨⟨_, fd_law_ways, g_law_ways, F_law_ways.kp, bd_law_ways F_law_ways, O_law_ways⟩⟩
  have G_all_splits : Gf P w K mg base "all_splits" "web" 1 T_all := gf_all_splits B g_all_splits F_all_splits.kp (bd_all_splits F_all_splits) (kb_all_splits F_all_splits) F_all_splits
  have O_law_listed : FnOk P w K mg base (L2.CX P w) 3 (He.ga K "_law_listed") fd_law_listed P_law_listed (spT (He.ga K "NotUsable") T_law_listed) := ok_law_listed B D_law_int G_all_splits F_law_listed
  have D_law_listed : Df P w K mg base "_law_listed" P_law_listed 3 (spT (He.ga K "NotUsable") T_law_listed) := ⟨⟨_, fd_law_listed, g_law_listed, F_law_listed.kp, bd_law_listed F_law_listed, O_law_listed⟩⟩
  have O_law_turns : FnOk P w K mg base (L2.CX P w) 3 (He.ga K "_law_turns") fd_law_turns P_law_turns (spT (He.ga K "NotUsable") T_law_turns) := ok_law_turns B G_all_splits F_law_turns
  have D_law_turns : Df P w K mg base "_law_turns" P_law_turns 3 (spT (He.ga K "NotUsable") T_law_turns) := ⟨⟨_, fd_law_turns, g_law_turns, F_law_turns.kp, bd_law_turns F_law_turns, O_law_turns⟩⟩
  have O_law_purses : FnOk P w K mg base (L2.CX P w) 1 (He.ga K "_law_purses") fd_law_purses P_law_purses (spT (He.ga K "NotUsable") T_law_purses) := ok_law_purses B F_law_purses
  have D_law_purses : Df P w K mg base "_law_purses" P_law_purses 1 (spT (He.ga K "NotUsable") T_law_purses) := ⟨⟨_, fd_law_purses, g_law_purses, F_law_purses.kp, bd_law_purses F_law_purses, O_law_purses⟩⟩
  have O_law_holds : FnOk P w K mg base (L2.CX P w) 1 (He.ga K "_law_holds") fd_law_holds P_law_holds (spT (He.ga K "NotUsable") T_law_holds) := ok_law_holds B F_law_holds
  have D_law_holds : Df P w K mg base "_law_holds" P_law_holds 1 (spT (He.ga K "NotUsable") T_law_holds) := ⟨⟨_, fd_law_holds, g_law_holds, F_law_holds.kp, bd_law_holds F_law_holds, O_law_holds⟩⟩
  have O_law_checked : FnOk P w K mg base (L2.CX P w) 7 (He.ga K "_law_checked") fd_law_checked P_law_checked (spT (He.ga K "NotUsable") T_law_checked) := ok_law_checked B D_law_purses D_law_holds D_law_row D_purses_of D_turned_over D_turned_purses D_ends_at K_purses_of K_turned_over K_turned_purses K_ends_at F_law_checked
  have D_law_checked : Df P w K mg base "_law_checked" P_law_checked 7 (spT (He.ga K "NotUsable") T_law_checked) := ⟨⟨_, fd_law_checked, g_law_checked, F_law_checked.kp, bd_law_checked F_law_checked, O_law_checked⟩⟩
  have O_law_bad_split : FnOk P w K mg base (L2.CX P w) 11 (He.ga K "_law_bad_split") fd_law_bad_split P_law_bad_split (spT (He.ga K "NotUsable") T_law_bad_split) := ok_law_bad_split D_law_refused F_law_bad_split
  have D_law_bad_split : Df P w K mg base "_law_bad_split" P_law_bad_split 11 (spT (He.ga K "NotUsable") T_law_bad_split) := ⟨⟨_, fd_law_bad_split, g_law_bad_split, F_law_bad_split.kp, bd_law_bad_split F_law_bad_split, O_law_bad_split⟩⟩
  have O_law_refusals : FnOk P w K mg base (L2.CX P w) 12 (He.ga K "_law_refusals") fd_law_refusals P_law_refusals (spPl Q_refusals) := ok_law_refusals B D_law_take D_law_refused D_law_bad_split D_law_holds F_law_refusals
  have D_law_refusals : Df P w K mg base "_law_refusals" P_law_refusals 12 (spPl Q_refusals) := ⟨⟨_, fd_law_refusals, g_law_refusals, F_law_refusals.kp, bd_law_refusals F_law_refusals, O_law_refusals⟩⟩
  exact ok_law B D_law_pool D_law_take D_law_great D_law_net D_law_ways D_law_listed D_law_turns D_law_checked D_law_holds D_law_row D_turned_purses D_law_refusals F_law
end
end HL
namespace HL
open PySem PySem.Spec PyProof.Rows L2
/-- what is let out, whatever the world -/
def CXe : CXT := fun outer H s E u s' => ∃ P w, L2.CX P w outer H s E u s'
theorem fn_cxe {P : Program} {w : World} {K : PySem.W.Frag} {mg : Str → Option Value} {base : Heap} {k : Nat} {f : Addr} {fd : FuncData} {ps : List Str} {sp : Sp} (F : FnOk P w K mg base (L2.CX P w) k f fd ps sp) : FnOk P w K mg base CXe k f fd ps sp :=
  ⟨F.len, fun A outer s H args us vs Q E hr he hb hv hs => codeAny_mono (F.run A outer s H args us vs Q E hr he hb hv hs) fun r s' h => by
    cases r with
    | error e => exact ⟨P, w, h⟩
    | ok fl => cases fl <;> exact h⟩
end HL
open PySem PySem.W PySem.Calls PyProof.Rows
theorem PySem.Challenge.cw_howeverled_k03_whole_splits_purses_and_w_holds : PySem.Challenge.rw_howeverled_k03_whole_splits_purses_and_w.Holds := by
  w_on; o_law
  refine HandSHeadRun.head_any (r := OpenLaw.row PySem.Challenge.rw_howeverled_k03_whole_splits_purses_and_w) (q := view (OpenLaw.row PySem.Challenge.rw_howeverled_k03_whole_splits_purses_and_w).prog [58]) (H := HL.hk) (ob := HL.ob) (M := 3000) (loose := HL.loose) (d := HandSHeadRun.topDef (OpenLaw.row PySem.Challenge.rw_howeverled_k03_whole_splits_purses_and_w).prog 58) (kwd := []) HL.ob_eq
    (by kernel_rfl) (fun s => by kernel_rfl) HL.run (by kernel_rfl) (by kernel_rfl) (by kernel_rfl) (by rfl) (by first | assumption | decide +kernel) (by decide +kernel) ⟨rfl, rfl, rfl, rfl, rfl, by decide +kernel⟩ ?hw ?hc
  case hw => w_witness2
  case hc =>
    refine L2.walk_ofE (l := PySem.Challenge.rw_howeverled_k03_whole_splits_purses_and_w) (n := 63) (k := 13) (x := "_law_script") (CX := HL.CXe) rfl (by decide) (by kernel_rfl) ⟨rfl, by decide, by decide⟩ ?F (fun H s e s' z => by obtain ⟨_, _, _, _, _, _, _, _, _, _, _, _, _, _, hE⟩ := z; exact hE)
    intro w mg fa h Y G hmg0
    obtain ⟨K, KX, c, e⟩ := Y
    have hmg : mg ("law" : PySem.Str) = some (.ref fa) := by
      have e : (HandSHeadRun.topDef (OpenLaw.row PySem.Challenge.rw_howeverled_k03_whole_splits_purses_and_w).prog 58).name = ("law" : PySem.Str) := by kernel_rfl
      rw [← e]
      exact hmg0
    obtain ⟨fd, hb, hF⟩ := HL.facts (P := (PySem.Challenge.rw_howeverled_k03_whole_splits_purses_and_w).prog) (w := w) KX G hmg c e
    exact ⟨K, fd, DL.spLaw K, KX, hb, fun H a ns hl hO hS => ⟨a, ns, rfl, hO, hS, fun _ => rfl⟩, fun base h1 h2 => HL.fn_cxe (hF base h1 h2)⟩
