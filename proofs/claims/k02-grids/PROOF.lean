import PyProof.Rows.All
import Wide.All
import OpenK.AllK
import Wide.FinOn
import KE.KStateDown
import Lean
import HandS.Base
import HandS.Call
import HandS.Ends
import HandS.More
import HandS.Words
import HandS.WordsExc
import HandS.Defaults
import HandS.Head0
import HandS.Head1
import HandS.Head2
import HandS.HeadEnd
import HandS.HeadHook1
import HandS.HeadHook2
import HandS.Comp
import HandS.Conv
import HandS.Deep
import HandS.Dict
import HandS.IsInst
import HandS.Iter
import HandS.List
import HandS.Rev
import HandS.SetFor
import HandS.SortInts
import HandS.Strs
import HandS.Style
import HandS.Text
import HandS.TryOnly
import HandS.TupAny
import HandS.TupMul
import HandS.Walk
import HandS.Wide
import HandS.WideBits
import HandS.Zip
import HandS.Zip0
import KE.DataCmp
import KE.DataMinMax
import KE.GoesZip
import KE.KRevSl
import KE.KTupSum
import KE.SortData
import PyProof.AutoSeq1
import PyProof.Draws
import PyProof.EnumMake
import PyProof.Rows.StrStep
import PyProof.StrOps2
import PySem.Challenge.RW_sealskept_k02_whole_grids_of_all_orders
set_option Elab.async false
set_option linter.all false
set_option maxRecDepth 100000
set_option maxHeartbeats 0
/-! Pl, part A: plain data over the abstract heap; the frozen part F of it; environments of plain data. -/
namespace Pl
open PySem PySem.Spec PyProof.Rows L2

abbrev KK := PySem.W.Frag
def keyD : Key → PyData
  | .inl i => .int i
  | .inr x => .str x

mutual
/-- v stands for the plain datum d, by what the frozen part F (and the written part K) says -/
inductive Rp (K : KK) (F : Hp) : V → PyData → Prop
  | non : Rp K F .non .none
  | bl (b : Bool) : Rp K F (.bl b) (.bool b)
  | int (i : Int) : Rp K F (.int i) (.int i)
  | str (x : Str) : Rp K F (.str x) (.str x)
  | lst {a : Addr} {xs : List V} {ds : List PyData} : SqL K F a xs → RpA K F xs ds → Rp K F (.ref a) (.list ds)
  | tup {a : Addr} {xs : List V} {ds : List PyData} : SqT K F a xs → RpA K F xs ds → Rp K F (.ref a) (.tuple ds)
  | dK {a : Addr} {kvs : List (Key × V)} {ds : List (PyData × PyData)} : F a = some (.dK kvs) → RpK K F kvs ds → Rp K F (.ref a) (.dict ds)
inductive RpA (K : KK) (F : Hp) : List V → List PyData → Prop
  | nil : RpA K F [] []
  | cons {v : V} {vs : List V} {d : PyData} {ds : List PyData} : Rp K F v d → RpA K F vs ds → RpA K F (v :: vs) (d :: ds)
inductive RpK (K : KK) (F : Hp) : List (Key × V) → List (PyData × PyData) → Prop
  | nil : RpK K F [] []
  | cons {k : Key} {v : V} {vs : List (Key × V)} {d : PyData} {ds : List (PyData × PyData)} : Rp K F v d → RpK K F vs ds → RpK K F ((k, v) :: vs) ((keyD k, d) :: ds)
inductive RpT (K : KK) (F : Hp) : List (List Key × V) → List (PyData × PyData) → Prop
  | nil : RpT K F [] []
  | cons {k : List Key} {v : V} {vs : List (List Key × V)} {d : PyData} {ds : List (PyData × PyData)} : Rp K F v d → RpT K F vs ds → RpT K F ((k, v) :: vs) ((.tuple (k.map keyD), d) :: ds)
end

theorem same_tup {K : KK} {H H' : Hp} {a : Addr} {xs : List V} (e : Same H H') (h : SqT K H a xs) : SqT K H' a xs := by
  rcases h with (h | ⟨o, h⟩) | h
  · exact .inl (.inl (e _ _ h))
  · exact .inl (.inr ⟨o, e _ _ h⟩)
  · exact .inr h

section
variable {K : KK} {F F' : Hp}
theorem Rp.mono (s : Same F F') {v : V} {d : PyData} (h : Rp K F v d) : Rp K F' v d :=
  Rp.rec (motive_1 := fun v d _ => Rp K F' v d) (motive_2 := fun vs ds _ => RpA K F' vs ds) (motive_3 := fun vs ds _ => RpK K F' vs ds) (motive_4 := fun vs ds _ => RpT K F' vs ds)
    .non .bl .int .str (fun q _ r => .lst (s.seq q) r) (fun q _ r => .tup (same_tup s q) r) (fun q _ r => .dK (s _ _ q) r)
    .nil (fun _ _ r t => .cons r t) .nil (fun _ _ r t => .cons r t) .nil (fun _ _ r t => .cons r t) h
theorem RpA.mono (s : Same F F') : ∀ {vs : List V} {ds : List PyData}, RpA K F vs ds → RpA K F' vs ds
  | _, _, .nil => .nil
  | _, _, .cons r t => .cons (r.mono s) (RpA.mono s t)
theorem RpK.mono (s : Same F F') : ∀ {vs : List (Key × V)} {ds : List (PyData × PyData)}, RpK K F vs ds → RpK K F' vs ds
  | _, _, .nil => .nil
  | _, _, .cons r t => .cons (r.mono s) (RpK.mono s t)
theorem RpT.mono (s : Same F F') : ∀ {vs : List (List Key × V)} {ds : List (PyData × PyData)}, RpT K F vs ds → RpT K F' vs ds
  | _, _, .nil => .nil
  | _, _, .cons r t => .cons (r.mono s) (RpT.mono s t)
theorem RpA.length : ∀ {vs : List V} {ds : List PyData}, RpA K F vs ds → vs.length = ds.length
  | _, _, .nil => rfl
  | _, _, .cons _ t => congrArg (· + 1) (RpA.length t)
theorem RpA.get : ∀ {vs : List V} {ds : List PyData} {i : Nat} {v : V}, RpA K F vs ds → vs[i]? = some v → ∃ d, ds[i]? = some d ∧ Rp K F v d
  | _, _, _, _, .nil, e => by simp at e
  | _, _, 0, _, .cons r _, e => by simp at e; subst e; exact ⟨_, rfl, r⟩
  | _, _, i + 1, v, .cons _ t, e => by
    obtain ⟨d, h1, h2⟩ := RpA.get (i := i) (v := v) t (by simpa using e)
    exact ⟨d, by simpa using h1, h2⟩
theorem RpA.at : ∀ {vs : List V} {ds : List PyData} {i : Nat} {d : PyData}, RpA K F vs ds → ds[i]? = some d → ∃ v, vs[i]? = some v ∧ Rp K F v d
  | _, _, _, _, .nil, e => by simp at e
  | _, _, 0, _, .cons r _, e => by simp at e; subst e; exact ⟨_, rfl, r⟩
  | _, _, i + 1, d, .cons _ t, e => by
    obtain ⟨v, h1, h2⟩ := RpA.at (i := i) (d := d) t (by simpa using e)
    exact ⟨v, by simpa using h1, h2⟩
theorem RpA.append : ∀ {vs ws : List V} {ds es : List PyData}, RpA K F vs ds → RpA K F ws es → RpA K F (vs ++ ws) (ds ++ es)
  | _, _, _, _, .nil, s => s
  | _, _, _, _, .cons r t, s => .cons r (RpA.append t s)
theorem RpA.take : ∀ {vs : List V} {ds : List PyData} (n : Nat), RpA K F vs ds → RpA K F (vs.take n) (ds.take n)
  | _, _, 0, _ => .nil
  | _, _, _ + 1, .nil => .nil
  | _, _, n + 1, .cons r t => .cons r (RpA.take n t)
theorem RpA.drop : ∀ {vs : List V} {ds : List PyData} (n : Nat), RpA K F vs ds → RpA K F (vs.drop n) (ds.drop n)
  | _, _, 0, r => r
  | _, _, _ + 1, .nil => .nil
  | _, _, n + 1, .cons _ t => RpA.drop n t
theorem RpA.set {v : V} {d : PyData} (r : Rp K F v d) : ∀ {vs : List V} {ds : List PyData} (i : Nat), RpA K F vs ds → RpA K F (vs.set i v) (ds.set i d)
  | _, _, _, .nil => .nil
  | _, _, 0, .cons _ t => .cons r t
  | _, _, i + 1, .cons q t => .cons q (RpA.set r i t)
theorem RpA.rev {vs : List V} {ds : List PyData} (h : RpA K F vs ds) : RpA K F vs.reverse ds.reverse := by
  have aux : ∀ {vs : List V} {ds : List PyData}, RpA K F vs ds → RpA K F vs.reverse ds.reverse := by
    intro vs
    induction vs with
    | nil => intro ds h; cases h; exact .nil
    | cons v vs ih =>
      intro ds h
      cases h with
      | cons r t =>
        rw [List.reverse_cons, List.reverse_cons]
        exact RpA.append (ih t) (.cons r .nil)
  exact aux h
theorem RpA.rep {vs : List V} {ds : List PyData} (h : RpA K F vs ds) : ∀ k : Nat, RpA K F (List.replicate k vs).flatten (List.replicate k ds).flatten
  | 0 => .nil
  | k + 1 => by
    rw [List.replicate_succ, List.replicate_succ, List.flatten_cons, List.flatten_cons]
    exact h.append (RpA.rep h k)
theorem RpA.ints : ∀ {vs : List V} {ns : List Int}, RpA K F vs (ns.map .int) → vs = ns.map V.int
  | _, [], .nil => rfl
  | _, n :: ns, .cons r t => by
    cases r
    rw [RpA.ints (ns := ns) t]
    rfl
theorem RpA.ofInts (ns : List Int) : RpA K F (ns.map V.int) (ns.map .int) := by
  induction ns with
  | nil => exact .nil
  | cons n ns ih => exact .cons (.int n) ih
theorem RpA.bools : ∀ {vs : List V} {ns : List Bool}, RpA K F vs (ns.map .bool) → vs = ns.map V.bl
  | _, [], .nil => rfl
  | _, n :: ns, .cons r t => by
    cases r
    rw [RpA.bools (ns := ns) t]
    rfl
theorem RpA.strs : ∀ {vs : List V} {ns : List Str}, RpA K F vs (ns.map .str) → vs = ns.map V.str
  | _, [], .nil => rfl
  | _, n :: ns, .cons r t => by
    cases r
    rw [RpA.strs (ns := ns) t]
    rfl
theorem RpA.ofStrs (ns : List Str) : RpA K F (ns.map V.str) (ns.map .str) := by
  induction ns with
  | nil => exact .nil
  | cons n ns ih => exact .cons (.str n) ih
end

/-! ### data without dicts, without lists -/
mutual
def noDct : PyData → Bool
  | .list xs => noDctA xs
  | .tuple xs => noDctA xs
  | .dict _ => false
  | _ => true
def noDctA : List PyData → Bool
  | [] => true
  | d :: ds => noDct d && noDctA ds
end
mutual
/-- nothing in it can be changed -/
def flat : PyData → Bool
  | .list _ => false
  | .tuple xs => flatA xs
  | .dict _ => false
  | _ => true
def flatA : List PyData → Bool
  | [] => true
  | d :: ds => flat d && flatA ds
end
theorem and_l {a b : Bool} (h : (a && b) = true) : a = true := (Bool.and_eq_true_iff.mp h).1
theorem and_r {a b : Bool} (h : (a && b) = true) : b = true := (Bool.and_eq_true_iff.mp h).2
theorem Rp.dp {K : KK} {F : Hp} {v : V} {d : PyData} (h : Rp K F v d) : noDct d = true → Dp K F v d :=
  Rp.rec (motive_1 := fun v d _ => noDct d = true → Dp K F v d) (motive_2 := fun vs ds _ => noDctA ds = true → DpAll K F vs ds) (motive_3 := fun vs ds _ => True) (motive_4 := fun vs ds _ => True)
    (fun _ => .non) (fun b _ => .bl b) (fun i _ => .int i) (fun x _ => .str x) (fun q _ r e => .lst q (r e)) (fun q _ r e => .tup q (r e)) (fun _ _ _ e => nomatch e)
    (fun _ => .nil) (fun _ _ r t e => .cons (r (and_l e)) (t (and_r e))) trivial (fun _ _ _ _ => trivial) trivial (fun _ _ _ _ => trivial) h
/-- data that is flat stands by the tuples alone -/
theorem Rp.narrow {K : KK} {F F' : Hp} (s : ∀ a xs, SqT K F a xs → SqT K F' a xs) {v : V} {d : PyData} (h : Rp K F v d) : flat d = true → Rp K F' v d :=
  Rp.rec (motive_1 := fun v d _ => flat d = true → Rp K F' v d) (motive_2 := fun vs ds _ => flatA ds = true → RpA K F' vs ds) (motive_3 := fun vs ds _ => True) (motive_4 := fun vs ds _ => True)
    (fun _ => .non) (fun b _ => .bl b) (fun i _ => .int i) (fun x _ => .str x) (fun _ _ _ e => nomatch e) (fun q _ r e => .tup (s _ _ q) (r e)) (fun _ _ _ e => nomatch e)
    (fun _ => .nil) (fun _ _ r t e => .cons (r (and_l e)) (t (and_r e))) trivial (fun _ _ _ _ => trivial) trivial (fun _ _ _ _ => trivial) h

/-! ### how the heaps grow -/
/-- what no slot owns -/
def stays : HO → Bool
  | .tup _ => true
  | .frz _ _ => true
  | _ => false
structure Ext (F H F' H' : Hp) : Prop where
  hs : Same H H'
  fs : Same F F'
  sub : Same F' H'
  new : ∀ a o, F' a = some o → F a = some o ∨ H a = none ∨ stays o = true
theorem Ext.refl {F H : Hp} (s : Same F H) : Ext F H F H := ⟨Same.refl _, Same.refl _, s, fun _ _ e => .inl e⟩
theorem Ext.trans {F H F1 H1 F2 H2 : Hp} (a : Ext F H F1 H1) (b : Ext F1 H1 F2 H2) : Ext F H F2 H2 :=
  ⟨a.hs.trans b.hs, a.fs.trans b.fs, b.sub, fun p o e => (b.new p o e).elim (a.new p o) fun q => .inr (q.imp a.hs.free id)⟩
theorem same_upd {H : Hp} {p : Addr} {o : HO} (h : H p = none) : Same H (upd H p o) := fun b x e => by
  rw [upd_ne (ne_of_none e h)]
  exact e
theorem none_of_sub {F H : Hp} {p : Addr} (s : Same F H) (h : H p = none) : F p = none := s.free h
/-- an object laid and frozen at once -/
theorem Ext.lay {F H : Hp} {p : Addr} {o : HO} (s : Same F H) (h : H p = none) : Ext F H (upd F p o) (upd H p o) :=
  ⟨same_upd h, same_upd (s.free h), fun b x e => by
    by_cases hb : b = p
    · subst hb; rw [upd_same] at e ⊢; exact e
    · rw [upd_ne hb] at e ⊢; exact s _ _ e, fun b x e => by
    by_cases hb : b = p
    · subst hb; exact .inr (.inl h)
    · rw [upd_ne hb] at e; exact .inl e⟩
/-- an object laid, not frozen -/
theorem Ext.put {F H : Hp} {p : Addr} {o : HO} (s : Same F H) (h : H p = none) : Ext F H F (upd H p o) :=
  ⟨same_upd h, Same.refl _, s.trans (same_upd h), fun _ _ e => .inl e⟩
/-- a new object frozen -/
theorem Ext.freeze {F H F' H' : Hp} {p : Addr} {o : HO} (e : Ext F H F' H') (h : H p = none) (h' : H' p = some o) (hf : F' p = none) : Ext F H (upd F' p o) H' :=
  ⟨e.hs, e.fs.trans (same_upd hf), fun b x q => by
    by_cases hb : b = p
    · subst hb; rw [upd_same] at q; cases q; exact h'
    · rw [upd_ne hb] at q; exact e.sub _ _ q, fun b x q => by
    by_cases hb : b = p
    · subst hb; exact .inr (.inl h)
    · rw [upd_ne hb] at q; exact e.new _ _ q⟩

/-! ### what stands at an owned address -/
inductive OwnAt (K : KK) (F : Hp) : HO → PyData → Prop
  | lst {xs : List V} {ds : List PyData} : RpA K F xs ds → OwnAt K F (.lst xs) (.list ds)
  | dK {kvs : List (Key × V)} {ds : List (PyData × PyData)} : RpK K F kvs ds → OwnAt K F (.dK kvs) (.dict ds)
section
variable {K : KK} {F F' H H' : Hp} {o : HO} {d : PyData} {v : V} {a : Addr}
theorem OwnAt.mono (s : Same F F') (h : OwnAt K F o d) : OwnAt K F' o d := by
  cases h with
  | lst r => exact .lst (r.mono s)
  | dK r => exact .dK (r.mono s)
theorem OwnAt.rp (h : OwnAt K F o d) (s : Same F F') (e : F' a = some o) : Rp K F' (.ref a) d := by
  cases h with
  | lst r => exact .lst (.inl (.inl e)) (r.mono s)
  | dK r => exact .dK e (r.mono s)
/-- borrowed: by the frozen part, or an owned object whose parts are by the frozen part -/
def RpB (K : KK) (F H : Hp) (v : V) (d : PyData) : Prop := Rp K F v d ∨ ∃ a o, v = .ref a ∧ H a = some o ∧ OwnAt K F o d
theorem Rp.b (h : Rp K F v d) : RpB K F H v d := .inl h
theorem RpB.ext (h : RpB K F H v d) (e : Ext F H F' H') : RpB K F' H' v d := by
  rcases h with h | ⟨a, o, e1, e2, h⟩
  · exact .inl (h.mono e.fs)
  · exact .inr ⟨a, o, e1, e.hs _ _ e2, h.mono e.fs⟩
theorem RpB.full (h : RpB K F H v d) (s : Same F H) : Rp K H v d := by
  rcases h with h | ⟨a, o, e1, e2, h⟩
  · exact h.mono s
  · subst e1; exact h.rp s e2
theorem RpB.int {i : Int} (h : RpB K F H v (.int i)) : v = .int i := by
  rcases h with h | ⟨a, o, e1, e2, h⟩
  · cases h; rfl
  · cases h
theorem RpB.bool {b : Bool} (h : RpB K F H v (.bool b)) : v = .bl b := by
  rcases h with h | ⟨a, o, e1, e2, h⟩
  · cases h; rfl
  · cases h
theorem RpB.str {x : Str} (h : RpB K F H v (.str x)) : v = .str x := by
  rcases h with h | ⟨a, o, e1, e2, h⟩
  · cases h; rfl
  · cases h
theorem RpB.lst {ds : List PyData} (h : RpB K F H v (.list ds)) (s : Same F H) : ∃ a xs, v = .ref a ∧ SqL K H a xs ∧ RpA K F xs ds := by
  rcases h with h | ⟨a, o, e1, e2, h⟩
  · cases h with
    | lst q r => exact ⟨_, _, rfl, s.seq q, r⟩
  · cases h with
    | lst r => exact ⟨a, _, e1, .inl (.inl e2), r⟩
theorem RpB.tup {ds : List PyData} (h : RpB K F H v (.tuple ds)) (s : Same F H) : ∃ a xs, v = .ref a ∧ SqT K H a xs ∧ RpA K F xs ds := by
  rcases h with h | ⟨a, o, e1, e2, h⟩
  · cases h with
    | tup q r => exact ⟨_, _, rfl, same_tup s q, r⟩
  · cases h
end
mutual
inductive RpBA (K : KK) (F H : Hp) : List V → List PyData → Prop
  | nil : RpBA K F H [] []
  | cons {v : V} {vs : List V} {d : PyData} {ds : List PyData} : RpB K F H v d → RpBA K F H vs ds → RpBA K F H (v :: vs) (d :: ds)
end
theorem RpBA.ext {K : KK} {F F' H H' : Hp} (e : Ext F H F' H') : ∀ {vs : List V} {ds : List PyData}, RpBA K F H vs ds → RpBA K F' H' vs ds
  | _, _, .nil => .nil
  | _, _, .cons r t => .cons (r.ext e) (RpBA.ext e t)
theorem RpBA.full {K : KK} {F H : Hp} (s : Same F H) : ∀ {vs : List V} {ds : List PyData}, RpBA K F H vs ds → RpA K H vs ds
  | _, _, .nil => .nil
  | _, _, .cons r t => .cons (r.full s) (RpBA.full s t)
theorem RpA.ba {K : KK} {F H : Hp} : ∀ {vs : List V} {ds : List PyData}, RpA K F vs ds → RpBA K F H vs ds
  | _, _, .nil => .nil
  | _, _, .cons r t => .cons (.inl r) (RpA.ba t)

/-! ### environments -/
/-- a slot: a shared (frozen) datum, or an object that this slot alone owns -/
inductive SV where
  | sh (d : PyData)
  | ow (d : PyData)
abbrev PEnv := List (Option SV)

structure SRel (K : KK) (F0 H0 : Hp) (ρ : PEnv) (σ : L2.St) (F H : Hp) : Prop where
  ext : Ext F0 H0 F H
  len : σ.length = ρ.length
  sh : ∀ (i : Nat) d, ρ[i]? = some (some (.sh d)) → ∃ v, σ[i]? = some (some v) ∧ Rp K F v d
  ow : ∀ (i : Nat) d, ρ[i]? = some (some (.ow d)) → ∃ a o, σ[i]? = some (some (.ref a)) ∧ H a = some o ∧ OwnAt K F o d ∧ F a = none ∧ H0 a = none
  apart : ∀ (i j : Nat) d d' a, i ≠ j → ρ[i]? = some (some (.ow d)) → ρ[j]? = some (some (.ow d')) → σ[i]? = some (some (.ref a)) → σ[j]? = some (some (.ref a)) → False
section
variable {K : KK} {F0 H0 F H F' H' : Hp} {ρ ρ' : PEnv} {σ : L2.St}
/-- behind an expression -/
theorem SRel.go (S : SRel K F0 H0 ρ σ F H) (e : Ext F H F' H') : SRel K F0 H0 ρ σ F' H' where
  ext := S.ext.trans e
  len := S.len
  sh := fun i d h => let ⟨v, h1, h2⟩ := S.sh i d h; ⟨v, h1, h2.mono e.fs⟩
  ow := fun i d h => by
    obtain ⟨a, o, h1, h2, h3, h4, h5⟩ := S.ow i d h
    refine ⟨a, o, h1, e.hs _ _ h2, h3.mono e.fs, ?_, h5⟩
    cases q : F' a with
    | none => rfl
    | some u =>
      rcases e.new a u q with z | z | z
      · rw [h4] at z; cases z
      · rw [h2] at z; cases z
      · have z2 := (e.hs _ _ h2).symm.trans (e.sub _ _ q)
        cases z2
        cases h3 <;> cases z
  apart := S.apart
/-- a slot set to a shared datum -/
theorem SRel.put (S : SRel K F0 H0 ρ σ F H) {i : Nat} {v : V} {d : PyData} (r : Rp K F v d) : SRel K F0 H0 (ρ.set i (some (.sh d))) (σ.set i (some v)) F H where
  ext := S.ext
  len := by rw [List.length_set, List.length_set, S.len]
  sh := fun j d' h => by
    by_cases hj : i = j
    · subst hj
      by_cases hl : i < ρ.length
      · rw [List.getElem?_set_self hl] at h
        cases h
        exact ⟨v, List.getElem?_set_self (by rw [S.len]; exact hl), r⟩
      · rw [List.getElem?_eq_none (by simpa using hl)] at h; cases h
    · rw [List.getElem?_set_ne hj] at h ⊢
      exact S.sh j d' h
  ow := fun j d' h => by
    by_cases hj : i = j
    · subst hj
      by_cases hl : i < ρ.length
      · rw [List.getElem?_set_self hl] at h; cases h
      · rw [List.getElem?_eq_none (by simpa using hl)] at h; cases h
    · rw [List.getElem?_set_ne hj] at h ⊢
      exact S.ow j d' h
  apart := fun j k d1 d2 a hjk h1 h2 h3 h4 => by
    have nj : i ≠ j := fun e => by
      subst e
      by_cases hl : i < ρ.length
      · rw [List.getElem?_set_self hl] at h1; cases h1
      · rw [List.getElem?_eq_none (by simpa using hl)] at h1; cases h1
    have nk : i ≠ k := fun e => by
      subst e
      by_cases hl : i < ρ.length
      · rw [List.getElem?_set_self hl] at h2; cases h2
      · rw [List.getElem?_eq_none (by simpa using hl)] at h2; cases h2
    rw [List.getElem?_set_ne nj] at h1 h3
    rw [List.getElem?_set_ne nk] at h2 h4
    exact S.apart j k d1 d2 a hjk h1 h2 h3 h4
/-- a slot set to a new object that it owns -/
theorem SRel.own (S : SRel K F0 H0 ρ σ F H) (e : Ext F H F' H') {i : Nat} {a : Addr} {o : HO} {d : PyData} (hn : H a = none) (ha : H' a = some o) (hf : F' a = none) (r : OwnAt K F' o d) :
    SRel K F0 H0 (ρ.set i (some (.ow d))) (σ.set i (some (.ref a))) F' H' := by
  have S' := S.go e
  have old : ∀ (j : Nat) (d' : PyData), ρ[j]? = some (some (.ow d')) → σ[j]? = some (some (.ref a)) → False := fun j d' h1 h2 => by
    obtain ⟨b, u, q1, q2, _⟩ := S.ow j d' h1
    rw [q1] at h2
    cases h2
    rw [hn] at q2; cases q2
  refine ⟨S'.ext, by rw [List.length_set, List.length_set, S.len], fun j d' h => ?_, fun j d' h => ?_, fun j k d1 d2 b hjk h1 h2 h3 h4 => ?_⟩
  · by_cases hj : i = j
    · subst hj
      by_cases hl : i < ρ.length
      · rw [List.getElem?_set_self hl] at h; cases h
      · rw [List.getElem?_eq_none (by simpa using hl)] at h; cases h
    · rw [List.getElem?_set_ne hj] at h ⊢
      exact S'.sh j d' h
  · by_cases hj : i = j
    · subst hj
      by_cases hl : i < ρ.length
      · rw [List.getElem?_set_self hl] at h
        cases h
        exact ⟨a, o, List.getElem?_set_self (by rw [S.len]; exact hl), ha, r, hf, S.ext.hs.free hn⟩
      · rw [List.getElem?_eq_none (by simpa using hl)] at h; cases h
    · rw [List.getElem?_set_ne hj] at h ⊢
      exact S'.ow j d' h
  · have hl : ∀ (k : Nat) d, (ρ.set i (some (.ow d)))[k]? = none ∨ k < ρ.length := fun k d => by
      by_cases z : k < ρ.length
      · exact .inr z
      · exact .inl (List.getElem?_eq_none (by simpa using z))
    by_cases hj : i = j
    · subst hj
      have hk : i ≠ k := hjk
      rw [List.getElem?_set_ne hk] at h2 h4
      have li : i < ρ.length := by
        rcases hl i d with z | z
        · rw [z] at h1; cases h1
        · exact z
      rw [List.getElem?_set_self (by rw [S.len]; exact li)] at h3
      cases h3
      exact old k d2 h2 h4
    · rw [List.getElem?_set_ne hj] at h1 h3
      by_cases hk : i = k
      · subst hk
        have li : i < ρ.length := by
          rcases hl i d with z | z
          · rw [z] at h2; cases h2
          · exact z
        rw [List.getElem?_set_self (by rw [S.len]; exact li)] at h4
        cases h4
        exact old j d1 h1 h3
      · rw [List.getElem?_set_ne hk] at h2 h4
        exact S.apart j k d1 d2 b hjk h1 h2 h3 h4
/-- the object of an owned slot changed -/
theorem SRel.mut (S : SRel K F0 H0 ρ σ F H) {i : Nat} {a : Addr} {o : HO} {d d' : PyData} (h : ρ[i]? = some (some (.ow d))) (hs : σ[i]? = some (some (.ref a))) (r : OwnAt K F o d') :
    SRel K F0 H0 (ρ.set i (some (.ow d'))) σ F (upd H a o) := by
  obtain ⟨b, u, q1, q2, q3, q4, q5⟩ := S.ow i d h
  rw [hs] at q1
  cases q1
  have li : i < ρ.length := (List.getElem?_eq_some_iff.mp h).1
  have ow' : ∀ (j : Nat) (e : PyData), (ρ.set i (some (.ow d')))[j]? = some (some (.ow e)) → ∃ e', ρ[j]? = some (some (.ow e')) := fun j e q => by
    by_cases hj : i = j
    · subst hj; exact ⟨d, h⟩
    · rw [List.getElem?_set_ne hj] at q; exact ⟨e, q⟩
  refine ⟨⟨fun b x e => ?_, S.ext.fs, fun b x e => ?_, S.ext.new⟩, by rw [List.length_set]; exact S.len, fun j e q => ?_, fun j e q => ?_, fun j k d1 d2 b hjk h1 h2 h3 h4 => ?_⟩
  · rw [upd_ne (ne_of_none e q5)]; exact S.ext.hs _ _ e
  · rw [upd_ne (ne_of_none e q4)]; exact S.ext.sub _ _ e
  · by_cases hj : i = j
    · subst hj; rw [List.getElem?_set_self li] at q; cases q
    · rw [List.getElem?_set_ne hj] at q; exact S.sh j e q
  · by_cases hj : i = j
    · subst hj
      rw [List.getElem?_set_self li] at q
      cases q
      exact ⟨a, o, hs, upd_same, r, q4, q5⟩
    · rw [List.getElem?_set_ne hj] at q
      obtain ⟨b, u', p1, p2, p3, p4, p5⟩ := S.ow j e q
      have nb : b ≠ a := fun z => by
        subst z
        exact S.apart i j d e b hj h q hs p1
      exact ⟨b, u', p1, by rw [upd_ne nb]; exact p2, p3, p4, p5⟩
  · obtain ⟨e1, z1⟩ := ow' j d1 h1
    obtain ⟨e2, z2⟩ := ow' k d2 h2
    exact S.apart j k e1 e2 b hjk z1 z2 h3 h4
/-- an environment that claims less: slots forgotten, owned ones frozen -/
inductive Cov : PEnv → PEnv → Prop
  | nil : Cov [] []
  | keep {x : Option SV} {ρ ρ' : PEnv} : Cov ρ ρ' → Cov (x :: ρ) (x :: ρ')
  | drop {x : Option SV} {ρ ρ' : PEnv} : Cov ρ ρ' → Cov (x :: ρ) (none :: ρ')
  | frz {d : PyData} {ρ ρ' : PEnv} : Cov ρ ρ' → Cov (some (.ow d) :: ρ) (some (.sh d) :: ρ')
theorem Cov.refl : ∀ ρ : PEnv, Cov ρ ρ
  | [] => .nil
  | _ :: ρ => .keep (Cov.refl ρ)
theorem Cov.length : ∀ {ρ ρ' : PEnv}, Cov ρ ρ' → ρ.length = ρ'.length
  | _, _, .nil => rfl
  | _, _, .keep c => congrArg (· + 1) (Cov.length c)
  | _, _, .drop c => congrArg (· + 1) (Cov.length c)
  | _, _, .frz c => congrArg (· + 1) (Cov.length c)
theorem Cov.sh : ∀ {ρ ρ' : PEnv} {i : Nat} {d : PyData}, Cov ρ ρ' → ρ'[i]? = some (some (.sh d)) → ρ[i]? = some (some (.sh d)) ∨ ρ[i]? = some (some (.ow d))
  | _, _, 0, _, .keep _, h => .inl (by simpa using h)
  | _, _, 0, _, .drop _, h => by simp at h
  | _, _, 0, _, .frz _, h => by simp at h; subst h; exact .inr rfl
  | _, _, i + 1, d, .keep c, h => by simpa using Cov.sh (i := i) (d := d) c (by simpa using h)
  | _, _, i + 1, d, .drop c, h => by simpa using Cov.sh (i := i) (d := d) c (by simpa using h)
  | _, _, i + 1, d, .frz c, h => by simpa using Cov.sh (i := i) (d := d) c (by simpa using h)
theorem Cov.ow : ∀ {ρ ρ' : PEnv} {i : Nat} {d : PyData}, Cov ρ ρ' → ρ'[i]? = some (some (.ow d)) → ρ[i]? = some (some (.ow d))
  | _, _, 0, _, .keep _, h => by simpa using h
  | _, _, 0, _, .drop _, h => by simp at h
  | _, _, 0, _, .frz _, h => by simp at h
  | _, _, i + 1, d, .keep c, h => by simpa using Cov.ow (i := i) (d := d) c (by simpa using h)
  | _, _, i + 1, d, .drop c, h => by simpa using Cov.ow (i := i) (d := d) c (by simpa using h)
  | _, _, i + 1, d, .frz c, h => by simpa using Cov.ow (i := i) (d := d) c (by simpa using h)
/-- the owned slots that ρ' has as shared ones, frozen -/
noncomputable def frzH (ρ ρ' : PEnv) (σ : L2.St) (F H : Hp) : Hp := fun a =>
  open Classical in if ∃ (i : Nat) (d : PyData), ρ[i]? = some (some (.ow d)) ∧ ρ'[i]? = some (some (.sh d)) ∧ σ[i]? = some (some (.ref a)) then H a else F a
theorem SRel.weak (S : SRel K F0 H0 ρ σ F H) (c : Cov ρ ρ') : ∃ F', Same F F' ∧ SRel K F0 H0 ρ' σ F' H := by
  have hF : ∀ a, frzH ρ ρ' σ F H a = F a ∨ (frzH ρ ρ' σ F H a = H a ∧ F a = none ∧ H0 a = none ∧ (∃ o, H a = some o) ∧ ∃ (i : Nat) (d : PyData), ρ[i]? = some (some (.ow d)) ∧ ρ'[i]? = some (some (.sh d)) ∧ σ[i]? = some (some (.ref a))) := fun a => by
    unfold frzH
    split
    · rename_i h
      obtain ⟨i, d, h1, h2, h3⟩ := h
      obtain ⟨b, u, q1, q2, _, q4, q5⟩ := S.ow i d h1
      rw [h3] at q1
      cases q1
      exact .inr ⟨rfl, q4, q5, ⟨u, q2⟩, i, d, h1, h2, h3⟩
    · exact .inl rfl
  have sF : Same F (frzH ρ ρ' σ F H) := fun a o e => by
    rcases hF a with z | ⟨_, z, _⟩
    · rw [z]; exact e
    · rw [e] at z; cases z
  refine ⟨frzH ρ ρ' σ F H, sF, ⟨⟨S.ext.hs, S.ext.fs.trans sF, fun a o e => ?_, fun a o e => ?_⟩, S.len.trans c.length, fun i d h => ?_, fun i d h => ?_, fun i j d d' a hij h1 h2 h3 h4 => ?_⟩⟩
  · rcases hF a with z | ⟨z, _⟩
    · rw [z] at e; exact S.ext.sub _ _ e
    · rw [z] at e; exact e
  · rcases hF a with z | ⟨_, _, z, _⟩
    · rw [z] at e; exact S.ext.new _ _ e
    · exact .inr (.inl z)
  · rcases c.sh h with q | q
    · obtain ⟨v, h1, h2⟩ := S.sh i d q
      exact ⟨v, h1, h2.mono sF⟩
    · obtain ⟨a, o, h1, h2, h3, h4, h5⟩ := S.ow i d q
      refine ⟨_, h1, h3.rp sF ?_⟩
      unfold frzH
      rw [if_pos ⟨i, d, q, h, h1⟩]
      exact h2
  · have q := c.ow h
    obtain ⟨a, o, h1, h2, h3, h4, h5⟩ := S.ow i d q
    refine ⟨a, o, h1, h2, h3.mono sF, ?_, h5⟩
    rcases hF a with z | ⟨_, _, _, _, j, e, p1, p2, p3⟩
    · rw [z]; exact h4
    · exfalso
      by_cases hij : i = j
      · subst hij
        rw [h] at p2; cases p2
      · exact S.apart i j d e a hij q p1 h1 p3
  · exact S.apart i j d d' a hij (c.ow h1) (c.ow h2) h3 h4
end
end Pl
/-! Pl, part B: contexts; expressions that evaluate to plain data. -/
namespace Pl
open PySem PySem.Spec PyProof.Rows L2

structure Gb where
  P : Program
  w : World
  K : KK
  mg : Str → Option Value
  base : Heap
/-- the names by slot, the scope, the names that may be stored through cells -/
structure SC where
  N : List Str
  sc : Scope
  fs : Str → Bool
structure CxOk (G : Gb) (C : SC) (k : Nat) (X : Cx) : Prop where
  eP : X.prog = G.P
  ew : X.w = G.w
  eK : X.K = G.K
  em : X.mg = G.mg
  eb : X.base = G.base
  eN : X.N = C.N
  es : X.env.scope = C.sc
  calm : X.calm = true
  room : Room k X.A
  nd : C.N.Nodup
  fn : ∀ x, C.fs x = true → X.fn x = true
  xe : X.xe = fun _ _ => False

def tEv (K : KK) (ρ : PEnv) (d : PyData) : TE := fun σ H Q => ∃ F0 H0 F, SRel K F0 H0 ρ σ F H ∧ ∀ v F' H', Ext F H F' H' → Rp K F' v d → Q v H'
def tEvB (K : KK) (ρ : PEnv) (d : PyData) : TE := fun σ H Q => ∃ F0 H0 F, SRel K F0 H0 ρ σ F H ∧ ∀ v F' H', Ext F H F' H' → RpB K F' H' v d → Q v H'
def tEvN (K : KK) (ρ : PEnv) (d : PyData) : TE := fun σ H Q => ∃ F0 H0 F, SRel K F0 H0 ρ σ F H ∧ ∀ a o F' H', Ext F H F' H' → H a = none → H' a = some o → F' a = none → OwnAt K F' o d → Q (.ref a) H'
def tTe (K : KK) (ρ : PEnv) (b : Bool) : TT := fun σ H Q => ∃ F0 H0 F, SRel K F0 H0 ρ σ F H ∧ ∀ F' H', Ext F H F' H' → Q b H'
def tEA (K : KK) (ρ : PEnv) (ds : List PyData) : TA := fun σ H Q => ∃ F0 H0 F, SRel K F0 H0 ρ σ F H ∧ ∀ vs F' H', Ext F H F' H' → RpA K F' vs ds → Q vs H'
def tEAB (K : KK) (ρ : PEnv) (ds : List PyData) : TA := fun σ H Q => ∃ F0 H0 F, SRel K F0 H0 ρ σ F H ∧ ∀ vs F' H', Ext F H F' H' → RpBA K F' H' vs ds → Q vs H'

section
variable (G : Gb) (C : SC) (k : Nat) (ρ : PEnv)
/-- e evaluates to the datum d -/
def Ev (e : Expr) (d : PyData) : Prop := ∀ X, CxOk G C k X → PE X e (tEv G.K ρ d)
def EvB (e : Expr) (d : PyData) : Prop := ∀ X, CxOk G C k X → PE X e (tEvB G.K ρ d)
/-- e evaluates to a new object with the content d -/
def EvN (e : Expr) (d : PyData) : Prop := ∀ X, CxOk G C k X → PE X e (tEvN G.K ρ d)
def Te (e : Expr) (b : Bool) : Prop := ∀ X, CxOk G C k X → PT X e (tTe G.K ρ b)
def Tw (e : Expr) (b : Bool) : Prop := ∀ X, CxOk G C k X → PW X e (tTe G.K ρ b)
def EA (es : List Expr) (ds : List PyData) : Prop := ∀ X, CxOk G C k X → PA X es (tEA G.K ρ ds)
def EAB (es : List Expr) (ds : List PyData) : Prop := ∀ X, CxOk G C k X → PA X es (tEAB G.K ρ ds)
/-- an operator on data -/
def OpOk (f : Value → Value → Sem Value) (d e r : PyData) : Prop := ∀ X, CxOk G C k X → OpR X f fun x y H Q => ∃ F, Same F H ∧ RpB G.K F H x d ∧ RpB G.K F H y e ∧ ∀ v F' H', Ext F H F' H' → Rp G.K F' v r → Q v H'
def OpNew (f : Value → Value → Sem Value) (d e r : PyData) : Prop := ∀ X, CxOk G C k X → OpR X f fun x y H Q => ∃ F, Same F H ∧ RpB G.K F H x d ∧ RpB G.K F H y e ∧ ∀ a o F' H', Ext F H F' H' → H a = none → H' a = some o → F' a = none → OwnAt G.K F' o r → Q (.ref a) H'
def UnOk (f : Value → Sem Value) (d r : PyData) : Prop := ∀ X, CxOk G C k X → UnR X f fun x H Q => ∃ F, Same F H ∧ RpB G.K F H x d ∧ ∀ v F' H', Ext F H F' H' → Rp G.K F' v r → Q v H'
/-- a call of a built-in by values -/
def CallOk (f : Value) (ds : List PyData) (r : PyData) : Prop := ∀ X, CxOk G C k X → CallR X f fun xs H Q => ∃ F, Same F H ∧ RpBA G.K F H xs ds ∧ ∀ v F' H', Ext F H F' H' → Rp G.K F' v r → Q v H'
def CallNew (f : Value) (ds : List PyData) (r : PyData) : Prop := ∀ X, CxOk G C k X → CallR X f fun xs H Q => ∃ F, Same F H ∧ RpBA G.K F H xs ds ∧ ∀ a o F' H', Ext F H F' H' → H a = none → H' a = some o → F' a = none → OwnAt G.K F' o r → Q (.ref a) H'
end

section
variable {X : Cx} {e : Expr}
theorem pe_imp {t t' : TE} (h : PE X e t) (i : ∀ σ H Q, t' σ H Q → t σ H Q) : PE X e t' := ⟨fun pins s σ H Q I q => h.run pins s σ H Q I (i σ H Q q)⟩
theorem pt_imp {t t' : TT} (h : PT X e t) (i : ∀ σ H Q, t' σ H Q → t σ H Q) : PT X e t' := ⟨fun pins s σ H Q I q => h.run pins s σ H Q I (i σ H Q q)⟩
theorem pw_imp {t t' : TT} (h : PW X e t) (i : ∀ σ H Q, t' σ H Q → t σ H Q) : PW X e t' := ⟨fun w pins s σ H Q I q => h.run w pins s σ H Q I (i σ H Q q)⟩
theorem pa_imp {es : List Expr} {t t' : TA} (h : PA X es t) (i : ∀ σ H Q, t' σ H Q → t σ H Q) : PA X es t' := ⟨fun p pins s σ H Q I q => h.run p pins s σ H Q I (i σ H Q q)⟩
theorem op_imp {f : Value → Value → Sem Value} {r r' : R2} (h : OpR X f r) (i : ∀ x y H Q, r' x y H Q → r x y H Q) : OpR X f r' := fun pins s σ H x y v u Q I rx ry q => h pins s σ H x y v u Q I rx ry (i x y H Q q)
theorem un_imp {f : Value → Sem Value} {r r' : V → Hp → VK → Prop} (h : UnR X f r) (i : ∀ x H Q, r' x H Q → r x H Q) : UnR X f r' := fun pins s σ H x v Q I rx q => h pins s σ H x v Q I rx (i x H Q q)
theorem call_imp {f : Value} {r r' : List V → Hp → VK → Prop} (h : CallR X f r) (i : ∀ xs H Q, r' xs H Q → r xs H Q) : CallR X f r' := fun pins s σ H xs us Q I rx q => h pins s σ H xs us Q I rx (i xs H Q q)
end

section
variable {G : Gb} {C : SC} {k : Nat} {ρ : PEnv} {e a b c : Expr} {es : List Expr} {d d' d1 d2 d3 : PyData} {ds : List PyData} {pos : Pos} {t u : Bool}
theorem Ev.toB (h : Ev G C k ρ e d) : EvB G C k ρ e d := fun X hX => pe_imp (h X hX) fun σ H Q ⟨F0, H0, F, S, q⟩ => ⟨F0, H0, F, S, fun v F' H' x r => q v F' H' x (.inl r)⟩
theorem EvN.ev (h : EvN G C k ρ e d) : Ev G C k ρ e d := fun X hX => pe_imp (h X hX) fun σ H Q ⟨F0, H0, F, S, q⟩ => ⟨F0, H0, F, S, fun a o F' H' x hn ha hf r =>
  q _ _ H' (x.freeze hn ha hf) (r.rp (same_upd hf) upd_same)⟩
/-! ### names, constants -/
theorem ev_name (i : Nat) {x : Str} (hi : C.N[i]? = some x) (hv : C.sc.names.lookup x = some .local ∨ C.sc.names.lookup x = some .cell ∨ C.sc.names.lookup x = some .free) (h : ρ[i]? = some (some (.sh d)))
    (hd : (x == ("__debug__" : Str)) = false) (hc : (x == ("__classdict__" : Str)) = false) : Ev G C k ρ (.Name x pos) d := fun X hX => by
  refine pe_imp (pe_var (i := i) (by rw [hX.eN]; exact hi) (by unfold Vis; rw [hX.es]; exact hv) hd hc) fun σ H Q ⟨F0, H0, F, S, q⟩ => ?_
  obtain ⟨v, h1, h2⟩ := S.sh i d h
  exact ⟨v, h1, q v F H (Ext.refl S.ext.sub) h2⟩
theorem evb_own (i : Nat) {x : Str} (hi : C.N[i]? = some x) (hv : C.sc.names.lookup x = some .local ∨ C.sc.names.lookup x = some .cell ∨ C.sc.names.lookup x = some .free) (h : ρ[i]? = some (some (.ow d)))
    (hd : (x == ("__debug__" : Str)) = false) (hc : (x == ("__classdict__" : Str)) = false) : EvB G C k ρ (.Name x pos) d := fun X hX => by
  refine pe_imp (pe_var (i := i) (by rw [hX.eN]; exact hi) (by unfold Vis; rw [hX.es]; exact hv) hd hc) fun σ H Q ⟨F0, H0, F, S, q⟩ => ?_
  obtain ⟨a, o, h1, h2, h3, _⟩ := S.ow i d h
  exact ⟨.ref a, h1, q _ F H (Ext.refl S.ext.sub) (.inr ⟨a, o, rfl, h2, h3⟩)⟩
theorem ev_const {v : V} (hp : ∀ X, PE X e (tC v)) (hr : ∀ K F, Rp K F v d) : Ev G C k ρ e d := fun X _ => pe_imp (hp X) fun σ H Q ⟨F0, H0, F, S, q⟩ => q v F H (Ext.refl S.ext.sub) (hr _ _)
theorem ev_int {i : Int} {j} : Ev G C k ρ (.Constant (.int i) j pos) (.int i) := ev_const (fun _ => pe_int) fun _ _ => .int i
theorem ev_bool {i : Bool} {j} : Ev G C k ρ (.Constant (.bool i) j pos) (.bool i) := ev_const (fun _ => pe_bl) fun _ _ => .bl i
theorem ev_none {j} : Ev G C k ρ (.Constant .none j pos) .none := ev_const (fun _ => pe_non) fun _ _ => .non
theorem ev_str {x : Str} {j} : Ev G C k ρ (.Constant (.str x) j pos) (.str x) := ev_const (fun _ => pe_str) fun _ _ => .str x
/-- a constant of the module -/
theorem ev_glob {x : Str} {v : V} {w : Value} (hg : C.sc.names.lookup x = some .globalImplicit) (hm : G.mg x = some w) (r : RelV v w) (hr : ∀ F, Rp G.K F v d) (hd : (x == ("__debug__" : Str)) = false) : Ev G C k ρ (.Name x pos) d := fun X hX =>
  pe_imp (pe_glob (by unfold Gl Env.kindOf; rw [hX.es]; exact hg) (by rw [hX.em]; exact hm) r hd) fun σ H Q ⟨F0, H0, F, S, q⟩ => q v F H (Ext.refl S.ext.sub) (hr _)
/-! ### operators -/
theorem ev_op {op : Operator} (ho : OpOk G C k (binaryOp op) d1 d2 d) (ha : EvB G C k ρ a d1) (hb : EvB G C k ρ b d2) : Ev G C k ρ (.BinOp a op b pos) d := fun X hX =>
  pe_imp (pe_op (ho X hX) (ha X hX) (hb X hX)) fun σ H Q ⟨F0, H0, F, S, q⟩ => ⟨F0, H0, F, S, fun x F1 H1 e1 r1 => ⟨F0, H0, F1, S.go e1, fun y F2 H2 e2 r2 => ⟨F2, e2.sub, r1.ext e2, r2, fun v F3 H3 e3 r3 => q v F3 H3 ((e1.trans e2).trans e3) r3⟩⟩⟩
theorem evn_op {op : Operator} (ho : OpNew G C k (binaryOp op) d1 d2 d) (ha : EvB G C k ρ a d1) (hb : EvB G C k ρ b d2) : EvN G C k ρ (.BinOp a op b pos) d := fun X hX =>
  pe_imp (pe_op (ho X hX) (ha X hX) (hb X hX)) fun σ H Q ⟨F0, H0, F, S, q⟩ => ⟨F0, H0, F, S, fun x F1 H1 e1 r1 => ⟨F0, H0, F1, S.go e1, fun y F2 H2 e2 r2 => ⟨F2, e2.sub, r1.ext e2, r2, fun p o F3 H3 e3 hn ha hf r3 =>
    q p o F3 H3 ((e1.trans e2).trans e3) ((e1.trans e2).hs.free hn) ha hf r3⟩⟩⟩
theorem ev_un {op : UnaryOp} (ho : UnOk G C k (unaryOp op) d1 d) (ha : EvB G C k ρ a d1) : Ev G C k ρ (.UnaryOp op a pos) d := fun X hX =>
  pe_imp (pe_un (ho X hX) (ha X hX)) fun σ H Q ⟨F0, H0, F, S, q⟩ => ⟨F0, H0, F, S, fun x F1 H1 e1 r1 => ⟨F1, e1.sub, r1, fun v F2 H2 e2 r2 => q v F2 H2 (e1.trans e2) r2⟩⟩
theorem ev_cmp {op : CmpOp} (ho : OpOk G C k (compareOp op) d1 d2 d) (ha : EvB G C k ρ a d1) (hb : EvB G C k ρ b d2) (hm : behindInMarks op b = false) : Ev G C k ρ (.Compare a [op] [b] pos) d := fun X hX =>
  pe_imp (pe_cmpR (ho X hX) (ha X hX) (hb X hX) hm) fun σ H Q ⟨F0, H0, F, S, q⟩ => ⟨F0, H0, F, S, fun x F1 H1 e1 r1 => ⟨F0, H0, F1, S.go e1, fun y F2 H2 e2 r2 => ⟨F2, e2.sub, r1.ext e2, r2, fun v F3 H3 e3 r3 => q v F3 H3 ((e1.trans e2).trans e3) r3⟩⟩⟩
theorem te_cmp {op : CmpOp} (ho : OpOk G C k (compareOp op) d1 d2 (.bool t)) (ha : EvB G C k ρ a d1) (hb : EvB G C k ρ b d2) (hm : behindInMarks op b = false) : Te G C k ρ (.Compare a [op] [b] pos) t := fun X hX =>
  pt_imp (pt_cmpR (ho X hX) (ha X hX) (hb X hX) hm) fun σ H Q ⟨F0, H0, F, S, q⟩ => ⟨F0, H0, F, S, fun x F1 H1 e1 r1 => ⟨F0, H0, F1, S.go e1, fun y F2 H2 e2 r2 => ⟨F2, e2.sub, r1.ext e2, r2, fun v F3 H3 e3 r3 => by
    cases r3
    exact ⟨t, rfl, q F3 H3 ((e1.trans e2).trans e3)⟩⟩⟩⟩
/-- a op b op c: both asked, or the first alone -/
theorem ev_chain {op op' : CmpOp} (ho : OpOk G C k (compareOp op) d1 d2 (.bool true)) (ho' : OpOk G C k (compareOp op') d2 d3 d) (ha : EvB G C k ρ a d1) (hb : EvB G C k ρ b d2) (hc : EvB G C k ρ c d3) (hm : lastMarks [op, op'] [b, c] = false) :
    Ev G C k ρ (.Compare a [op, op'] [b, c] pos) d := fun X hX =>
  pe_imp (pe_chain (ho X hX) (ho' X hX) (ha X hX) (hb X hX) (hc X hX) hm) fun σ H Q ⟨F0, H0, F, S, q⟩ => ⟨F0, H0, F, S, fun x F1 H1 e1 r1 => ⟨F0, H0, F1, S.go e1, fun y F2 H2 e2 r2 => ⟨F2, e2.sub, r1.ext e2, r2, fun v F3 H3 e3 r3 => by
    cases r3
    refine ⟨true, rfl, iteT ⟨F0, H0, F3, ((S.go e1).go e2).go e3, fun z F4 H4 e4 r4 => ⟨F4, e4.sub, (r2.ext e3).ext e4, r4, fun v F5 H5 e5 r5 => q v F5 H5 (((((e1.trans e2).trans e3).trans e4)).trans e5) r5⟩⟩⟩⟩⟩⟩
theorem ev_chainF {op op' : CmpOp} (ho : OpOk G C k (compareOp op) d1 d2 (.bool false)) (ha : EvB G C k ρ a d1) (hb : EvB G C k ρ b d2) (hc : ∀ X, CxOk G C k X → ∃ t, PE X c t) (ho' : ∀ X, CxOk G C k X → ∃ r, OpR X (compareOp op') r) (hm : lastMarks [op, op'] [b, c] = false) :
    Ev G C k ρ (.Compare a [op, op'] [b, c] pos) (.bool false) := fun X hX => by
  obtain ⟨t, hc⟩ := hc X hX
  obtain ⟨r, ho'⟩ := ho' X hX
  exact pe_imp (pe_chain (ho X hX) ho' (ha X hX) (hb X hX) hc hm) fun σ H Q ⟨F0, H0, F, S, q⟩ => ⟨F0, H0, F, S, fun x F1 H1 e1 r1 => ⟨F0, H0, F1, S.go e1, fun y F2 H2 e2 r2 => ⟨F2, e2.sub, r1.ext e2, r2, fun v F3 H3 e3 r3 => by
    cases r3
    exact ⟨false, rfl, iteF (q _ F3 H3 ((e1.trans e2).trans e3) (.bl false))⟩⟩⟩⟩
/-! ### tests -/
/-- a value as a test -/
theorem te_val (h : EvB G C k ρ e (.bool t)) (he : ∀ env whole, isTrue e env whole = (do let v ← whole; standAt e.pos; holding [v] (truthy v))) : Te G C k ρ e t := fun X hX =>
  pt_imp (pt_val (h X hX) (he _)) fun σ H Q ⟨F0, H0, F, S, q⟩ => ⟨F0, H0, F, S, fun x F1 H1 e1 r1 => by
    rw [r1.bool]
    exact ⟨t, rfl, q F1 H1 e1⟩⟩
/-- the truth of a datum -/
def truD : PyData → Option Bool
  | .none => some false
  | .bool b => some b
  | .int i => some (i != 0)
  | .list xs => some (!xs.isEmpty)
  | .tuple xs => some (!xs.isEmpty)
  | _ => none
theorem isEmpty_eq {K : KK} {F : Hp} {vs : List V} {ds : List PyData} (r : RpA K F vs ds) : vs.isEmpty = ds.isEmpty := by cases r <;> rfl
theorem te_truth (h : EvB G C k ρ e d) (ht : truD d = some t) (he : ∀ env whole, isTrue e env whole = (do let v ← whole; standAt e.pos; holding [v] (truthy v))) : Te G C k ρ e t := fun X hX => by
  refine pt_imp (pt_truth (h X hX) (he _)) fun σ H Q ⟨F0, H0, F, S, q⟩ => ⟨F0, H0, F, S, fun x F1 H1 e1 r1 => ⟨t, ?_, q F1 H1 e1⟩⟩
  rw [hX.eK]
  cases d with
  | none =>
    cases ht
    rcases r1 with r | ⟨_, _, _, _, r⟩
    · cases r; rfl
    · cases r
  | bool b =>
    cases ht
    rw [r1.bool]; rfl
  | int i =>
    cases ht
    rw [r1.int]; rfl
  | list ds =>
    cases ht
    obtain ⟨p, xs, rfl, h1, h2⟩ := r1.lst e1.sub
    exact .inl ⟨xs, h1, by rw [isEmpty_eq h2]⟩
  | tuple ds =>
    cases ht
    obtain ⟨p, xs, rfl, h1, h2⟩ := r1.tup e1.sub
    exact .inr (.inl ⟨xs, h1, by rw [isEmpty_eq h2]⟩)
  | _ => cases ht
theorem te_not (h : Te G C k ρ e t) : Te G C k ρ (.UnaryOp .Not e pos) (!t) := fun X hX => pt_imp (pt_not (h X hX)) fun σ H Q ⟨F0, H0, F, S, q⟩ => ⟨F0, H0, F, S, fun F1 H1 e1 => q F1 H1 e1⟩
theorem Tw.te (h : Tw G C k ρ e t) : Te G C k ρ e t := fun X hX => (h X hX).pt
theorem tw_and1 (h : Te G C k ρ e t) : Tw G C k ρ (.BoolOp .And [e] pos) t := fun X hX => pw_and1 (h X hX)
theorem tw_or1 (h : Te G C k ρ e t) : Tw G C k ρ (.BoolOp .Or [e] pos) t := fun X hX => pw_or1 (h X hX)
/-- a test of which nothing is known, not reached -/
def tNo : TT := fun _ _ _ => False
theorem pt_no {X : Cx} : PT X e tNo := ⟨fun _ _ _ _ _ _ h => h.elim⟩
theorem pw_no {X : Cx} : PW X e tNo := ⟨fun _ _ _ _ _ _ _ h => h.elim⟩
def tNoE : TE := fun _ _ _ => False
theorem pe_no {X : Cx} : PE X e tNoE := ⟨fun _ _ _ _ _ _ h => h.elim⟩
theorem tw_andT {rest : List Expr} (ha : Te G C k ρ a true) (hb : Tw G C k ρ (.BoolOp .And (b :: rest) pos) t) : Tw G C k ρ (.BoolOp .And (a :: b :: rest) pos) t := fun X hX =>
  pw_imp (pw_and (ha X hX) (hb X hX)) fun σ H Q ⟨F0, H0, F, S, q⟩ => ⟨F0, H0, F, S, fun F1 H1 e1 => iteT ⟨F0, H0, F1, S.go e1, fun F2 H2 e2 => q F2 H2 (e1.trans e2)⟩⟩
theorem tw_andF {rest : List Expr} (ha : Te G C k ρ a false) : Tw G C k ρ (.BoolOp .And (a :: b :: rest) pos) false := fun X hX =>
  pw_imp (pw_and (ha X hX) pw_no) fun σ H Q ⟨F0, H0, F, S, q⟩ => ⟨F0, H0, F, S, fun F1 H1 e1 => iteF (q F1 H1 e1)⟩
theorem tw_orF {rest : List Expr} (ha : Te G C k ρ a false) (hb : Tw G C k ρ (.BoolOp .Or (b :: rest) pos) t) : Tw G C k ρ (.BoolOp .Or (a :: b :: rest) pos) t := fun X hX =>
  pw_imp (pw_or (ha X hX) (hb X hX)) fun σ H Q ⟨F0, H0, F, S, q⟩ => ⟨F0, H0, F, S, fun F1 H1 e1 => iteF ⟨F0, H0, F1, S.go e1, fun F2 H2 e2 => q F2 H2 (e1.trans e2)⟩⟩
theorem tw_orT {rest : List Expr} (ha : Te G C k ρ a true) : Tw G C k ρ (.BoolOp .Or (a :: b :: rest) pos) true := fun X hX =>
  pw_imp (pw_or (ha X hX) pw_no) fun σ H Q ⟨F0, H0, F, S, q⟩ => ⟨F0, H0, F, S, fun F1 H1 e1 => iteT (q F1 H1 e1)⟩
/-! ### and, or, not as values (bools) -/
theorem ev_one {op} (h : Ev G C k ρ e d) : Ev G C k ρ (.BoolOp op [e] pos) d := fun X hX => pe_one (h X hX)
theorem ev_andT {rest : List Expr} (ha : Ev G C k ρ a (.bool true)) (hb : Ev G C k ρ (.BoolOp .And (b :: rest) pos) d) : Ev G C k ρ (.BoolOp .And (a :: b :: rest) pos) d := fun X hX =>
  pe_imp (pe_and (ha X hX) (hb X hX)) fun σ H Q ⟨F0, H0, F, S, q⟩ => ⟨F0, H0, F, S, fun x F1 H1 e1 r1 => by cases r1; exact ⟨true, rfl, iteT ⟨F0, H0, F1, S.go e1, fun v F2 H2 e2 r2 => q v F2 H2 (e1.trans e2) r2⟩⟩⟩
theorem ev_andF {rest : List Expr} (ha : Ev G C k ρ a (.bool false)) : Ev G C k ρ (.BoolOp .And (a :: b :: rest) pos) (.bool false) := fun X hX =>
  pe_imp (pe_and (ha X hX) pe_no) fun σ H Q ⟨F0, H0, F, S, q⟩ => ⟨F0, H0, F, S, fun x F1 H1 e1 r1 => by cases r1; exact ⟨false, rfl, iteF (q _ F1 H1 e1 (.bl false))⟩⟩
theorem ev_orF {rest : List Expr} (ha : Ev G C k ρ a (.bool false)) (hb : Ev G C k ρ (.BoolOp .Or (b :: rest) pos) d) : Ev G C k ρ (.BoolOp .Or (a :: b :: rest) pos) d := fun X hX =>
  pe_imp (pe_or (ha X hX) (hb X hX)) fun σ H Q ⟨F0, H0, F, S, q⟩ => ⟨F0, H0, F, S, fun x F1 H1 e1 r1 => by cases r1; exact ⟨false, rfl, iteF ⟨F0, H0, F1, S.go e1, fun v F2 H2 e2 r2 => q v F2 H2 (e1.trans e2) r2⟩⟩⟩
theorem ev_orT {rest : List Expr} (ha : Ev G C k ρ a (.bool true)) : Ev G C k ρ (.BoolOp .Or (a :: b :: rest) pos) (.bool true) := fun X hX =>
  pe_imp (pe_or (ha X hX) pe_no) fun σ H Q ⟨F0, H0, F, S, q⟩ => ⟨F0, H0, F, S, fun x F1 H1 e1 r1 => by cases r1; exact ⟨true, rfl, iteT (q _ F1 H1 e1 (.bl true))⟩⟩
theorem ev_notB (ha : Ev G C k ρ a (.bool t)) : Ev G C k ρ (.UnaryOp .Not a pos) (.bool (!t)) := fun X hX =>
  pe_imp (pe_not (ha X hX)) fun σ H Q ⟨F0, H0, F, S, q⟩ => ⟨F0, H0, F, S, fun x F1 H1 e1 r1 => by cases r1; exact ⟨t, rfl, q _ F1 H1 e1 (.bl _)⟩⟩
theorem ev_ifT (hc : Te G C k ρ c true) (ha : Ev G C k ρ a d) : Ev G C k ρ (.IfExp c a b pos) d := fun X hX =>
  pe_imp (pe_ifExp (hc X hX) (ha X hX) pe_no) fun σ H Q ⟨F0, H0, F, S, q⟩ => ⟨F0, H0, F, S, fun F1 H1 e1 => iteT ⟨F0, H0, F1, S.go e1, fun v F2 H2 e2 r2 => q v F2 H2 (e1.trans e2) r2⟩⟩
theorem ev_ifF (hc : Te G C k ρ c false) (hb : Ev G C k ρ b d) : Ev G C k ρ (.IfExp c a b pos) d := fun X hX =>
  pe_imp (pe_ifExp (hc X hX) pe_no (hb X hX)) fun σ H Q ⟨F0, H0, F, S, q⟩ => ⟨F0, H0, F, S, fun F1 H1 e1 => iteF ⟨F0, H0, F1, S.go e1, fun v F2 H2 e2 r2 => q v F2 H2 (e1.trans e2) r2⟩⟩
/-! ### argument lists, displays -/
theorem ea_nil : EA G C k ρ [] [] := fun X hX => pa_imp pa_nil fun σ H Q ⟨F0, H0, F, S, q⟩ => q [] F H (Ext.refl S.ext.sub) .nil
theorem ea_cons (ha : Ev G C k ρ e d) (hr : EA G C k ρ es ds) (hs : ∀ env, starEach (e :: es) env = (false, eval e env) :: starEach es env) : EA G C k ρ (e :: es) (d :: ds) := fun X hX =>
  pa_imp (pa_cons (ha X hX) (hr X hX) (hs _)) fun σ H Q ⟨F0, H0, F, S, q⟩ => ⟨F0, H0, F, S, fun v F1 H1 e1 r1 => ⟨F0, H0, F1, S.go e1, fun vs F2 H2 e2 r2 => q _ F2 H2 (e1.trans e2) (.cons (r1.mono e2.fs) r2)⟩⟩
theorem eab_nil : EAB G C k ρ [] [] := fun X hX => pa_imp pa_nil fun σ H Q ⟨F0, H0, F, S, q⟩ => q [] F H (Ext.refl S.ext.sub) .nil
theorem eab_cons (ha : EvB G C k ρ e d) (hr : EAB G C k ρ es ds) (hs : ∀ env, starEach (e :: es) env = (false, eval e env) :: starEach es env) : EAB G C k ρ (e :: es) (d :: ds) := fun X hX =>
  pa_imp (pa_cons (ha X hX) (hr X hX) (hs _)) fun σ H Q ⟨F0, H0, F, S, q⟩ => ⟨F0, H0, F, S, fun v F1 H1 e1 r1 => ⟨F0, H0, F1, S.go e1, fun vs F2 H2 e2 r2 => q _ F2 H2 (e1.trans e2) (.cons (r1.ext e2) r2)⟩⟩
theorem EA.toB (h : EA G C k ρ es ds) : EAB G C k ρ es ds := fun X hX => pa_imp (h X hX) fun σ H Q ⟨F0, H0, F, S, q⟩ => ⟨F0, H0, F, S, fun vs F1 H1 e1 r1 => q vs F1 H1 e1 r1.ba⟩
theorem ev_tup {m} (h : EA G C k ρ es ds) (hl : ds.length ≤ sizeLine) : Ev G C k ρ (.Tuple es m pos) (.tuple ds) := fun X hX =>
  pe_imp (pe_tup (h X hX)) fun σ H Q ⟨F0, H0, F, S, q⟩ => ⟨F0, H0, F, S, fun vs F1 H1 e1 r1 => ⟨by rw [r1.length]; exact hl, fun p hp => q _ _ _ (e1.trans (Ext.lay e1.sub hp)) (.tup (.inl (.inl upd_same)) (r1.mono (same_upd (e1.sub.free hp))))⟩⟩
theorem evn_lst (h : EA G C k ρ es ds) (hl : ds.length ≤ sizeLine) : EvN G C k ρ (.List es pos) (.list ds) := fun X hX =>
  pe_imp (pe_lst (h X hX)) fun σ H Q ⟨F0, H0, F, S, q⟩ => ⟨F0, H0, F, S, fun vs F1 H1 e1 r1 => ⟨by rw [r1.length]; exact hl, fun p hp => q p _ F1 _ (e1.trans (Ext.put e1.sub hp)) (e1.hs.free hp) upd_same (e1.sub.free hp) (.lst r1)⟩⟩
/-! ### calls of built-ins -/
theorem ev_callB {x : Str} {id : String} {p : Pos} (hc : CallOk G C k (.builtin id) ds d) (hg : C.sc.names.lookup x = some .globalImplicit) (hm : G.mg x = none) (hv : bootBuiltins x = some (.builtin id)) (ha : EAB G C k ρ (e :: es) ds)
    (hn : x ≠ "__name__") (hdb : (x == ("__debug__" : Str)) = false) (he : ∀ env, starEach (e :: es) env = (false, eval e env) :: starEach es env) (hpl : ∀ env, (backTo pos (starEach es env)).any (·.1) = false) :
    Ev G C k ρ (.Call (.Name x p) (e :: es) [] pos) d := fun X hX =>
  pe_imp (pe_callB (hc X hX) (by unfold Gl Env.kindOf; rw [hX.es]; exact hg) (by rw [hX.em]; exact hm) hv (ha X hX) hn hdb (he _) (hpl _)) fun σ H Q ⟨F0, H0, F, S, q⟩ => ⟨F0, H0, F, S, fun vs F1 H1 e1 r1 => ⟨F1, e1.sub, r1, fun v F2 H2 e2 r2 => q v F2 H2 (e1.trans e2) r2⟩⟩
theorem evn_callB {x : Str} {id : String} {p : Pos} (hc : CallNew G C k (.builtin id) ds d) (hg : C.sc.names.lookup x = some .globalImplicit) (hm : G.mg x = none) (hv : bootBuiltins x = some (.builtin id)) (ha : EAB G C k ρ (e :: es) ds)
    (hn : x ≠ "__name__") (hdb : (x == ("__debug__" : Str)) = false) (he : ∀ env, starEach (e :: es) env = (false, eval e env) :: starEach es env) (hpl : ∀ env, (backTo pos (starEach es env)).any (·.1) = false) :
    EvN G C k ρ (.Call (.Name x p) (e :: es) [] pos) d := fun X hX =>
  pe_imp (pe_callB (hc X hX) (by unfold Gl Env.kindOf; rw [hX.es]; exact hg) (by rw [hX.em]; exact hm) hv (ha X hX) hn hdb (he _) (hpl _)) fun σ H Q ⟨F0, H0, F, S, q⟩ => ⟨F0, H0, F, S, fun vs F1 H1 e1 r1 => ⟨F1, e1.sub, r1, fun p o F2 H2 e2 hn ha hf r2 => q p o F2 H2 (e1.trans e2) (e1.hs.free hn) ha hf r2⟩⟩
theorem ev_callT {x : Str} {T : String} {p : Pos} (hc : CallOk G C k (.type T) ds d) (hg : C.sc.names.lookup x = some .globalImplicit) (hm : G.mg x = none) (hv : bootBuiltins x = some (.type T)) (ha : EAB G C k ρ (e :: es) ds)
    (hn : x ≠ "__name__") (hdb : (x == ("__debug__" : Str)) = false) (he : ∀ env, starEach (e :: es) env = (false, eval e env) :: starEach es env) (hpl : ∀ env, (backTo pos (starEach es env)).any (·.1) = false) :
    Ev G C k ρ (.Call (.Name x p) (e :: es) [] pos) d := fun X hX =>
  pe_imp (pe_callTy (hc X hX) (by unfold Gl Env.kindOf; rw [hX.es]; exact hg) (by rw [hX.em]; exact hm) hv (ha X hX) hn hdb (he _) (hpl _)) fun σ H Q ⟨F0, H0, F, S, q⟩ => ⟨F0, H0, F, S, fun vs F1 H1 e1 r1 => ⟨F1, e1.sub, r1, fun v F2 H2 e2 r2 => q v F2 H2 (e1.trans e2) r2⟩⟩
theorem evn_callT {x : Str} {T : String} {p : Pos} (hc : CallNew G C k (.type T) ds d) (hg : C.sc.names.lookup x = some .globalImplicit) (hm : G.mg x = none) (hv : bootBuiltins x = some (.type T)) (ha : EAB G C k ρ (e :: es) ds)
    (hn : x ≠ "__name__") (hdb : (x == ("__debug__" : Str)) = false) (he : ∀ env, starEach (e :: es) env = (false, eval e env) :: starEach es env) (hpl : ∀ env, (backTo pos (starEach es env)).any (·.1) = false) :
    EvN G C k ρ (.Call (.Name x p) (e :: es) [] pos) d := fun X hX =>
  pe_imp (pe_callTy (hc X hX) (by unfold Gl Env.kindOf; rw [hX.es]; exact hg) (by rw [hX.em]; exact hm) hv (ha X hX) hn hdb (he _) (hpl _)) fun σ H Q ⟨F0, H0, F, S, q⟩ => ⟨F0, H0, F, S, fun vs F1 H1 e1 r1 => ⟨F1, e1.sub, r1, fun p o F2 H2 e2 hn ha hf r2 => q p o F2 H2 (e1.trans e2) (e1.hs.free hn) ha hf r2⟩⟩
end
end Pl
/-! Pl, part C: the operators and built-ins on plain data. -/
namespace Pl
open PySem PySem.Spec PyProof.Rows L2

section
variable {G : Gb} {C : SC} {k : Nat}
/-! ### whole numbers -/
theorem ok_int2 {f : Value → Value → Sem Value} {P : Int → Int → Prop} {g : Int → Int → V} {i j : Int} {d : PyData} (h : ∀ X : Cx, OpR X f (rI P g)) (hp : P i j) (hd : ∀ K F, Rp K F (g i j) d) : OpOk G C k f (.int i) (.int j) d := fun X hX =>
  op_imp (h X) fun x y H Q ⟨F, sF, rx, ry, q⟩ => ⟨i, j, rx.int, ry.int, hp, q _ F H (Ext.refl sF) (hd _ _)⟩
theorem ok_int0 {f : Value → Value → Sem Value} {g : Int → Int → V} {i j : Int} {d : PyData} (h : ∀ X : Cx, OpR X f (rI0 g)) (hd : ∀ K F, Rp K F (g i j) d) : OpOk G C k f (.int i) (.int j) d := fun X hX =>
  op_imp (h X) fun x y H Q ⟨F, sF, rx, ry, q⟩ => ⟨i, j, rx.int, ry.int, q _ F H (Ext.refl sF) (hd _ _)⟩
theorem ok_add {i j : Int} : OpOk G C k (binaryOp .Add) (.int i) (.int j) (.int (i + j)) := ok_int0 (fun _ => op_add) fun _ _ => .int _
theorem ok_sub {i j : Int} : OpOk G C k (binaryOp .Sub) (.int i) (.int j) (.int (i - j)) := ok_int0 (fun _ => op_sub) fun _ _ => .int _
/-- a product's size -/
def MulOk (i j : Int) : Prop := CMul i j ∨ CMulW i j
theorem ok_mul {i j : Int} (h : MulOk i j) : OpOk G C k (binaryOp .Mult) (.int i) (.int j) (.int (i * j)) := by
  rcases h with h | h
  · exact ok_int2 (fun _ => op_mul) h fun _ _ => .int _
  · exact ok_int2 (fun _ => op_mulW) h fun _ _ => .int _
def DivOk (i j : Int) : Prop := 0 < j ∧ (j < 1073741824 ∨ j.natAbs.log2 < 9000)
theorem ok_fdiv {i j : Int} (h : DivOk i j) : OpOk G C k (binaryOp .FloorDiv) (.int i) (.int j) (.int (i / j)) := by
  obtain ⟨h0, h | h⟩ := h
  · exact ok_int2 (P := CDiv) (fun _ => op_fdiv) ⟨h0, h⟩ fun _ _ => .int _
  · exact ok_int2 (P := CDivW) (fun _ => op_fdivW) ⟨h0, h⟩ fun _ _ => .int _
theorem ok_fdivN {i j : Int} (h : j ≠ 0 ∧ j.natAbs < 1073741824) : OpOk G C k (binaryOp .FloorDiv) (.int i) (.int j) (.int (i.fdiv j)) := ok_int2 (fun _ => op_fdivN) h fun _ _ => .int _
theorem ok_mod {i j : Int} (h : 0 < j) : OpOk G C k (binaryOp .Mod) (.int i) (.int j) (.int (i % j)) := ok_int2 (fun _ => op_mod) h fun _ _ => .int _
theorem ok_modN {i j : Int} (h : j ≠ 0) : OpOk G C k (binaryOp .Mod) (.int i) (.int j) (.int (i.fmod j)) := ok_int2 (fun _ => op_modN) h fun _ _ => .int _
theorem ok_pow {i j : Int} (h : CPow i j) : OpOk G C k (binaryOp .Pow) (.int i) (.int j) (.int (i ^ j.toNat)) := ok_int2 (fun _ => op_pow) h fun _ _ => .int _
theorem ok_shl {i j : Int} (h : CPow i j) : OpOk G C k (binaryOp .LShift) (.int i) (.int j) (.int (i * 2 ^ j.toNat)) := ok_int2 (fun _ => op_shl) h fun _ _ => .int _
theorem ok_shr {i j : Int} (h : 0 ≤ j) : OpOk G C k (binaryOp .RShift) (.int i) (.int j) (.int (i / 2 ^ j.toNat)) := ok_int2 (fun _ => op_shr) h fun _ _ => .int _
theorem ok_and {i j : Int} : OpOk G C k (binaryOp .BitAnd) (.int i) (.int j) (.int (Builtin.bitAnd i j)) := ok_int0 (fun _ => op_and) fun _ _ => .int _
theorem ok_or {i j : Int} : OpOk G C k (binaryOp .BitOr) (.int i) (.int j) (.int (Builtin.bitOr i j)) := ok_int0 (fun _ => op_or) fun _ _ => .int _
theorem ok_xor {i j : Int} : OpOk G C k (binaryOp .BitXor) (.int i) (.int j) (.int (Builtin.bitXor i j)) := ok_int0 (fun _ => op_xor) fun _ _ => .int _
theorem ok_neg {i : Int} : UnOk G C k (unaryOp .USub) (.int i) (.int (-i)) := fun X hX => un_imp un_neg fun x H Q ⟨F, sF, rx, q⟩ => ⟨i, rx.int, q _ F H (Ext.refl sF) (.int _)⟩
theorem ok_inv {i : Int} : UnOk G C k (unaryOp .Invert) (.int i) (.int (Builtin.bitNot i)) := fun X hX => un_imp un_inv fun x H Q ⟨F, sF, rx, q⟩ => ⟨i, rx.int, q _ F H (Ext.refl sF) (.int _)⟩
/-! in place -/
theorem ok_iadd {i j : Int} : OpOk G C k (inplaceOp .Add) (.int i) (.int j) (.int (i + j)) := ok_int0 (fun _ => iop_add) fun _ _ => .int _
theorem ok_isub {i j : Int} : OpOk G C k (inplaceOp .Sub) (.int i) (.int j) (.int (i - j)) := ok_int0 (fun _ => iop_sub) fun _ _ => .int _
theorem ok_imul {i j : Int} (h : CMul i j) : OpOk G C k (inplaceOp .Mult) (.int i) (.int j) (.int (i * j)) := ok_int2 (fun _ => iop_mul) h fun _ _ => .int _
theorem ok_ifdiv {i j : Int} (h : CDiv i j) : OpOk G C k (inplaceOp .FloorDiv) (.int i) (.int j) (.int (i / j)) := ok_int2 (fun _ => iop_fdiv) h fun _ _ => .int _
theorem ok_imod {i j : Int} (h : 0 < j) : OpOk G C k (inplaceOp .Mod) (.int i) (.int j) (.int (i % j)) := ok_int2 (fun _ => iop_mod) h fun _ _ => .int _
theorem ok_ior {i j : Int} : OpOk G C k (inplaceOp .BitOr) (.int i) (.int j) (.int (Builtin.bitOr i j)) := ok_int0 (fun _ => iop_or) fun _ _ => .int _
theorem ok_ixor {i j : Int} : OpOk G C k (inplaceOp .BitXor) (.int i) (.int j) (.int (Builtin.bitXor i j)) := ok_int0 (fun _ => iop_xor) fun _ _ => .int _
/-! ### comparisons -/
theorem ok_lt {i j : Int} : OpOk G C k (compareOp .Lt) (.int i) (.int j) (.bool (decide (i < j))) := ok_int0 (fun _ => op_lt) fun _ _ => .bl _
theorem ok_le {i j : Int} : OpOk G C k (compareOp .LtE) (.int i) (.int j) (.bool (decide (i ≤ j))) := ok_int0 (fun _ => op_le) fun _ _ => .bl _
theorem ok_gt {i j : Int} : OpOk G C k (compareOp .Gt) (.int i) (.int j) (.bool (decide (j < i))) := ok_int0 (fun _ => op_gt) fun _ _ => .bl _
theorem ok_ge {i j : Int} : OpOk G C k (compareOp .GtE) (.int i) (.int j) (.bool (decide (j ≤ i))) := ok_int0 (fun _ => op_ge) fun _ _ => .bl _
/-- what can be compared by == at any depth -/
def Eqb (d : PyData) : Prop := noDct d = true ∧ SeqAt.shaped d = true
theorem ok_eq {d e : PyData} (hd : Eqb d) (he : Eqb e) : OpOk G C k (compareOp .Eq) d e (.bool (PyData.eqv d e)) := fun X hX => by
  refine op_imp (op_eqD hX.room.units) fun x y H Q ⟨F, sF, rx, ry, q⟩ => ?_
  rw [hX.eK]
  exact ⟨d, e, (rx.full sF).dp hd.1, (ry.full sF).dp he.1, hd.2, he.2, q _ F H (Ext.refl sF) (.bl _)⟩
theorem ok_ne {d e : PyData} (hd : Eqb d) (he : Eqb e) : OpOk G C k (compareOp .NotEq) d e (.bool (!PyData.eqv d e)) := fun X hX => by
  refine op_imp (op_neD hX.room.units) fun x y H Q ⟨F, sF, rx, ry, q⟩ => ?_
  rw [hX.eK]
  exact ⟨d, e, (rx.full sF).dp hd.1, (ry.full sF).dp he.1, hd.2, he.2, q _ F H (Ext.refl sF) (.bl _)⟩
theorem ok_eqI {i j : Int} : OpOk G C k (compareOp .Eq) (.int i) (.int j) (.bool (decide (i = j))) := fun X hX => by
  refine op_imp op_eq fun x y H Q ⟨F, sF, rx, ry, q⟩ => ?_
  rw [rx.int, ry.int]
  refine ⟨rfl, ?_⟩
  rw [dec_int, Bool.beq_eq_decide_eq]
  exact q _ F H (Ext.refl sF) (.bl _)
theorem ok_neI {i j : Int} : OpOk G C k (compareOp .NotEq) (.int i) (.int j) (.bool (decide (i ≠ j))) := fun X hX => by
  refine op_imp op_ne fun x y H Q ⟨F, sF, rx, ry, q⟩ => ?_
  rw [rx.int, ry.int]
  refine ⟨rfl, ?_⟩
  rw [dec_int, Bool.beq_eq_decide_eq, ← decide_not]
  exact q _ F H (Ext.refl sF) (.bl _)
theorem ok_eqS {i j : Str} : OpOk G C k (compareOp .Eq) (.str i) (.str j) (.bool (decide (i = j))) := fun X hX => by
  refine op_imp op_eq fun x y H Q ⟨F, sF, rx, ry, q⟩ => ?_
  rw [rx.str, ry.str]
  refine ⟨rfl, ?_⟩
  rw [dec_str, Bool.beq_eq_decide_eq]
  exact q _ F H (Ext.refl sF) (.bl _)
theorem ok_neS {i j : Str} : OpOk G C k (compareOp .NotEq) (.str i) (.str j) (.bool (decide (i ≠ j))) := fun X hX => by
  refine op_imp op_ne fun x y H Q ⟨F, sF, rx, ry, q⟩ => ?_
  rw [rx.str, ry.str]
  refine ⟨rfl, ?_⟩
  rw [dec_str, Bool.beq_eq_decide_eq, ← decide_not]
  exact q _ F H (Ext.refl sF) (.bl _)
theorem ok_eqB {i j : Bool} : OpOk G C k (compareOp .Eq) (.bool i) (.bool j) (.bool (i == j)) := fun X hX => by
  refine op_imp op_eq fun x y H Q ⟨F, sF, rx, ry, q⟩ => ?_
  rw [rx.bool, ry.bool]
  refine ⟨rfl, ?_⟩
  rw [dec_bl]
  exact q _ F H (Ext.refl sF) (.bl _)
theorem ok_neB {i j : Bool} : OpOk G C k (compareOp .NotEq) (.bool i) (.bool j) (.bool (!(i == j))) := fun X hX => by
  refine op_imp op_ne fun x y H Q ⟨F, sF, rx, ry, q⟩ => ?_
  rw [rx.bool, ry.bool]
  refine ⟨rfl, ?_⟩
  rw [dec_bl]
  exact q _ F H (Ext.refl sF) (.bl _)
theorem RpB.none {K : KK} {F H : Hp} {v : V} (h : RpB K F H v .none) : v = .non := by
  rcases h with h | ⟨a, o, e1, e2, h⟩
  · cases h; rfl
  · cases h
def isNoneD : PyData → Bool
  | .none => true
  | _ => false
theorem RpB.isNone {K : KK} {F H : Hp} {v : V} {d : PyData} (h : RpB K F H v d) : decide (v = .non) = isNoneD d := by
  rcases h with h | ⟨a, o, e1, e2, h⟩
  · cases h <;> rfl
  · subst e1; cases h <;> rfl
theorem ok_is {d : PyData} : OpOk G C k (compareOp .Is) d .none (.bool (isNoneD d)) := fun X hX => op_imp op_isN fun x y H Q ⟨F, sF, rx, ry, q⟩ => ⟨ry.none, by rw [rx.isNone]; exact q _ F H (Ext.refl sF) (.bl _)⟩
theorem ok_isnot {d : PyData} : OpOk G C k (compareOp .IsNot) d .none (.bool (!isNoneD d)) := fun X hX => op_imp op_notN fun x y H Q ⟨F, sF, rx, ry, q⟩ => ⟨ry.none, by rw [rx.isNone]; exact q _ F H (Ext.refl sF) (.bl _)⟩
/-! order of data -/
section
variable {d e : PyData}
theorem room65 {A : Around} (h : Room k A) {d e : PyData} (hd : SeqAt.shaped d = true) : A.units + min d.depth e.depth < cLine := by
  have h1 := h.units
  have h2 : d.depth ≤ 64 := of_decide_eq_true (and_r (show (d.canLay0 && decide (d.depth ≤ 64)) = true from hd))
  omega
theorem ok_cmpD {op : CmpOp} {b : Bool} (hd : Eqb d) (he : Eqb e) (h : ∀ (prog : Program) (w : World) (A : Around) (E : Value → Shared → Prop) (s : Shared) (a c : Value) (as bs : List Addr) (Q : Value → Shared → Prop), Reads s.heap a d as → Reads s.heap c e bs → A.units + min d.depth e.depth < cLine → Q (.bool b) s →
    wpAny (model prog w) A (compareOp op a c) Q E s) : OpOk G C k (compareOp op) d e (.bool b) := fun X hX => by
  intro pins s σ H x y v u Q I rx ry ⟨F, sF, bx, by_, q⟩
  rw [← hX.eK] at bx by_
  obtain ⟨as, r1⟩ := Dp.reads I d x v ((bx.full sF).dp hd.1) rx
  obtain ⟨bs, r2⟩ := Dp.reads I e y u ((by_.full sF).dp he.1) ry
  exact h _ _ _ _ _ _ _ _ _ _ r1 r2 (room65 hX.room hd.2) ⟨.bl b, H, I, rfl, q _ F H (Ext.refl sF) (.bl b)⟩
theorem ok_ltD (hd : Eqb d) (he : Eqb e) (h : PySem.W.alike d e = true) (hn : d ≠ .none) : OpOk G C k (compareOp .Lt) d e (.bool (PySem.W.dataLt d e)) := ok_cmpD hd he fun _ _ _ _ _ _ _ _ _ _ r1 r2 hu q => PySem.W.lt_data r1 r2 h hn hu q
theorem ok_gtD (hd : Eqb d) (he : Eqb e) (h : PySem.W.alike d e = true) (hn : d ≠ .none) : OpOk G C k (compareOp .Gt) d e (.bool (PySem.W.dataLt e d)) := ok_cmpD hd he fun _ _ _ _ _ _ _ _ _ _ r1 r2 hu q => PySem.W.gt_data r1 r2 h hn hu q
theorem ok_leD (hd : Eqb d) (he : Eqb e) (h : PySem.W.alike d e = true) (hn : d ≠ .none) : OpOk G C k (compareOp .LtE) d e (.bool (!PySem.W.dataLt e d)) := ok_cmpD hd he fun _ _ _ _ _ _ _ _ _ _ r1 r2 hu q => PySem.W.le_data r1 r2 h hn hu q
theorem ok_geD (hd : Eqb d) (he : Eqb e) (h : PySem.W.alike d e = true) (hn : d ≠ .none) : OpOk G C k (compareOp .GtE) d e (.bool (!PySem.W.dataLt d e)) := ok_cmpD hd he fun _ _ _ _ _ _ _ _ _ _ r1 r2 hu q => PySem.W.ge_data r1 r2 h hn hu q
end
/-! in, not in -/
theorem depth_le {d : PyData} (hd : SeqAt.shaped d = true) : d.depth ≤ 64 := of_decide_eq_true (and_r (show (d.canLay0 && decide (d.depth ≤ 64)) = true from hd))
theorem ok_inL {d : PyData} {ds : List PyData} (hd : Eqb d) (he : Eqb (.list ds)) : OpOk G C k (compareOp .In) d (.list ds) (.bool (ds.any fun z => PyData.eqv z d)) := fun X hX => by
  intro pins s σ H x y v u Q I rx ry ⟨F, sF, bx, by_, q⟩
  rw [← hX.eK] at bx by_
  obtain ⟨as, r1⟩ := Dp.reads I d x v ((bx.full sF).dp hd.1) rx
  obtain ⟨bs, r2⟩ := Dp.reads I (.list ds) y u ((by_.full sF).dp he.1) ry
  have hu := hX.room.un
  exact SeqAt.in_list_reads r2 r1 (SeqAt.canLay_of_shaped he.2) (SeqAt.canLay_of_shaped hd.2) (room_in_shaped hd.2 (by omega)) ⟨.bl _, H, I, rfl, q _ F H (Ext.refl sF) (.bl _)⟩
theorem ok_notInL {d : PyData} {ds : List PyData} (hd : Eqb d) (he : Eqb (.list ds)) : OpOk G C k (compareOp .NotIn) d (.list ds) (.bool (!ds.any fun z => PyData.eqv z d)) := fun X hX => by
  intro pins s σ H x y v u Q I rx ry ⟨F, sF, bx, by_, q⟩
  rw [← hX.eK] at bx by_
  obtain ⟨as, r1⟩ := Dp.reads I d x v ((bx.full sF).dp hd.1) rx
  obtain ⟨bs, r2⟩ := Dp.reads I (.list ds) y u ((by_.full sF).dp he.1) ry
  have hu := hX.room.un
  exact SeqAt.notIn_list_reads r2 r1 (SeqAt.canLay_of_shaped he.2) (SeqAt.canLay_of_shaped hd.2) (room_in_shaped hd.2 (by omega)) ⟨.bl _, H, I, rfl, q _ F H (Ext.refl sF) (.bl _)⟩
theorem ok_inT {d : PyData} {ds : List PyData} (hd : Eqb d) (he : Eqb (.tuple ds)) : OpOk G C k (compareOp .In) d (.tuple ds) (.bool (ds.any fun z => PyData.eqv z d)) := fun X hX => by
  intro pins s σ H x y v u Q I rx ry ⟨F, sF, bx, by_, q⟩
  rw [← hX.eK] at bx by_
  obtain ⟨as, r1⟩ := Dp.reads I d x v ((bx.full sF).dp hd.1) rx
  obtain ⟨bs, r2⟩ := Dp.reads I (.tuple ds) y u ((by_.full sF).dp he.1) ry
  have hu := hX.room.un
  exact SeqAt.in_tuple_reads r2 r1 (SeqAt.canLay_of_shaped he.2) (SeqAt.canLay_of_shaped hd.2) (room_in_shaped hd.2 (by omega)) ⟨.bl _, H, I, rfl, q _ F H (Ext.refl sF) (.bl _)⟩
theorem ok_notInT {d : PyData} {ds : List PyData} (hd : Eqb d) (he : Eqb (.tuple ds)) : OpOk G C k (compareOp .NotIn) d (.tuple ds) (.bool (!ds.any fun z => PyData.eqv z d)) := fun X hX => by
  intro pins s σ H x y v u Q I rx ry ⟨F, sF, bx, by_, q⟩
  rw [← hX.eK] at bx by_
  obtain ⟨as, r1⟩ := Dp.reads I d x v ((bx.full sF).dp hd.1) rx
  obtain ⟨bs, r2⟩ := Dp.reads I (.tuple ds) y u ((by_.full sF).dp he.1) ry
  have hu := hX.room.un
  exact SeqAt.notIn_tuple_reads r2 r1 (SeqAt.canLay_of_shaped he.2) (SeqAt.canLay_of_shaped hd.2) (room_in_shaped hd.2 (by omega)) ⟨.bl _, H, I, rfl, q _ F H (Ext.refl sF) (.bl _)⟩
end
end Pl
/-! Pl, part D: sequences. -/
namespace Pl
open PySem PySem.Spec PyProof.Rows L2

section
variable {X : Cx}
/-- list + list, however they stand -/
def rCatL (K : KK) : R2 := fun x y H Q => ∃ l b xs zs, x = .ref l ∧ y = .ref b ∧ SqL K H l xs ∧ SqL K H b zs ∧ xs.length + zs.length ≤ sizeLine ∧ ∀ p, H p = none → Q (.ref p) (upd H p (.lst (xs ++ zs)))
theorem op_catL : OpR X (binaryOp .Add) (rCatL X.K) := by
  intro pins s σ H x y v u Q I rx ry h
  obtain ⟨l, b, xs, zs, rfl, rfl, hH, hB, hz, q⟩ := h
  cases rx
  cases ry
  obtain ⟨its, r, ⟨⟨cls, dd, data, sl⟩, n, ho, hc, hd0, hd⟩, z⟩ := I.list hH
  obtain ⟨its2, r2, ⟨⟨cls2, dd2, data2, sl2⟩, n2, ho2, hc2, hd02, hd2⟩, z2⟩ := I.list hB
  simp only at hc hd hc2 hd2
  subst hc hd hc2 hd2
  have h1 := r.length
  have h2 := r2.length
  have e : its.toArray ++ its2.toArray = (its ++ its2).toArray := by simp
  refine concat_meets ⟨_, ho, rfl⟩ ⟨_, ho2, rfl⟩ noFill_list_add seq_list_add PySem.F.slot_list_add PySem.F.entry_list_add (PySem.F.args_list_add_2 _ _) (list_addW l b its.toArray its2.toArray n n2 dd dd2 sl sl2 (by rw [List.size_toArray, List.size_toArray]; omega)) ⟨ho, ho2, ?_⟩
  rw [e]
  exact ⟨.ref _, _, I.lnew (t' := s.toks) (r.append r2) (by rw [List.length_append]; omega), rfl, q _ I.fresh⟩
/-- sum of a tuple of ints -/
theorem cr_sumT (hc : X.calm = true) : CallR X (.builtin "sum") (fun vs H Q => ∃ (a : Addr) (ns : List Int), vs = [V.ref a] ∧ SqT X.K H a (ns.map V.int) ∧ Q (.int ns.sum) H) := by
  intro pins s σ H vs us Q I r h
  obtain ⟨a, ns, rfl, hs, q⟩ := h
  obtain ⟨its, rv, hl, _⟩ := I.tuple hs
  rw [Vals.ref1 r]
  have hi := rv.ints
  obtain ⟨xs, e⟩ := hi.allInts.items
  have hn : numsOf (intItems xs).toList = ns := by rw [← e]; exact hi.numsOf
  rw [nums_intItems] at hn
  obtain ⟨o, ho, hcl, n, hd⟩ := hl
  have ht : s.heap.IsTuple a (intItems xs) := ⟨o, ho, hcl, n, by rw [hd, e]⟩
  refine PySem.W.ktm_sumG (I.ok.hd hc) ht fun h' tk t' hk => ?_
  refine ⟨.int ns.sum, H, I.kept hk, ⟨t', ?_⟩, q⟩
  rw [preSum_eq, List.take_of_length_le (by simp), hn]
end

section
variable {G : Gb} {C : SC} {k : Nat} {ρ : PEnv}
theorem ok_cat {ds es : List PyData} (hl : ds.length + es.length ≤ sizeLine) : OpOk G C k (binaryOp .Add) (.tuple ds) (.tuple es) (.tuple (ds ++ es)) := fun X hX => by
  refine op_imp op_catA fun x y H Q ⟨F, sF, rx, ry, q⟩ => ?_
  rw [hX.eK]
  obtain ⟨a, xs, rfl, h1, r1⟩ := rx.tup sF
  obtain ⟨b, ys, rfl, h2, r2⟩ := ry.tup sF
  have l1 := r1.length
  have l2 := r2.length
  rcases rx with rx | ⟨_, _, _, _, rx⟩
  · rcases ry with ry | ⟨_, _, _, _, ry⟩
    · refine ⟨a, b, xs, ys, rfl, rfl, h1, h2, by omega, fun e => ?_, fun _ e => ?_, fun _ _ p hp => ?_⟩
      · subst e
        cases r1
        exact q _ F H (Ext.refl sF) ry
      · subst e
        cases r2
        rw [List.append_nil] at q
        exact q _ F H (Ext.refl sF) rx
      · exact q _ _ _ (Ext.lay sF hp) (.tup (.inl (.inl upd_same)) ((r1.append r2).mono (same_upd (sF.free hp))))
    · cases ry
  · cases rx
theorem new_cat {ds es : List PyData} (hl : ds.length + es.length ≤ sizeLine) : OpNew G C k (binaryOp .Add) (.list ds) (.list es) (.list (ds ++ es)) := fun X hX => by
  refine op_imp op_catL fun x y H Q ⟨F, sF, rx, ry, q⟩ => ?_
  rw [hX.eK]
  obtain ⟨a, xs, rfl, h1, r1⟩ := rx.lst sF
  obtain ⟨b, ys, rfl, h2, r2⟩ := ry.lst sF
  have l1 := r1.length
  have l2 := r2.length
  exact ⟨a, b, xs, ys, rfl, rfl, h1, h2, by omega, fun p hp => q p _ F _ (Ext.put sF hp) hp upd_same (sF.free hp) (.lst (r1.append r2))⟩
theorem rep_length {α : Type} (n : Nat) (l : List α) : (List.replicate n l).flatten.length = n * l.length := by
  rw [List.length_flatten, List.map_replicate, List.sum_replicate_nat]
/-- [..] * n -/
theorem evn_rep {a b : Expr} {ds : List PyData} {n : Int} {pos : Pos} (ha : EvN G C k ρ a (.list ds)) (hb : EvB G C k ρ b (.int n)) (h1 : -(2 ^ 63) ≤ n) (h2 : n < 2 ^ 63) (hl : ds.length * n.toNat ≤ sizeLine) :
    EvN G C k ρ (.BinOp a .Mult b pos) (.list (List.replicate n.toNat ds).flatten) := fun X hX =>
  pe_imp (pe_op op_rep (ha X hX) (hb X hX)) fun σ H Q ⟨F0, H0, F, S, q⟩ => ⟨F0, H0, F, S, fun p o F1 H1 e1 hn hp hf r1 => ⟨F0, H0, F1, S.go e1, fun y F2 H2 e2 r2 => by
    cases r1 with
    | lst r1 =>
      have l1 := r1.length
      refine ⟨p, n, _, rfl, r2.int, e2.hs _ _ hp, h1, h2, by rw [l1]; exact hl, fun p2 hp2 => ?_⟩
      have e := e1.trans e2
      refine q p2 _ F2 _ (e.trans (Ext.put e2.sub hp2)) (e.hs.free hp2) upd_same (e2.sub.free hp2) (.lst (RpA.rep (r1.mono e2.fs) _))⟩⟩
/-! ### texts -/
theorem ok_catS {x y : Str} (hl : x.length + y.length ≤ sizeLine) : OpOk G C k (binaryOp .Add) (.str x) (.str y) (.str (x ++ y)) := fun X hX =>
  op_imp op_add_str fun _ _ H Q ⟨F, sF, rx, ry, q⟩ => ⟨x, y, rx.str, ry.str, hl, q _ F H (Ext.refl sF) (.str _)⟩
/-! ### subscripts -/
theorem ev_ix {a b : Expr} {ds : List PyData} {i : Int} {d : PyData} {pos : Pos} (ha : EvB G C k ρ a (.list ds)) (hb : EvB G C k ρ b (.int i)) (h : atI ds i = some d) (hs : PlainIx b) : Ev G C k ρ (.Subscript a b pos) d := fun X hX =>
  pe_imp (pe_ix ix_list (ha X hX) (hb X hX) hs) fun σ H Q ⟨F0, H0, F, S, q⟩ => ⟨F0, H0, F, S, fun x F1 H1 e1 r1 => ⟨F0, H0, F1, S.go e1, fun y F2 H2 e2 r2 => by
    obtain ⟨p, xs, rfl, h1, h2⟩ := (r1.ext e2).lst e2.sub
    obtain ⟨j, hj, hjd, hlt, hlo, hhi⟩ := atI_get h
    obtain ⟨v, hv, rv⟩ := h2.at hjd
    refine ⟨p, xs, i, v, rfl, r2.int, by rw [hX.eK]; exact h1, ?_, q v F2 H2 (e1.trans e2) rv⟩
    unfold atI at h ⊢
    rw [h2.length]
    cases e : ixN ds.length i with
    | none => rw [e] at h; cases h
    | some m =>
      obtain ⟨z, _⟩ := ixN_seq e
      rw [hj] at z
      cases z
      exact hv⟩⟩
theorem ev_ixT {a b : Expr} {ds : List PyData} {i : Int} {d : PyData} {pos : Pos} (ha : EvB G C k ρ a (.tuple ds)) (hb : EvB G C k ρ b (.int i)) (h : atI ds i = some d) (hs : PlainIx b) : Ev G C k ρ (.Subscript a b pos) d := fun X hX =>
  pe_imp (pe_ix ix_tup (ha X hX) (hb X hX) hs) fun σ H Q ⟨F0, H0, F, S, q⟩ => ⟨F0, H0, F, S, fun x F1 H1 e1 r1 => ⟨F0, H0, F1, S.go e1, fun y F2 H2 e2 r2 => by
    obtain ⟨p, xs, rfl, h1, h2⟩ := (r1.ext e2).tup e2.sub
    obtain ⟨j, hj, hjd, hlt, hlo, hhi⟩ := atI_get h
    obtain ⟨v, hv, rv⟩ := h2.at hjd
    refine ⟨p, xs, i, v, rfl, r2.int, by rw [hX.eK]; exact h1, ?_, q v F2 H2 (e1.trans e2) rv⟩
    unfold atI at h ⊢
    rw [h2.length]
    cases e : ixN ds.length i with
    | none => rw [e] at h; cases h
    | some m =>
      obtain ⟨z, _⟩ := ixN_seq e
      rw [hj] at z
      cases z
      exact hv⟩⟩
theorem ev_ixS {a b : Expr} {z : Str} {i : Int} {c : Nat} {pos : Pos} (ha : EvB G C k ρ a (.str z)) (hb : EvB G C k ρ b (.int i)) (hz : z.length ≤ sizeLine) (h : atI z.cps.toList i = some c) (hs : PlainIx b) : Ev G C k ρ (.Subscript a b pos) (.str ⟨#[c]⟩) := fun X hX =>
  pe_imp (pe_ix ix_str (ha X hX) (hb X hX) hs) fun σ H Q ⟨F0, H0, F, S, q⟩ => ⟨F0, H0, F, S, fun x F1 H1 e1 r1 => ⟨F0, H0, F1, S.go e1, fun y F2 H2 e2 r2 =>
    ⟨z, i, c, r1.str, r2.int, hz, h, q _ F2 H2 (e1.trans e2) (.str _)⟩⟩⟩
/-! slices -/
/-- a part of a slice: left out, or an int -/
def EP' (G : Gb) (C : SC) (k : Nat) (ρ : PEnv) (e : Option Expr) (o : Option Int) : Prop := ∀ X, CxOk G C k X → PO X e fun σ H Q => ∃ F0 H0 F, SRel G.K F0 H0 ρ σ F H ∧ ∀ F' H', Ext F H F' H' → Q o H'
theorem po_imp {X : Cx} {e : Option Expr} {t t' : TO} (h : PO X e t) (i : ∀ σ H Q, t' σ H Q → t σ H Q) : PO X e t' := ⟨fun pins s σ H Q I q => h.run pins s σ H Q I (i σ H Q q)⟩
theorem ep_none : EP' G C k ρ none none := fun X hX => po_imp po_none fun σ H Q ⟨F0, H0, F, S, q⟩ => q F H (Ext.refl S.ext.sub)
theorem ep_some {e : Expr} {i : Int} (h : EvB G C k ρ e (.int i)) : EP' G C k ρ (some e) (some i) := fun X hX => po_imp (po_some (h X hX)) fun σ H Q ⟨F0, H0, F, S, q⟩ => ⟨F0, H0, F, S, fun x F1 H1 e1 r1 => ⟨i, r1.int, q F1 H1 e1⟩⟩
/-- xs[lo:hi] -/
def cutD {α : Type} (xs : List α) (lo hi : Option Int) : List α := (xs.drop (HT.sIx xs.length 0 lo)).take (HT.sIx xs.length xs.length hi - HT.sIx xs.length 0 lo)
theorem cutD_length {α : Type} (xs : List α) (lo hi : Option Int) : (cutD xs lo hi).length ≤ xs.length := by
  unfold cutD
  rw [List.length_take, List.length_drop]
  omega
theorem RpA.cut {K : KK} {F : Hp} {vs : List V} {ds : List PyData} (r : RpA K F vs ds) (lo hi : Option Int) : RpA K F (cutV vs lo hi) (cutD ds lo hi) := by
  unfold cutV cutD
  rw [r.length]
  exact (r.drop _).take _
theorem evn_slice {e : Expr} {lo hi : Option Expr} {l u : Option Int} {ds : List PyData} {p2 pos : Pos} (he : EvB G C k ρ e (.list ds)) (hl : EP' G C k ρ lo l) (hu : EP' G C k ρ hi u) : EvN G C k ρ (.Subscript e (.Slice lo hi none p2) pos) (.list (cutD ds l u)) := fun X hX =>
  pe_imp (pe_slice sl_list (he X hX) (hl X hX) (hu X hX)) fun σ H Q ⟨F0, H0, F, S, q⟩ => ⟨F0, H0, F, S, fun x F1 H1 e1 r1 => ⟨F0, H0, F1, S.go e1, fun F2 H2 e2 => ⟨F0, H0, F2, (S.go e1).go e2, fun F3 H3 e3 => by
    have e23 := e2.trans e3
    obtain ⟨p, xs, rfl, h1, h2⟩ := (r1.ext e23).lst e3.sub
    have e := e1.trans e23
    exact ⟨p, xs, rfl, by rw [hX.eK]; exact h1, fun p2 hp2 => q p2 _ F3 _ (e.trans (Ext.put e3.sub hp2)) (e.hs.free hp2) upd_same (e3.sub.free hp2) (.lst (h2.cut _ _))⟩⟩⟩⟩
theorem cut_whole {α : Type} {xs : List α} {lo hi : Option Int} (h : HT.sIx xs.length 0 lo = 0 ∧ HT.sIx xs.length xs.length hi = xs.length) : cutD xs lo hi = xs := by
  unfold cutD
  rw [h.1, h.2, List.drop_zero, Nat.sub_zero, List.take_length]
theorem ev_sliceT {e : Expr} {lo hi : Option Expr} {l u : Option Int} {ds : List PyData} {p2 pos : Pos} (he : Ev G C k ρ e (.tuple ds)) (hl : EP' G C k ρ lo l) (hu : EP' G C k ρ hi u) : Ev G C k ρ (.Subscript e (.Slice lo hi none p2) pos) (.tuple (cutD ds l u)) := fun X hX =>
  pe_imp (pe_slice sl_tupA (he X hX) (hl X hX) (hu X hX)) fun σ H Q ⟨F0, H0, F, S, q⟩ => ⟨F0, H0, F, S, fun x F1 H1 e1 r1 => ⟨F0, H0, F1, S.go e1, fun F2 H2 e2 => ⟨F0, H0, F2, (S.go e1).go e2, fun F3 H3 e3 => by
    have e23 := e2.trans e3
    have r3 := r1.mono e23.fs
    obtain ⟨p, xs, rfl, h1, h2⟩ := (Rp.b (H := H3) r3).tup e3.sub
    have e := e1.trans e23
    have hl := h2.length
    refine ⟨p, xs, rfl, by rw [hX.eK]; exact h1, fun hw => ?_, fun hw p2 hp2 => ?_⟩
    · rw [hl] at hw
      rw [cut_whole hw] at q
      exact q _ F3 H3 e r3
    · exact q _ _ _ (e.trans (Ext.lay e3.sub hp2)) (.tup (.inl (.inl upd_same)) ((h2.cut _ _).mono (same_upd (e3.sub.free hp2))))⟩⟩⟩
end
end Pl
/-! Pl, part E: built-in functions on plain data. -/
namespace Pl
open PySem PySem.Spec PyProof.Rows L2

section
variable {G : Gb} {C : SC} {k : Nat} {ρ : PEnv}
theorem ba1 {K : KK} {F H : Hp} {xs : List V} {d : PyData} (h : RpBA K F H xs [d]) : ∃ x, xs = [x] ∧ RpB K F H x d := by
  cases h with
  | cons r t => cases t; exact ⟨_, rfl, r⟩
theorem ba2 {K : KK} {F H : Hp} {xs : List V} {d e : PyData} (h : RpBA K F H xs [d, e]) : ∃ x y, xs = [x, y] ∧ RpB K F H x d ∧ RpB K F H y e := by
  cases h with
  | cons r t => obtain ⟨y, rfl, r2⟩ := ba1 t; exact ⟨_, y, rfl, r, r2⟩
/-- how many items -/
def lenD : PyData → Option Int
  | .list xs => some xs.length
  | .tuple xs => some xs.length
  | .str z => if z.length ≤ sizeLine then some z.length else none
  | _ => none
theorem ok_len {d : PyData} {n : Int} (h : lenD d = some n) : CallOk G C k (.builtin "len") [d] (.int n) := fun X hX => by
  refine call_imp call_len fun xs H Q ⟨F, sF, r, q⟩ => ?_
  rw [hX.eK]
  obtain ⟨x, rfl, rx⟩ := ba1 r
  cases d with
  | list ds =>
    cases h
    obtain ⟨p, ys, rfl, h1, h2⟩ := rx.lst sF
    exact ⟨_, ds.length, rfl, .inl ⟨ys, h1, h2.length.symm⟩, q _ F H (Ext.refl sF) (.int _)⟩
  | tuple ds =>
    cases h
    obtain ⟨p, ys, rfl, h1, h2⟩ := rx.tup sF
    exact ⟨_, ds.length, rfl, .inr ⟨ys, h1, h2.length.symm⟩, q _ F H (Ext.refl sF) (.int _)⟩
  | str z =>
    have h' : (if z.length ≤ sizeLine then some (z.length : Int) else none) = some n := h
    by_cases hz : z.length ≤ sizeLine
    · rw [if_pos hz] at h'
      cases h'
      rw [rx.str]
      exact ⟨_, z.length, rfl, ⟨hz, rfl⟩, q _ F H (Ext.refl sF) (.int _)⟩
    · rw [if_neg hz] at h'
      cases h'
  | _ => cases h
theorem ok_abs {i : Int} : CallOk G C k (.builtin "abs") [.int i] (.int (if i < 0 then -i else i)) := fun X hX => by
  refine call_imp call_abs fun xs H Q ⟨F, sF, r, q⟩ => ?_
  obtain ⟨x, rfl, rx⟩ := ba1 r
  rw [rx.int]
  exact ⟨i, rfl, q _ F H (Ext.refl sF) (.int _)⟩
theorem ok_max2 {i j : Int} : CallOk G C k (.builtin "max") [.int i, .int j] (.int (if j > i then j else i)) := fun X hX => by
  refine call_imp (call_max2 hX.calm) fun xs H Q ⟨F, sF, r, q⟩ => ?_
  obtain ⟨x, y, rfl, rx, ry⟩ := ba2 r
  rw [rx.int, ry.int]
  exact ⟨i, j, rfl, q _ F H (Ext.refl sF) (.int _)⟩
theorem ok_min2 {i j : Int} : CallOk G C k (.builtin "min") [.int i, .int j] (.int (if j < i then j else i)) := fun X hX => by
  refine call_imp (call_min2 hX.calm) fun xs H Q ⟨F, sF, r, q⟩ => ?_
  obtain ⟨x, y, rfl, rx, ry⟩ := ba2 r
  rw [rx.int, ry.int]
  exact ⟨i, j, rfl, q _ F H (Ext.refl sF) (.int _)⟩
theorem ok_intI {i : Int} : CallOk G C k (.type "int") [.int i] (.int i) := fun X hX => by
  refine call_imp call_int1 fun xs H Q ⟨F, sF, r, q⟩ => ?_
  obtain ⟨x, rfl, rx⟩ := ba1 r
  rw [rx.int]
  exact .inl ⟨i, rfl, q _ F H (Ext.refl sF) (.int _)⟩
theorem ok_intB {b : Bool} : CallOk G C k (.type "int") [.bool b] (.int (if b then 1 else 0)) := fun X hX => by
  refine call_imp call_int1 fun xs H Q ⟨F, sF, r, q⟩ => ?_
  obtain ⟨x, rfl, rx⟩ := ba1 r
  rw [rx.bool]
  exact .inr ⟨b, rfl, q _ F H (Ext.refl sF) (.int _)⟩
theorem ok_strI {i : Int} (h : i.natAbs.log2 < 1920) : CallOk G C k (.type "str") [.int i] (.str (toString i)) := fun X hX => by
  refine call_imp call_str_int fun xs H Q ⟨F, sF, r, q⟩ => ?_
  obtain ⟨x, rfl, rx⟩ := ba1 r
  rw [rx.int]
  exact ⟨i, rfl, h, q _ F H (Ext.refl sF) (.str _)⟩
theorem ok_sumL {ns : List Int} : CallOk G C k (.builtin "sum") [.list (ns.map .int)] (.int ns.sum) := fun X hX => by
  refine call_imp (cr_sum hX.calm) fun xs H Q ⟨F, sF, r, q⟩ => ?_
  rw [hX.eK]
  obtain ⟨x, rfl, rx⟩ := ba1 r
  obtain ⟨p, ys, rfl, h1, h2⟩ := rx.lst sF
  rw [h2.ints] at h1
  exact ⟨p, ns, rfl, h1, q _ F H (Ext.refl sF) (.int _)⟩
theorem ok_sumT {ns : List Int} : CallOk G C k (.builtin "sum") [.tuple (ns.map .int)] (.int ns.sum) := fun X hX => by
  refine call_imp (cr_sumT hX.calm) fun xs H Q ⟨F, sF, r, q⟩ => ?_
  rw [hX.eK]
  obtain ⟨x, rfl, rx⟩ := ba1 r
  obtain ⟨p, ys, rfl, h1, h2⟩ := rx.tup sF
  rw [h2.ints] at h1
  exact ⟨p, ns, rfl, h1, q _ F H (Ext.refl sF) (.int _)⟩
theorem ok_any {bs : List Bool} : CallOk G C k (.builtin "any") [.list (bs.map .bool)] (.bool (bs.any id)) := fun X hX => by
  refine call_imp (cr_any hX.calm) fun xs H Q ⟨F, sF, r, q⟩ => ?_
  unfold rAny
  rw [hX.eK]
  obtain ⟨x, rfl, rx⟩ := ba1 r
  obtain ⟨p, ys, rfl, h1, h2⟩ := rx.lst sF
  rw [h2.bools] at h1
  exact ⟨p, bs, rfl, h1, q _ F H (Ext.refl sF) (.bl _)⟩
theorem ok_all {bs : List Bool} : CallOk G C k (.builtin "all") [.list (bs.map .bool)] (.bool (bs.all id)) := fun X hX => by
  refine call_imp (cr_all hX.calm) fun xs H Q ⟨F, sF, r, q⟩ => ?_
  unfold rAll
  rw [hX.eK]
  obtain ⟨x, rfl, rx⟩ := ba1 r
  obtain ⟨p, ys, rfl, h1, h2⟩ := rx.lst sF
  rw [h2.bools] at h1
  exact ⟨p, bs, rfl, h1, q _ F H (Ext.refl sF) (.bl _)⟩
theorem ok_tupleL {ds : List PyData} : CallOk G C k (.type "tuple") [.list ds] (.tuple ds) := fun X hX => by
  refine call_imp call_tuple_of fun xs H Q ⟨F, sF, r, q⟩ => ?_
  rw [hX.eK]
  obtain ⟨x, rfl, rx⟩ := ba1 r
  obtain ⟨p, ys, rfl, h1, h2⟩ := rx.lst sF
  exact ⟨p, ys, rfl, .inl ⟨h1, fun l hl => q _ _ _ (Ext.lay sF hl) (.tup (.inl (.inl upd_same)) (h2.mono (same_upd (sF.free hl))))⟩⟩
theorem ok_tupleT {ds : List PyData} : CallOk G C k (.type "tuple") [.tuple ds] (.tuple ds) := fun X hX => by
  refine call_imp call_tuple_of fun xs H Q ⟨F, sF, r, q⟩ => ?_
  rw [hX.eK]
  obtain ⟨x, rfl, rx⟩ := ba1 r
  obtain ⟨p, ys, rfl, h1, h2⟩ := rx.tup sF
  rcases rx with rx | ⟨_, _, _, _, rx⟩
  · exact ⟨p, ys, rfl, .inr ⟨h1, q _ F H (Ext.refl sF) rx⟩⟩
  · cases rx
theorem new_listL {ds : List PyData} : CallNew G C k (.type "list") [.list ds] (.list ds) := fun X hX => by
  refine call_imp call_list_of fun xs H Q ⟨F, sF, r, q⟩ => ?_
  rw [hX.eK]
  obtain ⟨x, rfl, rx⟩ := ba1 r
  obtain ⟨p, ys, rfl, h1, h2⟩ := rx.lst sF
  exact ⟨p, ys, rfl, .inl h1, fun l hl => q l _ F _ (Ext.put sF hl) hl upd_same (sF.free hl) (.lst h2)⟩
theorem new_listT {ds : List PyData} : CallNew G C k (.type "list") [.tuple ds] (.list ds) := fun X hX => by
  refine call_imp call_list_of fun xs H Q ⟨F, sF, r, q⟩ => ?_
  rw [hX.eK]
  obtain ⟨x, rfl, rx⟩ := ba1 r
  obtain ⟨p, ys, rfl, h1, h2⟩ := rx.tup sF
  exact ⟨p, ys, rfl, .inr h1, fun l hl => q l _ F _ (Ext.put sF hl) hl upd_same (sF.free hl) (.lst h2)⟩
/-! sorted -/
theorem vals_snd {R : Value → V × PyData → Prop} (hR : ∀ v p, R v p → RelV p.1 v) : ∀ {us : List Value} {ps : List (V × PyData)}, PySem.W.EachIs R us ps → Vals (ps.map (·.1)) us
  | _, _, .nil => .nil
  | _, _, .cons r t => .cons (hR _ _ r) (vals_snd hR t)
theorem each_zip {K : KK} {F : Hp} : ∀ {xs : List V} {ds : List PyData} {us : List Value}, RpA K F xs ds → Vals xs us → PySem.W.EachIs (fun v (p : V × PyData) => RelV p.1 v ∧ Rp K F p.1 p.2) us (xs.zip ds)
  | _, _, _, .nil, .nil => .nil
  | _, _, _, .cons r t, .cons q u => .cons ⟨q, r⟩ (each_zip t u)
theorem each_all {R : Value → V × PyData → Prop} {P : V × PyData → Prop} (h : ∀ v p, R v p → P p) : ∀ {us : List Value} {ps : List (V × PyData)}, PySem.W.EachIs R us ps → ∀ p ∈ ps, P p
  | _, _, .nil, _, m => nomatch m
  | _, _, .cons r t, p, m => by
    rcases List.mem_cons.mp m with e | m
    · subst e; exact h _ _ r
    · exact each_all h t p m
theorem rpa_of {K : KK} {F : Hp} : ∀ (ps : List (V × PyData)), (∀ p ∈ ps, Rp K F p.1 p.2) → RpA K F (ps.map (·.1)) (ps.map (·.2))
  | [], _ => .nil
  | p :: ps, h => .cons (h p List.mem_cons_self) (rpa_of ps fun q m => h q (List.mem_cons_of_mem _ m))
theorem zip_snd {α β : Type} : ∀ {xs : List α} {ys : List β}, xs.length = ys.length → (xs.zip ys).map (·.2) = ys
  | [], [], _ => rfl
  | x :: xs, y :: ys, h => by
    show y :: (xs.zip ys).map (·.2) = _
    rw [zip_snd (by simpa using h)]
  | [], _ :: _, h => by simp at h
  | _ :: _, [], h => by simp at h
theorem noDct_mem : ∀ {ds : List PyData}, noDctA ds = true → ∀ d ∈ ds, noDct d = true
  | [], _, _, m => nomatch m
  | d :: ds, h, e, m => by
    rcases List.mem_cons.mp m with z | m
    · subst z; exact and_l h
    · exact noDct_mem (and_r h) e m
/-- what can be sorted -/
structure Sortb (ds : List PyData) : Prop where
  nd : noDctA ds = true
  al : PySem.W.AllAlike ds
  sb : PySem.W.Sortable ds
  dp : ∀ d ∈ ds, d.depth ≤ 64
/-- sorted(ds) -/
def sortD (ds : List PyData) : List PyData := ds.mergeSort (fun a b => !PySem.W.dataLt b a)
theorem map_merge (ps : List (V × PyData)) : (ps.mergeSort (PySem.W.dataLe false (·.2))).map (·.2) = sortD (ps.map (·.2)) := by
  unfold sortD
  rw [List.map_mergeSort]
  intro a ha b hb
  rw [PySem.W.dataLe_eq]
  rfl
theorem sorted_run {X : Cx} (hX : CxOk G C k X) {ds : List PyData} (hs : Sortb ds) {pins : List (Addr × Obj)} {σ : L2.St} {H F : Hp} {s : Shared} {a : Addr} {xs : List V} {its : List Value} {Q : VK} (I : Inv X pins σ H s) (sF : Same F H) (h2 : RpA G.K F xs ds) (rv : Vals xs its) (hz : xs.length ≤ sizeLine) (hl : s.heap.IsList a its.toArray)
    (q : ∀ (a : Addr) (o : HO) (F' H' : Hp), Ext F H F' H' → H a = none → H' a = some o → F' a = none → OwnAt G.K F' o (.list (sortD ds)) → Q (.ref a) H') :
    wpAny (model X.prog X.w) X.A (call (.builtin "sorted") [.ref a]) (EP X pins σ Q) X.xe s := by
  have e := each_zip h2 rv
  have hlen := h2.length
  have hsnd : (xs.zip ds).map (·.2) = ds := zip_snd hlen
  have hzl : (xs.zip ds).length = xs.length := by rw [List.length_zip]; omega
  have nd : ∀ p ∈ xs.zip ds, noDct p.2 = true := fun p hp => noDct_mem hs.nd _ (by rw [← hsnd]; exact List.mem_map_of_mem hp)
  have er : PySem.W.EachIs (fun v (p : V × PyData) => ∃ as, Reads s.heap v p.2 as) its (xs.zip ds) := by
    have aux : ∀ {us : List Value} {ps : List (V × PyData)}, (∀ p ∈ ps, noDct p.2 = true) → PySem.W.EachIs (fun v (p : V × PyData) => RelV p.1 v ∧ Rp G.K F p.1 p.2) us ps → PySem.W.EachIs (fun v (p : V × PyData) => ∃ as, Reads s.heap v p.2 as) us ps := by
      intro us ps hn h
      induction h with
      | nil => exact .nil
      | cons r t ih =>
        refine .cons ?_ (ih fun p hp => hn p (List.mem_cons_of_mem _ hp))
        have r2 := r.2.mono sF
        rw [← hX.eK] at r2
        exact Dp.reads I _ _ _ (r2.dp (hn _ List.mem_cons_self)) r.1
    exact aux nd e
  have hr := hX.room.units
  refine PySem.W.sorted_data (bs := xs.zip ds) (enc := (·.2)) hl e er (by rw [hsnd]; exact hs.al) (by rw [hsnd]; exact hs.sb) (by rw [hzl]; exact hz) (fun p hp => ?_) fun out ho ho2 => ?_
  · have hd := hs.dp p.2 (by rw [← hsnd]; exact List.mem_map_of_mem hp)
    have := hX.room.un
    omega
  · obtain ⟨ep, he'⟩ := PyProof.Rows.sortedAll_at s.heap its out.toArray
    have hn : H (s.heap.objs.size + 1) = none := I.hok.fresh (Nat.le_succ _)
    generalize hps : (xs.zip ds).mergeSort (PySem.W.dataLe false (·.2)) = ps at ho2
    have hv : Vals (ps.map (·.1)) out := vals_snd (fun v p r => r.1) ho2
    have hr2 : RpA G.K F (ps.map (·.1)) (ps.map (·.2)) := rpa_of _ (each_all (fun v p r => r.2) ho2)
    have hps2 : ps.map (·.2) = sortD ds := by rw [← hps, map_merge, hsnd]
    rw [hps2] at hr2
    have hll : (ps.map (·.1)).length ≤ sizeLine := by rw [hv.length, ho, hzl]; exact hz
    exact ⟨.ref _, upd H (s.heap.objs.size + 1) (.lst (ps.map (·.1))), I.laid (t' := s.toks) (fun _ _ => PyProof.Rows.sortedAll_old) (Nat.le_succ _) ⟨hll, out, ep, hv, by simpa using he'⟩, rfl,
      q _ _ F _ (Ext.put sF hn) hn upd_same (sF.free hn) (.lst hr2)⟩
theorem new_sorted {ds : List PyData} (hs : Sortb ds) : CallNew G C k (.builtin "sorted") [.list ds] (.list (sortD ds)) := fun X hX => by
  intro pins s σ H xs us Q I r ⟨F, sF, rb, q⟩
  obtain ⟨x, rfl, rx⟩ := ba1 rb
  obtain ⟨p, ys, rfl, h1, h2⟩ := rx.lst sF
  rw [← hX.eK] at h1
  obtain ⟨its, rv, hl, hz⟩ := I.list h1
  rw [Vals.ref1 r]
  exact sorted_run hX hs I sF h2 rv hz hl.isList q
end
end Pl
/-! Pl, part F: targets, what is walked, comprehensions. -/
namespace Pl
open PySem PySem.Spec PyProof.Rows L2

/-- every list and tuple is of a bounded length -/
def Bd (K : KK) (H : Hp) : Prop := ∀ a xs, SqL K H a xs ∨ SqT K H a xs → xs.length ≤ sizeLine
theorem Inv.bd {X : Cx} {pins : List (Addr × Obj)} {σ : L2.St} {H : Hp} {s : Shared} (I : L2.Inv X pins σ H s) : Bd X.K H := fun a xs h => by
  rcases h with h | h
  · obtain ⟨_, _, _, z⟩ := I.list h; exact z
  · obtain ⟨_, _, _, z⟩ := I.tuple h; exact z
section
variable {X : Cx} {e : Expr}
theorem pe_bd {t : TE} (h : PE X e t) : PE X e (fun σ H Q => t σ H fun v H' => Bd X.K H' → Q v H') := ⟨fun pins s σ H Q I q => thn (h.run pins s σ H _ I q) fun u s' ⟨v, H', I', r, q'⟩ => ⟨v, H', I', r, q' (Inv.bd I')⟩⟩
theorem pe_un {ι : Type} {P : ι → Prop} {t : ι → TE} (h : ∀ i, P i → PE X e (t i)) : PE X e (fun σ H Q => ∃ i, P i ∧ t i σ H Q) := ⟨fun pins s σ H Q I ⟨i, p, q⟩ => (h i p).run pins s σ H Q I q⟩
theorem pg_un {ι : Type} {P : ι → Prop} {t : ι → TG} (h : ∀ i, P i → PG X e (t i)) : PG X e (fun v σ H Q => ∃ i, P i ∧ t i v σ H Q) := ⟨fun pins s σ H v u Q I r ⟨i, p, q⟩ => (h i p).run pins s σ H v u Q I r q⟩
theorem pts_un {ι : Type} {es : List Expr} {P : ι → Prop} {t : ι → TT} (h : ∀ i, P i → PTs X es (t i)) : PTs X es (fun σ H Q => ∃ i, P i ∧ t i σ H Q) := ⟨fun pins s σ H Q I ⟨i, p, q⟩ => (h i p).run pins s σ H Q I q⟩
theorem pg_imp {t t' : TG} (h : PG X e t) (i : ∀ v σ H Q, t' v σ H Q → t v σ H Q) : PG X e t' := ⟨fun pins s σ H v u Q I r q => h.run pins s σ H v u Q I r (i v σ H Q q)⟩
theorem pgs_imp {es : List Expr} {t t' : TGs} (h : PGs X es t) (i : ∀ v σ H Q, t' v σ H Q → t v σ H Q) : PGs X es t' := ⟨fun pins s σ H v u Q I r q => h.run pins s σ H v u Q I r (i v σ H Q q)⟩
theorem pts_imp {es : List Expr} {t t' : TT} (h : PTs X es t) (i : ∀ σ H Q, t' σ H Q → t σ H Q) : PTs X es t' := ⟨fun pins s σ H Q I q => h.run pins s σ H Q I (i σ H Q q)⟩
theorem pi_imp {tg : Expr} {t t' : TI} (h : PI X tg e t) (i : ∀ σ H Q, t' σ H Q → t σ H Q) : PI X tg e t' := ⟨fun pins s σ H Q I q => h.run pins s σ H Q I (i σ H Q q)⟩
theorem pi_un {tg : Expr} {ι : Type} {P : ι → Prop} {t : ι → TI} (h : ∀ i, P i → PI X tg e (t i)) : PI X tg e (fun σ H Q => ∃ i, P i ∧ t i σ H Q) := ⟨fun pins s σ H Q I ⟨i, p, q⟩ => (h i p).run pins s σ H Q I q⟩
end

/-! ### targets -/
/-- slots that may have changed -/
def Off (is : List Nat) (σ σ' : L2.St) : Prop := σ'.length = σ.length ∧ ∀ j, j ∉ is → σ'[j]? = σ[j]?
def tTg (K : KK) (ρ : PEnv) (is : List Nat) (d : PyData) (ρ' : PEnv) : TG := fun v σ H Q => ∃ F0 H0 F, SRel K F0 H0 ρ σ F H ∧ Rp K F v d ∧ ∀ σ', Off is σ σ' → SRel K F0 H0 ρ' σ' F H → Q σ' H
def tTgs (K : KK) (ρ : PEnv) (is : List Nat) (ds : List PyData) (ρ' : PEnv) : TGs := fun vs σ H Q => ∃ F0 H0 F, SRel K F0 H0 ρ σ F H ∧ RpA K F vs ds ∧ ∀ σ', Off is σ σ' → SRel K F0 H0 ρ' σ' F H → Q σ' H
def Tg (G : Gb) (C : SC) (k : Nat) (ρ : PEnv) (tg : Expr) (is : List Nat) (d : PyData) (ρ' : PEnv) : Prop := ∀ X, CxOk G C k X → PG X tg (tTg G.K ρ is d ρ')
def Tgs (G : Gb) (C : SC) (k : Nat) (ρ : PEnv) (tgs : List Expr) (is : List Nat) (ds : List PyData) (ρ' : PEnv) : Prop := ∀ X, CxOk G C k X → PGs X tgs (tTgs G.K ρ is ds ρ')
def wipeE (ρ : PEnv) : List Nat → PEnv
  | [] => ρ
  | v :: vs => (wipeE ρ vs).set v none
theorem Cov.wipe (ρ : PEnv) : ∀ vs : List Nat, ∀ i : Nat, ∀ x, (wipeE ρ vs)[i]? = some (some x) → ρ[i]? = some (some x) ∧ i ∉ vs
  | [], i, x, h => ⟨h, by simp⟩
  | v :: vs, i, x, h => by
    unfold wipeE at h
    by_cases hi : v = i
    · subst hi
      by_cases hv : v < (wipeE ρ vs).length
      · rw [List.getElem?_set_self hv] at h; cases h
      · rw [List.getElem?_eq_none (by simpa using hv)] at h; cases h
    · rw [List.getElem?_set_ne hi] at h
      obtain ⟨h1, h2⟩ := Cov.wipe ρ vs i x h
      exact ⟨h1, by simp only [List.mem_cons, not_or]; exact ⟨fun e => hi e.symm, h2⟩⟩
theorem wipeE_length (ρ : PEnv) : ∀ vs : List Nat, (wipeE ρ vs).length = ρ.length
  | [] => rfl
  | v :: vs => by unfold wipeE; rw [List.length_set, wipeE_length ρ vs]
theorem wipe_at {σ : L2.St} : ∀ {vs : List Nat} {i : Nat}, i ∉ vs → (wipe σ vs)[i]? = σ[i]?
  | [], _, _ => rfl
  | v :: vs, i, h => by
    simp only [List.mem_cons, not_or] at h
    unfold wipe
    rw [List.getElem?_set_ne (fun e => h.1 e.symm)]
    exact wipe_at h.2
theorem wipe_in {σ : L2.St} : ∀ {vs : List Nat} {i : Nat}, i ∈ vs → i < σ.length → (wipe σ vs)[i]? = some none
  | v :: vs, i, h, hl => by
    unfold wipe
    by_cases hv : v = i
    · subst hv
      rw [List.getElem?_set_self (by rw [wipe_length]; exact hl)]
    · rw [List.getElem?_set_ne hv]
      exact wipe_in (List.mem_of_ne_of_mem (fun e => hv e.symm) h) hl
theorem wipe_eq {σ σ' : L2.St} {vs : List Nat} (hl : σ'.length = σ.length) (h : ∀ j, j ∉ vs → σ'[j]? = σ[j]?) : wipe σ' vs = wipe σ vs := by
  refine List.ext_getElem? fun i => ?_
  by_cases hi : i ∈ vs
  · by_cases hlt : i < σ.length
    · rw [wipe_in hi hlt, wipe_in hi (by rw [hl]; exact hlt)]
    · rw [List.getElem?_eq_none (by rw [wipe_length]; omega), List.getElem?_eq_none (by rw [wipe_length]; omega)]
  · rw [wipe_at hi, wipe_at hi, h i hi]
theorem SRel.wipe {K : KK} {F0 H0 F H : Hp} {ρ : PEnv} {σ : L2.St} (S : SRel K F0 H0 ρ σ F H) (vs : List Nat) : SRel K F0 H0 (wipeE ρ vs) (L2.wipe σ vs) F H where
  ext := S.ext
  len := by rw [wipe_length, wipeE_length, S.len]
  sh := fun i d h => by
    obtain ⟨h1, h2⟩ := Cov.wipe ρ vs i _ h
    obtain ⟨v, q1, q2⟩ := S.sh i d h1
    exact ⟨v, by rw [wipe_at h2]; exact q1, q2⟩
  ow := fun i d h => by
    obtain ⟨h1, h2⟩ := Cov.wipe ρ vs i _ h
    obtain ⟨a, o, q1, q2⟩ := S.ow i d h1
    exact ⟨a, o, by rw [wipe_at h2]; exact q1, q2⟩
  apart := fun i j d d' a hij h1 h2 h3 h4 => by
    obtain ⟨p1, n1⟩ := Cov.wipe ρ vs i _ h1
    obtain ⟨p2, n2⟩ := Cov.wipe ρ vs j _ h2
    rw [wipe_at n1] at h3
    rw [wipe_at n2] at h4
    exact S.apart i j d d' a hij p1 p2 h3 h4

section
variable {G : Gb} {C : SC} {k : Nat} {ρ ρ1 ρ2 : PEnv} {e tg : Expr} {es : List Expr} {d : PyData} {ds : List PyData} {pos : Pos}
theorem tg_name (i : Nat) {x : Str} (hi : C.N[i]? = some x) (hx : C.sc.names.lookup x = some .local ∨ C.sc.names.lookup x = some .cell) (hf : C.fs x = true ∨ C.sc.names.lookup x = some .local) :
    Tg G C k ρ (.Name x pos) [i] d (ρ.set i (some (.sh d))) := fun X hX => by
  refine pg_imp (pg_name (i := i) (by rw [hX.eN]; exact hX.nd) (by rw [hX.eN]; exact hi) (by unfold L2.Loc; rw [hX.es]; exact hx) ?_) fun v σ H Q ⟨F0, H0, F, S, r, q⟩ => ?_
  · rcases hf with h | h
    · exact .inl (hX.fn _ h)
    · exact .inr (by rw [hX.es]; exact h)
  · exact q _ ⟨by rw [List.length_set], fun j hj => List.getElem?_set_ne (fun z => hj (by simp [z]))⟩ (S.put r)
theorem tgs_nil : Tgs G C k ρ [] [] [] ρ := fun X hX => pgs_imp pgs_nil fun vs σ H Q ⟨F0, H0, F, S, r, q⟩ => by
  cases r
  exact ⟨rfl, q σ ⟨rfl, fun _ _ => rfl⟩ S⟩
theorem tgs_cons {is js : List Nat} (h1 : Tg G C k ρ e is d ρ1) (h2 : Tgs G C k ρ1 es js ds ρ2) (hs : ∀ env, (assignEach (e :: es) env).map (·.2) = assign e env :: (assignEach es env).map (·.2)) : Tgs G C k ρ (e :: es) (is ++ js) (d :: ds) ρ2 := fun X hX =>
  pgs_imp (pgs_cons (h1 X hX) (h2 X hX) (hs _)) fun vs σ H Q ⟨F0, H0, F, S, r, q⟩ => by
    cases r with
    | cons r t =>
      exact ⟨_, _, rfl, F0, H0, F, S, r, fun σ1 o1 S1 => ⟨F0, H0, F, S1, t, fun σ2 o2 S2 => q σ2 ⟨o2.1.trans o1.1, fun j hj => (o2.2 j fun z => hj (List.mem_append_right _ z)).trans (o1.2 j fun z => hj (List.mem_append_left _ z))⟩ S2⟩⟩
theorem tg_tup {n m : Nat} {is : List Nat} (h : Tgs G C k ρ es is ds ρ1) (hl : ds.length = n) (hn : ∀ env, (assignEach es env).length = n) (hst : ∀ env, (assignEach es env).findIdx? (·.1) = none) : Tg G C k ρ (.Tuple es m pos) is (.tuple ds) ρ1 := fun X hX =>
  pg_imp (pg_tup hX.calm (h X hX) (hn _) (hst _)) fun v σ H Q ⟨F0, H0, F, S, r, q⟩ => by
    obtain ⟨a, xs, rfl, h1, h2⟩ := (Rp.b (H := H) r).tup S.ext.sub
    exact ⟨a, xs, rfl, by rw [hX.eK]; exact h1, by rw [h2.length]; exact hl, F0, H0, F, S, h2, q⟩
end

/-! ### what is walked -/
/-- at each turn the next of ds, while the heap grows -/
def Sup (K : KK) (J : It) (ds : List PyData) (P : Hp → Hp → Prop) : Prop := ∀ F H, P F H → Same F H →
  (∀ i d, ds[i]? = some d → J.go i H ∧ ∀ x H', J.yld i H x H' → ∃ F', Ext F H F' H' ∧ Rp K F' x d) ∧ J.stop ds.length H
/-- walked while all that is frozen stays -/
def tIt (K : KK) (ρ : PEnv) (ds : List PyData) (z : Prop) : TI := fun σ H R => ∃ F0 H0 F, SRel K F0 H0 ρ σ F H ∧ ∀ J F' H', Ext F H F' H' → z → Sup K J ds (fun F2 _ => Same F' F2) → R J H'
/-- walked while all objects stay -/
def tItB (K : KK) (ρ : PEnv) (ds : List PyData) (z : Prop) : TI := fun σ H R => ∃ F0 H0 F, SRel K F0 H0 ρ σ F H ∧ ∀ J F' H', Ext F H F' H' → z → Sup K J ds (fun F2 H2 => Ext F' H' F2 H2) → R J H'
def It' (G : Gb) (C : SC) (k : Nat) (ρ : PEnv) (tg e : Expr) (ds : List PyData) (z : Prop) : Prop := ∀ X, CxOk G C k X → PI X tg e (tIt G.K ρ ds z)
def ItB (G : Gb) (C : SC) (k : Nat) (ρ : PEnv) (tg e : Expr) (ds : List PyData) (z : Prop) : Prop := ∀ X, CxOk G C k X → PI X tg e (tItB G.K ρ ds z)
section
variable {K : KK} {F F' H H' : Hp} {J : It} {ds : List PyData}
theorem sup_walk {n : Nat} {Gp : Hp → Prop} {Y : Nat → Hp → V → Hp → Prop} (w : Walk J n Gp Y) (hn : n = ds.length) {P : Hp → Hp → Prop} (hg : ∀ F H, P F H → Same F H → Gp H)
    (hy : ∀ F H i x d H', P F H → Same F H → ds[i]? = some d → Y i H x H' → ∃ F', Ext F H F' H' ∧ Rp K F' x d) : Sup K J ds P := fun F H p sF => by
  subst hn
  refine ⟨fun i d hd => ?_, w.stops H (hg F H p sF)⟩
  have hi : i < ds.length := (List.getElem?_eq_some_iff.mp hd).1
  exact ⟨w.goes i H hi (hg F H p sF), fun x H' y => hy F H i x d H' p sF hd (w.yields i H x H' hi (hg F H p sF) y)⟩
end
section
variable {G : Gb} {C : SC} {k : Nat} {ρ ρ1 ρ2 : PEnv} {e tg : Expr} {es : List Expr} {d : PyData} {ds : List PyData} {pos p : Pos}
theorem It'.toB {z : Prop} (h : It' G C k ρ tg e ds z) : ItB G C k ρ tg e ds z := fun X hX => pi_imp (h X hX) fun σ H R ⟨F0, H0, F, S, q⟩ => ⟨F0, H0, F, S, fun J F' H' x bd s => q J F' H' x bd fun F2 H2 e2 sF => s F2 H2 e2.fs sF⟩
/-- over a list, a tuple -/
theorem it_list (h : Ev G C k ρ e (.list ds)) : It' G C k ρ tg e ds (ds.length ≤ sizeLine) := fun X hX =>
  pi_imp (pi_list (pe_bd (h X hX))) fun σ H R ⟨F0, H0, F, S, q⟩ => ⟨F0, H0, F, S, fun v F1 H1 e1 r1 bd => by
    rw [hX.eK] at bd ⊢
    cases r1 with
    | @lst a xs _ h1 h2 =>
      refine ⟨_, rfl, ⟨_, e1.sub.seq h1⟩, q _ F1 H1 e1 (by rw [← h2.length]; exact bd _ _ (.inl (e1.sub.seq h1))) (sup_walk (walk_list (xs := xs)) h2.length (fun F2 H2 s sF => (s.trans sF).seq h1) fun F2 H2 i x d H' s sF hd y => ?_)⟩
      obtain ⟨rfl, hx⟩ := y
      obtain ⟨d', hd', r⟩ := h2.get hx
      rw [hd] at hd'
      cases hd'
      exact ⟨F2, Ext.refl sF, r.mono s⟩⟩
theorem it_tup (h : Ev G C k ρ e (.tuple ds)) : It' G C k ρ tg e ds (ds.length ≤ sizeLine) := fun X hX =>
  pi_imp (pi_tup (pe_bd (h X hX))) fun σ H R ⟨F0, H0, F, S, q⟩ => ⟨F0, H0, F, S, fun v F1 H1 e1 r1 bd => by
    rw [hX.eK] at bd ⊢
    cases r1 with
    | @tup a xs _ h1 h2 =>
      refine ⟨_, rfl, ⟨_, same_tup e1.sub h1⟩, q _ F1 H1 e1 (by rw [← h2.length]; exact bd _ _ (.inr (same_tup e1.sub h1))) (sup_walk (walk_tup (xs := xs)) h2.length (fun F2 H2 s sF => same_tup (s.trans sF) h1) fun F2 H2 i x d H' s sF hd y => ?_)⟩
      obtain ⟨rfl, hx⟩ := y
      obtain ⟨d', hd', r⟩ := h2.get hx
      rw [hd] at hd'
      cases hd'
      exact ⟨F2, Ext.refl sF, r.mono s⟩⟩
/-- over an owned list, while all objects stay (a comprehension) -/
theorem itb_list (h : EvB G C k ρ e (.list ds)) : ItB G C k ρ tg e ds (ds.length ≤ sizeLine) := fun X hX =>
  pi_imp (pi_list (pe_bd (h X hX))) fun σ H R ⟨F0, H0, F, S, q⟩ => ⟨F0, H0, F, S, fun v F1 H1 e1 r1 bd => by
    rw [hX.eK] at bd ⊢
    obtain ⟨a, xs, rfl, h1, h2⟩ := r1.lst e1.sub
    refine ⟨_, rfl, ⟨_, h1⟩, q _ F1 H1 e1 (by rw [← h2.length]; exact bd _ _ (.inl h1)) (sup_walk (walk_list (xs := xs)) h2.length (fun F2 H2 s sF => s.hs.seq h1) fun F2 H2 i x d H' s sF hd y => ?_)⟩
    obtain ⟨rfl, hx⟩ := y
    obtain ⟨d', hd', r⟩ := h2.get hx
    rw [hd] at hd'
    cases hd'
    exact ⟨F2, Ext.refl sF, r.mono s.fs⟩⟩
/-- lo, lo + 1, .. below hi -/
def rangeD (lo hi : Int) : List Int := (List.range (hi - lo).toNat).map fun (i : Nat) => lo + (i : Int)
theorem rangeD_get {lo hi : Int} {i : Nat} {d : PyData} (h : ((rangeD lo hi).map PyData.int)[i]? = some d) : d = .int (lo + i) := by
  unfold rangeD at h
  rw [List.map_map, List.getElem?_map] at h
  cases e : (List.range (hi - lo).toNat)[i]? with
  | none => rw [e] at h; cases h
  | some j =>
    rw [e] at h
    have hj : j = i := by
      obtain ⟨h1, h2⟩ := List.getElem?_eq_some_iff.mp e
      simpa using h2.symm
    subst hj
    cases h
    rfl
theorem rangeD_len {lo hi : Int} : (hi - lo).toNat = ((rangeD lo hi).map PyData.int).length := by unfold rangeD; simp
theorem it_range1 {a : Expr} {j : Int} (hg : C.sc.names.lookup ("range" : Str) = some .globalImplicit) (hm : G.mg "range" = none) (ha : EvB G C k ρ a (.int j)) (h1 : -(2 ^ 62) ≤ j) (h2 : j < 2 ^ 62) (hs : ∀ env, starEach [a] env = [(false, eval a env)]) :
    It' G C k ρ tg (.Call (.Name "range" p) [a] [] pos) ((rangeD 0 j).map .int) True := fun X hX =>
  pi_imp (pi_range1 (by unfold Gl Env.kindOf; rw [hX.es]; exact hg) (by rw [hX.em]; exact hm) (pa_cons (pe_bd (ha X hX)) pa_nil (by rw [hs]; rfl)) (hs _)) fun σ H R ⟨F0, H0, F, S, q⟩ => ⟨F0, H0, F, S, fun v F1 H1 e1 r1 bd => by
    rw [hX.eK] at bd
    rw [r1.int]
    refine ⟨j, rfl, h1, h2, q _ F1 H1 e1 trivial (sup_walk walk_range (by rw [← rangeD_len, Int.sub_zero]) (fun _ _ _ _ => trivial) fun F2 H2 i x d H' s sF hd y => ?_)⟩
    obtain ⟨rfl, rfl⟩ := y
    rw [rangeD_get hd]
    exact ⟨F2, Ext.refl sF, .int _⟩⟩
theorem it_range2 {a b : Expr} {i j : Int} (hg : C.sc.names.lookup ("range" : Str) = some .globalImplicit) (hm : G.mg "range" = none) (ha : EvB G C k ρ a (.int i)) (hb : EvB G C k ρ b (.int j)) (h1 : -(2 ^ 62) ≤ i ∧ i < 2 ^ 62 ∧ -(2 ^ 62) ≤ j ∧ j < 2 ^ 62)
    (hs : ∀ env, starEach [a, b] env = [(false, eval a env), (false, eval b env)]) (hs2 : ∀ env, starEach [b] env = [(false, eval b env)]) :
    It' G C k ρ tg (.Call (.Name "range" p) [a, b] [] pos) ((rangeD i j).map .int) True := fun X hX =>
  pi_imp (pi_range2 (by unfold Gl Env.kindOf; rw [hX.es]; exact hg) (by rw [hX.em]; exact hm) (pa_cons (ha X hX) (pa_cons (pe_bd (hb X hX)) pa_nil (by rw [hs2]; rfl)) (by rw [hs, hs2])) (hs _) (hs2 _)) fun σ H R ⟨F0, H0, F, S, q⟩ => ⟨F0, H0, F, S, fun v F1 H1 e1 r1 => ⟨F0, H0, F1, S.go e1, fun w F2 H2 e2 r2 bd => by
    rw [hX.eK] at bd
    rw [r1.int, r2.int]
    refine ⟨i, j, rfl, h1, q _ F2 H2 (e1.trans e2) trivial (sup_walk walk_range rangeD_len (fun _ _ _ _ => trivial) fun F3 H3 m x d H' s sF hd y => ?_)⟩
    obtain ⟨rfl, rfl⟩ := y
    rw [rangeD_get hd]
    exact ⟨F3, Ext.refl sF, .int _⟩⟩⟩
end

/-! ### comprehensions -/
/-- the block's names -/
def SC.blk (C : SC) (scope : Scope) : SC := ⟨C.N, relS scope C.sc, fun x => scope.names.lookup x == some .cell⟩
def Ts (G : Gb) (C : SC) (k : Nat) (ρ : PEnv) (es : List Expr) (b : Bool) : Prop := ∀ X, CxOk G C k X → PTs X es (tTe G.K ρ b)
/-- one item: it gives y, or nothing -/
def LcStep (G : Gb) (C : SC) (k : Nat) (ρ : PEnv) (vs : List Nat) (tg : Expr) (ifs : List Expr) (elt : Expr) (d : PyData) (o : Option PyData) : Prop :=
  ∃ is ρ', (∀ i ∈ is, i ∈ vs) ∧ Tg G C k ρ tg is d ρ' ∧ ((∃ y, o = some y ∧ Ts G C k ρ' ifs true ∧ Ev G C k ρ' elt y) ∨ (o = none ∧ Ts G C k ρ' ifs false))
section
variable {G : Gb} {C : SC} {k : Nat} {ρ ρ1 ρ2 : PEnv} {e tg : Expr} {es : List Expr} {d : PyData} {ds : List PyData} {pos p : Pos}
theorem ts_nil : Ts G C k ρ [] true := fun X hX => pts_imp pts_nil fun σ H Q ⟨F0, H0, F, S, q⟩ => q F H (Ext.refl S.ext.sub)
theorem ts_one {b : Bool} (h : Te G C k ρ e b) : Ts G C k ρ [e] b := fun X hX => pts_one (h X hX)
theorem CxOk.blk {X : Cx} (hX : CxOk G C k X) {s : Shared} {H : Hp} {scope : Scope} {cl : List (Str × Addr)} {Ca : Addr} {fp : List Addr} : CxOk G (C.blk scope) k (X.blk s H scope (compEnvC scope cl Ca X.env) fp) :=
  ⟨hX.eP, hX.ew, hX.eK, hX.em, hX.eb, hX.eN, by show relS scope X.env.scope = relS scope C.sc; rw [hX.es], hX.calm, hX.room, hX.nd, fun x h => h, rfl⟩
/-- all items of a comprehension -/
inductive LcR (G : Gb) (C : SC) (k : Nat) (ρ : PEnv) (vs : List Nat) (tg : Expr) (ifs : List Expr) (elt : Expr) : List PyData → List PyData → Prop
  | nil : LcR G C k ρ vs tg ifs elt [] []
  | keep {d y : PyData} {ds ys : List PyData} : LcStep G C k ρ vs tg ifs elt d (some y) → LcR G C k ρ vs tg ifs elt ds ys → LcR G C k ρ vs tg ifs elt (d :: ds) (y :: ys)
  | skip {d : PyData} {ds ys : List PyData} : LcStep G C k ρ vs tg ifs elt d none → LcR G C k ρ vs tg ifs elt ds ys → LcR G C k ρ vs tg ifs elt (d :: ds) ys
theorem Ext.growD {F H F1 H1 : Hp} {D : Addr} {o o' : HO} (e : Ext F H F1 H1) (hn : H D = none) (hf : F1 D = none) (hD : H1 D = some o) : Ext F H F1 (upd H1 D o') :=
  ⟨fun a x q => by rw [upd_ne (ne_of_none q hn)]; exact e.hs _ _ q, e.fs, fun a x q => by rw [upd_ne (ne_of_none q hf)]; exact e.sub _ _ q, e.new⟩
/-- the block's readings, whatever the item -/
def gU (G : Gb) (C : SC) (k : Nat) (scope : Scope) (ρ : PEnv) (own : List (Str × Nat)) (tg : Expr) : TG := fun v σ H Q => ∃ i : PyData × List Nat × PEnv, (Tg G (C.blk scope) k (wipeE ρ (own.map (·.2))) tg i.2.1 i.1 i.2.2) ∧ tTg G.K (wipeE ρ (own.map (·.2))) i.2.1 i.1 i.2.2 v σ H Q
def ttU (G : Gb) (C : SC) (k : Nat) (scope : Scope) (ifs : List Expr) : TT := fun σ H Q => ∃ i : PEnv × Bool, Ts G (C.blk scope) k i.1 ifs i.2 ∧ tTe G.K i.1 i.2 σ H Q
def teU (G : Gb) (C : SC) (k : Nat) (scope : Scope) (elt : Expr) : TE := fun σ H Q => ∃ i : PEnv × PyData, Ev G (C.blk scope) k i.1 elt i.2 ∧ tEv G.K i.1 i.2 σ H Q
/-- [elt for tg in iter if ..] -/
theorem lc_read {elt iter : Expr} {ifs : List Expr} {scope : Scope} {own : List (Str × Nat)} {ys : List PyData} (ok : BlkOk C.N C.sc scope own) {z : Prop} (hi : ItB G C k ρ tg iter ds z)
    (hs : LcR G (C.blk scope) k (wipeE ρ (own.map (·.2))) (own.map (·.2)) tg ifs elt ds ys) (hzz : z → ys.length ≤ sizeLine) {σ : L2.St} {H : Hp} {Q : VK} (h : tEvN G.K ρ (.list ys) σ H Q) :
    tLc (tItB G.K ρ ds z) (gU G C k scope ρ own tg) (ttU G C k scope ifs) (teU G C k scope elt) (own.map (·.2)) σ H Q := by
  obtain ⟨F0, H0, F, S, q⟩ := h
  refine ⟨F0, H0, F, S, fun J F1 H1 e1 hz0 sup D hD => ?_⟩
  have hz := hzz hz0
  have S1 := S.go e1
  have fD : F1 D = none := e1.sub.free hD
  refine ⟨fun i m H => m = ds.length - i ∧ i ≤ ds.length ∧ ∃ F2 acc done rest, Ext F1 H1 F2 H ∧ H D = some (.lst acc) ∧ F2 D = none ∧ RpA G.K F2 acc done ∧ LcR G (C.blk scope) k (wipeE ρ (own.map (·.2))) (own.map (·.2)) tg ifs elt (ds.drop i) rest ∧ done ++ rest = ys,
    ⟨ds.length, by simp, Nat.zero_le _, F1, [], [], ys, Ext.put e1.sub hD, upd_same, fD, .nil, by simpa using hs, rfl⟩, ?_⟩
  rintro i m H2 ⟨rfl, hi2, F2, acc, done, rest, e2, hD2, fD2, ra, lr, hys⟩
  obtain ⟨go, stop⟩ := sup F2 H2 e2 e2.sub
  by_cases hlt : i < ds.length
  · have hd : ds[i]? = some ds[i] := List.getElem?_eq_getElem hlt
    obtain ⟨g1, g2⟩ := go i _ hd
    refine .inr ⟨g1, fun H' => i + 1 ≤ ds.length ∧ ∃ F2 acc done rest, Ext F1 H1 F2 H' ∧ H' D = some (.lst acc) ∧ F2 D = none ∧ RpA G.K F2 acc done ∧ LcR G (C.blk scope) k (wipeE ρ (own.map (·.2))) (own.map (·.2)) tg ifs elt (ds.drop (i + 1)) rest ∧ done ++ rest = ys,
      fun H' ⟨h1, h2⟩ => ⟨ds.length - (i + 1), by omega, rfl, h1, h2⟩, fun x H3 y => ?_⟩
    obtain ⟨F3, e3, rx⟩ := g2 x H3 y
    have e13 := e2.trans e3
    have noD : ∀ {Fa Ha Fb Hb : Hp}, Ext Fa Ha Fb Hb → Fa D = none → (∃ o, Ha D = some (.lst o)) → Fb D = none := fun {Fa Ha Fb Hb} ee h1 ⟨o, h2⟩ => by
      cases z : Fb D with
      | none => rfl
      | some u =>
        rcases ee.new D u z with w | w | w
        · rw [h1] at w; cases w
        · rw [h2] at w; cases w
        · have z2 := (ee.hs _ _ h2).symm.trans (ee.sub _ _ z)
          cases z2
          cases w
    have hdrop : ds.drop i = ds[i] :: ds.drop (i + 1) := List.drop_eq_getElem_cons hlt
    rw [hdrop] at lr
    have wp : ∀ {is : List Nat} {σ' : L2.St}, (∀ i ∈ is, i ∈ own.map (·.2)) → Off is (L2.wipe σ (own.map (·.2))) σ' → L2.wipe σ' (own.map (·.2)) = L2.wipe σ (own.map (·.2)) := fun {is σ'} hsub off =>
      wipe_eq (off.1.trans (wipe_length _ _)) fun j hj => by rw [off.2 j fun z => hj (hsub j z), wipe_at hj]
    cases lr with
    | @keep _ y' _ rest' hst lr' =>
      obtain ⟨is, ρ', hsub, htg, ⟨y2, hy2, hts, hev⟩ | ⟨hn, _⟩⟩ := hst
      · cases hy2
        refine ⟨(ds[i], is, ρ'), htg, F0, H0, F3, (S1.go e13).wipe _, rx, fun σ' off S' => ⟨wp hsub off, ?_⟩⟩
        refine ⟨(ρ', true), hts, F0, H0, F3, S', fun F4 H4 e4 => iteT ⟨(ρ', y'), hev, F0, H0, F4, S'.go e4, fun v F5 H5 e5 r5 => ?_⟩⟩
        have e25 := (e3.trans e4).trans e5
        have hD5 := e25.hs _ _ hD2
        have fD5 := noD e25 fD2 ⟨_, hD2⟩
        have hl := ra.length
        refine ⟨acc, hD5, ?_, hlt, F5, acc ++ [v], done ++ [y'], rest', (e2.trans e25).growD hD fD5 hD5, upd_same, fD5, (ra.mono e25.fs).append (.cons r5 .nil), lr', by rw [List.append_assoc]; exact hys⟩
        have hl2 := congrArg List.length hys
        rw [List.length_append, List.length_cons] at hl2
        omega
      · cases hn
    | skip hst lr' =>
      obtain ⟨is, ρ', hsub, htg, ⟨y2, hy2, _⟩ | ⟨_, hts⟩⟩ := hst
      · cases hy2
      · refine ⟨(ds[i], is, ρ'), htg, F0, H0, F3, (S1.go e13).wipe _, rx, fun σ' off S' => ⟨wp hsub off, ?_⟩⟩
        refine ⟨(ρ', false), hts, F0, H0, F3, S', fun F4 H4 e4 => iteF ?_⟩
        have e24 := e3.trans e4
        exact ⟨hlt, F4, acc, done, rest, e2.trans e24, e24.hs _ _ hD2, noD e24 fD2 ⟨_, hD2⟩, ra.mono e24.fs, lr', hys⟩
  · have e : i = ds.length := by omega
    subst e
    rw [List.drop_length] at lr
    cases lr
    rw [List.append_nil] at hys
    subst hys
    exact .inl ⟨stop, q D _ F2 H2 (e1.trans e2) (e1.hs.free hD) hD2 fD2 (.lst ra)⟩
theorem evn_lc {elt iter : Expr} {ifs : List Expr} {scope : Scope} {own : List (Str × Nat)} {ys : List PyData} (ok : BlkOk C.N C.sc scope own) {z : Prop} (hi : ItB G C k ρ tg iter ds z)
    (hs : LcR G (C.blk scope) k (wipeE ρ (own.map (·.2))) (own.map (·.2)) tg ifs elt ds ys) (hzz : z → ys.length ≤ sizeLine) (hfs : ∀ env x, foldedSetIterable iter env x = pure x) :
    EvN G C k ρ (.ListComp elt [⟨tg, iter, ifs, 0⟩] scope pos) (.list ys) := fun X hX =>
  pe_imp (pe_lc (own := own) (g := gU G C k scope ρ own tg) (tt := ttU G C k scope ifs) (te := teU G C k scope elt)
    hX.calm (by rw [hX.eN]; exact hX.nd) (hi X hX) (by rw [hX.eN, hX.es]; exact ok) (fun s H Ca cl fp => pg_un fun i h => h _ hX.blk) (fun s H Ca cl fp => pts_un fun i h => h _ hX.blk) (fun s H Ca cl fp => pe_un fun i h => h _ hX.blk) (hfs _)) fun σ H Q h => lc_read ok hi hs hzz h
end
end Pl
/-! Pl, part G: calls of the text's own defs; statements; defs. -/
namespace Pl
open PySem PySem.Spec PyProof.Rows L2

/-- what a call with the data ds promises: the datum d -/
def spV (K : KK) (ds : List PyData) (d : PyData) : Sp := fun vs H Q _ => ∃ F, Same F H ∧ RpA K F vs ds ∧ ∀ v F' H', Ext F H F' H' → Rp K F' v d → Q v H'
/-- the def x called with ds hands back d -/
def Fn (G : Gb) (j : Nat) (x : Str) (ds : List PyData) (d : PyData) : Prop := ∃ f fd ps, FnOk G.P G.w G.K G.mg G.base CX0 j f fd ps (spV G.K ds d) ∧ G.mg x = some (.ref f) ∧ PySem.W.keepIn G.K (.ref f) = true ∧ Binds G.K fd ps []
theorem Fn.mono {G : Gb} {j j' : Nat} {x : Str} {ds : List PyData} {d : PyData} (h : Fn G j x ds d) (l : j ≤ j') : Fn G j' x ds d := let ⟨f, fd, ps, h1, h2, h3, h4⟩ := h; ⟨f, fd, ps, h1.mono l, h2, h3, h4⟩

/-- F1 and the tuples of F' -/
noncomputable def addT (F1 F' : Hp) : Hp := fun a => match F1 a with
  | some o => some o
  | none => match F' a with
    | some u => if stays u = true then some u else none
    | none => none
theorem addT_of {F1 F' : Hp} {a : Addr} {o : HO} (h : addT F1 F' a = some o) : F1 a = some o ∨ (F' a = some o ∧ stays o = true) := by
  unfold addT at h
  cases e : F1 a with
  | some u => rw [e] at h; exact .inl h
  | none =>
    rw [e] at h
    cases e' : F' a with
    | none => rw [e'] at h; cases h
    | some u =>
      rw [e'] at h
      by_cases c : stays u = true
      · have h' : (if stays u = true then some u else none) = some o := h
        rw [if_pos c] at h'
        cases h'
        exact .inr ⟨rfl, c⟩
      · have h' : (if stays u = true then some u else none) = some o := h
        rw [if_neg c] at h'
        cases h'
theorem addT_l {F1 F' : Hp} : Same F1 (addT F1 F') := fun a o e => by unfold addT; rw [e]
theorem addT_tup {F1 F' H' : Hp} (s1 : Same F1 H') (s2 : Same F' H') {a : Addr} {o : HO} (c : stays o = true) (h : F' a = some o) : addT F1 F' a = some o := by
  unfold addT
  cases e : F1 a with
  | some u =>
    have h1 := s1 _ _ e
    rw [s2 _ _ h] at h1
    cases h1
    rfl
  | none =>
    rw [h]
    exact if_pos c
section
variable {G : Gb} {C : SC} {k j : Nat} {ρ ρ1 ρ2 : PEnv} {e tg : Expr} {es : List Expr} {d : PyData} {ds : List PyData} {pos p : Pos}
/-- f(..), shared arguments -/
theorem ev_call {x : Str} (h : Fn G j x ds d) (hj : j ≤ k) (hg : C.sc.names.lookup x = some .globalImplicit) (ha : EA G C k ρ (e :: es) ds) (hdb : (x == ("__debug__" : Str)) = false) (he : ∀ env, starEach (e :: es) env = (false, eval e env) :: starEach es env) (hpl : ∀ env, (backTo pos (starEach es env)).any (·.1) = false) :
    Ev G C k ρ (.Call (.Name x p) (e :: es) [] pos) d := fun X hX => by
  obtain ⟨f, fd, ps, h1, h2, h3, h4⟩ := h
  refine pe_imp (pe_call (CX := CX0) (E := E0) (dvs := []) (by rw [hX.eP, hX.ew, hX.eK, hX.em, hX.eb]; exact h1) (hX.room.mono hj) (by unfold Gl Env.kindOf; rw [hX.es]; exact hg) (by rw [hX.em]; exact h2) (by rw [hX.eK]; exact h3) (by rw [hX.eK]; exact h4) .nil pass0 (ha X hX) hdb (he _) (hpl _))
    fun σ H Q ⟨F0, H0, F, S, q⟩ => ⟨F0, H0, F, S, fun vs F1 H1 e1 r1 => ?_⟩
  show spV G.K ds d (vs ++ []) H1 Q E0
  rw [List.append_nil]
  exact ⟨F1, e1.sub, r1, fun v F2 H2 e2 r2 => q v F2 H2 (e1.trans e2) r2⟩
/-- f(..), arguments that may be owned; the answer is flat -/
theorem ev_callB' {x : Str} (h : Fn G j x ds d) (hfl : flat d = true) (hj : j ≤ k) (hg : C.sc.names.lookup x = some .globalImplicit) (ha : EAB G C k ρ (e :: es) ds) (hdb : (x == ("__debug__" : Str)) = false) (he : ∀ env, starEach (e :: es) env = (false, eval e env) :: starEach es env) (hpl : ∀ env, (backTo pos (starEach es env)).any (·.1) = false) :
    Ev G C k ρ (.Call (.Name x p) (e :: es) [] pos) d := fun X hX => by
  obtain ⟨f, fd, ps, h1, h2, h3, h4⟩ := h
  refine pe_imp (pe_call (CX := CX0) (E := E0) (dvs := []) (by rw [hX.eP, hX.ew, hX.eK, hX.em, hX.eb]; exact h1) (hX.room.mono hj) (by unfold Gl Env.kindOf; rw [hX.es]; exact hg) (by rw [hX.em]; exact h2) (by rw [hX.eK]; exact h3) (by rw [hX.eK]; exact h4) .nil pass0 (ha X hX) hdb (he _) (hpl _))
    fun σ H Q ⟨F0, H0, F, S, q⟩ => ⟨F0, H0, F, S, fun vs F1 H1 e1 r1 => ?_⟩
  show spV G.K ds d (vs ++ []) H1 Q E0
  rw [List.append_nil]
  refine ⟨H1, Same.refl _, r1.full e1.sub, fun v F2 H2 e2 r2 => ?_⟩
  have s1 : Same F1 H2 := e1.sub.trans e2.hs
  have x : Ext F1 H1 (addT F1 F2) H2 := ⟨e2.hs, addT_l, fun a o z => by
    rcases addT_of z with z | ⟨z, _⟩
    · exact s1 _ _ z
    · exact e2.sub _ _ z, fun a o z => by
    rcases addT_of z with z | ⟨z, w⟩
    · exact .inl z
    · exact .inr (.inr w)⟩
  refine q v _ H2 (e1.trans x) (r2.narrow (fun a xs t => ?_) hfl)
  rcases t with (t | ⟨o, t⟩) | t
  · exact .inl (.inl (addT_tup s1 e2.sub rfl t))
  · exact .inl (.inr ⟨o, addT_tup s1 e2.sub rfl t⟩)
  · exact .inr t
end
end Pl
/-! Pl, part H: statements, loops, defs. -/
namespace Pl
open PySem PySem.Spec PyProof.Rows L2

/-- how a block ends -/
inductive Out where
  | nx (ρ : PEnv)
  | rt (d : PyData)
  | bk (ρ : PEnv)
  | ct (ρ : PEnv)
/-- what is wanted of the end -/
def OutK (K : KK) (F0 H0 Fa : Hp) (D : Ends) : Out → Prop
  | .nx ρ => ∀ σ F H, SRel K F0 H0 ρ σ F H → Same Fa F → D.nx σ H
  | .rt d => ∀ v F H, Ext F0 H0 F H → Rp K F v d → D.rt v H
  | .bk ρ => ∀ σ F H, SRel K F0 H0 ρ σ F H → Same Fa F → D.bk σ H
  | .ct ρ => ∀ σ F H, SRel K F0 H0 ρ σ F H → Same Fa F → D.ct σ H
theorem OutK.mono {K : KK} {F0 H0 Fa Fb : Hp} {D : Ends} (s : Same Fa Fb) : ∀ {r : Out}, OutK K F0 H0 Fa D r → OutK K F0 H0 Fb D r
  | .nx _, h => fun σ F H S t => h σ F H S (s.trans t)
  | .rt _, h => h
  | .bk _, h => fun σ F H S t => h σ F H S (s.trans t)
  | .ct _, h => fun σ F H S t => h σ F H S (s.trans t)
def tOut (K : KK) (ρ : PEnv) (r : Out) : TS := fun D σ H => ∃ F0 H0 F, SRel K F0 H0 ρ σ F H ∧ OutK K F0 H0 F D r
def St1 (G : Gb) (C : SC) (k : Nat) (ρ : PEnv) (st : Stmt) (r : Out) : Prop := ∀ X, CxOk G C k X → PS X st (tOut G.K ρ r)
def Blk (G : Gb) (C : SC) (k : Nat) (ρ : PEnv) (sts : List Stmt) (r : Out) : Prop := ∀ X, CxOk G C k X → PSs X sts (tOut G.K ρ r)
/-- an end that claims less -/
inductive OutCov : Out → Out → Prop
  | nx {ρ ρ' : PEnv} : Cov ρ ρ' → OutCov (.nx ρ) (.nx ρ')
  | rt {d : PyData} : OutCov (.rt d) (.rt d)
  | bk {ρ ρ' : PEnv} : Cov ρ ρ' → OutCov (.bk ρ) (.bk ρ')
  | ct {ρ ρ' : PEnv} : Cov ρ ρ' → OutCov (.ct ρ) (.ct ρ')
theorem OutCov.k {K : KK} {F0 H0 Fa : Hp} {D : Ends} {r r' : Out} (c : OutCov r r') (h : OutK K F0 H0 Fa D r') : OutK K F0 H0 Fa D r := by
  cases c with
  | nx c => exact fun σ F H S t => let ⟨F', s, S'⟩ := S.weak c; h σ F' H S' (t.trans s)
  | rt => exact h
  | bk c => exact fun σ F H S t => let ⟨F', s, S'⟩ := S.weak c; h σ F' H S' (t.trans s)
  | ct c => exact fun σ F H S t => let ⟨F', s, S'⟩ := S.weak c; h σ F' H S' (t.trans s)
section
variable {X : Cx}
theorem ps_imp {st : Stmt} {t t' : TS} (h : PS X st t) (i : ∀ D σ H, t' D σ H → t D σ H) : PS X st t' := ⟨fun pins s σ H D I q => h.run pins s σ H D I (i D σ H q)⟩
theorem pss_imp {sts : List Stmt} {t t' : TS} (h : PSs X sts t) (i : ∀ D σ H, t' D σ H → t D σ H) : PSs X sts t' := ⟨fun pins s σ H D I q => h.run pins s σ H D I (i D σ H q)⟩
theorem pss_un {sts : List Stmt} {ι : Type} {P : ι → Prop} {t : ι → TS} (h : ∀ i, P i → PSs X sts (t i)) : PSs X sts (fun D σ H => ∃ i, P i ∧ t i D σ H) := ⟨fun pins s σ H D I ⟨i, p, q⟩ => (h i p).run pins s σ H D I q⟩
theorem pt_un {e : Expr} {ι : Type} {P : ι → Prop} {t : ι → TT} (h : ∀ i, P i → PT X e (t i)) : PT X e (fun σ H Q => ∃ i, P i ∧ t i σ H Q) := ⟨fun pins s σ H Q I ⟨i, p, q⟩ => (h i p).run pins s σ H Q I q⟩
end
section
variable {G : Gb} {C : SC} {k j : Nat} {ρ ρ1 ρ2 : PEnv} {e tg c : Expr} {es : List Expr} {d d1 d2 : PyData} {ds : List PyData} {pos p : Pos} {st : Stmt} {ss a b : List Stmt} {r r' : Out}
/-! ### blocks -/
theorem blk_nil : Blk G C k ρ [] (.nx ρ) := fun X hX => pss_imp pss_nil fun D σ H ⟨F0, H0, F, S, q⟩ => q σ F H S (Same.refl _)
theorem blk_cons (h1 : St1 G C k ρ st (.nx ρ1)) (h2 : Blk G C k ρ1 ss r) : Blk G C k ρ (st :: ss) r := fun X hX =>
  pss_imp (pss_cons (h1 X hX) (h2 X hX)) fun D σ H ⟨F0, H0, F, S, q⟩ => ⟨F0, H0, F, S, fun σ1 F1 H1 S1 t => ⟨F0, H0, F1, S1, q.mono t⟩⟩
theorem blk_one (h : St1 G C k ρ st r) : Blk G C k ρ [st] r := fun X hX => pss_one (h X hX)
theorem blk_ret (h : St1 G C k ρ st (.rt d)) : Blk G C k ρ (st :: ss) (.rt d) := fun X hX =>
  pss_imp (pss_cons (h X hX) pss_never) fun D σ H ⟨F0, H0, F, S, q⟩ => ⟨F0, H0, F, S, q⟩
theorem blk_brk (h : St1 G C k ρ st (.bk ρ1)) : Blk G C k ρ (st :: ss) (.bk ρ1) := fun X hX =>
  pss_imp (pss_cons (h X hX) pss_never) fun D σ H ⟨F0, H0, F, S, q⟩ => ⟨F0, H0, F, S, q⟩
theorem blk_cont (h : St1 G C k ρ st (.ct ρ1)) : Blk G C k ρ (st :: ss) (.ct ρ1) := fun X hX =>
  pss_imp (pss_cons (h X hX) pss_never) fun D σ H ⟨F0, H0, F, S, q⟩ => ⟨F0, H0, F, S, q⟩
theorem Blk.weak (h : Blk G C k ρ1 ss r) (cv : Cov ρ ρ1) : Blk G C k ρ ss r := fun X hX =>
  pss_imp (h X hX) fun D σ H ⟨F0, H0, F, S, q⟩ => let ⟨F', s, S'⟩ := S.weak cv; ⟨F0, H0, F', S', q.mono s⟩
theorem Blk.out (h : Blk G C k ρ ss r) (cv : OutCov r r') : Blk G C k ρ ss r' := fun X hX =>
  pss_imp (h X hX) fun D σ H ⟨F0, H0, F, S, q⟩ => ⟨F0, H0, F, S, cv.k q⟩
theorem St1.weak (h : St1 G C k ρ1 st r) (cv : Cov ρ ρ1) : St1 G C k ρ st r := fun X hX =>
  ps_imp (h X hX) fun D σ H ⟨F0, H0, F, S, q⟩ => let ⟨F', s, S'⟩ := S.weak cv; ⟨F0, H0, F', S', q.mono s⟩
theorem St1.out (h : St1 G C k ρ st r) (cv : OutCov r r') : St1 G C k ρ st r' := fun X hX =>
  ps_imp (h X hX) fun D σ H ⟨F0, H0, F, S, q⟩ => ⟨F0, H0, F, S, cv.k q⟩
/-! ### simple statements -/
theorem st_ret (h : Ev G C k ρ e d) : St1 G C k ρ (.Return (some e) pos) (.rt d) := fun X hX =>
  ps_imp (ps_ret (h X hX)) fun D σ H ⟨F0, H0, F, S, q⟩ => ⟨F0, H0, F, S, fun v F1 H1 e1 r1 => q v F1 H1 (S.ext.trans e1) r1⟩
theorem st_retN : St1 G C k ρ (.Return none pos) (.rt .none) := fun X hX => ps_imp ps_retN fun D σ H ⟨F0, H0, F, S, q⟩ => q .non F H S.ext .non
theorem st_pass : St1 G C k ρ (.Pass pos) (.nx ρ) := fun X hX => ps_imp ps_pass fun D σ H ⟨F0, H0, F, S, q⟩ => q σ F H S (Same.refl _)
theorem st_break : St1 G C k ρ (.Break pos) (.bk ρ) := fun X hX => ps_imp ps_break fun D σ H ⟨F0, H0, F, S, q⟩ => q σ F H S (Same.refl _)
theorem st_cont : St1 G C k ρ (.Continue pos) (.ct ρ) := fun X hX => ps_imp ps_continue fun D σ H ⟨F0, H0, F, S, q⟩ => q σ F H S (Same.refl _)
/-- x = e, e a shared datum -/
theorem st_set (i : Nat) {x : Str} {pos' : Pos} (hi : C.N[i]? = some x) (hx : C.sc.names.lookup x = some .local ∨ C.sc.names.lookup x = some .cell) (hf : C.fs x = true ∨ C.sc.names.lookup x = some .local) (he : Ev G C k ρ e d) (hs : ∀ env : Env, env.scope = C.sc → swapsWith e (some (.Name x pos')) pos.line env = pure false) :
    St1 G C k ρ (.Assign [.Name x pos'] e pos) (.nx (ρ.set i (some (.sh d)))) := fun X hX =>
  ps_imp (ps_set (i := i) (by rw [hX.eN]; exact hX.nd) (by rw [hX.eN]; exact hi) (by unfold L2.Loc; rw [hX.es]; exact hx) (he X hX) (hs _ hX.es) (hf.imp (hX.fn _) fun h => by rw [hX.es]; exact h)) fun D σ H ⟨F0, H0, F, S, q⟩ =>
    ⟨F0, H0, F, S, fun v F1 H1 e1 r1 => q _ F1 H1 ((S.go e1).put r1) e1.fs⟩
/-- x = e, e a new object, owned -/
theorem st_own (i : Nat) {x : Str} {pos' : Pos} (hi : C.N[i]? = some x) (hx : C.sc.names.lookup x = some .local ∨ C.sc.names.lookup x = some .cell) (hf : C.fs x = true ∨ C.sc.names.lookup x = some .local) (he : EvN G C k ρ e d) (hs : ∀ env : Env, env.scope = C.sc → swapsWith e (some (.Name x pos')) pos.line env = pure false) :
    St1 G C k ρ (.Assign [.Name x pos'] e pos) (.nx (ρ.set i (some (.ow d)))) := fun X hX =>
  ps_imp (ps_set (i := i) (by rw [hX.eN]; exact hX.nd) (by rw [hX.eN]; exact hi) (by unfold L2.Loc; rw [hX.es]; exact hx) (he X hX) (hs _ hX.es) (hf.imp (hX.fn _) fun h => by rw [hX.es]; exact h)) fun D σ H ⟨F0, H0, F, S, q⟩ =>
    ⟨F0, H0, F, S, fun p o F1 H1 e1 hn ho hf r1 => q _ F1 H1 (S.own e1 hn ho hf r1) e1.fs⟩
/-- target = e -/
theorem st_asg {is : List Nat} (he : Ev G C k ρ e d) (hg : Tg G C k ρ tg is d ρ1) (hs : ∀ env, swapsWithSole [tg] e pos.line env = pure false) (hw : ∀ env, swappedStores [tg] e env = pure none) (h1 : ∀ env, (assignEach [tg] env).map (·.2) = [assign tg env]) :
    St1 G C k ρ (.Assign [tg] e pos) (.nx ρ1) := fun X hX =>
  ps_imp (ps_asg (he X hX) (hg X hX) (hs _) (hw _) (h1 _)) fun D σ H ⟨F0, H0, F, S, q⟩ => ⟨F0, H0, F, S, fun v F1 H1 e1 r1 => ⟨F0, H0, F1, S.go e1, r1, fun σ' _ S' => q σ' F1 H1 S' e1.fs⟩⟩
/-- x op= e -/
theorem st_aug (i : Nat) {x : Str} {op : Operator} {pos' : Pos} (hi : C.N[i]? = some x) (hx : C.sc.names.lookup x = some .local ∨ C.sc.names.lookup x = some .cell) (hf : C.fs x = true ∨ C.sc.names.lookup x = some .local) (h : ρ[i]? = some (some (.sh d1))) (he : EvB G C k ρ e d2) (ho : OpOk G C k (inplaceOp op) d1 d2 d) :
    St1 G C k ρ (.AugAssign (.Name x pos') op e pos) (.nx (ρ.set i (some (.sh d)))) := fun X hX =>
  ps_imp (ps_aug (i := i) (by rw [hX.eN]; exact hX.nd) (by rw [hX.eN]; exact hi) (by unfold L2.Loc; rw [hX.es]; exact hx) (he X hX) (fun pins s σ H x y v u Q I r1 r2 q => ho X hX pins s σ H x y v u Q I r1 r2 q) (hf.imp (hX.fn _) fun h => by rw [hX.es]; exact h)) fun D σ H ⟨F0, H0, F, S, q⟩ => by
    obtain ⟨v, h1, h2⟩ := S.sh i d1 h
    exact ⟨v, h1, F0, H0, F, S, fun w F1 H1 e1 r1 => ⟨F1, e1.sub, .inl (h2.mono e1.fs), r1, fun z F2 H2 e2 r2 => q _ F2 H2 ((S.go (e1.trans e2)).put r2) (e1.trans e2).fs⟩⟩
/-! ### if -/
theorem st_ifT (hc : Te G C k ρ c true) (ha : Blk G C k ρ a r) : St1 G C k ρ (.If c a b pos) r := fun X hX =>
  ps_imp (ps_if (hc X hX) (ha X hX) pss_never) fun D σ H ⟨F0, H0, F, S, q⟩ => ⟨F0, H0, F, S, fun F1 H1 e1 => iteT ⟨F0, H0, F1, S.go e1, q.mono e1.fs⟩⟩
theorem st_ifF (hc : Te G C k ρ c false) (hb : Blk G C k ρ b r) : St1 G C k ρ (.If c a b pos) r := fun X hX =>
  ps_imp (ps_if (hc X hX) pss_never (hb X hX)) fun D σ H ⟨F0, H0, F, S, q⟩ => ⟨F0, H0, F, S, fun F1 H1 e1 => iteF ⟨F0, H0, F1, S.go e1, q.mono e1.fs⟩⟩
/-! ### lists that are changed -/
theorem vis_of {X : Cx} (hX : CxOk G C k X) {x : Str} (hx : C.sc.names.lookup x = some .local ∨ C.sc.names.lookup x = some .cell ∨ C.sc.names.lookup x = some .free) : Vis X.env.scope x := by unfold Vis; rw [hX.es]; exact hx
/-- x.append(e) -/
theorem st_append (i : Nat) {x : Str} {p1 ap cp : Pos} (hi : C.N[i]? = some x) (hx : C.sc.names.lookup x = some .local ∨ C.sc.names.lookup x = some .cell ∨ C.sc.names.lookup x = some .free) (h : ρ[i]? = some (some (.ow (.list ds)))) (he : Ev G C k ρ e d) (hl : ds.length < sizeLine)
    (hd : (x == ("__debug__" : Str)) = false) (hc : (x == ("__classdict__" : Str)) = false) (hsw : ∀ env, swapsWith (.Call (.Attribute (.Name x p1) "append" ap) [e] [] cp) none pos.line env = pure false)
    (hs : ∀ env, starEach [e] env = [(false, eval e env)]) (hab : ∀ env, attributeBase (.Name x p1) "append" env (eval (.Name x p1) env) = eval (.Name x p1) env) (hln : (ap.endLine == cp.line) = true) :
    St1 G C k ρ (.Expr (.Call (.Attribute (.Name x p1) "append" ap) [e] [] cp) pos) (.nx (ρ.set i (some (.ow (.list (ds ++ [d])))))) := fun X hX => by
  refine ps_imp (ps_expr (pe_bm PySem.F.plainAttrs_list PySem.F.slot_list_append PySem.F.type_list_append mt_append (pe_var (i := i) (by rw [hX.eN]; exact hi) (vis_of hX hx) hd hc) (pa_cons (he X hX) pa_nil (by rw [hs]; rfl)) (hab _) (by rw [hs]; rfl) hln (by rw [hs]; rfl) rfl) (hsw _)) fun D σ H ⟨F0, H0, F, S, q⟩ => ?_
  obtain ⟨a, o, h1, h2, h3, h4, h5⟩ := S.ow i _ h
  cases h3 with
  | @lst xs _ r =>
    refine ⟨.ref a, h1, .inl ⟨rfl, xs, .inl (.inl h2)⟩, F0, H0, F, S, fun v F1 H1 e1 r1 => ⟨a, xs, v, rfl, rfl, e1.hs _ _ h2, by rw [r.length]; exact hl, q σ F1 _ ((S.go e1).mut h h1 (.lst ((r.mono e1.fs).append (.cons r1 .nil)))) e1.fs⟩⟩
/-- x = [..], as the comprehension stores it: owned -/
theorem st_setLc (i : Nat) {x : Str} {py : Pos} {elt iter : Expr} {ifs : List Expr} {scope : Scope} {own : List (Str × Nat)} {spos : Pos} {ys : List PyData} (hi : C.N[i]? = some x) (hx : C.sc.names.lookup x = some .local) (hsw : ∀ env : Env, env.scope = C.sc → swapsWith (.ListComp elt [⟨tg, iter, ifs, 0⟩] scope pos) (some (.Name x py)) spos.line env = pure true)
    (ok : BlkOk C.N C.sc scope own) {z : Prop} (hit : ItB G C k ρ tg iter ds z) (hs : LcR G (C.blk scope) k (wipeE ρ (own.map (·.2))) (own.map (·.2)) tg ifs elt ds ys) (hzz : z → ys.length ≤ sizeLine) (hfs : ∀ env x, foldedSetIterable iter env x = pure x) :
    St1 G C k ρ (.Assign [.Name x py] (.ListComp elt [⟨tg, iter, ifs, 0⟩] scope pos) spos) (.nx (ρ.set i (some (.ow (.list ys))))) := fun X hX =>
  ps_imp (ps_setLc (i := i) (own := own) (g := gU G C k scope ρ own tg) (tt := ttU G C k scope ifs) (te := teU G C k scope elt) hX.calm (by rw [hX.eN]; exact hX.nd) (by rw [hX.eN]; exact hi) (by rw [hX.es]; exact hx) (hsw _ hX.es) (hit X hX) (by rw [hX.eN, hX.es]; exact ok)
    (fun s H Ca cl fp => pg_un fun i h => h _ hX.blk) (fun s H Ca cl fp => pts_un fun i h => h _ hX.blk) (fun s H Ca cl fp => pe_un fun i h => h _ hX.blk) (hfs _)) fun D σ H ⟨F0, H0, F, S, q⟩ =>
      lc_read ok hit hs hzz ⟨F0, H0, F, S, fun a o F1 H1 e1 hn ha hf r => q _ F1 H1 (S.own e1 hn ha hf r) e1.fs⟩
/-- .. shared at once -/
theorem st_setLcS (i : Nat) {x : Str} {py : Pos} {elt iter : Expr} {ifs : List Expr} {scope : Scope} {own : List (Str × Nat)} {spos : Pos} {ys : List PyData} (hi : C.N[i]? = some x) (hx : C.sc.names.lookup x = some .local) (hsw : ∀ env : Env, env.scope = C.sc → swapsWith (.ListComp elt [⟨tg, iter, ifs, 0⟩] scope pos) (some (.Name x py)) spos.line env = pure true)
    (ok : BlkOk C.N C.sc scope own) {z : Prop} (hit : ItB G C k ρ tg iter ds z) (hs : LcR G (C.blk scope) k (wipeE ρ (own.map (·.2))) (own.map (·.2)) tg ifs elt ds ys) (hzz : z → ys.length ≤ sizeLine) (hfs : ∀ env x, foldedSetIterable iter env x = pure x) :
    St1 G C k ρ (.Assign [.Name x py] (.ListComp elt [⟨tg, iter, ifs, 0⟩] scope pos) spos) (.nx (ρ.set i (some (.sh (.list ys))))) := fun X hX =>
  ps_imp (ps_setLc (i := i) (own := own) (g := gU G C k scope ρ own tg) (tt := ttU G C k scope ifs) (te := teU G C k scope elt) hX.calm (by rw [hX.eN]; exact hX.nd) (by rw [hX.eN]; exact hi) (by rw [hX.es]; exact hx) (hsw _ hX.es) (hit X hX) (by rw [hX.eN, hX.es]; exact ok)
    (fun s H Ca cl fp => pg_un fun i h => h _ hX.blk) (fun s H Ca cl fp => pts_un fun i h => h _ hX.blk) (fun s H Ca cl fp => pe_un fun i h => h _ hX.blk) (hfs _)) fun D σ H ⟨F0, H0, F, S, q⟩ =>
      lc_read ok hit hs hzz ⟨F0, H0, F, S, fun a o F1 H1 e1 hn ha hf r => q _ _ H1 ((S.go (e1.freeze hn ha hf)).put (r.rp (same_upd hf) upd_same)) (e1.freeze hn ha hf).fs⟩
/-- x[e1] = e -/
theorem st_setitem (i : Nat) {x : Str} {ei : Expr} {n : Int} {m : Nat} {p1 p2 : Pos} (hi : C.N[i]? = some x) (hx : C.sc.names.lookup x = some .local ∨ C.sc.names.lookup x = some .cell ∨ C.sc.names.lookup x = some .free) (h : ρ[i]? = some (some (.ow (.list ds)))) (he : Ev G C k ρ e d) (hei : EvB G C k ρ ei (.int n)) (hm : ixN ds.length n = some m)
    (hd : (x == ("__debug__" : Str)) = false) (hc : (x == ("__classdict__" : Str)) = false) (hs : ∀ env, swapsWithSole [.Subscript (.Name x p1) ei p2] e pos.line env = pure false) (hw : ∀ env, swappedStores [.Subscript (.Name x p1) ei p2] e env = pure none) (h1 : ∀ env, (assignEach [.Subscript (.Name x p1) ei p2] env).map (·.2) = [assign (.Subscript (.Name x p1) ei p2) env])
    (ha : ∀ env v, assign (.Subscript (.Name x p1) ei p2) env v = (do
      let ov ← holding [v] (eval (.Name x p1) env)
      let iv ← holding [v, ov] (eval ei env)
      standAt p2
      holding [v, ov, iv] (setItem ov iv v)
      release [v, ov, iv] [])) :
    St1 G C k ρ (.Assign [.Subscript (.Name x p1) ei p2] e pos) (.nx (ρ.set i (some (.ow (.list (ds.set m d)))))) := fun X hX => by
  refine ps_imp (ps_asg (he X hX) (pg_sub (pe_var (i := i) (by rw [hX.eN]; exact hi) (vis_of hX hx) hd hc) (hei X hX) set_list (ha _)) (hs _) (hw _) (h1 _)) fun D σ H ⟨F0, H0, F, S, q⟩ => ⟨F0, H0, F, S, fun v F1 H1 e1 r1 => ?_⟩
  obtain ⟨a, o, h1, h2, h3, h4, h5⟩ := S.ow i _ h
  cases h3 with
  | @lst xs _ r =>
    refine ⟨.ref a, h1, F0, H0, F1, S.go e1, fun y F2 H2 e2 r2 => ⟨a, xs, n, m, rfl, r2.int, (e1.trans e2).hs _ _ h2, by rw [r.length]; exact hm, q σ F2 _ ((S.go (e1.trans e2)).mut h h1 (.lst (RpA.set (r1.mono e2.fs) m (r.mono (e1.trans e2).fs)))) (e1.trans e2).fs⟩⟩
/-! ### loops -/
/-- the turns of a for -/
inductive ForR (G : Gb) (C : SC) (k : Nat) (tg : Expr) (body : List Stmt) : List PyData → PEnv → Out → Prop
  | done {ρ : PEnv} : ForR G C k tg body [] ρ (.nx ρ)
  | nx {d : PyData} {ds : List PyData} {ρ ρt ρ1 : PEnv} {is : List Nat} {r : Out} : Tg G C k ρ tg is d ρt → Blk G C k ρt body (.nx ρ1) → ForR G C k tg body ds ρ1 r → ForR G C k tg body (d :: ds) ρ r
  | ct {d : PyData} {ds : List PyData} {ρ ρt ρ1 : PEnv} {is : List Nat} {r : Out} : Tg G C k ρ tg is d ρt → Blk G C k ρt body (.ct ρ1) → ForR G C k tg body ds ρ1 r → ForR G C k tg body (d :: ds) ρ r
  | bk {d : PyData} {ds : List PyData} {ρ ρt ρ1 : PEnv} {is : List Nat} : Tg G C k ρ tg is d ρt → Blk G C k ρt body (.bk ρ1) → ForR G C k tg body (d :: ds) ρ (.nx ρ1)
  | rt {d : PyData} {ds : List PyData} {ρ ρt : PEnv} {is : List Nat} {v : PyData} : Tg G C k ρ tg is d ρt → Blk G C k ρt body (.rt v) → ForR G C k tg body (d :: ds) ρ (.rt v)
  | weak {ds : List PyData} {ρ ρ1 : PEnv} {r : Out} : Cov ρ ρ1 → ForR G C k tg body ds ρ1 r → ForR G C k tg body ds ρ r
/-- its first step -/
def ForH (G : Gb) (C : SC) (k : Nat) (tg : Expr) (body : List Stmt) (ds : List PyData) (ρ : PEnv) (r : Out) : Prop := match ds with
  | [] => r = .nx ρ
  | d :: ds => ∃ is ρt, Tg G C k ρ tg is d ρt ∧ ((∃ ρ1, (Blk G C k ρt body (.nx ρ1) ∨ Blk G C k ρt body (.ct ρ1)) ∧ ForR G C k tg body ds ρ1 r) ∨ (∃ ρ1, Blk G C k ρt body (.bk ρ1) ∧ r = .nx ρ1) ∨ ∃ v, Blk G C k ρt body (.rt v) ∧ r = .rt v)
theorem ForR.peel {body : List Stmt} {F0 H0 F H : Hp} {σ : L2.St} (h : ForR G C k tg body ds ρ r) : SRel G.K F0 H0 ρ σ F H → ∃ ρ' F', Same F F' ∧ SRel G.K F0 H0 ρ' σ F' H ∧ ForH G C k tg body ds ρ' r := by
  induction h generalizing F with
  | done => exact fun S => ⟨_, F, Same.refl _, S, rfl⟩
  | nx t b f _ => exact fun S => ⟨_, F, Same.refl _, S, _, _, t, .inl ⟨_, .inl b, f⟩⟩
  | ct t b f _ => exact fun S => ⟨_, F, Same.refl _, S, _, _, t, .inl ⟨_, .inr b, f⟩⟩
  | bk t b => exact fun S => ⟨_, F, Same.refl _, S, _, _, t, .inr (.inl ⟨_, b, rfl⟩)⟩
  | rt t b => exact fun S => ⟨_, F, Same.refl _, S, _, _, t, .inr (.inr ⟨_, b, rfl⟩)⟩
  | weak c _ ih =>
    intro S
    obtain ⟨F1, s1, S1⟩ := S.weak c
    obtain ⟨ρ', F', s2, S2, h⟩ := ih S1
    exact ⟨ρ', F', s1.trans s2, S2, h⟩
/-- for -/
theorem st_for {iter : Expr} {body : List Stmt} {z : Prop} (hi : It' G C k ρ tg iter ds z) (h : ForR G C k tg body ds ρ r) (hfs : ∀ env x, foldedSetIterable iter env x = pure x) : St1 G C k ρ (.For tg iter body [] pos) r := fun X hX => by
  refine ps_imp (ps_for (g := fun v σ H Q => ∃ i : PEnv × PyData × List Nat × PEnv, (Tg G C k i.1 tg i.2.2.1 i.2.1 i.2.2.2) ∧ tTg G.K i.1 i.2.2.1 i.2.1 i.2.2.2 v σ H Q) (tb := fun D σ H => ∃ i : PEnv × Out, Blk G C k i.1 body i.2 ∧ tOut G.K i.1 i.2 D σ H)
    (by rw [hX.xe]; exact PassesOwn.never) hX.calm (hi X hX) (pg_un fun i h => h X hX) (pss_un fun i h => h X hX) (hfs _)) fun D σ H ⟨F0, H0, F, S, q⟩ => ⟨F0, H0, F, S, fun J F1 H1 e1 _ sup => ?_⟩
  refine ⟨fun i m σ H => m = ds.length - i ∧ i ≤ ds.length ∧ ∃ ρi Fi, ForR G C k tg body (ds.drop i) ρi r ∧ SRel G.K F0 H0 ρi σ Fi H ∧ Same F1 Fi, ⟨ds.length, by simp, Nat.zero_le _, ρ, F1, by simpa using h, S.go e1, Same.refl _⟩, ?_⟩
  rintro i m σ H2 ⟨rfl, hi2, ρi, Fi, hf, Si, si⟩
  obtain ⟨ρ', F', s2, S2, hh⟩ := hf.peel Si
  have sF := si.trans s2
  obtain ⟨go, stop⟩ := sup F' H2 sF S2.ext.sub
  by_cases hlt : i < ds.length
  · have hd : ds[i]? = some ds[i] := List.getElem?_eq_getElem hlt
    have hdrop : ds.drop i = ds[i] :: ds.drop (i + 1) := List.drop_eq_getElem_cons hlt
    rw [hdrop] at hh
    obtain ⟨is, ρt, ht, hb⟩ := hh
    obtain ⟨g1, g2⟩ := go i _ hd
    refine .inr ⟨g1, fun σ H => i + 1 ≤ ds.length ∧ ∃ ρi Fi, ForR G C k tg body (ds.drop (i + 1)) ρi r ∧ SRel G.K F0 H0 ρi σ Fi H ∧ Same F1 Fi, fun σ' H' ⟨h1, h2⟩ => ⟨ds.length - (i + 1), by omega, rfl, h1, h2⟩, fun x H3 y => ?_⟩
    obtain ⟨F3, e3, rx⟩ := g2 x H3 y
    refine ⟨(ρ', ds[i], is, ρt), ht, F0, H0, F3, S2.go e3, rx, fun σ' off S' => ?_⟩
    have sF3 := sF.trans e3.fs
    rcases hb with ⟨ρ1, hb | hb, hf'⟩ | ⟨ρ1, hb, rfl⟩ | ⟨v, hb, rfl⟩
    · exact ⟨(ρt, _), hb, F0, H0, F3, S', fun σ4 F4 H4 S4 t => ⟨hlt, ρ1, F4, hf', S4, sF3.trans t⟩⟩
    · exact ⟨(ρt, _), hb, F0, H0, F3, S', fun σ4 F4 H4 S4 t => ⟨hlt, ρ1, F4, hf', S4, sF3.trans t⟩⟩
    · exact ⟨(ρt, _), hb, F0, H0, F3, S', fun σ4 F4 H4 S4 t => q σ4 F4 H4 S4 (e1.fs.trans (sF3.trans t))⟩
    · exact ⟨(ρt, _), hb, F0, H0, F3, S', q⟩
  · have e : i = ds.length := by omega
    subst e
    rw [List.drop_length] at hh
    have hh' : r = .nx ρ' := hh
    subst hh'
    exact .inl ⟨stop, q σ F' H2 S2 (e1.fs.trans sF)⟩
/-- the turns of a while, at most n -/
inductive WhileR (G : Gb) (C : SC) (k : Nat) (c : Expr) (body : List Stmt) : Nat → PEnv → Out → Prop
  | done {n : Nat} {ρ : PEnv} : Te G C k ρ c false → WhileR G C k c body n ρ (.nx ρ)
  | nx {n : Nat} {ρ ρ1 : PEnv} {r : Out} : Te G C k ρ c true → Blk G C k ρ body (.nx ρ1) → WhileR G C k c body n ρ1 r → WhileR G C k c body (n + 1) ρ r
  | ct {n : Nat} {ρ ρ1 : PEnv} {r : Out} : Te G C k ρ c true → Blk G C k ρ body (.ct ρ1) → WhileR G C k c body n ρ1 r → WhileR G C k c body (n + 1) ρ r
  | bk {n : Nat} {ρ ρ1 : PEnv} : Te G C k ρ c true → Blk G C k ρ body (.bk ρ1) → WhileR G C k c body n ρ (.nx ρ1)
  | rt {n : Nat} {ρ : PEnv} {v : PyData} : Te G C k ρ c true → Blk G C k ρ body (.rt v) → WhileR G C k c body n ρ (.rt v)
  | weak {n : Nat} {ρ ρ1 : PEnv} {r : Out} : Cov ρ ρ1 → WhileR G C k c body n ρ1 r → WhileR G C k c body n ρ r
def WhileH (G : Gb) (C : SC) (k : Nat) (c : Expr) (body : List Stmt) (n : Nat) (ρ : PEnv) (r : Out) : Prop := (Te G C k ρ c false ∧ r = .nx ρ) ∨ (Te G C k ρ c true ∧
  ((∃ m ρ1, m < n ∧ (Blk G C k ρ body (.nx ρ1) ∨ Blk G C k ρ body (.ct ρ1)) ∧ WhileR G C k c body m ρ1 r) ∨ (∃ ρ1, Blk G C k ρ body (.bk ρ1) ∧ r = .nx ρ1) ∨ ∃ v, Blk G C k ρ body (.rt v) ∧ r = .rt v))
theorem WhileR.peel {body : List Stmt} {n : Nat} {F0 H0 F H : Hp} {σ : L2.St} (h : WhileR G C k c body n ρ r) : SRel G.K F0 H0 ρ σ F H → ∃ ρ' F', Same F F' ∧ SRel G.K F0 H0 ρ' σ F' H ∧ WhileH G C k c body n ρ' r := by
  induction h generalizing F with
  | done t => exact fun S => ⟨_, F, Same.refl _, S, .inl ⟨t, rfl⟩⟩
  | nx t b f _ => exact fun S => ⟨_, F, Same.refl _, S, .inr ⟨t, .inl ⟨_, _, Nat.lt_succ_self _, .inl b, f⟩⟩⟩
  | ct t b f _ => exact fun S => ⟨_, F, Same.refl _, S, .inr ⟨t, .inl ⟨_, _, Nat.lt_succ_self _, .inr b, f⟩⟩⟩
  | bk t b => exact fun S => ⟨_, F, Same.refl _, S, .inr ⟨t, .inr (.inl ⟨_, b, rfl⟩)⟩⟩
  | rt t b => exact fun S => ⟨_, F, Same.refl _, S, .inr ⟨t, .inr (.inr ⟨_, b, rfl⟩)⟩⟩
  | weak c _ ih =>
    intro S
    obtain ⟨F1, s1, S1⟩ := S.weak c
    obtain ⟨ρ', F', s2, S2, h⟩ := ih S1
    exact ⟨ρ', F', s1.trans s2, S2, h⟩
/-- while -/
theorem st_while {body : List Stmt} {n : Nat} (h : WhileR G C k c body n ρ r) : St1 G C k ρ (.While c body [] pos) r := fun X hX => by
  refine ps_imp (ps_while (tc := fun σ H Q => ∃ i : PEnv × Bool, Te G C k i.1 c i.2 ∧ tTe G.K i.1 i.2 σ H Q) (tb := fun D σ H => ∃ i : PEnv × Out, Blk G C k i.1 body i.2 ∧ tOut G.K i.1 i.2 D σ H)
    (by rw [hX.xe]; exact PassesOwn.never) (pt_un fun i h => h X hX) (pss_un fun i h => h X hX)) fun D σ H ⟨F0, H0, F, S, q⟩ => ?_
  refine ⟨fun m σ H => ∃ ρi Fi, WhileR G C k c body m ρi r ∧ SRel G.K F0 H0 ρi σ Fi H ∧ Same F Fi, ⟨n, ρ, F, h, S, Same.refl _⟩, ?_⟩
  rintro m σ H2 ⟨ρi, Fi, hf, Si, si⟩
  obtain ⟨ρ', F', s2, S2, hh⟩ := hf.peel Si
  have sF := si.trans s2
  rcases hh with ⟨ht, rfl⟩ | ⟨ht, hb⟩
  · exact ⟨(ρ', false), ht, F0, H0, F', S2, fun F1 H1 e1 => iteF (q σ F1 H1 (S2.go e1) (sF.trans e1.fs))⟩
  · refine ⟨(ρ', true), ht, F0, H0, F', S2, fun F1 H1 e1 => iteT ⟨fun σ H => ∃ m', m' < m ∧ ∃ ρi Fi, WhileR G C k c body m' ρi r ∧ SRel G.K F0 H0 ρi σ Fi H ∧ Same F Fi, fun σ' H' z => z, ?_⟩⟩
    have S3 := S2.go e1
    have sF3 := sF.trans e1.fs
    rcases hb with ⟨m', ρ1, hm, hb | hb, hf'⟩ | ⟨ρ1, hb, rfl⟩ | ⟨v, hb, rfl⟩
    · exact ⟨(ρ', _), hb, F0, H0, F1, S3, fun σ4 F4 H4 S4 t => ⟨m', hm, ρ1, F4, hf', S4, sF3.trans t⟩⟩
    · exact ⟨(ρ', _), hb, F0, H0, F1, S3, fun σ4 F4 H4 S4 t => ⟨m', hm, ρ1, F4, hf', S4, sF3.trans t⟩⟩
    · exact ⟨(ρ', _), hb, F0, H0, F1, S3, fun σ4 F4 H4 S4 t => q σ4 F4 H4 S4 (sF3.trans t)⟩
    · exact ⟨(ρ', _), hb, F0, H0, F1, S3, q⟩
end
/-! ### defs -/
def startE (N : List Str) (ds : List PyData) : PEnv := ds.map (fun d => some (.sh d)) ++ List.replicate (N.length - ds.length) none
theorem start_rel {K : KK} {F H : Hp} {N : List Str} {vs : List V} {ds : List PyData} (s : Same F H) (r : RpA K F vs ds) : SRel K F H (startE N ds) (L2.start N vs) F H := by
  have hl := r.length
  refine ⟨Ext.refl s, by unfold L2.start startE; simp [hl], fun i d h => ?_, fun i d h => ?_, fun i j d d' a _ h => ?_⟩
  · unfold startE at h
    by_cases hi : i < ds.length
    · rw [List.getElem?_append_left (by simpa using hi), List.getElem?_map, List.getElem?_eq_getElem hi] at h
      cases h
      obtain ⟨v, h1, h2⟩ := r.at (List.getElem?_eq_getElem hi)
      refine ⟨v, ?_, h2⟩
      unfold L2.start
      rw [List.getElem?_append_left (by rw [List.length_map, hl]; exact hi), List.getElem?_map, h1]
      rfl
    · rw [List.getElem?_append_right (by simpa using hi), List.getElem?_replicate] at h
      split at h <;> cases h
  · exfalso
    unfold startE at h
    by_cases hi : i < ds.length
    · rw [List.getElem?_append_left (by simpa using hi), List.getElem?_map, List.getElem?_eq_getElem hi] at h
      cases h
    · rw [List.getElem?_append_right (by simpa using hi), List.getElem?_replicate] at h
      split at h <;> cases h
  · exfalso
    unfold startE at h
    by_cases hi : i < ds.length
    · rw [List.getElem?_append_left (by simpa using hi), List.getElem?_map, List.getElem?_eq_getElem hi] at h
      cases h
    · rw [List.getElem?_append_right (by simpa using hi), List.getElem?_replicate] at h
      split at h <;> cases h
/-- where the def x stands -/
structure At (G : Gb) (x : Str) (params : Arguments) (body : List Stmt) (scope : Scope) (ps : List Str) : Prop where
  ex : ∃ f fd, FunD G.K x x params body scope [] [] f fd ∧ G.mg x = some (.ref f) ∧ Binds G.K fd ps []
/-- how a def ends -/
inductive Ends' : Out → PyData → Prop
  | rt {d : PyData} : Ends' (.rt d) d
  | nx {ρ : PEnv} : Ends' (.nx ρ) .none
theorem fn_def {G : Gb} {x : Str} {params : Arguments} {body : List Stmt} {scope : Scope} {N ps : List Str} {k : Nat} {ds : List PyData} {r : Out} {d : PyData} (F : At G x params body scope ps) (S : FnScope N ps scope) (hl : ds.length = ps.length)
    (hb : Blk G ⟨N, scope, fun _ => true⟩ k (startE N ds) body r) (he : Ends' r d) : Fn G (k + 1) x ds d := by
  obtain ⟨f, fd, F, hm, hB⟩ := F.ex
  refine ⟨f, fd, ps, F.ok S (fun vs H Q E h => ?_) (fun cdv A outer s H vs Q E hr h => ?_), hm, F.kp, hB⟩
  · obtain ⟨F', _, r, _⟩ := h
    rw [r.length]; exact hl
  · obtain ⟨F', sF, ra, q⟩ := h
    have hX : CxOk G ⟨N, scope, fun _ => true⟩ k (cxOf CX0 G.P G.w G.K G.mg G.base N x scope f cdv A outer s H E).nox :=
      ⟨rfl, rfl, rfl, rfl, rfl, rfl, rfl, rfl, hr, S.nd, fun _ _ => rfl, rfl⟩
    refine ⟨_, (hb _ hX).nox, F', H, F', start_rel sF ra, ?_⟩
    cases he with
    | rt => exact fun v F2 H2 e2 r2 => q v F2 H2 e2 r2
    | nx => exact fun σ F2 H2 S2 _ => q .non F2 H2 S2.ext .non
end Pl
/-! Pl, part I: enumerate, zip, reversed; isinstance. -/
namespace Pl
open PySem PySem.Spec PyProof.Rows L2

section
variable {prog : Program} {w : World} {A : Around} {E : Value → Shared → Prop} {s : Shared}
theorem drawsT (hh : A.handled = none) (it l : Addr) (hne : l ≠ it) (vs : Array Value) : Draws prog w A it [it, l] vs.size (fun i v => vs[i]? = some v) (fun i h => h.IsTupleIter it l i ∧ h.IsTuple l vs) :=
  ⟨fun _ _ z => z.1.elim fun o q => ⟨o, q.1⟩, fun _ _ _ z hk => ⟨z.1.at fun o e => hk it (by simp) o e, z.2.at fun o e => hk l (by simp) o e⟩,
   fun i s Q E hi z hQ => RZ.nextOf_tuple_item z.1 z.2 (x := vs[i]) (by simp [hi]) fun h' hit hs => hQ _ h' s.toks (by simp [hi]) ⟨hit, z.2.at fun o e => (hs.2 l hne).trans e⟩ hs,
   fun s Q E z hE => RZ.nextOf_tuple_end hh z.1 z.2 (by simp) hE⟩
theorem enumNewT (l : Addr) (vs : Array Value) : Meets (Builtin.«enumerate.__new__» ⟨[.type "enumerate", .ref l], []⟩) (fun _ R s => s.heap.IsTuple l vs ∧
      R (.ok (.ret (.ref (s.heap.push { cls := .type "tuple_iterator", data := .fields #[.ref l, .int 0 0] }).objs.size)))
        { s with heap := (s.heap.push { cls := .type "tuple_iterator", data := .fields #[.ref l, .int 0 0] }).push { cls := .type "enumerate", data := .fields #[.none, .bool false, .ref s.heap.objs.size, rawInt 0, .none, .none] } }) := .of_wp fun prog w A R s h => by
  obtain ⟨hp, g, d, tk, os⟩ := s; obtain ⟨hl, h⟩ := h; have hsub := sub_enumerate
  obtain ⟨o, ho, hc, n, hd⟩ := id hl
  wp_walk
  refine wpAny_stack_any fun st => wpAny_pure ?_
  split
  · rename_i c _ _ _ _ _
    cases (c == Value.type "enumerate") <;> (wp_walk using wpAny_pyIter_tuple hl; exact ⟨_, rfl, h⟩)
  · wp_walk using wpAny_pyIter_tuple hl; exact ⟨_, rfl, h⟩
theorem callEnumT {l : Addr} {vs : Array Value} {Q : Value → Shared → Prop} (hL : s.heap.IsTuple l vs)
    (h : ∀ h', IsEnum h' (s.heap.objs.size + 1) s.heap.objs.size 0 .none → h'.IsTupleIter s.heap.objs.size l 0 → h'.objs.size = s.heap.objs.size + 2 → (∀ b o, s.heap.get? b = some o → h'.get? b = some o) →
      Q (.ref (s.heap.objs.size + 1)) { s with heap := h' }) : wpAny (model prog w) A (call (.type "enumerate") [.ref l]) Q E s := by
  refine callType_new F.called_enumerate (by decide) (F.typeCall_enumerate_1 _) (F.newCall_enumerate_1 _) (fun x => F.args_object_init_2 x _) F.entry_enumerate_new (enumNewT l vs) ⟨hL, ?_⟩
  generalize hg : s.heap.push { cls := .type "tuple_iterator", data := .fields #[.ref l, .int 0 0] } = h1
  have z1 : h1.objs.size = s.heap.objs.size + 1 := by rw [← hg]; exact Heap.size_push ..
  have he := Heap.get?_push_size h1 (o := { cls := .type "enumerate", data := .fields #[.none, .bool false, .ref s.heap.objs.size, rawInt 0, .none, .none] }) rfl
  rw [z1] at he
  show _ ∧ _
  rw [z1]
  exact ⟨⟨_, he, rfl⟩, h _ he ⟨_, Heap.get?_push_of_some _ (by rw [← hg]; exact Heap.get?_push_size _ rfl), rfl, rfl⟩ (by rw [Heap.size_push, z1]) fun b o x => Heap.get?_push_of_some _ (by rw [← hg]; exact Heap.get?_push_of_some _ x)⟩
end

/-- the tuple at a, each item in a new pair -/
def IteT (K : KK) (a : Addr) : It where
  go := fun i H => ∃ (xs : List V) (x : V), SqT K H a xs ∧ xs[i]? = some x
  yld := fun i H v H' => ∃ T x, v = .ref T ∧ H T = none ∧ H' = upd H T (.tup [.int (i : Nat), x]) ∧ ∀ xs, SqT K H a xs → xs[i]? = some x
  stop := fun i H => ∃ xs : List V, SqT K H a xs ∧ xs.length = i
theorem turn_enumT {P : Program} {w : World} {K : KK} {elts : List Expr} {kk : Nat} {tp : Pos} (a e it : Addr) :
    Turn P w K (.Tuple elts kk tp) (IteT K a) [e, it] e (fun i h => (∃ old, IsEnum h e it ((i : Nat) : Int) old) ∧ h.IsTupleIter it a i ∧ e ≠ it ∧ a ≠ it ∧ a ≠ e) where
  mem := List.mem_cons_self
  obj := fun i h z b hb => by
    obtain ⟨⟨old, he⟩, ⟨o, ho, hc, hd⟩, _⟩ := z
    rcases List.mem_cons.mp hb with rfl | hb
    · exact ⟨_, he, fun v q => nomatch q⟩
    · rw [List.mem_singleton.mp hb]; exact ⟨o, ho, fun v q => by rw [hd] at q; cases q⟩
  keep := fun i h h' z k => ⟨z.1.imp fun old q => k e (by simp) _ q, z.2.1.at fun o q => k it (by simp) o q, z.2.2⟩
  item := by
    intro X hP hw hK hc i pins s σ H E I hf z hg; subst hP hw hK
    obtain ⟨⟨old, he⟩, hit, hne, hai, hae⟩ := z; obtain ⟨xs, x, hq, hx⟩ := hg
    obtain ⟨us, rv, p, hz⟩ := I.tuple hq; obtain ⟨u, hu, ru⟩ := rv.get hx
    have hel := Heap.lt_size he
    have hil : it < s.heap.objs.size := hit.elim fun _ q => Heap.lt_size q.1
    have hiu : i < us.toArray.size := by rw [List.size_toArray]; exact (List.getElem?_eq_some_iff.mp hu).1
    refine wpAny_pyNext_enum_itemD (drawsT (A := X.A.in1) (show X.A.in1.handled = none from I.ok.hd hc) it a hai us.toArray) he ⟨hit, p⟩ hiu hne (by simp [hne, Ne.symm hae]) fun y h1 tk hy ho hz1 hT hsz hk => ⟨_, rfl, ?_⟩
    have ey : y = u := by rw [← Array.getElem?_toList, hu] at hy; exact (Option.some.inj hy).symm
    subst ey
    refine wpAny_letOwnedTupleGo_enum (s := { s with heap := h1, toks := tk + 1 }) ho fun h2 he2 sb => ?_
    have new : ObjOk X.prog X.w (upd H s.heap.objs.size (.tup [.int (i : Nat), x])) h2 s.heap.objs.size (.tup [.int (i : Nat), x]) :=
      ⟨(by decide : 2 ≤ sizeLine), [.int i tk, y], .cons ⟨_, rfl⟩ (.cons ru .nil), _, (sb.2 _ (Nat.ne_of_gt hel)).trans hT, rfl, _, rfl⟩
    have I1 := I.turnedNew (t' := tk + 1) (ch := [e, it]) (fun b ob hb q => (sb.2 b (fun z => hb (by simp [z]))).trans (hk b ob (fun z => hb (by simp [z])) (fun z => hb (by simp [z])) q)) hf (Nat.le_refl _) new
    have ei : ((i + 1 : Nat) : Int) = (i : Int) + 1 := rfl
    exact ⟨.ref s.heap.objs.size, _, I1, rfl, ⟨_, x, rfl, I.hok.fresh (Nat.le_refl _), rfl, fun ys hy => by rw [I.tuple_inj hy hq]; exact hx⟩,
      ⟨⟨y, by rw [ei]; exact he2⟩, hz1.1.at fun o q => (sb.2 it (Ne.symm hne)).trans q, hne, hai, hae⟩, fun b hb => by
        have lt : b < s.heap.objs.size := by
          rcases List.mem_cons.mp hb with rfl | hb
          · exact hel
          · rw [List.mem_singleton.mp hb]; exact hil
        rw [upd_ne (Nat.ne_of_lt lt)]; exact (hf b hb).1⟩
  done := by
    intro X hP hw hK hc i pins s σ H E I hf z hg; subst hP hw hK
    obtain ⟨⟨old, he⟩, hit, hne, hai, hae⟩ := z; obtain ⟨xs, hq, hx⟩ := hg
    obtain ⟨us, rv, p, hz⟩ := I.tuple hq
    have hl := rv.length
    obtain ⟨f0, f1, f2, f3, f4, f5⟩ := hf it (by simp)
    have D := drawsT (prog := X.prog) (w := X.w) (A := X.A.in1) (show X.A.in1.handled = none from I.ok.hd hc) it a hai us.toArray
    have ei : i = us.toArray.size := by rw [List.size_toArray]; omega
    subst ei
    exact wpAny_pyNext_enum_endD D he ⟨hit, p⟩ fun h' eb => ⟨rfl, I.turned (t' := s.toks) (fun b o hb q => eb b o hb q) f0 f1 f3 f4 f5⟩
  self := fun A i s Q E z h => z.1.elim fun _ he => wpAny_pyIter_enum he h
def iEnumT (K : KK) (ta : TA) : TI := fun σ H R => ta σ H fun vs H1 => ∃ a xs, vs = [.ref a] ∧ SqT K H1 a xs ∧ R (IteT K a) H1
theorem pi_enumT {X : Cx} {e : Expr} {ta : TA} {p pos tp : Pos} {elts : List Expr} {kk : Nat} (hg : Gl X "enumerate") (hm : X.mg "enumerate" = none) (ha : PA X [e] ta) (hs : starEach [e] X.env = [(false, eval e X.env)]) :
    PI X (.Tuple elts kk tp) (.Call (.Name "enumerate" p) [e] [] pos) (iEnumT X.K ta) := ⟨fun pins s σ H R I h => by
  refine Call_ (ld_blt I hg hm boot_enumerate (PyProof.Rows.callWith_type1 (thn (ha.run pos pins s σ H _ I h) fun us s1 ⟨vs, H1, I1, r1, q1⟩ => ?_) hs rfl))
  obtain ⟨a, xs, rfl, hq, q⟩ := q1
  rw [Vals.ref1 r1]
  obtain ⟨its, rv, p', hz⟩ := I1.tuple hq
  have ha : a < s1.heap.objs.size := p'.lt
  refine callEnumT (show s1.heap.IsTuple a its.toArray from p') fun h' he hit hsz hk => wpAny_pyIter_enum he ?_
  refine ⟨s1.heap.objs.size + 1, [s1.heap.objs.size + 1, s1.heap.objs.size], _, _, H1, rfl, I1.kept (t' := s1.toks) hk, turn_enumT a (s1.heap.objs.size + 1) s1.heap.objs.size, ⟨⟨.none, he⟩, hit, Nat.succ_ne_self _, Nat.ne_of_lt ha, Nat.ne_of_lt (Nat.lt_succ_of_lt ha)⟩, fun b hb => ?_, q⟩
  have le : s1.heap.objs.size ≤ b := by rcases List.mem_cons.mp hb with rfl | hb; exact Nat.le_succ _; exact Nat.le_of_eq (List.mem_singleton.mp hb).symm
  exact I1.fpOk le (I1.hok.fresh le)⟩
theorem walk_enumT {K : KK} {a : Addr} {xs : List V} : Walk (IteT K a) xs.length (fun H => SqT K H a xs) (YPair (fun i => some (.int (i : Nat))) (fun i => xs[i]?)) :=
  ⟨fun i _ hi q => ⟨xs, xs[i], q, by simp [hi]⟩, fun _ q => ⟨xs, q, rfl⟩, fun i H v H' _ q y => let ⟨T, x, h1, h2, h3, h4⟩ := y; ⟨T, .int (i : Nat), x, h1, h2, h3, rfl, h4 xs q⟩⟩

/-- (0, x), (1, y), .. -/
def enumD (ds : List PyData) : List PyData := (ds.zipIdx).map fun p => .tuple [.int (p.2 : Nat), p.1]
theorem enumD_len (ds : List PyData) : ds.length = (enumD ds).length := by unfold enumD; simp
theorem enumD_get {ds : List PyData} {i : Nat} {d : PyData} (h : (enumD ds)[i]? = some d) : ∃ x, ds[i]? = some x ∧ d = .tuple [.int (i : Nat), x] := by
  unfold enumD at h
  rw [List.getElem?_map, List.getElem?_zipIdx] at h
  cases e : ds[i]? with
  | none => rw [e] at h; simp at h
  | some x => rw [e] at h; simp at h; exact ⟨x, rfl, h.symm⟩
def zipD (ds es : List PyData) : List PyData := List.zipWith (fun x y => .tuple [x, y]) ds es
theorem zipD_len (ds es : List PyData) : min ds.length es.length = (zipD ds es).length := by unfold zipD; simp
theorem zipD_get {ds es : List PyData} {i : Nat} {d : PyData} (h : (zipD ds es)[i]? = some d) : ∃ x y, ds[i]? = some x ∧ es[i]? = some y ∧ d = .tuple [x, y] := by
  unfold zipD at h
  rw [List.getElem?_zipWith] at h
  cases e : ds[i]? with
  | none => rw [e] at h; simp at h
  | some x =>
    cases e2 : es[i]? with
    | none => rw [e, e2] at h; simp at h
    | some y => rw [e, e2] at h; simp at h; exact ⟨x, y, rfl, rfl, h.symm⟩
section
variable {K : KK}
/-- a new pair -/
theorem pair_new {F H : Hp} {T : Addr} {x y : V} {a b : PyData} (sF : Same F H) (hT : H T = none) (rx : Rp K F x a) (ry : Rp K F y b) : ∃ F', Ext F H F' (upd H T (.tup [x, y])) ∧ Rp K F' (.ref T) (.tuple [a, b]) :=
  ⟨upd F T (.tup [x, y]), Ext.lay sF hT, .tup (.inl (.inl upd_same)) ((RpA.cons rx (.cons ry .nil)).mono (same_upd (sF.free hT)))⟩
end
section
variable {G : Gb} {C : SC} {k : Nat} {ρ ρ1 ρ2 : PEnv} {e e2 : Expr} {elts es : List Expr} {d : PyData} {ds : List PyData} {pos p tp : Pos} {kk : Nat}
theorem it_enum (hg : C.sc.names.lookup ("enumerate" : Str) = some .globalImplicit) (hm : G.mg "enumerate" = none) (h : Ev G C k ρ e (.list ds)) (hs : ∀ env, starEach [e] env = [(false, eval e env)]) :
    It' G C k ρ (.Tuple elts kk tp) (.Call (.Name "enumerate" p) [e] [] pos) (enumD ds) (ds.length ≤ sizeLine) := fun X hX =>
  pi_imp (pi_enum (by unfold Gl Env.kindOf; rw [hX.es]; exact hg) (by rw [hX.em]; exact hm) (pa_cons (pe_bd (h X hX)) pa_nil (by rw [hs]; rfl)) (hs _)) fun σ H R ⟨F0, H0, F, S, q⟩ => ⟨F0, H0, F, S, fun v F1 H1 e1 r1 bd => by
    rw [hX.eK] at bd ⊢
    cases r1 with
    | @lst a xs _ h1 h2 =>
      refine ⟨_, xs, rfl, e1.sub.seq h1, q _ F1 H1 e1 (by rw [← h2.length]; exact bd _ _ (.inl (e1.sub.seq h1))) (sup_walk (walk_enum (xs := xs)) (by rw [h2.length, enumD_len]) (fun F2 H2 s sF => (s.trans sF).seq h1) fun F2 H2 i x d H' s sF hd y => ?_)⟩
      obtain ⟨T, u, v, rfl, hT, rfl, hu, hv⟩ := y
      cases hu
      obtain ⟨d1, hd1, rfl⟩ := enumD_get hd
      obtain ⟨d2, hd2, r⟩ := h2.get hv
      rw [hd1] at hd2
      cases hd2
      exact pair_new sF hT (.int _) (r.mono s)⟩
theorem it_enumT (hg : C.sc.names.lookup ("enumerate" : Str) = some .globalImplicit) (hm : G.mg "enumerate" = none) (h : Ev G C k ρ e (.tuple ds)) (hs : ∀ env, starEach [e] env = [(false, eval e env)]) :
    It' G C k ρ (.Tuple elts kk tp) (.Call (.Name "enumerate" p) [e] [] pos) (enumD ds) (ds.length ≤ sizeLine) := fun X hX =>
  pi_imp (pi_enumT (by unfold Gl Env.kindOf; rw [hX.es]; exact hg) (by rw [hX.em]; exact hm) (pa_cons (pe_bd (h X hX)) pa_nil (by rw [hs]; rfl)) (hs _)) fun σ H R ⟨F0, H0, F, S, q⟩ => ⟨F0, H0, F, S, fun v F1 H1 e1 r1 bd => by
    rw [hX.eK] at bd ⊢
    cases r1 with
    | @tup a xs _ h1 h2 =>
      refine ⟨_, xs, rfl, same_tup e1.sub h1, q _ F1 H1 e1 (by rw [← h2.length]; exact bd _ _ (.inr (same_tup e1.sub h1))) (sup_walk (walk_enumT (xs := xs)) (by rw [h2.length, enumD_len]) (fun F2 H2 s sF => same_tup (s.trans sF) h1) fun F2 H2 i x d H' s sF hd y => ?_)⟩
      obtain ⟨T, u, v, rfl, hT, rfl, hu, hv⟩ := y
      cases hu
      obtain ⟨d1, hd1, rfl⟩ := enumD_get hd
      obtain ⟨d2, hd2, r⟩ := h2.get hv
      rw [hd1] at hd2
      cases hd2
      exact pair_new sF hT (.int _) (r.mono s)⟩
theorem it_zip {es' : List PyData} (hg : C.sc.names.lookup ("zip" : Str) = some .globalImplicit) (hm : G.mg "zip" = none) (h : Ev G C k ρ e (.list ds)) (h' : Ev G C k ρ e2 (.list es')) (hs : ∀ env, starEach [e, e2] env = (false, eval e env) :: starEach [e2] env) (hs2 : ∀ env, starEach [e2] env = [(false, eval e2 env)]) :
    It' G C k ρ (.Tuple elts kk tp) (.Call (.Name "zip" p) [e, e2] [] pos) (zipD ds es') (ds.length ≤ sizeLine ∧ es'.length ≤ sizeLine) := fun X hX =>
  pi_imp (RZ.pi_zipA (by unfold Gl Env.kindOf; rw [hX.es]; exact hg) (by rw [hX.em]; exact hm) (pa_cons (h X hX) (pa_cons (pe_bd (h' X hX)) pa_nil (by rw [hs2]; rfl)) (hs _)) (hs _) (by rw [hs2]; rfl)) fun σ H R ⟨F0, H0, F, S, q⟩ => ⟨F0, H0, F, S, fun v F1 H1 e1 r1 => ⟨F0, H0, F1, S.go e1, fun v2 F2 H2 e2 r2 bd => by
    rw [hX.eK] at bd ⊢
    cases r1.mono e2.fs with
    | @lst a xs _ h1 h2 =>
      cases r2 with
      | @lst b ys _ h3 h4 =>
        refine ⟨_, _, xs, ys, rfl, .inl ⟨e2.sub.seq h1, e2.sub.seq h3, q _ F2 H2 (e1.trans e2) ⟨by rw [← h2.length]; exact bd _ _ (.inl (e2.sub.seq h1)), by rw [← h4.length]; exact bd _ _ (.inl (e2.sub.seq h3))⟩
          (sup_walk (walk_zip (xs := xs) (ys := ys) rfl) (by rw [h2.length, h4.length, zipD_len]) (fun F3 H3 s sF => ⟨(s.trans sF).seq h1, (s.trans sF).seq h3⟩) fun F3 H3 i x d H' s sF hd y => ?_)⟩⟩
        obtain ⟨T, u, v, rfl, hT, rfl, hu, hv⟩ := y
        obtain ⟨d1, d2, hd1, hd2, rfl⟩ := zipD_get hd
        obtain ⟨d3, hd3, r⟩ := h2.get hu
        obtain ⟨d4, hd4, r'⟩ := h4.get hv
        rw [hd1] at hd3
        rw [hd2] at hd4
        cases hd3
        cases hd4
        exact pair_new sF hT (r.mono s) (r'.mono s)⟩⟩
theorem walk_zipT {a b : Addr} {xs ys : List V} {n : Nat} (hn : n = min xs.length ys.length) : Walk (RZ.ItzT G.K a b) n (fun H => SqT G.K H a xs ∧ SqT G.K H b ys) (YPair (fun i => xs[i]?) (fun i => ys[i]?)) := by
  subst hn
  refine ⟨fun i _ hi q => ?_, fun _ q => ⟨xs, ys, q.1, q.2, by omega⟩, fun i H v H' _ q y => ?_⟩
  · have h1 : i < xs.length := by omega
    have h2 : i < ys.length := by omega
    exact ⟨xs, ys, xs[i], ys[i], q.1, q.2, by simp [h1], by simp [h2]⟩
  · obtain ⟨T, x, z, h1, h2, h3, h4, h5⟩ := y
    exact ⟨T, x, z, h1, h2, h3, h4 xs q.1, h5 ys q.2⟩
theorem it_zipT {es' : List PyData} (hg : C.sc.names.lookup ("zip" : Str) = some .globalImplicit) (hm : G.mg "zip" = none) (h : Ev G C k ρ e (.tuple ds)) (h' : Ev G C k ρ e2 (.tuple es')) (hs : ∀ env, starEach [e, e2] env = (false, eval e env) :: starEach [e2] env) (hs2 : ∀ env, starEach [e2] env = [(false, eval e2 env)]) :
    It' G C k ρ (.Tuple elts kk tp) (.Call (.Name "zip" p) [e, e2] [] pos) (zipD ds es') (ds.length ≤ sizeLine ∧ es'.length ≤ sizeLine) := fun X hX =>
  pi_imp (RZ.pi_zipA (by unfold Gl Env.kindOf; rw [hX.es]; exact hg) (by rw [hX.em]; exact hm) (pa_cons (h X hX) (pa_cons (pe_bd (h' X hX)) pa_nil (by rw [hs2]; rfl)) (hs _)) (hs _) (by rw [hs2]; rfl)) fun σ H R ⟨F0, H0, F, S, q⟩ => ⟨F0, H0, F, S, fun v F1 H1 e1 r1 => ⟨F0, H0, F1, S.go e1, fun v2 F2 H2 e2 r2 bd => by
    rw [hX.eK] at bd ⊢
    cases r1.mono e2.fs with
    | @tup a xs _ h1 h2 =>
      cases r2 with
      | @tup b ys _ h3 h4 =>
        refine ⟨_, _, xs, ys, rfl, .inr ⟨same_tup e2.sub h1, same_tup e2.sub h3, q _ F2 H2 (e1.trans e2) ⟨by rw [← h2.length]; exact bd _ _ (.inr (same_tup e2.sub h1)), by rw [← h4.length]; exact bd _ _ (.inr (same_tup e2.sub h3))⟩
          (sup_walk (walk_zipT (G := G) (xs := xs) (ys := ys) rfl) (by rw [h2.length, h4.length, zipD_len]) (fun F3 H3 s sF => ⟨same_tup (s.trans sF) h1, same_tup (s.trans sF) h3⟩) fun F3 H3 i x d H' s sF hd y => ?_)⟩⟩
        obtain ⟨T, u, v, rfl, hT, rfl, hu, hv⟩ := y
        obtain ⟨d1, d2, hd1, hd2, rfl⟩ := zipD_get hd
        obtain ⟨d3, hd3, r⟩ := h2.get hu
        obtain ⟨d4, hd4, r'⟩ := h4.get hv
        rw [hd1] at hd3
        rw [hd2] at hd4
        cases hd3
        cases hd4
        exact pair_new sF hT (r.mono s) (r'.mono s)⟩⟩
/-! ### isinstance -/
/-- a datum's type -/
def tyD : PyData → String
  | .none => "NoneType"
  | .bool _ => "bool"
  | .int _ => "int"
  | .str _ => "str"
  | .list _ => "list"
  | .tuple _ => "tuple"
  | .dict _ => "dict"
theorem tyX_of {K : KK} {F H : Hp} {v : V} {d : PyData} (h : RpB K F H v d) (s : Same F H) : TyX K H v (.type (tyD d)) := by
  have r := h.full s
  cases r with
  | non => exact .base .non
  | bl b => exact .base (.bl b)
  | int i => exact .base (.int i)
  | str x => exact .base (.str x)
  | lst q _ =>
    rcases q with (q | ⟨o, q⟩) | ⟨o, its, n, h1, h2, _⟩
    · exact .base (.lst q)
    · exact .base (.frz q)
    · exact .kList h1 h2
  | tup q _ =>
    rcases q with (q | ⟨o, q⟩) | ⟨o, its, n, h1, h2, _⟩
    · exact .base (.tup q)
    · exact .fTuple q
    · exact .kTuple h1 h2
  | dK q _ => exact .base (.dK q)
theorem ev_isi {x : Str} {T : String} {p1 p2 : Pos} {b : Bool} (h : EvB G C k ρ e d) (hk : kitB (tyD d) T = some b) (hg : C.sc.names.lookup ("isinstance" : Str) = some .globalImplicit) (hm : G.mg "isinstance" = none)
    (hgT : C.sc.names.lookup x = some .globalImplicit) (hmT : G.mg x = none) (hv : bootBuiltins x = some (.type T)) (hn : x ≠ "__name__") (hd : (x == ("__debug__" : Str)) = false)
    (hs : ∀ env, starEach [e, .Name x p2] env = (false, eval e env) :: starEach [.Name x p2] env) : Ev G C k ρ (.Call (.Name "isinstance" p1) [e, .Name x p2] [] pos) (.bool b) := fun X hX =>
  pe_imp (pe_callB call_isi (by unfold Gl Env.kindOf; rw [hX.es]; exact hg) (by rw [hX.em]; exact hm) (by decide +kernel) (pa_cons (h X hX) (pa_cons (pe_bltn (v := .ty T) (by unfold Gl Env.kindOf; rw [hX.es]; exact hgT) (by rw [hX.em]; exact hmT) hv rfl hn hd) pa_nil rfl) (hs _)) (by decide) (by decide) (hs _) rfl)
    fun σ H Q ⟨F0, H0, F, S, q⟩ => ⟨F0, H0, F, S, fun v F1 H1 e1 r1 => by
      rw [hX.eK]
      exact ⟨v, .ty T, _, _, b, rfl, .ty T, tyX_of r1 e1.sub, kit_ty hk, q _ F1 H1 e1 (.bl b)⟩⟩
end
end Pl
/-! Pl, part J: several names at once, each shared or owned. -/
namespace Pl
open PySem PySem.Spec PyProof.Rows L2

/-- v stands for what a slot is to hold; a new object is none of Hs -/
def RpS (K : KK) (Hs F H : Hp) (v : V) : SV → Prop
  | .sh d => Rp K F v d
  | .ow d => ∃ a o, v = .ref a ∧ H a = some o ∧ OwnAt K F o d ∧ F a = none ∧ Hs a = none
def tEvS (K : KK) (ρ : PEnv) (x : SV) : TE := fun σ H Q => ∃ F0 H0 F, SRel K F0 H0 ρ σ F H ∧ ∀ v F' H', Ext F H F' H' → RpS K H F' H' v x → Q v H'
def EvS (G : Gb) (C : SC) (k : Nat) (ρ : PEnv) (e : Expr) (x : SV) : Prop := ∀ X, CxOk G C k X → PE X e (tEvS G.K ρ x)
section
variable {K : KK} {Hs F0 H0 F H F' H' : Hp} {ρ : PEnv} {σ : L2.St} {v : V} {x : SV}
theorem keepsOwn {a : Addr} {o : HO} {d : PyData} (e : Ext F H F' H') (ha : H a = some o) (r : OwnAt K F o d) (hf : F a = none) : F' a = none := by
  cases q : F' a with
  | none => rfl
  | some u =>
    rcases e.new a u q with z | z | z
    · rw [hf] at z; cases z
    · rw [ha] at z; cases z
    · have z2 := (e.hs _ _ ha).symm.trans (e.sub _ _ q)
      cases z2
      cases r <;> cases z
theorem RpS.ext (h : RpS K Hs F H v x) (e : Ext F H F' H') : RpS K Hs F' H' v x := by
  cases x with
  | sh d => exact Rp.mono e.fs h
  | ow d =>
    obtain ⟨a, o, rfl, h1, h2, h3, h4⟩ := h
    exact ⟨a, o, rfl, e.hs _ _ h1, h2.mono e.fs, keepsOwn e h1 h2 h3, h4⟩
/-- no slot owns what v names -/
def Free' (ρ : PEnv) (σ : L2.St) (v : V) : Prop := ∀ (j : Nat) d, ρ[j]? = some (some (.ow d)) → σ[j]? = some (some v) → False
theorem SRel.setS (S : SRel K F0 H0 ρ σ F H) {i : Nat} (r : RpS K Hs F H v x) (h0 : Same H0 Hs) (hn : (∃ d, x = .ow d) → Free' ρ σ v) : SRel K F0 H0 (ρ.set i (some x)) (σ.set i (some v)) F H := by
  cases x with
  | sh d => exact S.put r
  | ow d =>
    obtain ⟨a, o, rfl, h1, h2, h3, h4⟩ := r
    have hfree := hn ⟨d, rfl⟩
    have out : ∀ {j : Nat} {y : SV}, (ρ.set i (some (.ow d)))[j]? = some (some y) → (i = j ∧ i < ρ.length ∧ y = .ow d) ∨ (i ≠ j ∧ ρ[j]? = some (some y)) := fun {j y} h => by
      by_cases hj : i = j
      · subst hj
        by_cases hl : i < ρ.length
        · rw [List.getElem?_set_self hl] at h; cases h; exact .inl ⟨rfl, hl, rfl⟩
        · rw [List.getElem?_eq_none (by simpa using hl)] at h; cases h
      · rw [List.getElem?_set_ne hj] at h; exact .inr ⟨hj, h⟩
    refine ⟨S.ext, by rw [List.length_set, List.length_set, S.len], fun j d' h => ?_, fun j d' h => ?_, fun j l d1 d2 b hjl q1 q2 q3 q4 => ?_⟩
    · rcases out h with ⟨_, _, z⟩ | ⟨hj, h⟩
      · cases z
      · rw [List.getElem?_set_ne hj]; exact S.sh j d' h
    · rcases out h with ⟨rfl, hl, z⟩ | ⟨hj, h⟩
      · cases z
        exact ⟨a, o, List.getElem?_set_self (by rw [S.len]; exact hl), h1, h2, h3, h0.free h4⟩
      · rw [List.getElem?_set_ne hj]; exact S.ow j d' h
    · rcases out q1 with ⟨rfl, hl, z⟩ | ⟨hj, p1⟩
      · rcases out q2 with ⟨rfl, _, _⟩ | ⟨hj2, p2⟩
        · exact hjl rfl
        · rw [List.getElem?_set_self (by rw [S.len]; exact hl)] at q3
          cases q3
          rw [List.getElem?_set_ne hj2] at q4
          exact hfree l d2 p2 q4
      · rw [List.getElem?_set_ne hj] at q3
        rcases out q2 with ⟨rfl, hl, z⟩ | ⟨hj2, p2⟩
        · rw [List.getElem?_set_self (by rw [S.len]; exact hl)] at q4
          cases q4
          exact hfree j d1 p1 q3
        · rw [List.getElem?_set_ne hj2] at q4
          exact S.apart j l d1 d2 b hjl p1 p2 q3 q4
/-- a new object is none that a slot owned -/
theorem free_new (S : SRel K F0 H0 ρ σ F H) (e : Ext F H F' H') (r : RpS K H F' H' v x) : (∃ d, x = .ow d) → Free' ρ σ v := fun ⟨d, z⟩ j d' h1 h2 => by
  subst z
  obtain ⟨a, o, rfl, _, _, _, h4⟩ := r
  obtain ⟨b, u, q1, q2, _⟩ := S.ow j d' h1
  rw [q1] at h2
  cases h2
  rw [h4] at q2; cases q2
end
section
variable {G : Gb} {C : SC} {k : Nat} {ρ : PEnv} {e e1 e2 e3 : Expr} {d : PyData} {x1 x2 x3 : SV} {pos : Pos}
theorem Ev.s (h : Ev G C k ρ e d) : EvS G C k ρ e (.sh d) := fun X hX => pe_imp (h X hX) fun σ H Q ⟨F0, H0, F, S, q⟩ => ⟨F0, H0, F, S, fun v F' H' x r => q v F' H' x r⟩
theorem EvN.s (h : EvN G C k ρ e d) : EvS G C k ρ e (.ow d) := fun X hX => pe_imp (h X hX) fun σ H Q ⟨F0, H0, F, S, q⟩ => ⟨F0, H0, F, S, fun a o F' H' x hn ha hf r => q _ F' H' x ⟨a, o, rfl, ha, r, hf, hn⟩⟩
/-- two different new objects -/
theorem apart2 {K : KK} {F H F1 H1 F2 H2 : Hp} {v w : V} {j : Nat} {ρ : PEnv} {σ : L2.St} (h1 : RpS K H F1 H1 v x1) (h2 : RpS K H1 F2 H2 w x2) (hf : (∃ d, x2 = .ow d) → Free' ρ σ w) : (∃ d, x2 = .ow d) → Free' (ρ.set j (some x1)) (σ.set j (some v)) w := fun ho l d' q1 q2 => by
  have h0 := hf ho
  obtain ⟨d2, rfl⟩ := ho
  obtain ⟨b, o, rfl, _, _, _, n2⟩ := h2
  by_cases hj : j = l
  · subst hj
    by_cases hl : j < ρ.length
    · rw [List.getElem?_set_self hl] at q1
      cases q1
      obtain ⟨a, o1, rfl, m1, _⟩ := h1
      by_cases hs : j < σ.length
      · rw [List.getElem?_set_self hs] at q2
        cases q2
        rw [n2] at m1; cases m1
      · rw [List.getElem?_eq_none (by simpa using hs)] at q2; cases q2
    · rw [List.getElem?_eq_none (by simpa using hl)] at q1; cases q1
  · rw [List.getElem?_set_ne hj] at q1 q2
    exact h0 l d' q1 q2
/-- x, y = e1, e2 (plain local names) -/
theorem st_par {i j : Nat} {x y : Str} {px py pt : Pos} {kt k2 pt2} (hi : C.N[i]? = some x) (hj : C.N[j]? = some y) (hij : i ≠ j) (hx : C.sc.names.lookup x = some .local) (hy : C.sc.names.lookup y = some .local) (h1 : EvS G C k ρ e1 x1) (h2 : EvS G C k ρ e2 x2)
    (hw : ∀ env : Env, env.scope = C.sc → swappedStores [.Tuple [.Name x px, .Name y py] kt pt] (.Tuple [e1, e2] k2 pt2) env = pure (some [x, y]))
    (hs : ∀ env, swapsWithSole [.Tuple [.Name x px, .Name y py] kt pt] (.Tuple [e1, e2] k2 pt2) pos.line env = pure false) (hs1 : ∀ env, starEach [e1, e2] env = (false, eval e1 env) :: starEach [e2] env) (hs2 : ∀ env, starEach [e2] env = (false, eval e2 env) :: starEach [] env) :
    St1 G C k ρ (.Assign [.Tuple [.Name x px, .Name y py] kt pt] (.Tuple [e1, e2] k2 pt2) pos) (.nx ((ρ.set i (some x1)).set j (some x2))) := fun X hX =>
  ps_imp (ps_par hX.calm (by rw [hX.eN]; exact hX.nd) (by rw [hX.eN]; exact hi) (by rw [hX.eN]; exact hj) hij (by rw [hX.es]; exact hx) (by rw [hX.es]; exact hy) (pa_cons (h1 X hX) (pa_cons (h2 X hX) pa_nil (hs2 _)) (hs1 _)) (hw _ hX.es) (hs _)) fun D σ H ⟨F0, H0, F, S, q⟩ =>
    ⟨F0, H0, F, S, fun v F1 H1 a1 r1 => ⟨F0, H0, F1, S.go a1, fun w F2 H2 a2 r2 => ⟨v, w, rfl, q _ F2 H2 (by
      have S2 := (S.go a1).go a2
      refine SRel.setS (Hs := H1) (S2.setS (r1.ext a2) S.ext.hs (free_new S a1 r1)) r2 (S.ext.hs.trans a1.hs) (apart2 (x1 := x1) (F := F) (H := H) (F1 := F1) (H1 := H1) r1 r2 (free_new (S.go a1) a2 r2))) (a1.trans a2).fs⟩⟩⟩
/-- x, y, z = e1, e2, e3 (plain local names) -/
theorem st_par3 {i j l : Nat} {x y z : Str} {px py pz pt : Pos} {kt k2 pt2} (hi : C.N[i]? = some x) (hj : C.N[j]? = some y) (hl : C.N[l]? = some z) (hij : i ≠ j) (hil : i ≠ l) (hjl : j ≠ l) (hx : C.sc.names.lookup x = some .local) (hy : C.sc.names.lookup y = some .local) (hz : C.sc.names.lookup z = some .local)
    (h1 : EvS G C k ρ e1 x1) (h2 : EvS G C k ρ e2 x2) (h3 : EvS G C k ρ e3 x3)
    (hw : ∀ env : Env, env.scope = C.sc → swappedStores [.Tuple [.Name x px, .Name y py, .Name z pz] kt pt] (.Tuple [e1, e2, e3] k2 pt2) env = pure (some [x, y, z]))
    (hs : ∀ env, swapsWithSole [.Tuple [.Name x px, .Name y py, .Name z pz] kt pt] (.Tuple [e1, e2, e3] k2 pt2) pos.line env = pure false) (hs1 : ∀ env, starEach [e1, e2, e3] env = (false, eval e1 env) :: starEach [e2, e3] env)
    (hs2 : ∀ env, starEach [e2, e3] env = (false, eval e2 env) :: starEach [e3] env) (hs3 : ∀ env, starEach [e3] env = (false, eval e3 env) :: starEach [] env) :
    St1 G C k ρ (.Assign [.Tuple [.Name x px, .Name y py, .Name z pz] kt pt] (.Tuple [e1, e2, e3] k2 pt2) pos) (.nx (((ρ.set i (some x1)).set j (some x2)).set l (some x3))) := fun X hX =>
  ps_imp (ps_par3 hX.calm (by rw [hX.eN]; exact hX.nd) (by rw [hX.eN]; exact hi) (by rw [hX.eN]; exact hj) (by rw [hX.eN]; exact hl) hij hil hjl (by rw [hX.es]; exact hx) (by rw [hX.es]; exact hy) (by rw [hX.es]; exact hz)
    (pa_cons (h1 X hX) (pa_cons (h2 X hX) (pa_cons (h3 X hX) pa_nil (hs3 _)) (hs2 _)) (hs1 _)) (hw _ hX.es) (hs _)) fun D σ H ⟨F0, H0, F, S, q⟩ =>
    ⟨F0, H0, F, S, fun v F1 H1 a1 r1 => ⟨F0, H0, F1, S.go a1, fun w F2 H2 a2 r2 => ⟨F0, H0, F2, (S.go a1).go a2, fun u F3 H3 a3 r3 => ⟨v, w, u, rfl, q _ F3 H3 (by
      have S3 := ((S.go a1).go a2).go a3
      have f1 := free_new S a1 r1
      have f2 := apart2 (j := i) (x1 := x1) (F := F) (H := H) (F1 := F1) (H1 := H1) r1 r2 (free_new (S.go a1) a2 r2)
      have f3 := apart2 (j := i) (x1 := x1) (F := F) (H := H) (F1 := F2) (H1 := H2) (r1.ext a2) r3 (free_new ((S.go a1).go a2) a3 r3)
      have f4 := apart2 (j := j) (x1 := x2) (F := F) (H := H1) (F1 := F2) (H1 := H2) r2 r3 f3
      exact SRel.setS (Hs := H2) (SRel.setS (Hs := H1) (S3.setS ((r1.ext a2).ext a3) S.ext.hs f1) (r2.ext a3) (S.ext.hs.trans a1.hs) f2) r3 (S.ext.hs.trans (a1.trans a2).hs) f4) ((a1.trans a2).trans a3).fs⟩⟩⟩⟩
end
end Pl
/-! Pl, part T: data with Lean types; the forms that the printed proofs use. -/
namespace Pl
open PySem PySem.Spec PyProof.Rows L2

/-! ### encodings -/
abbrev eI : Int → PyData := .int
abbrev eB : Bool → PyData := .bool
abbrev eS : Str → PyData := .str
abbrev eD : PyData → PyData := id
def eN : Unit → PyData := fun _ => .none
/-- a tuple of any length, a list -/
def eT {α : Type} (e : α → PyData) (xs : List α) : PyData := .tuple (xs.map e)
def eL {α : Type} (e : α → PyData) (xs : List α) : PyData := .list (xs.map e)
def eP {α β : Type} (a : α → PyData) (b : β → PyData) (p : α × β) : PyData := .tuple [a p.1, b p.2]
def eP3 {α β γ : Type} (a : α → PyData) (b : β → PyData) (c : γ → PyData) (p : α × β × γ) : PyData := .tuple [a p.1, b p.2.1, c p.2.2]
def eP4 {α β γ δ : Type} (a : α → PyData) (b : β → PyData) (c : γ → PyData) (d : δ → PyData) (p : α × β × γ × δ) : PyData := .tuple [a p.1, b p.2.1, c p.2.2.1, d p.2.2.2]
def eO {α : Type} (e : α → PyData) : Option α → PyData
  | none => .none
  | some a => e a

/-! ### partial values -/
/-- a value given to a name -/
@[irreducible] def set' {α β : Type} (v : α) (f : α → β) : β := f v
theorem set_eq {α β : Type} (v : α) (f : α → β) : set' v f = f v := by unfold set'; rfl
theorem set_ex {α β : Type} {v : α} {f : α → Option β} {r : β} (h : set' v f = some r) : ∃ x, v = x ∧ f x = some r := ⟨v, rfl, by rw [set_eq] at h; exact h⟩
theorem bind_ex {α β : Type} {o : Option α} {f : α → Option β} {r : β} (h : o.bind f = some r) : ∃ x, o = some x ∧ f x = some r := by
  cases o with
  | none => cases h
  | some x => exact ⟨x, rfl, h⟩
/-- a condition that must hold -/
noncomputable def need {β : Type} (p : Prop) (f : Option β) : Option β := open Classical in if p then f else none
theorem need_ex {β : Type} {p : Prop} {f : Option β} {r : β} (h : need p f = some r) : p ∧ f = some r := by
  unfold need at h
  by_cases c : p
  · rw [if_pos c] at h; exact ⟨c, h⟩
  · rw [if_neg c] at h; cases h
theorem need_of {β : Type} {p : Prop} {f : Option β} (h : p) : need p f = f := if_pos h
theorem if_ex {β : Type} {c : Bool} {a b : Option β} {r : β} (h : (if c = true then a else b) = some r) : (c = true ∧ a = some r) ∨ (c = false ∧ b = some r) := by
  cases c with
  | true => exact .inl ⟨rfl, h⟩
  | false => exact .inr ⟨rfl, h⟩
/-- the item at a place, from the left or from behind -/
def idx {α : Type} (xs : List α) (i : Int) : Option α := atI xs i
theorem atI_map {α β : Type} (f : α → β) {xs : List α} {i : Int} {x : α} (h : idx xs i = some x) : atI (xs.map f) i = some (f x) := by
  unfold idx atI at h
  unfold atI
  rw [List.length_map]
  cases e : ixN xs.length i with
  | none => rw [e] at h; cases h
  | some j =>
    rw [e] at h
    have h' : xs[j]? = some x := h
    show (xs.map f)[j]? = some (f x)
    rw [List.getElem?_map, h']; rfl
theorem idx_nat {α : Type} {xs : List α} {i : Int} {x : α} (h0 : 0 ≤ i) (h : xs[i.toNat]? = some x) : idx xs i = some x := by
  obtain ⟨n, rfl⟩ := Int.eq_ofNat_of_zero_le h0
  exact atI_nat h
def setAt {α : Type} (xs : List α) (i : Int) (x : α) : Option (List α) := (ixN xs.length i).map fun j => xs.set j x
/-- how a turn ends -/
inductive O (S β : Type) where
  | nx (s : S)
  | rt (b : β)
  | bk (s : S)
  | ct (s : S)
def O.out {S β : Type} (R : S → PEnv) (E : β → PyData) : O S β → Out
  | .nx s => .nx (R s)
  | .rt b => .rt (E b)
  | .bk s => .bk (R s)
  | .ct s => .ct (R s)
/-- a for over xs -/
def forO {S α β : Type} (step : S → α → Option (O S β)) : List α → S → Option (O S β)
  | [], s => some (.nx s)
  | x :: xs, s => (step s x).bind fun o => match o with
    | .nx s' => forO step xs s'
    | .ct s' => forO step xs s'
    | .bk s' => some (.nx s')
    | .rt b => some (.rt b)
/-- .. no turn of which leaves -/
def forS {S α : Type} (step : S → α → Option S) : List α → S → Option S
  | [], s => some s
  | x :: xs, s => (step s x).bind fun s' => forS step xs s'
/-- a while, at most so many turns -/
def whileO {S β : Type} (c : S → Option Bool) (b : S → Option (O S β)) : Nat → S → Option (O S β)
  | 0, _ => none
  | n + 1, s => (c s).bind fun t => if t = true then (b s).bind fun o => (match o with
    | .nx s' => whileO c b n s'
    | .ct s' => whileO c b n s'
    | .bk s' => some (.nx s')
    | .rt r => some (.rt r)) else some (.nx s)
def whileS {S : Type} (c : S → Option Bool) (b : S → Option S) : Nat → S → Option S
  | 0, _ => none
  | n + 1, s => (c s).bind fun t => if t = true then (b s).bind fun s' => whileS c b n s' else some s
/-- [g x for x in xs] -/
def mapO {α β : Type} (g : α → Option β) : List α → Option (List β)
  | [] => some []
  | x :: xs => (g x).bind fun y => (mapO g xs).bind fun ys => some (y :: ys)
/-- [.. for x in xs if ..] -/
def filO {α β : Type} (g : α → Option (Option β)) : List α → Option (List β)
  | [] => some []
  | x :: xs => (g x).bind fun y => (filO g xs).bind fun ys => some (y.toList ++ ys)

theorem mapO_len {α β : Type} {g : α → Option β} : ∀ {xs : List α} {ys : List β}, mapO g xs = some ys → ys.length = xs.length
  | [], ys, h => by cases h; rfl
  | x :: xs, ys, h => by
    obtain ⟨y, _, h⟩ := bind_ex h
    obtain ⟨zs, h2, h⟩ := bind_ex h
    cases h
    exact congrArg (· + 1) (mapO_len h2)
theorem filO_len {α β : Type} {g : α → Option (Option β)} : ∀ {xs : List α} {ys : List β}, filO g xs = some ys → ys.length ≤ xs.length
  | [], ys, h => by cases h; exact Nat.le_refl _
  | x :: xs, ys, h => by
    obtain ⟨y, _, h⟩ := bind_ex h
    obtain ⟨zs, h2, h⟩ := bind_ex h
    cases h
    have := filO_len h2
    cases y with
    | none => simp; omega
    | some y => simp; omega

/-! ### names, by one look -/
structure Nm (C : SC) (i : Nat) (x : Str) : Prop where
  hi : C.N[i]? = some x
  hv : C.sc.names.lookup x = some .local ∨ C.sc.names.lookup x = some .cell ∨ C.sc.names.lookup x = some .free
  hd : (x == ("__debug__" : Str)) = false
  hc : (x == ("__classdict__" : Str)) = false
structure NmS (C : SC) (i : Nat) (x : Str) : Prop where
  hi : C.N[i]? = some x
  hx : C.sc.names.lookup x = some .local ∨ C.sc.names.lookup x = some .cell
  hf : C.fs x = true ∨ C.sc.names.lookup x = some .local
/-- a plain local name -/
structure NmL (C : SC) (i : Nat) (x : Str) : Prop where
  hi : C.N[i]? = some x
  hl : C.sc.names.lookup x = some .local
structure Gn (C : SC) (x : Str) : Prop where
  hg : C.sc.names.lookup x = some .globalImplicit
  hn : x ≠ "__name__"
  hd : (x == ("__debug__" : Str)) = false
def isL : Option NameKind → Bool
  | some .local => true
  | _ => false
def isC : Option NameKind → Bool
  | some .cell => true
  | _ => false
def isF : Option NameKind → Bool
  | some .free => true
  | _ => false
def isG : Option NameKind → Bool
  | some .globalImplicit => true
  | _ => false
theorem isL_ok {o : Option NameKind} (h : isL o = true) : o = some .local := by cases o with | none => cases h | some k => cases k <;> first | rfl | cases h
theorem isC_ok {o : Option NameKind} (h : isC o = true) : o = some .cell := by cases o with | none => cases h | some k => cases k <;> first | rfl | cases h
theorem isF_ok {o : Option NameKind} (h : isF o = true) : o = some .free := by cases o with | none => cases h | some k => cases k <;> first | rfl | cases h
theorem isG_ok {o : Option NameKind} (h : isG o = true) : o = some .globalImplicit := by cases o with | none => cases h | some k => cases k <;> first | rfl | cases h
def nmB (C : SC) (i : Nat) (x : Str) : Bool := decide (C.N[i]? = some x) && ((isL (C.sc.names.lookup x) || (isC (C.sc.names.lookup x) || isF (C.sc.names.lookup x))) && (!(x == ("__debug__" : Str)) && !(x == ("__classdict__" : Str))))
def nmsB (C : SC) (i : Nat) (x : Str) : Bool := decide (C.N[i]? = some x) && ((isL (C.sc.names.lookup x) || isC (C.sc.names.lookup x)) && (C.fs x || isL (C.sc.names.lookup x)))
def nmlB (C : SC) (i : Nat) (x : Str) : Bool := decide (C.N[i]? = some x) && isL (C.sc.names.lookup x)
def gnB (C : SC) (x : Str) : Bool := isG (C.sc.names.lookup x) && (!decide (x = "__name__") && !(x == ("__debug__" : Str)))
theorem or_d {a b : Bool} (h : (a || b) = true) : a = true ∨ b = true := Bool.or_eq_true_iff.mp h
theorem not_d {a : Bool} (h : (!a) = true) : a = false := by cases a <;> first | rfl | cases h
theorem nm {C : SC} {i : Nat} {x : Str} (h : nmB C i x = true) : Nm C i x := ⟨of_decide_eq_true (and_l h), (or_d (and_l (and_r h))).imp isL_ok fun z => (or_d z).imp isC_ok isF_ok, not_d (and_l (and_r (and_r h))), not_d (and_r (and_r (and_r h)))⟩
theorem nms {C : SC} {i : Nat} {x : Str} (h : nmsB C i x = true) : NmS C i x := ⟨of_decide_eq_true (and_l h), (or_d (and_l (and_r h))).imp isL_ok isC_ok, (or_d (and_r (and_r h))).imp id isL_ok⟩
theorem nml {C : SC} {i : Nat} {x : Str} (h : nmlB C i x = true) : NmL C i x := ⟨of_decide_eq_true (and_l h), isL_ok (and_r h)⟩
theorem gn {C : SC} {x : Str} (h : gnB C x = true) : Gn C x := ⟨isG_ok (and_l h), of_decide_eq_false (not_d (and_l (and_r h))), not_d (and_r (and_r h))⟩

/-! ### guards -/
instance {i j : Int} : Decidable (MulOk i j) := by unfold MulOk CMul CMulW; infer_instance
instance {i j : Int} : Decidable (DivOk i j) := by unfold DivOk; infer_instance
instance {i j : Int} : Decidable (CPow i j) := by unfold CPow; infer_instance
theorem mul_l {i j : Int} (h : -(2 ^ 64) < i ∧ i < 2 ^ 64) : MulOk i j := .inl (.inl h)
theorem mul_r {i j : Int} (h : -(2 ^ 64) < j ∧ j < 2 ^ 64) : MulOk i j := .inl (.inr h)
theorem div_c {i j : Int} (h : 0 < j ∧ j < 1073741824) : DivOk i j := ⟨h.1, .inl h.2⟩
/-- a range's ends -/
def RgO (lo hi : Int) : Prop := -1000000000 ≤ lo ∧ lo ≤ 1000000000 ∧ -1000000000 ≤ hi ∧ hi ≤ 1000000000 ∧ hi - lo ≤ 16777216
instance {i j : Int} : Decidable (RgO i j) := by unfold RgO; infer_instance
theorem rangeD_le {lo hi : Int} (h : RgO lo hi) : (rangeD lo hi).length ≤ sizeLine := by
  have e := sizeLine_eq
  unfold rangeD
  obtain ⟨_, _, _, _, h⟩ := h
  simp
  omega

section
variable {G : Gb} {C : SC} {k : Nat} {ρ ρ1 ρ2 : PEnv} {e tg a b c : Expr} {es : List Expr} {d d' d1 d2 d3 : PyData} {ds : List PyData} {pos p : Pos} {x : Str} {t u : Bool}
theorem Ev.to (h : Ev G C k ρ e d) (q : d = d') : Ev G C k ρ e d' := q ▸ h
theorem EvB.to (h : EvB G C k ρ e d) (q : d = d') : EvB G C k ρ e d' := q ▸ h
theorem EvN.to (h : EvN G C k ρ e d) (q : d = d') : EvN G C k ρ e d' := q ▸ h
theorem Te.to (h : Te G C k ρ e t) (q : t = u) : Te G C k ρ e u := q ▸ h
theorem vr (i : Nat) (n : Nm C i x) (h : ρ[i]? = some (some (.sh d))) : Ev G C k ρ (.Name x pos) d := ev_name i n.hi n.hv h n.hd n.hc
theorem vo (i : Nat) (n : Nm C i x) (h : ρ[i]? = some (some (.ow d))) : EvB G C k ρ (.Name x pos) d := evb_own i n.hi n.hv h n.hd n.hc
/-! and, or, chains of what is total -/
theorem ev_and {rest : List Expr} (ha : Ev G C k ρ a (.bool t)) (hb : Ev G C k ρ (.BoolOp .And (b :: rest) pos) (.bool u)) : Ev G C k ρ (.BoolOp .And (a :: b :: rest) pos) (.bool (t && u)) := by
  cases t with
  | true => exact ev_andT ha hb
  | false => exact ev_andF ha
theorem ev_or {rest : List Expr} (ha : Ev G C k ρ a (.bool t)) (hb : Ev G C k ρ (.BoolOp .Or (b :: rest) pos) (.bool u)) : Ev G C k ρ (.BoolOp .Or (a :: b :: rest) pos) (.bool (t || u)) := by
  cases t with
  | true => exact ev_orT ha
  | false => exact ev_orF ha hb
theorem tw_and {rest : List Expr} (ha : Te G C k ρ a t) (hb : Tw G C k ρ (.BoolOp .And (b :: rest) pos) u) : Tw G C k ρ (.BoolOp .And (a :: b :: rest) pos) (t && u) := by
  cases t with
  | true => exact tw_andT ha hb
  | false => exact tw_andF ha
theorem tw_or {rest : List Expr} (ha : Te G C k ρ a t) (hb : Tw G C k ρ (.BoolOp .Or (b :: rest) pos) u) : Tw G C k ρ (.BoolOp .Or (a :: b :: rest) pos) (t || u) := by
  cases t with
  | true => exact tw_orT ha
  | false => exact tw_orF ha hb
/-! .. of what may not be there: h tells the outcome -/
theorem ev_andO {rest : List Expr} {o : Option Bool} {r : Bool} (h : (if t = true then o else some false) = some r) (ha : Ev G C k ρ a (.bool t)) (hb : o = some r → Ev G C k ρ (.BoolOp .And (b :: rest) pos) (.bool r)) : Ev G C k ρ (.BoolOp .And (a :: b :: rest) pos) (.bool r) := by
  cases t with
  | true => exact ev_andT ha (hb h)
  | false => cases h; exact ev_andF ha
theorem ev_orO {rest : List Expr} {o : Option Bool} {r : Bool} (h : (if t = true then some true else o) = some r) (ha : Ev G C k ρ a (.bool t)) (hb : o = some r → Ev G C k ρ (.BoolOp .Or (b :: rest) pos) (.bool r)) : Ev G C k ρ (.BoolOp .Or (a :: b :: rest) pos) (.bool r) := by
  cases t with
  | true => cases h; exact ev_orT ha
  | false => exact ev_orF ha (hb h)
theorem tw_andO {rest : List Expr} {o : Option Bool} {r : Bool} (h : (if t = true then o else some false) = some r) (ha : Te G C k ρ a t) (hb : o = some r → Tw G C k ρ (.BoolOp .And (b :: rest) pos) r) : Tw G C k ρ (.BoolOp .And (a :: b :: rest) pos) r := by
  cases t with
  | true => exact tw_andT ha (hb h)
  | false => cases h; exact tw_andF ha
theorem tw_orO {rest : List Expr} {o : Option Bool} {r : Bool} (h : (if t = true then some true else o) = some r) (ha : Te G C k ρ a t) (hb : o = some r → Tw G C k ρ (.BoolOp .Or (b :: rest) pos) r) : Tw G C k ρ (.BoolOp .Or (a :: b :: rest) pos) r := by
  cases t with
  | true => cases h; exact tw_orT ha
  | false => exact tw_orF ha (hb h)
theorem ev_if {α : Type} {E : α → PyData} {v w : α} (hc : Te G C k ρ c t) (ha : Ev G C k ρ a (E v)) (hb : Ev G C k ρ b (E w)) : Ev G C k ρ (.IfExp c a b pos) (E (if t = true then v else w)) := by
  cases t with
  | true => exact ev_ifT hc ha
  | false => exact ev_ifF hc hb
theorem ev_ifO {α : Type} {E : α → PyData} {o q : Option α} {r : α} (h : (if t = true then o else q) = some r) (hc : Te G C k ρ c t) (ha : o = some r → Ev G C k ρ a (E r)) (hb : q = some r → Ev G C k ρ b (E r)) : Ev G C k ρ (.IfExp c a b pos) (E r) := by
  cases t with
  | true => exact ev_ifT hc (ha h)
  | false => exact ev_ifF hc (hb h)
/-- a op b op' c on whole numbers -/
theorem ev_chain2 {op op' : CmpOp} (ho : OpOk G C k (compareOp op) d1 d2 (.bool t)) (ho' : OpOk G C k (compareOp op') d2 d3 (.bool u)) (ha : EvB G C k ρ a d1) (hb : EvB G C k ρ b d2) (hc : EvB G C k ρ c d3) (hm : lastMarks [op, op'] [b, c] = false) :
    Ev G C k ρ (.Compare a [op, op'] [b, c] pos) (.bool (t && u)) := by
  cases t with
  | true => exact ev_chain ho ho' ha hb hc hm
  | false => exact ev_chainF ho ha hb (fun X hX => ⟨_, hc X hX⟩) (fun X hX => ⟨_, ho' X hX⟩) hm
/-! ### comprehensions with Lean types -/
theorem lcr_map {α β : Type} {ea : α → PyData} {eb : β → PyData} {vs : List Nat} {ifs : List Expr} {elt : Expr} (g : α → Option β) (h : ∀ x y, g x = some y → LcStep G C k ρ vs tg ifs elt (ea x) (some (eb y))) : ∀ (xs : List α) (ys : List β), mapO g xs = some ys → LcR G C k ρ vs tg ifs elt (xs.map ea) (ys.map eb)
  | [], ys, q => by cases q; exact .nil
  | x :: xs, ys, q => by
    obtain ⟨y, h1, q⟩ := bind_ex q
    obtain ⟨zs, h2, q⟩ := bind_ex q
    cases q
    exact .keep (h x y h1) (lcr_map g h xs zs h2)
theorem lcr_fil {α β : Type} {ea : α → PyData} {eb : β → PyData} {vs : List Nat} {ifs : List Expr} {elt : Expr} (g : α → Option (Option β)) (h : ∀ x o, g x = some o → LcStep G C k ρ vs tg ifs elt (ea x) (o.map eb)) : ∀ (xs : List α) (ys : List β), filO g xs = some ys → LcR G C k ρ vs tg ifs elt (xs.map ea) (ys.map eb)
  | [], ys, q => by cases q; exact .nil
  | x :: xs, ys, q => by
    obtain ⟨o, h1, q⟩ := bind_ex q
    obtain ⟨zs, h2, q⟩ := bind_ex q
    cases q
    have s := h x o h1
    cases o with
    | none => exact .skip s (lcr_fil g h xs zs h2)
    | some y => exact .keep s (lcr_fil g h xs zs h2)
theorem lcr_mapT {α β : Type} {ea : α → PyData} {eb : β → PyData} {vs : List Nat} {ifs : List Expr} {elt : Expr} (g : α → β) (h : ∀ x, LcStep G C k ρ vs tg ifs elt (ea x) (some (eb (g x)))) : ∀ (xs : List α), LcR G C k ρ vs tg ifs elt (xs.map ea) ((xs.map g).map eb)
  | [] => .nil
  | x :: xs => .keep (h x) (lcr_mapT g h xs)
theorem lcr_filT {α β : Type} {ea : α → PyData} {eb : β → PyData} {vs : List Nat} {ifs : List Expr} {elt : Expr} (f : α → Bool) (g : α → β) (h : ∀ x, LcStep G C k ρ vs tg ifs elt (ea x) (if f x = true then some (eb (g x)) else none)) : ∀ (xs : List α), LcR G C k ρ vs tg ifs elt (xs.map ea) (((xs.filter f).map g).map eb)
  | [] => .nil
  | x :: xs => by
    have s := h x
    rw [List.filter_cons]
    cases e : f x with
    | true => rw [e] at s; exact .keep s (lcr_filT f g h xs)
    | false => rw [e] at s; exact .skip s (lcr_filT f g h xs)
/-- one item, without tests, with one -/
theorem step_one {vs is : List Nat} {elt : Expr} {y : PyData} (hs : ∀ i ∈ is, i ∈ vs) (ht : Tg G C k ρ tg is d ρ1) (he : Ev G C k ρ1 elt y) : LcStep G C k ρ vs tg [] elt d (some y) := ⟨is, ρ1, hs, ht, .inl ⟨y, rfl, ts_nil, he⟩⟩
theorem step_if {vs is : List Nat} {elt : Expr} {y : PyData} (hs : ∀ i ∈ is, i ∈ vs) (ht : Tg G C k ρ tg is d ρ1) (hc : Te G C k ρ1 c t) (he : t = true → Ev G C k ρ1 elt y) : LcStep G C k ρ vs tg [c] elt d (if t = true then some y else none) := by
  cases t with
  | true => exact ⟨is, ρ1, hs, ht, .inl ⟨y, rfl, ts_one hc, he rfl⟩⟩
  | false => exact ⟨is, ρ1, hs, ht, .inr ⟨rfl, ts_one hc⟩⟩
theorem step_ifO {β : Type} {eb : β → PyData} {vs is : List Nat} {elt : Expr} {q : Option (Option β)} {o : Option β} (h : (if t = true then q else some none) = some o) (hs : ∀ i ∈ is, i ∈ vs) (ht : Tg G C k ρ tg is d ρ1) (hc : Te G C k ρ1 c t) (he : q = some o → ∃ y, o = some y ∧ Ev G C k ρ1 elt (eb y)) : LcStep G C k ρ vs tg [c] elt d (o.map eb) := by
  cases t with
  | true =>
    obtain ⟨y, rfl, hy⟩ := he h
    exact ⟨is, ρ1, hs, ht, .inl ⟨_, rfl, ts_one hc, hy⟩⟩
  | false => cases h; exact ⟨is, ρ1, hs, ht, .inr ⟨rfl, ts_one hc⟩⟩
/-! ### loops with Lean types -/
theorem for_o {S α β : Type} {R : S → PEnv} {E : β → PyData} {ea : α → PyData} {body : List Stmt} {step : S → α → Option (O S β)} (h : ∀ s x o, step s x = some o → ∃ is ρt, Tg G C k (R s) tg is (ea x) ρt ∧ Blk G C k ρt body (o.out R E)) :
    ∀ (xs : List α) (s : S) (o : O S β), forO step xs s = some o → ForR G C k tg body (xs.map ea) (R s) (o.out R E)
  | [], s, o, q => by cases q; exact .done
  | x :: xs, s, o, q => by
    obtain ⟨o', h1, q⟩ := bind_ex q
    obtain ⟨is, ρt, ht, hb⟩ := h s x o' h1
    cases o' with
    | nx s' => exact .nx ht hb (for_o h xs s' o q)
    | ct s' => exact .ct ht hb (for_o h xs s' o q)
    | bk s' => cases q; exact .bk ht hb
    | rt b => cases q; exact .rt ht hb
theorem for_s {S α : Type} {R : S → PEnv} {ea : α → PyData} {body : List Stmt} {step : S → α → Option S} (h : ∀ s x s', step s x = some s' → ∃ is ρt, Tg G C k (R s) tg is (ea x) ρt ∧ Blk G C k ρt body (.nx (R s'))) :
    ∀ (xs : List α) (s s' : S), forS step xs s = some s' → ForR G C k tg body (xs.map ea) (R s) (.nx (R s'))
  | [], s, s', q => by cases q; exact .done
  | x :: xs, s, s', q => by
    obtain ⟨s1, h1, q⟩ := bind_ex q
    obtain ⟨is, ρt, ht, hb⟩ := h s x s1 h1
    exact .nx ht hb (for_s h xs s1 s' q)
theorem while_o {S β : Type} {R : S → PEnv} {E : β → PyData} {body : List Stmt} {cd : S → Option Bool} {step : S → Option (O S β)} (hc : ∀ s t, cd s = some t → Te G C k (R s) c t) (h : ∀ s o, step s = some o → Blk G C k (R s) body (o.out R E)) :
    ∀ (n : Nat) (s : S) (o : O S β), whileO cd step n s = some o → WhileR G C k c body n (R s) (o.out R E)
  | 0, s, o, q => by cases q
  | n + 1, s, o, q => by
    obtain ⟨t, h1, q⟩ := bind_ex q
    have ht := hc s t h1
    cases t with
    | false => cases q; exact .done ht
    | true =>
      obtain ⟨o', h2, q⟩ := bind_ex (show (step s).bind _ = some o from q)
      have hb := h s o' h2
      cases o' with
      | nx s' => exact .nx ht hb (while_o hc h n s' o q)
      | ct s' => exact .ct ht hb (while_o hc h n s' o q)
      | bk s' => cases q; exact .bk ht hb
      | rt b => cases q; exact .rt ht hb
theorem while_s {S : Type} {R : S → PEnv} {body : List Stmt} {cd : S → Option Bool} {step : S → Option S} (hc : ∀ s t, cd s = some t → Te G C k (R s) c t) (h : ∀ s s', step s = some s' → Blk G C k (R s) body (.nx (R s'))) :
    ∀ (n : Nat) (s s' : S), whileS cd step n s = some s' → WhileR G C k c body n (R s) (.nx (R s'))
  | 0, s, o, q => by cases q
  | n + 1, s, o, q => by
    obtain ⟨t, h1, q⟩ := bind_ex q
    have ht := hc s t h1
    cases t with
    | false => cases q; exact .done ht
    | true =>
      obtain ⟨s1, h2, q⟩ := bind_ex (show (step s).bind _ = some o from q)
      exact .nx ht (h s s1 h2) (while_s hc h n s1 o q)
/-! ### if, joined -/
theorem st_if {a b : List Stmt} {r : Out} (hc : Te G C k ρ c t) (ha : t = true → Blk G C k ρ a r) (hb : t = false → Blk G C k ρ b r) : St1 G C k ρ (.If c a b pos) r := by
  cases t with
  | true => exact st_ifT hc (ha rfl)
  | false => exact st_ifF hc (hb rfl)
end
end Pl
/-! Pl, part U: more statements; equality by type. -/
namespace Pl
open PySem PySem.Spec PyProof.Rows L2

section
variable {G : Gb} {C : SC} {k : Nat} {ρ ρ1 ρ2 : PEnv} {e e1 e2 e3 tg a b c : Expr} {es : List Expr} {d d' d1 d2 d3 : PyData} {ds es' : List PyData} {pos p : Pos} {x y z : Str} {x1 x2 x3 : SV}
theorem kindOf_of {env : Env} (h : env.scope = C.sc) (x : Str) : env.kindOf x = C.sc.names.lookup x := by unfold Env.kindOf; rw [h]
/-- a comprehension given to a name that is a cell -/
theorem swp_cell {elt : Expr} {gs : List Comprehension} {scope : Scope} {py : Pos} {l : Nat} (h : isC (C.sc.names.lookup x) = true) : ∀ env : Env, env.scope = C.sc → swapsWith (.ListComp elt gs scope pos) (some (.Name x py)) l env = pure false := fun env he => by
  show (pure (env.blockKind == .function && env.kindOf x == some .local && py.line == (Expr.ListComp elt gs scope pos).pos.line && !(scope.names.any fun (n, k) => n == x && (k == .local || k == .cell))) : Sem Bool) = pure false
  rw [kindOf_of he, isC_ok h]
  have : (some NameKind.cell == some NameKind.local) = false := rfl
  rw [this, Bool.and_false, Bool.false_and, Bool.false_and]
/-- .. that is a plain local -/
theorem swp_local {elt : Expr} {gs : List Comprehension} {scope : Scope} {py : Pos} {l : Nat} (h : (isL (C.sc.names.lookup x) && (((if C.sc.kind.isAnnotationScope then ScopeKind.function else C.sc.kind) == ScopeKind.function) && (py.line == pos.line && !(scope.names.any fun (n, k) => n == x && (k == .local || k == .cell))))) = true) : ∀ env : Env, env.scope = C.sc → swapsWith (.ListComp elt gs scope pos) (some (.Name x py)) l env = pure true := fun env he => by
  show (pure (env.blockKind == .function && env.kindOf x == some .local && py.line == (Expr.ListComp elt gs scope pos).pos.line && !(scope.names.any fun (n, k) => n == x && (k == .local || k == .cell))) : Sem Bool) = pure true
  have hb : (env.blockKind == .function) = true := by
    unfold Env.blockKind
    rw [he]; exact and_l (and_r h)
  rw [kindOf_of he, isL_ok (and_l h), hb]
  have : (some NameKind.local == some NameKind.local) = true := rfl
  rw [this]
  show (pure (py.line == pos.line && _) : Sem Bool) = pure true
  rw [and_r (and_r h)]
theorem swp_any {ts : List Expr} {v : Expr} {o : Sem (Option (List Str))} (env0 : Env) (h0 : swappedStores ts v { env0 with scope := C.sc } = o) (he : ∀ env env' : Env, env.scope = env'.scope → swappedStores ts v env = swappedStores ts v env') : ∀ env : Env, env.scope = C.sc → swappedStores ts v env = o := fun env h => (he env _ h).trans h0
/-- x.extend(e), e new -/
theorem st_extend (i : Nat) {p1 ap cp : Pos} (n : Nm C i x) (h : ρ[i]? = some (some (.ow (.list ds)))) (he : EvN G C k ρ e (.list es')) (hl : ds.length + es'.length ≤ sizeLine)
    (hsw : ∀ env, swapsWith (.Call (.Attribute (.Name x p1) "extend" ap) [e] [] cp) none pos.line env = pure false)
    (hs : ∀ env, starEach [e] env = [(false, eval e env)]) (hab : ∀ env, attributeBase (.Name x p1) "extend" env (eval (.Name x p1) env) = eval (.Name x p1) env) (hln : (ap.endLine == cp.line) = true) :
    St1 G C k ρ (.Expr (.Call (.Attribute (.Name x p1) "extend" ap) [e] [] cp) pos) (.nx (ρ.set i (some (.ow (.list (ds ++ es')))))) := fun X hX => by
  refine ps_imp (ps_expr (pe_bm PySem.F.plainAttrs_list PySem.F.slot_list_extend PySem.F.type_list_extend mt_extend (pe_var (i := i) (by rw [hX.eN]; exact n.hi) (vis_of hX n.hv) n.hd n.hc) (pa_cons (he X hX) pa_nil (by rw [hs]; rfl)) (hab _) (by rw [hs]; rfl) hln (by rw [hs]; rfl) rfl) (hsw _)) fun D σ H ⟨F0, H0, F, S, q⟩ => ?_
  obtain ⟨a, o, h1, h2, h3, h4, h5⟩ := S.ow i _ h
  cases h3 with
  | @lst xs _ r =>
    refine ⟨.ref a, h1, .inl ⟨rfl, xs, .inl (.inl h2)⟩, F0, H0, F, S, fun bq o F1 H1 e1 hn ho hf r1 => ?_⟩
    cases r1 with
    | @lst zs _ r1 =>
      exact ⟨a, bq, xs, zs, rfl, rfl, e1.hs _ _ h2, ho, by rw [r.length, r1.length]; exact hl, q σ F1 _ ((S.go e1).mut h h1 (.lst ((r.mono e1.fs).append r1))) e1.fs⟩
/-- x, y = e1, e2, each shared or new, by the tuple -/
theorem st_unp2 {i j : Nat} {px py pt : Pos} {kt k2 pt2} (n1 : NmS C i x) (n2 : NmS C j y) (h1 : EvS G C k ρ e1 x1) (h2 : EvS G C k ρ e2 x2)
    (hw : ∀ env : Env, env.scope = C.sc → swappedStores [.Tuple [.Name x px, .Name y py] kt pt] (.Tuple [e1, e2] k2 pt2) env = pure none)
    (hs1 : ∀ env, starEach [e1, e2] env = (false, eval e1 env) :: starEach [e2] env) (hs2 : ∀ env, starEach [e2] env = (false, eval e2 env) :: starEach [] env) :
    St1 G C k ρ (.Assign [.Tuple [.Name x px, .Name y py] kt pt] (.Tuple [e1, e2] k2 pt2) pos) (.nx ((ρ.set i (some x1)).set j (some x2))) := fun X hX =>
  have fx : ∀ {i : Nat} {x : Str}, NmS C i x → X.fn x = true ∨ X.env.scope.names.lookup x = some .local := fun n => n.hf.imp (hX.fn _) fun h => by rw [hX.es]; exact h
  ps_imp (ps_asg (pe_tup (pa_cons (h1 X hX) (pa_cons (h2 X hX) pa_nil (hs2 _)) (hs1 _))) (pg_tup (n := 2) hX.calm (pgs_cons (pg_name (i := i) (by rw [hX.eN]; exact hX.nd) (by rw [hX.eN]; exact n1.hi) (by unfold L2.Loc; rw [hX.es]; exact n1.hx) (fx n1)) (pgs_cons (pg_name (i := j) (by rw [hX.eN]; exact hX.nd) (by rw [hX.eN]; exact n2.hi) (by unfold L2.Loc; rw [hX.es]; exact n2.hx) (fx n2)) pgs_nil))) rfl (hw _ hX.es) rfl) fun D σ H ⟨F0, H0, F, S, q⟩ =>
    ⟨F0, H0, F, S, fun v F1 H1 a1 r1 => ⟨F0, H0, F1, S.go a1, fun w F2 H2 a2 r2 => ⟨by show 2 ≤ sizeLine; rw [sizeLine_eq]; decide, fun p hp => ⟨p, [v, w], rfl, .inl (.inl upd_same), rfl, _, _, rfl, _, _, rfl, rfl, q _ F2 _ (by
      have S2 := (S.go a1).go a2
      refine SRel.go (SRel.setS (Hs := H1) (S2.setS (r1.ext a2) S.ext.hs (free_new S a1 r1)) r2 (S.ext.hs.trans a1.hs) (apart2 (x1 := x1) (F := F) (H := H) (F1 := F1) (H1 := H1) r1 r2 (free_new (S.go a1) a2 r2))) (Ext.put a2.sub hp)) (a1.trans a2).fs⟩⟩⟩⟩
theorem st_unp3 {i j l : Nat} {px py pz pt : Pos} {kt k2 pt2} (n1 : NmS C i x) (n2 : NmS C j y) (n3 : NmS C l z) (h1 : EvS G C k ρ e1 x1) (h2 : EvS G C k ρ e2 x2) (h3 : EvS G C k ρ e3 x3)
    (hw : ∀ env : Env, env.scope = C.sc → swappedStores [.Tuple [.Name x px, .Name y py, .Name z pz] kt pt] (.Tuple [e1, e2, e3] k2 pt2) env = pure none)
    (hs1 : ∀ env, starEach [e1, e2, e3] env = (false, eval e1 env) :: starEach [e2, e3] env) (hs2 : ∀ env, starEach [e2, e3] env = (false, eval e2 env) :: starEach [e3] env) (hs3 : ∀ env, starEach [e3] env = (false, eval e3 env) :: starEach [] env) :
    St1 G C k ρ (.Assign [.Tuple [.Name x px, .Name y py, .Name z pz] kt pt] (.Tuple [e1, e2, e3] k2 pt2) pos) (.nx (((ρ.set i (some x1)).set j (some x2)).set l (some x3))) := fun X hX =>
  have fx : ∀ {i : Nat} {x : Str}, NmS C i x → X.fn x = true ∨ X.env.scope.names.lookup x = some .local := fun n => n.hf.imp (hX.fn _) fun h => by rw [hX.es]; exact h
  ps_imp (ps_asg (pe_tup (pa_cons (h1 X hX) (pa_cons (h2 X hX) (pa_cons (h3 X hX) pa_nil (hs3 _)) (hs2 _)) (hs1 _))) (pg_tup (n := 3) hX.calm (pgs_cons (pg_name (i := i) (by rw [hX.eN]; exact hX.nd) (by rw [hX.eN]; exact n1.hi) (by unfold L2.Loc; rw [hX.es]; exact n1.hx) (fx n1)) (pgs_cons (pg_name (i := j) (by rw [hX.eN]; exact hX.nd) (by rw [hX.eN]; exact n2.hi) (by unfold L2.Loc; rw [hX.es]; exact n2.hx) (fx n2)) (pgs_cons (pg_name (i := l) (by rw [hX.eN]; exact hX.nd) (by rw [hX.eN]; exact n3.hi) (by unfold L2.Loc; rw [hX.es]; exact n3.hx) (fx n3)) pgs_nil)))) rfl (hw _ hX.es) rfl) fun D σ H ⟨F0, H0, F, S, q⟩ =>
    ⟨F0, H0, F, S, fun v F1 H1 a1 r1 => ⟨F0, H0, F1, S.go a1, fun w F2 H2 a2 r2 => ⟨F0, H0, F2, (S.go a1).go a2, fun u F3 H3 a3 r3 => ⟨by show 3 ≤ sizeLine; rw [sizeLine_eq]; decide, fun p hp => ⟨p, [v, w, u], rfl, .inl (.inl upd_same), rfl, _, _, rfl, _, _, rfl, _, _, rfl, rfl, q _ F3 _ (by
      have S3 := ((S.go a1).go a2).go a3
      have f1 := free_new S a1 r1
      have f2 := apart2 (j := i) (x1 := x1) (F := F) (H := H) (F1 := F1) (H1 := H1) r1 r2 (free_new (S.go a1) a2 r2)
      have f3 := apart2 (j := i) (x1 := x1) (F := F) (H := H) (F1 := F2) (H1 := H2) (r1.ext a2) r3 (free_new ((S.go a1).go a2) a3 r3)
      have f4 := apart2 (j := j) (x1 := x2) (F := F) (H := H1) (F1 := F2) (H1 := H2) r2 r3 f3
      exact SRel.go (SRel.setS (Hs := H2) (SRel.setS (Hs := H1) (S3.setS ((r1.ext a2).ext a3) S.ext.hs f1) (r2.ext a3) (S.ext.hs.trans a1.hs) f2) r3 (S.ext.hs.trans (a1.trans a2).hs) f4) (Ext.put a3.sub hp)) ((a1.trans a2).trans a3).fs⟩⟩⟩⟩⟩

/-! ### an end that is no going on -/
def Exit : Out → Prop
  | .nx _ => False
  | _ => True
/-- a block that leaves -/
def BlkX (G : Gb) (C : SC) (k : Nat) (ρ : PEnv) (sts : List Stmt) (r : Out) : Prop := Blk G C k ρ sts r ∧ Exit r
theorem blk_exit {st : Stmt} {ss : List Stmt} {r : Out} (h : St1 G C k ρ st r) (hx : Exit r) : Blk G C k ρ (st :: ss) r := by
  cases r with
  | nx ρ => cases hx
  | rt d => exact blk_ret h
  | bk ρ => exact blk_brk h
  | ct ρ => exact blk_cont h
theorem blkx_cons {st : Stmt} {ss : List Stmt} {r : Out} (h1 : St1 G C k ρ st (.nx ρ1)) (h2 : BlkX G C k ρ1 ss r) : BlkX G C k ρ (st :: ss) r := ⟨blk_cons h1 h2.1, h2.2⟩
theorem blkx_ret {st : Stmt} {ss : List Stmt} (h : St1 G C k ρ st (.rt d)) : BlkX G C k ρ (st :: ss) (.rt d) := ⟨blk_ret h, trivial⟩
theorem blkx_brk {st : Stmt} {ss : List Stmt} (h : St1 G C k ρ st (.bk ρ1)) (cv : Cov ρ1 ρ2) : BlkX G C k ρ (st :: ss) (.bk ρ2) := ⟨(blk_brk h).out (.bk cv), trivial⟩
theorem blkx_cont {st : Stmt} {ss : List Stmt} (h : St1 G C k ρ st (.ct ρ1)) (cv : Cov ρ1 ρ2) : BlkX G C k ρ (st :: ss) (.ct ρ2) := ⟨(blk_cont h).out (.ct cv), trivial⟩
theorem BlkX.weak {ss : List Stmt} {r : Out} (h : BlkX G C k ρ1 ss r) (cv : Cov ρ ρ1) : BlkX G C k ρ ss r := ⟨h.1.weak cv, h.2⟩
/-- an if of which both ways leave -/
theorem blkx_if2 {t : Bool} {aa bb ss : List Stmt} {α : Type} {A B : Option α} {r : α} {o : Out} (h : (if t = true then A else B) = some r) (hc : Te G C k ρ c t) (ha : A = some r → BlkX G C k ρ aa o) (hb : B = some r → BlkX G C k ρ bb o) : BlkX G C k ρ (.If c aa bb pos :: ss) o := by
  cases t with
  | true => exact ⟨blk_exit (st_ifT hc (ha h).1) (ha h).2, (ha h).2⟩
  | false => exact ⟨blk_exit (st_ifF hc (hb h).1) (hb h).2, (hb h).2⟩
/-- an if that leaves, or nothing -/
theorem blk_ifx {t : Bool} {aa ss : List Stmt} {α : Type} {A B : Option α} {r : α} {o : Out} (h : (if t = true then A else B) = some r) (hc : Te G C k ρ c t) (ha : A = some r → BlkX G C k ρ aa o) (hb : B = some r → Blk G C k ρ ss o) : Blk G C k ρ (.If c aa [] pos :: ss) o := by
  cases t with
  | true => exact blk_exit (st_ifT hc (ha h).1) (ha h).2
  | false => exact blk_cons (st_ifF hc blk_nil) (hb h)
theorem blkx_ifx {t : Bool} {aa ss : List Stmt} {α : Type} {A B : Option α} {r : α} {o : Out} (h : (if t = true then A else B) = some r) (hc : Te G C k ρ c t) (ha : A = some r → BlkX G C k ρ aa o) (hb : B = some r → BlkX G C k ρ ss o) : BlkX G C k ρ (.If c aa [] pos :: ss) o := by
  cases t with
  | true => exact ⟨blk_exit (st_ifT hc (ha h).1) (ha h).2, (ha h).2⟩
  | false => exact blkx_cons (st_ifF hc blk_nil) (hb h)
/-- .. an if that leaves, else goes on as B says -/
theorem st_ifJ {t : Bool} {aa bb : List Stmt} {α : Type} {A B : Option α} {r : α} {o : Out} (h : (if t = true then A else B) = some r) (hc : Te G C k ρ c t) (ha : A = some r → Blk G C k ρ aa o) (hb : B = some r → Blk G C k ρ bb o) : St1 G C k ρ (.If c aa bb pos) o := by
  cases t with
  | true => exact st_ifT hc (ha h)
  | false => exact st_ifF hc (hb h)
/-- after a statement that may leave -/
def Then (G : Gb) (C : SC) (k : Nat) (ss : List Stmt) (o : Out) : Out → Prop
  | .nx ρ => Blk G C k ρ ss o
  | r => r = o
theorem blk_any {st : Stmt} {ss : List Stmt} {r o : Out} (h : St1 G C k ρ st r) (t : Then G C k ss o r) : Blk G C k ρ (st :: ss) o := by
  cases r with
  | nx ρ => exact blk_cons h t
  | rt d => exact (show Out.rt d = o from t) ▸ blk_ret h
  | bk ρ => exact (show Out.bk ρ = o from t) ▸ blk_brk h
  | ct ρ => exact (show Out.ct ρ = o from t) ▸ blk_cont h
end
section
variable {G : Gb} {C : SC} {k : Nat} {ρ : PEnv}
/-- what a name holds is of a bounded length -/
theorem blk_bd {α : Type} {f : α → PyData} {xs : List α} (i : Nat) {ss : List Stmt} {r : Out} (h : ρ[i]? = some (some (.sh (eT f xs))) ∨ ρ[i]? = some (some (.sh (eL f xs))) ∨ ρ[i]? = some (some (.ow (eL f xs)))) (g : xs.length ≤ 16777216 → Blk G C k ρ ss r) : Blk G C k ρ ss r := fun X hX =>
  ⟨fun pins s σ H D I q => by
    have hz : xs.length ≤ sizeLine := by
      obtain ⟨F0, H0, F, S, _⟩ := q
      have bd := Inv.bd I
      rw [hX.eK] at bd
      rcases h with h | h | h
      · obtain ⟨v, _, r⟩ := S.sh i _ h
        obtain ⟨a, vs, rfl, h1, h2⟩ := (Rp.b (H := H) r).tup S.ext.sub
        rw [← List.length_map (f := f), ← h2.length]
        exact bd _ _ (.inr h1)
      · obtain ⟨v, _, r⟩ := S.sh i _ h
        obtain ⟨a, vs, rfl, h1, h2⟩ := (Rp.b (H := H) r).lst S.ext.sub
        rw [← List.length_map (f := f), ← h2.length]
        exact bd _ _ (.inl h1)
      · obtain ⟨a, o, h1, h2, h3, _⟩ := S.ow i _ h
        cases h3 with
        | @lst vs _ r =>
          rw [← List.length_map (f := f), ← r.length]
          exact bd _ _ (.inl (.inl (.inl h2)))
    rw [sizeLine_eq] at hz
    exact (g hz X hX).run pins s σ H D I q⟩
theorem blkx_bd {α : Type} {f : α → PyData} {xs : List α} (i : Nat) {ss : List Stmt} {r : Out} (h : ρ[i]? = some (some (.sh (eT f xs))) ∨ ρ[i]? = some (some (.sh (eL f xs))) ∨ ρ[i]? = some (some (.ow (eL f xs)))) (hx : Exit r) (g : xs.length ≤ 16777216 → BlkX G C k ρ ss r) : BlkX G C k ρ ss r := ⟨blk_bd i h fun z => (g z).1, hx⟩
end
/-- what follows an outcome -/
def O.then {S β γ : Type} (o : O S β) (f : S → Option γ) (g : β → Option γ) : Option γ := match o with
  | .nx s => f s
  | .rt b => g b
  | _ => none
theorem then_ex {S β γ : Type} {o : O S β} {f : S → Option γ} {g : β → Option γ} {r : γ} (h : o.then f g = some r) : (∃ s, o = .nx s ∧ f s = some r) ∨ (∃ b, o = .rt b ∧ g b = some r) := by
  cases o with
  | nx s => exact .inl ⟨s, rfl, h⟩
  | rt b => exact .inr ⟨b, rfl, h⟩
  | bk s => cases h
  | ct s => cases h

/-! ### encodings that are compared -/
/-- data that are laid and compared; of depth at most n -/
structure EqT {α : Type} [DecidableEq α] (e : α → PyData) (n : Nat) : Prop where
  nd : ∀ x, noDct (e x) = true
  cl : ∀ x, (e x).canLay0 = true
  dp : ∀ x, (e x).depth ≤ n
  eq : ∀ x y, PyData.eqv (e x) (e y) = decide (x = y)
theorem EqT.b {α : Type} [DecidableEq α] {e : α → PyData} {n : Nat} (h : EqT e n) (hn : n ≤ 64) (x : α) : Eqb (e x) := ⟨h.nd x, by
  show (((e x).canLay0) && decide ((e x).depth ≤ 64)) = true
  rw [h.cl x, Bool.true_and]
  exact decide_eq_true (Nat.le_trans (h.dp x) hn)⟩
theorem eq_I : EqT eI 0 := ⟨fun _ => rfl, fun _ => rfl, fun _ => Nat.le_refl 0, fun x y => by
  show PyData.eqv (.int x) (.int y) = _
  simp only [PyData.eqv]; rfl⟩
theorem eq_B : EqT eB 0 := ⟨fun _ => rfl, fun _ => rfl, fun _ => Nat.le_refl 0, fun x y => by
  show PyData.eqv (.bool x) (.bool y) = _
  cases x <;> cases y <;> (simp only [PyData.eqv]; rfl)⟩
theorem eq_N : EqT eN 0 := ⟨fun _ => rfl, fun _ => rfl, fun _ => Nat.le_refl 0, fun x y => by
  show PyData.eqv .none .none = _
  simp only [PyData.eqv]; rfl⟩
section
variable {α β γ δ : Type} [DecidableEq α] [DecidableEq β] [DecidableEq γ] [DecidableEq δ] {ea : α → PyData} {eb : β → PyData} {ec : γ → PyData} {ed : δ → PyData} {n m l q : Nat}
theorem eqvA_map (h : ∀ x y, PyData.eqv (ea x) (ea y) = decide (x = y)) : ∀ xs ys : List α, PyData.eqvAll (xs.map ea) (ys.map ea) = decide (xs = ys)
  | [], [] => by simp [PyData.eqvAll]
  | [], _ :: _ => by simp [PyData.eqvAll]
  | _ :: _, [] => by simp [PyData.eqvAll]
  | x :: xs, y :: ys => by
    simp only [List.map_cons, PyData.eqvAll]
    rw [h, eqvA_map h xs ys]
    by_cases c : x = y <;> simp [c]
end
end Pl
/-! Pl, part V: equality, tests and built-ins by type; the law's comparer. -/
namespace Pl
open PySem PySem.Spec PyProof.Rows L2

section
variable {α β γ δ : Type} {ea : α → PyData} {eb : β → PyData} {ec : γ → PyData} {ed : δ → PyData} {n m l q : Nat}
theorem ndA_map (h : ∀ x, noDct (ea x) = true) : ∀ xs : List α, noDctA (xs.map ea) = true
  | [] => rfl
  | x :: xs => by
    show (noDct (ea x) && noDctA (xs.map ea)) = true
    rw [h, ndA_map h xs]; rfl
theorem clA_map (h : ∀ x, (ea x).canLay0 = true) : ∀ xs : List α, PyData.canLayAll0 (xs.map ea) = true
  | [] => rfl
  | x :: xs => by
    show ((ea x).canLay0 && PyData.canLayAll0 (xs.map ea)) = true
    rw [h, clA_map h xs]; rfl
theorem dpA_map (h : ∀ x, (ea x).depth ≤ n) : ∀ xs : List α, PyData.depthAll (xs.map ea) ≤ n
  | [] => Nat.zero_le _
  | x :: xs => by
    show max ((ea x).depth) (PyData.depthAll (xs.map ea)) ≤ n
    exact Nat.max_le.mpr ⟨h x, dpA_map h xs⟩
/-- never None -/
structure NN {α : Type} (e : α → PyData) : Prop where
  ne : ∀ x, isNoneD (e x) = false
theorem nn_I : NN eI := ⟨fun _ => rfl⟩
theorem nn_B : NN eB := ⟨fun _ => rfl⟩
theorem nn_S : NN eS := ⟨fun _ => rfl⟩
theorem nn_t : NN (eT ea) := ⟨fun _ => rfl⟩
theorem nn_l : NN (eL ea) := ⟨fun _ => rfl⟩
theorem nn_P : NN (eP ea eb) := ⟨fun _ => rfl⟩
theorem nn_P3 : NN (eP3 ea eb ec) := ⟨fun _ => rfl⟩
theorem nn_P4 : NN (eP4 ea eb ec ed) := ⟨fun _ => rfl⟩
theorem isn_O (h : NN ea) (o : Option α) : isNoneD (eO ea o) = o.isNone := by
  cases o with
  | none => rfl
  | some x => exact h.ne x
variable [DecidableEq α] [DecidableEq β] [DecidableEq γ] [DecidableEq δ]
theorem eq_t (h : EqT ea n) : EqT (eT ea) (n + 1) := ⟨fun xs => ndA_map h.nd xs, fun xs => clA_map h.cl xs, fun xs => by
  show PyData.depthAll (xs.map ea) + 1 ≤ n + 1
  exact Nat.succ_le_succ (dpA_map h.dp xs), fun x y => by
  show PyData.eqv (.tuple (x.map ea)) (.tuple (y.map ea)) = _
  rw [PyData.eqv]
  exact eqvA_map h.eq x y⟩
theorem eq_l (h : EqT ea n) : EqT (eL ea) (n + 1) := ⟨fun xs => ndA_map h.nd xs, fun xs => clA_map h.cl xs, fun xs => by
  show PyData.depthAll (xs.map ea) + 1 ≤ n + 1
  exact Nat.succ_le_succ (dpA_map h.dp xs), fun x y => by
  show PyData.eqv (.list (x.map ea)) (.list (y.map ea)) = _
  rw [PyData.eqv]
  exact eqvA_map h.eq x y⟩
theorem eq_P (h : EqT ea n) (h' : EqT eb n) : EqT (eP ea eb) (n + 1) := ⟨fun x => by
  show (noDct (ea x.1) && (noDct (eb x.2) && true)) = true
  rw [h.nd, h'.nd]; rfl, fun x => by
  show ((ea x.1).canLay0 && ((eb x.2).canLay0 && true)) = true
  rw [h.cl, h'.cl]; rfl, fun x => by
  show max ((ea x.1).depth) (max ((eb x.2).depth) 0) + 1 ≤ n + 1
  exact Nat.succ_le_succ (Nat.max_le.mpr ⟨h.dp _, Nat.max_le.mpr ⟨h'.dp _, Nat.zero_le _⟩⟩), fun x y => by
  show PyData.eqv (.tuple [ea x.1, eb x.2]) (.tuple [ea y.1, eb y.2]) = _
  rw [PyData.eqv]
  simp only [PyData.eqvAll, h.eq, h'.eq, Bool.and_true]
  obtain ⟨x1, x2⟩ := x
  obtain ⟨y1, y2⟩ := y
  simp [Bool.decide_and]⟩
theorem eq_P3 (h : EqT ea n) (h' : EqT eb n) (h'' : EqT ec n) : EqT (eP3 ea eb ec) (n + 1) := ⟨fun x => by
  show (noDct (ea x.1) && (noDct (eb x.2.1) && (noDct (ec x.2.2) && true))) = true
  rw [h.nd, h'.nd, h''.nd]; rfl, fun x => by
  show ((ea x.1).canLay0 && ((eb x.2.1).canLay0 && ((ec x.2.2).canLay0 && true))) = true
  rw [h.cl, h'.cl, h''.cl]; rfl, fun x => by
  show max ((ea x.1).depth) (max ((eb x.2.1).depth) (max ((ec x.2.2).depth) 0)) + 1 ≤ n + 1
  exact Nat.succ_le_succ (Nat.max_le.mpr ⟨h.dp _, Nat.max_le.mpr ⟨h'.dp _, Nat.max_le.mpr ⟨h''.dp _, Nat.zero_le _⟩⟩⟩), fun x y => by
  show PyData.eqv (.tuple [ea x.1, eb x.2.1, ec x.2.2]) (.tuple [ea y.1, eb y.2.1, ec y.2.2]) = _
  rw [PyData.eqv]
  simp only [PyData.eqvAll, h.eq, h'.eq, h''.eq, Bool.and_true]
  obtain ⟨x1, x2, x3⟩ := x
  obtain ⟨y1, y2, y3⟩ := y
  simp [Bool.decide_and]⟩
theorem EqT.up {n m : Nat} (h : EqT ea n) (hn : n ≤ m) : EqT ea m := ⟨h.nd, h.cl, fun x => Nat.le_trans (h.dp x) hn, h.eq⟩
theorem eqv_none {d : PyData} (h : isNoneD d = false) : PyData.eqv .none d = false ∧ PyData.eqv d .none = false := by
  cases d with
  | none => cases h
  | _ => exact ⟨by simp only [PyData.eqv], by simp only [PyData.eqv]⟩
theorem eq_O (h : EqT ea n) (nn : NN ea) : EqT (eO ea) n := ⟨fun x => by cases x with | none => rfl | some x => exact h.nd x, fun x => by cases x with | none => rfl | some x => exact h.cl x,
  fun x => by cases x with | none => exact Nat.zero_le _ | some x => exact h.dp x, fun x y => by
  cases x with
  | none =>
    cases y with
    | none => show PyData.eqv .none .none = _; simp only [PyData.eqv]; rfl
    | some y => show PyData.eqv .none (ea y) = _; rw [(eqv_none (nn.ne y)).1]; simp
  | some x =>
    cases y with
    | none => show PyData.eqv (ea x) .none = _; rw [(eqv_none (nn.ne x)).2]; simp
    | some y => show PyData.eqv (ea x) (ea y) = _; rw [h.eq]; simp⟩
end
section
variable {G : Gb} {C : SC} {k : Nat} {ρ ρ1 ρ2 : PEnv} {e e1 e2 e3 tg a b c : Expr} {es : List Expr} {d d' d1 d2 d3 : PyData} {ds es' : List PyData} {pos p : Pos}
variable {α β γ δ : Type} {ea : α → PyData} {eb : β → PyData} {n : Nat}
theorem any_map {f : PyData → Bool} {g : α → Bool} (h : ∀ x, f (ea x) = g x) : ∀ xs : List α, (xs.map ea).any f = xs.any g
  | [] => rfl
  | x :: xs => by
    show (f (ea x) || (xs.map ea).any f) = (g x || xs.any g)
    rw [h, any_map h xs]
section
variable [DecidableEq α] [DecidableEq β]
theorem ok_eqT (h : EqT ea n) (x y : α) (hn : n ≤ 64 := by decide) : OpOk G C k (compareOp .Eq) (ea x) (ea y) (.bool (decide (x = y))) := h.eq x y ▸ ok_eq (h.b hn x) (h.b hn y)
theorem ok_neT (h : EqT ea n) (x y : α) (hn : n ≤ 64 := by decide) : OpOk G C k (compareOp .NotEq) (ea x) (ea y) (.bool (!decide (x = y))) := h.eq x y ▸ ok_ne (h.b hn x) (h.b hn y)
theorem anyD (h : EqT ea n) (x : α) (xs : List α) : ((xs.map ea).any fun z => PyData.eqv z (ea x)) = decide (x ∈ xs) := by
  rw [any_map (g := fun y => decide (y = x)) (fun y => h.eq y x) xs]
  induction xs with
  | nil => rfl
  | cons y ys ih =>
    rw [List.any_cons, ih]
    by_cases c : y = x
    · subst c; simp
    · have c' : ¬ x = y := fun z => c z.symm
      simp [c, c']
theorem ok_inLT (h : EqT ea n) (x : α) (xs : List α) (hn : n < 64 := by decide) : OpOk G C k (compareOp .In) (ea x) (eL ea xs) (.bool (decide (x ∈ xs))) := anyD h x xs ▸ ok_inL (h.b (Nat.le_of_lt hn) x) ((eq_l h).b hn xs)
theorem ok_notInLT (h : EqT ea n) (x : α) (xs : List α) (hn : n < 64 := by decide) : OpOk G C k (compareOp .NotIn) (ea x) (eL ea xs) (.bool (!decide (x ∈ xs))) := anyD h x xs ▸ ok_notInL (h.b (Nat.le_of_lt hn) x) ((eq_l h).b hn xs)
theorem ok_inTT (h : EqT ea n) (x : α) (xs : List α) (hn : n < 64 := by decide) : OpOk G C k (compareOp .In) (ea x) (eT ea xs) (.bool (decide (x ∈ xs))) := anyD h x xs ▸ ok_inT (h.b (Nat.le_of_lt hn) x) ((eq_t h).b hn xs)
theorem ok_notInTT (h : EqT ea n) (x : α) (xs : List α) (hn : n < 64 := by decide) : OpOk G C k (compareOp .NotIn) (ea x) (eT ea xs) (.bool (!decide (x ∈ xs))) := anyD h x xs ▸ ok_notInT (h.b (Nat.le_of_lt hn) x) ((eq_t h).b hn xs)
end
/-! ### None -/
theorem ok_isO (h : NN ea) (o : Option α) : OpOk G C k (compareOp .Is) (eO ea o) .none (.bool o.isNone) := isn_O h o ▸ ok_is
theorem ok_isnotO (h : NN ea) (o : Option α) : OpOk G C k (compareOp .IsNot) (eO ea o) .none (.bool (!o.isNone)) := isn_O h o ▸ ok_isnot
theorem ok_isX (h : NN ea) (x : α) : OpOk G C k (compareOp .Is) (ea x) .none (.bool false) := h.ne x ▸ ok_is
theorem ok_isnotX (h : NN ea) (x : α) : OpOk G C k (compareOp .IsNot) (ea x) .none (.bool true) := by
  have := ok_isnot (G := G) (C := C) (k := k) (d := ea x)
  rw [h.ne x] at this
  exact this
/-! ### lengths, sums -/
theorem ok_lenL (xs : List α) : CallOk G C k (.builtin "len") [eL ea xs] (.int (xs.length : Int)) := ok_len (by show some (((xs.map ea).length : Nat) : Int) = _; rw [List.length_map])
theorem ok_lenT (xs : List α) : CallOk G C k (.builtin "len") [eT ea xs] (.int (xs.length : Int)) := ok_len (by show some (((xs.map ea).length : Nat) : Int) = _; rw [List.length_map])
theorem ok_anyL (bs : List Bool) : CallOk G C k (.builtin "any") [eL eB bs] (.bool (bs.any id)) := ok_any
theorem ok_allL (bs : List Bool) : CallOk G C k (.builtin "all") [eL eB bs] (.bool (bs.all id)) := ok_all
theorem ok_sumLT (ns : List Int) : CallOk G C k (.builtin "sum") [eL eI ns] (.int ns.sum) := ok_sumL
theorem ok_sumTT (ns : List Int) : CallOk G C k (.builtin "sum") [eT eI ns] (.int ns.sum) := ok_sumT
theorem ok_tupL (xs : List α) : CallOk G C k (.type "tuple") [eL ea xs] (eT ea xs) := ok_tupleL
theorem ok_tupT (xs : List α) : CallOk G C k (.type "tuple") [eT ea xs] (eT ea xs) := ok_tupleT
theorem new_lsL (xs : List α) : CallNew G C k (.type "list") [eL ea xs] (eL ea xs) := new_listL
theorem new_lsT (xs : List α) : CallNew G C k (.type "list") [eT ea xs] (eL ea xs) := new_listT
/-! ### slices -/
theorem cutD_map (f : α → PyData) (xs : List α) (lo hi : Option Int) : cutD (xs.map f) lo hi = (cutD xs lo hi).map f := by
  unfold cutD
  rw [List.length_map, List.map_take, List.map_drop]
theorem evn_sliceX {xs : List α} {lo hi : Option Expr} {l u : Option Int} {p2 : Pos} (he : EvB G C k ρ e (eL ea xs)) (hl : EP' G C k ρ lo l) (hu : EP' G C k ρ hi u) : EvN G C k ρ (.Subscript e (.Slice lo hi none p2) pos) (eL ea (cutD xs l u)) := by
  have h := evn_slice (pos := pos) (p2 := p2) he hl hu
  rw [cutD_map] at h
  exact h
theorem ev_sliceX {xs : List α} {lo hi : Option Expr} {l u : Option Int} {p2 : Pos} (he : Ev G C k ρ e (eT ea xs)) (hl : EP' G C k ρ lo l) (hu : EP' G C k ρ hi u) : Ev G C k ρ (.Subscript e (.Slice lo hi none p2) pos) (eT ea (cutD xs l u)) := by
  have h := ev_sliceT (pos := pos) (p2 := p2) he hl hu
  rw [cutD_map] at h
  exact h
/-! ### [..] * n, sums of lists -/
def repL {α : Type} (xs : List α) (n : Int) : List α := (List.replicate n.toNat xs).flatten
def RepOk (l : Nat) (n : Int) : Prop := (-1000000000 ≤ n ∧ n ≤ 1000000000) ∧ l * n.toNat ≤ 16777216
instance {l : Nat} {n : Int} : Decidable (RepOk l n) := by unfold RepOk; infer_instance
theorem evn_repX {xs : List α} {n : Int} (ha : EvN G C k ρ a (eL ea xs)) (hb : EvB G C k ρ b (.int n)) (h : RepOk xs.length n) : EvN G C k ρ (.BinOp a .Mult b pos) (eL ea (repL xs n)) := by
  have e := sizeLine_eq
  have q := evn_rep (pos := pos) (ds := xs.map ea) ha hb (by have := h.1; omega) (by have := h.1; omega) (by rw [List.length_map, e]; exact h.2)
  have e2 : (List.replicate n.toNat (xs.map ea)).flatten = (repL xs n).map ea := by
    unfold repL
    rw [List.map_flatten, List.map_replicate]
  rw [e2] at q
  exact q
/-- so short that two of it fit -/
def SzOk (n : Nat) : Prop := n ≤ 16777216
instance {n : Nat} : Decidable (SzOk n) := by unfold SzOk; infer_instance
theorem SzOk.z {n : Nat} (h : SzOk n) : n ≤ sizeLine := by rw [sizeLine_eq]; exact h
theorem le_sz {n : Nat} (h : n ≤ 100000) : n ≤ sizeLine := by rw [sizeLine_eq]; omega
theorem ok_catT {xs ys : List α} (h : SzOk (xs.length + ys.length)) : OpOk G C k (binaryOp .Add) (eT ea xs) (eT ea ys) (eT ea (xs ++ ys)) := by
  have q := ok_cat (G := G) (C := C) (k := k) (ds := xs.map ea) (es := ys.map ea) (by rw [List.length_map, List.length_map]; exact h.z)
  rw [← List.map_append] at q
  exact q
theorem new_catL {xs ys : List α} (h : SzOk (xs.length + ys.length)) : OpNew G C k (binaryOp .Add) (eL ea xs) (eL ea ys) (eL ea (xs ++ ys)) := by
  have q := new_cat (G := G) (C := C) (k := k) (ds := xs.map ea) (es := ys.map ea) (by rw [List.length_map, List.length_map]; exact h.z)
  rw [← List.map_append] at q
  exact q
/-! ### what is walked, by type -/
def enumT {α : Type} (xs : List α) : List (Int × α) := xs.zipIdx.map fun p => ((p.2 : Int), p.1)
theorem enumD_map (xs : List α) : enumD (xs.map ea) = (enumT xs).map (eP eI ea) := by
  unfold enumD enumT
  rw [List.zipIdx_map, List.map_map, List.map_map]
  rfl
theorem zipD_map (xs : List α) (ys : List β) : zipD (xs.map ea) (ys.map eb) = (xs.zip ys).map (eP ea eb) := by
  unfold zipD
  rw [List.zipWith_map, List.zip, List.map_zipWith]
  rfl
theorem it_enumX {elts : List Expr} {kk : Nat} {tp : Pos} {xs : List α} (hg : C.sc.names.lookup ("enumerate" : Str) = some .globalImplicit) (hm : G.mg "enumerate" = none) (h : Ev G C k ρ e (eL ea xs)) (hs : ∀ env, starEach [e] env = [(false, eval e env)]) :
    It' G C k ρ (.Tuple elts kk tp) (.Call (.Name "enumerate" p) [e] [] pos) ((enumT xs).map (eP eI ea)) ((xs.map ea).length ≤ sizeLine) := enumD_map (ea := ea) xs ▸ it_enum hg hm h hs
theorem it_enumTX {elts : List Expr} {kk : Nat} {tp : Pos} {xs : List α} (hg : C.sc.names.lookup ("enumerate" : Str) = some .globalImplicit) (hm : G.mg "enumerate" = none) (h : Ev G C k ρ e (eT ea xs)) (hs : ∀ env, starEach [e] env = [(false, eval e env)]) :
    It' G C k ρ (.Tuple elts kk tp) (.Call (.Name "enumerate" p) [e] [] pos) ((enumT xs).map (eP eI ea)) ((xs.map ea).length ≤ sizeLine) := enumD_map (ea := ea) xs ▸ it_enumT hg hm h hs
theorem it_zipX {elts : List Expr} {kk : Nat} {tp : Pos} {xs : List α} {ys : List β} (hg : C.sc.names.lookup ("zip" : Str) = some .globalImplicit) (hm : G.mg "zip" = none) (h : Ev G C k ρ e (eL ea xs)) (h' : Ev G C k ρ e2 (eL eb ys)) (hs : ∀ env, starEach [e, e2] env = (false, eval e env) :: starEach [e2] env) (hs2 : ∀ env, starEach [e2] env = [(false, eval e2 env)]) :
    It' G C k ρ (.Tuple elts kk tp) (.Call (.Name "zip" p) [e, e2] [] pos) ((xs.zip ys).map (eP ea eb)) ((xs.map ea).length ≤ sizeLine ∧ (ys.map eb).length ≤ sizeLine) := zipD_map (ea := ea) (eb := eb) xs ys ▸ it_zip hg hm h h' hs hs2
theorem it_zipTX {elts : List Expr} {kk : Nat} {tp : Pos} {xs : List α} {ys : List β} (hg : C.sc.names.lookup ("zip" : Str) = some .globalImplicit) (hm : G.mg "zip" = none) (h : Ev G C k ρ e (eT ea xs)) (h' : Ev G C k ρ e2 (eT eb ys)) (hs : ∀ env, starEach [e, e2] env = (false, eval e env) :: starEach [e2] env) (hs2 : ∀ env, starEach [e2] env = [(false, eval e2 env)]) :
    It' G C k ρ (.Tuple elts kk tp) (.Call (.Name "zip" p) [e, e2] [] pos) ((xs.zip ys).map (eP ea eb)) ((xs.map ea).length ≤ sizeLine ∧ (ys.map eb).length ≤ sizeLine) := zipD_map (ea := ea) (eb := eb) xs ys ▸ it_zipT hg hm h h' hs hs2
/-- the length fact of a comprehension: no more items than were walked -/
theorem zz_map {xs : List α} {ys : List β} (h : ys.length = xs.length) : ((xs.map ea).length ≤ sizeLine) → (ys.map eb).length ≤ sizeLine := fun z => by
  rw [List.length_map] at z ⊢
  rw [h]; exact z
theorem zz_fil {xs : List α} {ys : List β} (h : ys.length ≤ xs.length) : ((xs.map ea).length ≤ sizeLine) → (ys.map eb).length ≤ sizeLine := fun z => by
  rw [List.length_map] at z ⊢
  exact Nat.le_trans h z
theorem enumT_len (xs : List α) : (enumT xs).length = xs.length := by unfold enumT; simp
/-! ### displays -/
theorem sz0 : 0 ≤ sizeLine := Nat.zero_le _
theorem ev_P {m} {da db : PyData} (h1 : Ev G C k ρ e1 da) (h2 : Ev G C k ρ e2 db) (s1 : ∀ env, starEach [e1, e2] env = (false, eval e1 env) :: starEach [e2] env) (s2 : ∀ env, starEach [e2] env = (false, eval e2 env) :: starEach [] env) : Ev G C k ρ (.Tuple [e1, e2] m pos) (.tuple [da, db]) :=
  ev_tup (ea_cons h1 (ea_cons h2 ea_nil s2) s1) (le_sz (by decide : 2 ≤ 100000))
/-! ### a list's item stored -/
theorem setAt_ex {xs ys : List α} {i : Int} {v : α} (h : setAt xs i v = some ys) : ∃ m, ixN (xs.map ea).length i = some m ∧ ys.map ea = (xs.map ea).set m (ea v) := by
  unfold setAt at h
  rw [List.length_map]
  cases q : ixN xs.length i with
  | none => rw [q] at h; cases h
  | some m =>
    rw [q] at h
    cases h
    exact ⟨m, rfl, by rw [List.map_set]⟩
end
end Pl
/-! Pl, part W: short forms for the printed proofs; the law's comparer. -/
namespace Pl
open PySem PySem.Spec PyProof.Rows L2

theorem bb_len : bootBuiltins "len" = some (.builtin "len") := by decide +kernel
theorem bb_sum : bootBuiltins "sum" = some (.builtin "sum") := by decide +kernel
theorem bb_abs : bootBuiltins "abs" = some (.builtin "abs") := by decide +kernel
theorem bb_min : bootBuiltins "min" = some (.builtin "min") := by decide +kernel
theorem bb_max : bootBuiltins "max" = some (.builtin "max") := by decide +kernel
theorem bb_any : bootBuiltins "any" = some (.builtin "any") := by decide +kernel
theorem bb_all : bootBuiltins "all" = some (.builtin "all") := by decide +kernel
theorem bb_sorted : bootBuiltins "sorted" = some (.builtin "sorted") := by decide +kernel
theorem bb_int : bootBuiltins "int" = some (.type "int") := by decide +kernel
theorem bb_str : bootBuiltins "str" = some (.type "str") := by decide +kernel
theorem bb_bool : bootBuiltins "bool" = some (.type "bool") := by decide +kernel
theorem bb_tuple : bootBuiltins "tuple" = some (.type "tuple") := by decide +kernel
theorem bb_list : bootBuiltins "list" = some (.type "list") := by decide +kernel
section
variable {G : Gb} {C : SC} {k j : Nat} {ρ ρ1 ρ2 : PEnv} {e e1 e2 e3 tg a b c : Expr} {es : List Expr} {d d' d1 d2 d3 : PyData} {ds es' : List PyData} {pos p : Pos} {x y z : Str}
theorem cB {id : String} (g : Gn C x) (m : G.mg x = none) (bb : bootBuiltins x = some (.builtin id)) (hc : CallOk G C k (.builtin id) ds d) (ha : EAB G C k ρ (e :: es) ds)
    (he : ∀ env, starEach (e :: es) env = (false, eval e env) :: starEach es env) (hpl : ∀ env, (backTo pos (starEach es env)).any (·.1) = false) : Ev G C k ρ (.Call (.Name x p) (e :: es) [] pos) d := ev_callB hc g.hg m bb ha g.hn g.hd he hpl
theorem nB {id : String} (g : Gn C x) (m : G.mg x = none) (bb : bootBuiltins x = some (.builtin id)) (hc : CallNew G C k (.builtin id) ds d) (ha : EAB G C k ρ (e :: es) ds)
    (he : ∀ env, starEach (e :: es) env = (false, eval e env) :: starEach es env) (hpl : ∀ env, (backTo pos (starEach es env)).any (·.1) = false) : EvN G C k ρ (.Call (.Name x p) (e :: es) [] pos) d := evn_callB hc g.hg m bb ha g.hn g.hd he hpl
theorem cT {T : String} (g : Gn C x) (m : G.mg x = none) (bb : bootBuiltins x = some (.type T)) (hc : CallOk G C k (.type T) ds d) (ha : EAB G C k ρ (e :: es) ds)
    (he : ∀ env, starEach (e :: es) env = (false, eval e env) :: starEach es env) (hpl : ∀ env, (backTo pos (starEach es env)).any (·.1) = false) : Ev G C k ρ (.Call (.Name x p) (e :: es) [] pos) d := ev_callT hc g.hg m bb ha g.hn g.hd he hpl
theorem nT {T : String} (g : Gn C x) (m : G.mg x = none) (bb : bootBuiltins x = some (.type T)) (hc : CallNew G C k (.type T) ds d) (ha : EAB G C k ρ (e :: es) ds)
    (he : ∀ env, starEach (e :: es) env = (false, eval e env) :: starEach es env) (hpl : ∀ env, (backTo pos (starEach es env)).any (·.1) = false) : EvN G C k ρ (.Call (.Name x p) (e :: es) [] pos) d := evn_callT hc g.hg m bb ha g.hn g.hd he hpl
/-- a call of a def of the text -/
theorem cF (g : Gn C x) (h : Fn G j x ds d) (hj : j ≤ k) (ha : EA G C k ρ (e :: es) ds) (he : ∀ env, starEach (e :: es) env = (false, eval e env) :: starEach es env) (hpl : ∀ env, (backTo pos (starEach es env)).any (·.1) = false) :
    Ev G C k ρ (.Call (.Name x p) (e :: es) [] pos) d := ev_call h hj g.hg ha g.hd he hpl
theorem cFB (g : Gn C x) (h : Fn G j x ds d) (hf : flat d = true) (hj : j ≤ k) (ha : EAB G C k ρ (e :: es) ds) (he : ∀ env, starEach (e :: es) env = (false, eval e env) :: starEach es env) (hpl : ∀ env, (backTo pos (starEach es env)).any (·.1) = false) :
    Ev G C k ρ (.Call (.Name x p) (e :: es) [] pos) d := ev_callB' h hf hj g.hg ha g.hd he hpl
theorem cIs {T : String} {p1 p2 : Pos} {t : Bool} (g : Gn C "isinstance") (m : G.mg "isinstance" = none) (gT : Gn C x) (mT : G.mg x = none) (bb : bootBuiltins x = some (.type T)) (h : EvB G C k ρ e d) (hk : kitB (tyD d) T = some t)
    (hs : ∀ env, starEach [e, .Name x p2] env = (false, eval e env) :: starEach [.Name x p2] env) : Ev G C k ρ (.Call (.Name "isinstance" p1) [e, .Name x p2] [] pos) (.bool t) := ev_isi h hk g.hg m gT.hg mT bb gT.hn gT.hd hs
/-! stores -/
theorem sSet (i : Nat) {pos' : Pos} (n : NmS C i x) (he : Ev G C k ρ e d) (hs : ∀ env : Env, env.scope = C.sc → swapsWith e (some (.Name x pos')) pos.line env = pure false) : St1 G C k ρ (.Assign [.Name x pos'] e pos) (.nx (ρ.set i (some (.sh d)))) := st_set i n.hi n.hx n.hf he hs
theorem sOwn (i : Nat) {pos' : Pos} (n : NmS C i x) (he : EvN G C k ρ e d) (hs : ∀ env : Env, env.scope = C.sc → swapsWith e (some (.Name x pos')) pos.line env = pure false) : St1 G C k ρ (.Assign [.Name x pos'] e pos) (.nx (ρ.set i (some (.ow d)))) := st_own i n.hi n.hx n.hf he hs
theorem sAug (i : Nat) {op : Operator} {pos' : Pos} (n : NmS C i x) (h : ρ[i]? = some (some (.sh d1))) (he : EvB G C k ρ e d2) (ho : OpOk G C k (inplaceOp op) d1 d2 d) : St1 G C k ρ (.AugAssign (.Name x pos') op e pos) (.nx (ρ.set i (some (.sh d)))) := st_aug i n.hi n.hx n.hf h he ho
theorem sApp (i : Nat) {p1 ap cp : Pos} (n : Nm C i x) (h : ρ[i]? = some (some (.ow (.list ds)))) (he : Ev G C k ρ e d) (hl : ds.length < sizeLine)
    (hsw : ∀ env, swapsWith (.Call (.Attribute (.Name x p1) "append" ap) [e] [] cp) none pos.line env = pure false) (hs : ∀ env, starEach [e] env = [(false, eval e env)]) (hab : ∀ env, attributeBase (.Name x p1) "append" env (eval (.Name x p1) env) = eval (.Name x p1) env) (hln : (ap.endLine == cp.line) = true) :
    St1 G C k ρ (.Expr (.Call (.Attribute (.Name x p1) "append" ap) [e] [] cp) pos) (.nx (ρ.set i (some (.ow (.list (ds ++ [d])))))) := st_append i n.hi n.hv h he hl n.hd n.hc hsw hs hab hln
/-- a list of which one more fits -/
def Sz1 (n : Nat) : Prop := n < 16777216
instance {n : Nat} : Decidable (Sz1 n) := by unfold Sz1; infer_instance
theorem Sz1.map {α : Type} {f : α → PyData} {xs : List α} (h : Sz1 xs.length) : (xs.map f).length < sizeLine := by rw [List.length_map, sizeLine_eq]; exact h
theorem map_snoc {α : Type} (f : α → PyData) (xs : List α) (x : α) : xs.map f ++ [f x] = (xs ++ [x]).map f := by simp
theorem map_app {α : Type} (f : α → PyData) (xs ys : List α) : xs.map f ++ ys.map f = (xs ++ ys).map f := by simp
theorem sAppX {α : Type} {f : α → PyData} {xs zs : List α} {v : α} (hz : xs ++ [v] = zs) (i : Nat) {p1 ap cp : Pos} (n : Nm C i x) (h : ρ[i]? = some (some (.ow (eL f xs)))) (he : Ev G C k ρ e (f v)) (hl : Sz1 xs.length)
    (hsw : ∀ env, swapsWith (.Call (.Attribute (.Name x p1) "append" ap) [e] [] cp) none pos.line env = pure false) (hs : ∀ env, starEach [e] env = [(false, eval e env)]) (hab : ∀ env, attributeBase (.Name x p1) "append" env (eval (.Name x p1) env) = eval (.Name x p1) env) (hln : (ap.endLine == cp.line) = true) :
    St1 G C k ρ (.Expr (.Call (.Attribute (.Name x p1) "append" ap) [e] [] cp) pos) (.nx (ρ.set i (some (.ow (eL f zs))))) := by
  subst hz
  have q := sApp (pos := pos) i n h he hl.map hsw hs hab hln
  rw [map_snoc] at q
  exact q
theorem sExtX {α : Type} {f : α → PyData} {xs ys zs : List α} (hz : xs ++ ys = zs) (i : Nat) {p1 ap cp : Pos} (n : Nm C i x) (h : ρ[i]? = some (some (.ow (eL f xs)))) (he : EvN G C k ρ e (eL f ys)) (hl : SzOk (xs.length + ys.length))
    (hsw : ∀ env, swapsWith (.Call (.Attribute (.Name x p1) "extend" ap) [e] [] cp) none pos.line env = pure false) (hs : ∀ env, starEach [e] env = [(false, eval e env)]) (hab : ∀ env, attributeBase (.Name x p1) "extend" env (eval (.Name x p1) env) = eval (.Name x p1) env) (hln : (ap.endLine == cp.line) = true) :
    St1 G C k ρ (.Expr (.Call (.Attribute (.Name x p1) "extend" ap) [e] [] cp) pos) (.nx (ρ.set i (some (.ow (eL f zs))))) := by
  subst hz
  have q := st_extend (pos := pos) (ds := xs.map f) (es' := ys.map f) i n h he (by rw [List.length_map, List.length_map]; exact hl.z) hsw hs hab hln
  rw [map_app] at q
  exact q
theorem sItemX {α : Type} {f : α → PyData} {xs ys : List α} {v : α} (i : Nat) {ei : Expr} {m : Int} {p1 p2 : Pos} (n : Nm C i x) (h : ρ[i]? = some (some (.ow (eL f xs)))) (he : Ev G C k ρ e (f v)) (hei : EvB G C k ρ ei (.int m)) (hm : setAt xs m v = some ys)
    (hs : ∀ env, swapsWithSole [.Subscript (.Name x p1) ei p2] e pos.line env = pure false) (hw : ∀ env, swappedStores [.Subscript (.Name x p1) ei p2] e env = pure none) (h1 : ∀ env, (assignEach [.Subscript (.Name x p1) ei p2] env).map (·.2) = [assign (.Subscript (.Name x p1) ei p2) env])
    (ha : ∀ env v, assign (.Subscript (.Name x p1) ei p2) env v = (do
      let ov ← holding [v] (eval (.Name x p1) env)
      let iv ← holding [v, ov] (eval ei env)
      standAt p2
      holding [v, ov, iv] (setItem ov iv v)
      release [v, ov, iv] [])) :
    St1 G C k ρ (.Assign [.Subscript (.Name x p1) ei p2] e pos) (.nx (ρ.set i (some (.ow (eL f ys))))) := by
  obtain ⟨j, hj, e⟩ := setAt_ex (ea := f) hm
  show St1 G C k ρ _ (.nx (ρ.set i (some (.ow (.list (ys.map f))))))
  rw [e]
  exact st_setitem i n.hi n.hv h he hei hj n.hd n.hc hs hw h1 ha
/-! targets -/
theorem tN (i : Nat) (n : NmS C i x) : Tg G C k ρ (.Name x pos) [i] d (ρ.set i (some (.sh d))) := tg_name i n.hi n.hx n.hf
/-! comprehensions -/
theorem nLc {elt iter : Expr} {ifs : List Expr} {scope : Scope} {ys : List PyData} (own : List (Str × Nat)) (ok : blkC C.N C.sc scope own = true) {z : Prop} (hi : ItB G C k ρ tg iter ds z)
    (hs : LcR G (C.blk scope) k (wipeE ρ (own.map (·.2))) (own.map (·.2)) tg ifs elt ds ys) (hzz : z → ys.length ≤ sizeLine) (hfs : ∀ env x, foldedSetIterable iter env x = pure x) :
    EvN G C k ρ (.ListComp elt [⟨tg, iter, ifs, 0⟩] scope pos) (.list ys) := evn_lc (blkOk_by ok) hi hs hzz hfs
theorem sLc (i : Nat) {py : Pos} {elt iter : Expr} {ifs : List Expr} {scope : Scope} {spos : Pos} {ys : List PyData} (n : NmL C i x) (own : List (Str × Nat)) (hsw : ∀ env : Env, env.scope = C.sc → swapsWith (.ListComp elt [⟨tg, iter, ifs, 0⟩] scope pos) (some (.Name x py)) spos.line env = pure true)
    (ok : blkC C.N C.sc scope own = true) {z : Prop} (hit : ItB G C k ρ tg iter ds z) (hs : LcR G (C.blk scope) k (wipeE ρ (own.map (·.2))) (own.map (·.2)) tg ifs elt ds ys) (hzz : z → ys.length ≤ sizeLine) (hfs : ∀ env x, foldedSetIterable iter env x = pure x) :
    St1 G C k ρ (.Assign [.Name x py] (.ListComp elt [⟨tg, iter, ifs, 0⟩] scope pos) spos) (.nx (ρ.set i (some (.ow (.list ys))))) := st_setLc i n.hi n.hl hsw (blkOk_by ok) hit hs hzz hfs
theorem sLcS (i : Nat) {py : Pos} {elt iter : Expr} {ifs : List Expr} {scope : Scope} {spos : Pos} {ys : List PyData} (n : NmL C i x) (own : List (Str × Nat)) (hsw : ∀ env : Env, env.scope = C.sc → swapsWith (.ListComp elt [⟨tg, iter, ifs, 0⟩] scope pos) (some (.Name x py)) spos.line env = pure true)
    (ok : blkC C.N C.sc scope own = true) {z : Prop} (hit : ItB G C k ρ tg iter ds z) (hs : LcR G (C.blk scope) k (wipeE ρ (own.map (·.2))) (own.map (·.2)) tg ifs elt ds ys) (hzz : z → ys.length ≤ sizeLine) (hfs : ∀ env x, foldedSetIterable iter env x = pure x) :
    St1 G C k ρ (.Assign [.Name x py] (.ListComp elt [⟨tg, iter, ifs, 0⟩] scope pos) spos) (.nx (ρ.set i (some (.sh (.list ys))))) := st_setLcS i n.hi n.hl hsw (blkOk_by ok) hit hs hzz hfs
theorem RgO.r1 {j : Int} (h : RgO 0 j) : -(2 ^ 62) ≤ j ∧ j < 2 ^ 62 := by obtain ⟨_, _, _, _, _⟩ := h; omega
theorem RgO.r2 {i j : Int} (h : RgO i j) : -(2 ^ 62) ≤ i ∧ i < 2 ^ 62 ∧ -(2 ^ 62) ≤ j ∧ j < 2 ^ 62 := by obtain ⟨_, _, _, _, _⟩ := h; omega
theorem iR1 {j : Int} (g : Gn C "range") (m : G.mg "range" = none) (ha : EvB G C k ρ a (.int j)) (hr : RgO 0 j) (hs : ∀ env, starEach [a] env = [(false, eval a env)]) : It' G C k ρ tg (.Call (.Name "range" p) [a] [] pos) ((rangeD 0 j).map .int) True := it_range1 g.hg m ha hr.r1.1 hr.r1.2 hs
theorem iR2 {i j : Int} (g : Gn C "range") (m : G.mg "range" = none) (ha : EvB G C k ρ a (.int i)) (hb : EvB G C k ρ b (.int j)) (hr : RgO i j) (hs : ∀ env, starEach [a, b] env = [(false, eval a env), (false, eval b env)]) (hs2 : ∀ env, starEach [b] env = [(false, eval b env)]) :
    It' G C k ρ tg (.Call (.Name "range" p) [a, b] [] pos) ((rangeD i j).map .int) True := it_range2 g.hg m ha hb hr.r2 hs hs2
theorem zz_rg {β : Type} {eb : β → PyData} {lo hi : Int} {ys : List β} (hr : RgO lo hi) (h : ys.length ≤ (rangeD lo hi).length) : True → (ys.map eb).length ≤ sizeLine := fun _ => by
  rw [List.length_map]
  exact Nat.le_trans h (rangeD_le hr)
theorem len_m {α β : Type} (g : α → β) (xs : List α) : (xs.map g).length ≤ xs.length := by simp
theorem len_f {α β : Type} (f : α → Bool) (g : α → β) (xs : List α) : ((xs.filter f).map g).length ≤ xs.length := by rw [List.length_map]; exact List.length_filter_le _ _
end
section
variable {G : Gb} {C : SC} {k j : Nat} {ρ ρ1 ρ2 : PEnv} {e e1 e2 e3 tg a b c : Expr} {es : List Expr} {d d' d1 d2 d3 : PyData} {ds es' : List PyData} {pos p : Pos} {x y z : Str}
theorem OpOk.to {f : Value → Value → Sem Value} (h : OpOk G C k f d1 d2 d) (q : d = d') : OpOk G C k f d1 d2 d' := q ▸ h
theorem LcR.to {vs : List Nat} {ifs : List Expr} {elt : Expr} {ys zs : List PyData} (h : LcR G C k ρ vs tg ifs elt ds ys) (q : ys = zs) : LcR G C k ρ vs tg ifs elt ds zs := q ▸ h
theorem lcr_mapM {α β : Type} {ea : α → PyData} {eb : β → PyData} {vs : List Nat} {ifs : List Expr} {elt : Expr} (g : α → β) : ∀ (xs : List α), (∀ x ∈ xs, LcStep G C k ρ vs tg ifs elt (ea x) (some (eb (g x)))) → LcR G C k ρ vs tg ifs elt (xs.map ea) ((xs.map g).map eb)
  | [], _ => .nil
  | x :: xs, h => .keep (h x (List.mem_cons_self ..)) (lcr_mapM g xs fun y hy => h y (List.mem_cons_of_mem _ hy))
theorem eT_some {α : Type} (e : α → PyData) (xs : List α) : eT e xs = eT (eO e) (xs.map some) := by
  show PyData.tuple _ = PyData.tuple _
  rw [List.map_map]; rfl
theorem eL_some {α : Type} (e : α → PyData) (xs : List α) : eL e xs = eL (eO e) (xs.map some) := by
  show PyData.list _ = PyData.list _
  rw [List.map_map]; rfl
theorem rg_len {n : Nat} (h : n ≤ 16777216) : RgO 0 (n : Int) := by unfold RgO; omega
theorem zz_to {β : Type} {eb : β → PyData} {ys zs : List β} {z : Prop} (q : ys = zs) (h : z → (ys.map eb).length ≤ sizeLine) : z → (zs.map eb).length ≤ sizeLine := q ▸ h
theorem zz_zip {α β γ : Type} {ea : α → PyData} {eb : β → PyData} {ec : γ → PyData} {xs : List α} {ys : List β} {zs : List γ} (h : zs.length ≤ (List.zip xs ys).length) : ((xs.map ea).length ≤ sizeLine ∧ (ys.map eb).length ≤ sizeLine) → (zs.map ec).length ≤ sizeLine := fun q => by
  have q1 := q.1
  rw [List.length_map] at q1 ⊢
  rw [List.length_zip] at h
  omega
theorem swp_sc {ts : List Expr} {v : Expr} {o : Sem (Option (List Str))} (env : Env) (h : env.scope = C.sc) (q : swappedStores ts v { env with scope := C.sc } = o) : swappedStores ts v env = o := by
  rw [← h] at q
  exact q
theorem tru_t {α : Type} (e : α → PyData) (xs : List α) : truD (eT e xs) = some (!xs.isEmpty) := by cases xs <;> rfl
theorem tru_l {α : Type} (e : α → PyData) (xs : List α) : truD (eL e xs) = some (!xs.isEmpty) := by cases xs <;> rfl
theorem ok_lenS {s : Str} (h : SzOk s.length) : CallOk G C k (.builtin "len") [eS s] (.int (s.length : Int)) := ok_len (by
  show (if s.length ≤ sizeLine then some (s.length : Int) else none) = _
  rw [if_pos h.z])
/-! data without lists -/
theorem flA_map {α : Type} {ea : α → PyData} (h : ∀ x, flat (ea x) = true) : ∀ xs : List α, flatA (xs.map ea) = true
  | [] => rfl
  | x :: xs => by
    show (flat (ea x) && flatA (xs.map ea)) = true
    rw [h, flA_map h xs]; rfl
theorem fl_I : ∀ x, flat (eI x) = true := fun _ => rfl
theorem fl_B : ∀ x, flat (eB x) = true := fun _ => rfl
theorem fl_S : ∀ x, flat (eS x) = true := fun _ => rfl
theorem fl_N : ∀ x, flat (eN x) = true := fun _ => rfl
theorem fl_t {α : Type} {ea : α → PyData} (h : ∀ x, flat (ea x) = true) : ∀ x, flat (eT ea x) = true := fun xs => flA_map h xs
theorem fl_O {α : Type} {ea : α → PyData} (h : ∀ x, flat (ea x) = true) : ∀ x, flat (eO ea x) = true := fun o => by cases o with | none => rfl | some x => exact h x
theorem fl_P {α β : Type} {ea : α → PyData} {eb : β → PyData} (h : ∀ x, flat (ea x) = true) (h' : ∀ x, flat (eb x) = true) : ∀ x, flat (eP ea eb x) = true := fun x => by
  show (flat (ea x.1) && (flat (eb x.2) && true)) = true
  rw [h, h']; rfl
theorem fl_P3 {α β γ : Type} {ea : α → PyData} {eb : β → PyData} {ec : γ → PyData} (h : ∀ x, flat (ea x) = true) (h' : ∀ x, flat (eb x) = true) (h'' : ∀ x, flat (ec x) = true) : ∀ x, flat (eP3 ea eb ec x) = true := fun x => by
  show (flat (ea x.1) && (flat (eb x.2.1) && (flat (ec x.2.2) && true))) = true
  rw [h, h', h'']; rfl
end
/-! ### the law's comparer -/
mutual
def likeD : PyData → PyData → Bool
  | v, .none => isNoneD v
  | v, .bool b => match v with | .bool c => c == b | _ => false
  | v, .int j => match v with | .int i => decide (i = j) | _ => false
  | v, .str x => match v with | .str y => decide (y = x) | _ => false
  | v, .tuple ds => match v with | .tuple vs => decide (vs.length = ds.length) && likeA vs ds | _ => false
  | _, _ => false
termination_by structural _ d => d
def likeA : List PyData → List PyData → Bool
  | v :: vs, d :: ds => likeD v d && likeA vs ds
  | _, _ => true
termination_by structural _ d => d
end
mutual
def dueOk : PyData → Bool
  | .list _ | .dict _ => false
  | .tuple xs => dueA xs
  | _ => true
def dueA : List PyData → Bool
  | [] => true
  | x :: xs => dueOk x && dueA xs
end
mutual
theorem like_refl : ∀ d : PyData, dueOk d = true → likeD d d = true
  | .none, _ => rfl
  | .bool b, _ => by show (b == b) = true; simp
  | .int i, _ => by show decide (i = i) = true; simp
  | .str x, _ => by show decide (x = x) = true; simp
  | .tuple xs, h => by
    show (decide (xs.length = xs.length) && likeA xs xs) = true
    rw [likeA_refl xs h]; simp
  | .list _, h => by cases h
  | .dict _, h => by cases h
theorem likeA_refl : ∀ d : List PyData, dueA d = true → likeA d d = true
  | [], _ => rfl
  | x :: xs, h => by
    show (likeD x x && likeA xs xs) = true
    rw [like_refl x (and_l h), likeA_refl xs (and_r h)]; rfl
end
/-- data that the law compares with: of depth at most n -/
structure Due {α : Type} (e : α → PyData) (n : Nat) : Prop where
  ok : ∀ x, dueOk (e x) = true
  dp : ∀ x, (e x).depth ≤ n
section
variable {α β γ δ : Type} {ea : α → PyData} {eb : β → PyData} {ec : γ → PyData} {ed : δ → PyData} {n m : Nat}
theorem Due.up (h : Due ea n) (hn : n ≤ m := by decide) : Due ea m := ⟨h.ok, fun x => Nat.le_trans (h.dp x) hn⟩
theorem du_I : Due eI 0 := ⟨fun _ => rfl, fun _ => Nat.le_refl 0⟩
theorem du_B : Due eB 0 := ⟨fun _ => rfl, fun _ => Nat.le_refl 0⟩
theorem du_S : Due eS 0 := ⟨fun _ => rfl, fun _ => Nat.le_refl 0⟩
theorem du_N : Due eN 0 := ⟨fun _ => rfl, fun _ => Nat.le_refl 0⟩
theorem du_O (h : Due ea n) : Due (eO ea) n := ⟨fun x => by cases x with | none => rfl | some x => exact h.ok x, fun x => by cases x with | none => exact Nat.zero_le _ | some x => exact h.dp x⟩
theorem dueA_map (h : ∀ x, dueOk (ea x) = true) : ∀ xs : List α, dueA (xs.map ea) = true
  | [] => rfl
  | x :: xs => by
    show (dueOk (ea x) && dueA (xs.map ea)) = true
    rw [h, dueA_map h xs]; rfl
theorem du_t (h : Due ea n) : Due (eT ea) (n + 1) := ⟨fun xs => dueA_map h.ok xs, fun xs => by
  show PyData.depthAll (xs.map ea) + 1 ≤ n + 1
  exact Nat.succ_le_succ (dpA_map h.dp xs)⟩
theorem du_P (h : Due ea n) (h' : Due eb n) : Due (eP ea eb) (n + 1) := ⟨fun x => by
  show (dueOk (ea x.1) && (dueOk (eb x.2) && true)) = true
  rw [h.ok, h'.ok]; rfl, fun x => by
  show max ((ea x.1).depth) (max ((eb x.2).depth) 0) + 1 ≤ n + 1
  exact Nat.succ_le_succ (Nat.max_le.mpr ⟨h.dp _, Nat.max_le.mpr ⟨h'.dp _, Nat.zero_le _⟩⟩)⟩
theorem du_P3 (h : Due ea n) (h' : Due eb n) (h'' : Due ec n) : Due (eP3 ea eb ec) (n + 1) := ⟨fun x => by
  show (dueOk (ea x.1) && (dueOk (eb x.2.1) && (dueOk (ec x.2.2) && true))) = true
  rw [h.ok, h'.ok, h''.ok]; rfl, fun x => by
  show max ((ea x.1).depth) (max ((eb x.2.1).depth) (max ((ec x.2.2).depth) 0)) + 1 ≤ n + 1
  exact Nat.succ_le_succ (Nat.max_le.mpr ⟨h.dp _, Nat.max_le.mpr ⟨h'.dp _, Nat.max_le.mpr ⟨h''.dp _, Nat.zero_le _⟩⟩⟩)⟩
theorem du_P4 (h : Due ea n) (h' : Due eb n) (h'' : Due ec n) (h3 : Due ed n) : Due (eP4 ea eb ec ed) (n + 1) := ⟨fun x => by
  show (dueOk (ea x.1) && (dueOk (eb x.2.1) && (dueOk (ec x.2.2.1) && (dueOk (ed x.2.2.2) && true)))) = true
  rw [h.ok, h'.ok, h''.ok, h3.ok]; rfl, fun x => by
  show max ((ea x.1).depth) (max ((eb x.2.1).depth) (max ((ec x.2.2.1).depth) (max ((ed x.2.2.2).depth) 0))) + 1 ≤ n + 1
  exact Nat.succ_le_succ (Nat.max_le.mpr ⟨h.dp _, Nat.max_le.mpr ⟨h'.dp _, Nat.max_le.mpr ⟨h''.dp _, Nat.max_le.mpr ⟨h3.dp _, Nat.zero_le _⟩⟩⟩⟩)⟩
end
theorem likeA_at : ∀ (vs ds : List PyData), vs.length = ds.length → likeA vs ds = (rangeD 0 (ds.length : Int)).all fun i => match vs[i.toNat]?, ds[i.toNat]? with | some v, some d => likeD v d | _, _ => false := fun vs ds h => by
  have e : rangeD 0 (ds.length : Int) = (List.range ds.length).map fun (i : Nat) => (i : Int) := by unfold rangeD; simp
  rw [e, List.all_map]
  induction vs generalizing ds with
  | nil => cases ds with | nil => rfl | cons d ds => cases h
  | cons v vs ih =>
    cases ds with
    | nil => cases h
    | cons d ds =>
      show (likeD v d && likeA vs ds) = _
      rw [ih ds (Nat.succ.inj h) (by unfold rangeD; simp), List.length_cons, List.range_succ_eq_map, List.all_cons, List.all_map]
      rfl
theorem rangeD_mem {lo hi x : Int} (h : x ∈ rangeD lo hi) : lo ≤ x ∧ x < hi := by
  unfold rangeD at h
  rw [List.mem_map] at h
  obtain ⟨i, hi2, rfl⟩ := h
  rw [List.mem_range] at hi2
  omega
def likeI (vs ds : List PyData) (i : Int) : Bool := match vs[i.toNat]?, ds[i.toNat]? with | some v, some d => likeD v d | _, _ => false
theorem likeA_I {vs ds : List PyData} (h : vs.length = ds.length) : likeA vs ds = ((rangeD 0 (ds.length : Int)).map (likeI vs ds)).all id := by
  rw [likeA_at vs ds h, List.all_map]
  rfl
/-! ### the law -/
def spLaw (K : KK) : Sp := fun vs H Q _ => ∃ (a : Addr) (ns : List Int), ns.length ≤ 63 ∧ vs = [.ref a] ∧ SqL K H a (ns.map V.int) ∧ ∀ H', Q (.bl true) H'
theorem fn_law {G : Gb} {x : Str} {params : Arguments} {body : List Stmt} {scope : Scope} {N ps : List Str} {k : Nat} {f : Addr} {fd : FuncData} (F : FunD G.K x x params body scope [] [] f fd) (S : FnScope N ps scope) (hl : ps.length = 1)
    (hb : ∀ ns : List Int, ns.length ≤ 63 → Blk G ⟨N, scope, fun _ => true⟩ k (startE N [eL eI ns]) body (.rt (eB true))) : FnOk G.P G.w G.K G.mg G.base CX0 (k + 1) f fd ps (spLaw G.K) := by
  refine F.ok S (fun vs H Q E h => ?_) (fun cdv A outer s H vs Q E hr h => ?_)
  · obtain ⟨a, ns, _, rfl, _⟩ := h
    exact hl.symm
  · obtain ⟨a, ns, hz, rfl, hS, q⟩ := h
    have hX : CxOk G ⟨N, scope, fun _ => true⟩ k (cxOf CX0 G.P G.w G.K G.mg G.base N x scope f cdv A outer s H E).nox :=
      ⟨rfl, rfl, rfl, rfl, rfl, rfl, rfl, rfl, hr, S.nd, fun _ _ => rfl, rfl⟩
    refine ⟨_, (hb ns hz _ hX).nox, H, H, H, start_rel (Same.refl _) (.cons (.lst hS (RpA.ofInts ns)) .nil), fun v F2 H2 e2 r2 => ?_⟩
    cases r2
    exact q H2
end Pl
/-! Pl, part X: comprehensions of two walks, more that is walked. -/
namespace Pl
open PySem PySem.Spec PyProof.Rows L2

/-- owned slots forgotten -/
def dropO : PEnv → PEnv
  | [] => []
  | some (.ow _) :: ρ => none :: dropO ρ
  | x :: ρ => x :: dropO ρ
theorem dropO_len : ∀ ρ : PEnv, (dropO ρ).length = ρ.length
  | [] => rfl
  | none :: ρ => congrArg (· + 1) (dropO_len ρ)
  | some (.ow _) :: ρ => congrArg (· + 1) (dropO_len ρ)
  | some (.sh _) :: ρ => congrArg (· + 1) (dropO_len ρ)
theorem dropO_sh : ∀ (ρ : PEnv) (i : Nat) (d : PyData), (dropO ρ)[i]? = some (some (.sh d)) → ρ[i]? = some (some (.sh d))
  | [], _, _, h => by cases h
  | none :: ρ, 0, _, h => by cases h
  | some (.ow _) :: ρ, 0, _, h => by cases h
  | some (.sh _) :: ρ, 0, _, h => h
  | none :: ρ, i + 1, d, h => dropO_sh ρ i d h
  | some (.ow _) :: ρ, i + 1, d, h => dropO_sh ρ i d h
  | some (.sh _) :: ρ, i + 1, d, h => dropO_sh ρ i d h
theorem dropO_ow : ∀ (ρ : PEnv) (i : Nat) (d : PyData), (dropO ρ)[i]? = some (some (.ow d)) → False
  | [], _, _, h => by cases h
  | none :: ρ, 0, _, h => by cases h
  | some (.ow _) :: ρ, 0, _, h => by cases h
  | some (.sh _) :: ρ, 0, _, h => by cases h
  | none :: ρ, i + 1, d, h => dropO_ow ρ i d h
  | some (.ow _) :: ρ, i + 1, d, h => dropO_ow ρ i d h
  | some (.sh _) :: ρ, i + 1, d, h => dropO_ow ρ i d h
theorem SRel.dropO {K : KK} {F0 H0 F H : Hp} {ρ : PEnv} {σ : L2.St} (S : SRel K F0 H0 ρ σ F H) : SRel K F0 H0 (dropO ρ) σ F H :=
  ⟨S.ext, by rw [dropO_len]; exact S.len, fun i d h => S.sh i d (dropO_sh ρ i d h), fun i d h => (dropO_ow ρ i d h).elim, fun i j d d' a _ h => (dropO_ow ρ i d h).elim⟩
/-- an object that is none of the frozen ones changes -/
theorem SRel.updO {K : KK} {F0 H0 F H : Hp} {ρ : PEnv} {σ : L2.St} {D : Addr} {o : HO} (S : SRel K F0 H0 (Pl.dropO ρ) σ F H) (e : Ext F0 H0 F (upd H D o)) : SRel K F0 H0 (Pl.dropO ρ) σ F (upd H D o) :=
  ⟨e, S.len, S.sh, fun i d h => (dropO_ow ρ i d h).elim, fun i j d d' a _ h => (dropO_ow ρ i d h).elim⟩
/-- one item of the outer walk gives the items ys -/
def LcStep2 (G : Gb) (C : SC) (k : Nat) (ρ : PEnv) (vs vs1 : List Nat) (tg : Expr) (ifs : List Expr) (tg1 iter1 : Expr) (ifs1 : List Expr) (elt : Expr) (d : PyData) (ys : List PyData) : Prop :=
  ∃ is ρ', (∀ i ∈ is, i ∈ vs) ∧ Tg G C k ρ tg is d ρ' ∧ ((Ts G C k ρ' ifs true ∧ ∃ ds1 z1, It' G C k (dropO ρ') tg1 iter1 ds1 z1 ∧ LcR G C k (wipeE (dropO ρ') vs1) vs1 tg1 ifs1 elt ds1 ys) ∨ (ys = [] ∧ Ts G C k ρ' ifs false))
inductive LcR2 (G : Gb) (C : SC) (k : Nat) (ρ : PEnv) (vs vs1 : List Nat) (tg : Expr) (ifs : List Expr) (tg1 iter1 : Expr) (ifs1 : List Expr) (elt : Expr) : List PyData → List PyData → Prop
  | nil : LcR2 G C k ρ vs vs1 tg ifs tg1 iter1 ifs1 elt [] []
  | cons {d : PyData} {ds ys zs : List PyData} : LcStep2 G C k ρ vs vs1 tg ifs tg1 iter1 ifs1 elt d ys → LcR2 G C k ρ vs vs1 tg ifs tg1 iter1 ifs1 elt ds zs → LcR2 G C k ρ vs vs1 tg ifs tg1 iter1 ifs1 elt (d :: ds) (ys ++ zs)
def gUU (G : Gb) (C : SC) (k : Nat) (tg : Expr) : TG := fun v σ H Q => ∃ i : PEnv × PyData × List Nat × PEnv, (Tg G C k i.1 tg i.2.2.1 i.2.1 i.2.2.2) ∧ tTg G.K i.1 i.2.2.1 i.2.1 i.2.2.2 v σ H Q
def itUU (G : Gb) (C : SC) (k : Nat) (tg iter : Expr) : TI := fun σ H R => ∃ i : PEnv × List PyData × Prop, (It' G C k i.1 tg iter i.2.1 i.2.2) ∧ tIt G.K i.1 i.2.1 i.2.2 σ H R
section
variable {G : Gb} {C : SC} {k : Nat} {ρ ρ1 ρ2 : PEnv} {e tg tg1 : Expr} {es : List Expr} {d : PyData} {ds : List PyData} {pos p : Pos}
theorem lc2_read {elt iter1 : Expr} {ifs ifs1 : List Expr} {scope : Scope} {own : List (Str × Nat)} {vs1 : List Nat} {ys : List PyData} {z : Prop}
    (hs : LcR2 G (C.blk scope) k (wipeE ρ (own.map (·.2))) (own.map (·.2)) vs1 tg ifs tg1 iter1 ifs1 elt ds ys) (hzz : ys.length ≤ sizeLine) {σ : L2.St} {H : Hp} {Q : VK} (h : tEvN G.K ρ (.list ys) σ H Q) :
    tLc2 (tItB G.K ρ ds z) (gUU G (C.blk scope) k tg) (ttU G C k scope ifs) (itUU G (C.blk scope) k tg1 iter1) (gUU G (C.blk scope) k tg1) (ttU G C k scope ifs1) (teU G C k scope elt) (own.map (·.2)) vs1 σ H Q := by
  obtain ⟨F0, H0, F, S, q⟩ := h
  refine ⟨F0, H0, F, S, fun J F1 H1 e1 hz0 sup D hD => ?_⟩
  have S1 := S.go e1
  have fD : F1 D = none := e1.sub.free hD
  have noD : ∀ {Fa Ha Fb Hb : Hp}, Ext Fa Ha Fb Hb → Fa D = none → (∃ o, Ha D = some (.lst o)) → Fb D = none := fun {Fa Ha Fb Hb} ee h1 ⟨o, h2⟩ => by
    cases zz : Fb D with
    | none => rfl
    | some u =>
      rcases ee.new D u zz with w | w | w
      · rw [h1] at w; cases w
      · rw [h2] at w; cases w
      · have z2 := (ee.hs _ _ h2).symm.trans (ee.sub _ _ zz)
        cases z2
        cases w
  refine ⟨fun i m H => m = ds.length - i ∧ i ≤ ds.length ∧ ∃ F2 acc done rest, Ext F1 H1 F2 H ∧ H D = some (.lst acc) ∧ F2 D = none ∧ RpA G.K F2 acc done ∧ LcR2 G (C.blk scope) k (wipeE ρ (own.map (·.2))) (own.map (·.2)) vs1 tg ifs tg1 iter1 ifs1 elt (ds.drop i) rest ∧ done ++ rest = ys,
    ⟨ds.length, by simp, Nat.zero_le _, F1, [], [], ys, Ext.put e1.sub hD, upd_same, fD, .nil, by simpa using hs, rfl⟩, ?_⟩
  rintro i m H2 ⟨rfl, hi2, F2, acc, done, rest, e2, hD2, fD2, ra, lr, hys⟩
  obtain ⟨go, stop⟩ := sup F2 H2 e2 e2.sub
  by_cases hlt : i < ds.length
  · have hd : ds[i]? = some ds[i] := List.getElem?_eq_getElem hlt
    obtain ⟨g1, g2⟩ := go i _ hd
    refine .inr ⟨g1, fun H' => i + 1 ≤ ds.length ∧ ∃ F2 acc done rest, Ext F1 H1 F2 H' ∧ H' D = some (.lst acc) ∧ F2 D = none ∧ RpA G.K F2 acc done ∧ LcR2 G (C.blk scope) k (wipeE ρ (own.map (·.2))) (own.map (·.2)) vs1 tg ifs tg1 iter1 ifs1 elt (ds.drop (i + 1)) rest ∧ done ++ rest = ys,
      fun H' ⟨h1, h2⟩ => ⟨ds.length - (i + 1), by omega, rfl, h1, h2⟩, fun x H3 y => ?_⟩
    obtain ⟨F3, e3, rx⟩ := g2 x H3 y
    have e13 := e2.trans e3
    have hdrop : ds.drop i = ds[i] :: ds.drop (i + 1) := List.drop_eq_getElem_cons hlt
    rw [hdrop] at lr
    have wp : ∀ {is : List Nat} {σ' : L2.St}, (∀ i ∈ is, i ∈ own.map (·.2)) → Off is (L2.wipe σ (own.map (·.2))) σ' → L2.wipe σ' (own.map (·.2)) = L2.wipe σ (own.map (·.2)) := fun {is σ'} hsub off =>
      wipe_eq (off.1.trans (wipe_length _ _)) fun j hj => by rw [off.2 j fun z => hj (hsub j z), wipe_at hj]
    cases lr with
    | @cons _ _ ys1 zs hst lr' =>
      obtain ⟨is, ρ', hsub, htg, hcase⟩ := hst
      refine ⟨(wipeE ρ (own.map (·.2)), ds[i], is, ρ'), htg, F0, H0, F3, (S1.go e13).wipe _, rx, fun σ' off S' => ⟨wp hsub off, ?_⟩⟩
      rcases hcase with ⟨hts, ds1, z1, hit1, lr1⟩ | ⟨hn, hts⟩
      · refine ⟨(ρ', true), hts, F0, H0, F3, S', fun F4 H4 e4 => iteT ?_⟩
        refine ⟨(dropO ρ', ds1, z1), hit1, F0, H0, F4, (S'.go e4).dropO, fun J1 F5 H5 e5 _ sup1 => ?_⟩
        have e25 := (e3.trans e4).trans e5
        have S5 := ((S'.go e4).go e5).dropO
        have E15 := e2.trans e25
        have hD5 := e25.hs _ _ hD2
        have fD5 := noD e25 fD2 ⟨_, hD2⟩
        refine ⟨fun j m H => m = ds1.length - j ∧ j ≤ ds1.length ∧ ∃ F6 acc6 done6 rest6, Same F5 F6 ∧ Ext F1 H1 F6 H ∧ H D = some (.lst acc6) ∧ F6 D = none ∧ RpA G.K F6 acc6 done6 ∧ LcR G (C.blk scope) k (wipeE (dropO ρ') vs1) vs1 tg1 ifs1 elt (ds1.drop j) rest6 ∧ done6 ++ (rest6 ++ zs) = ys ∧ SRel G.K F0 H0 (dropO ρ') σ' F6 H,
          ⟨ds1.length, by simp, Nat.zero_le _, F5, acc, done, ys1, Same.refl _, E15, hD5, fD5, ra.mono e25.fs, by simpa using lr1, hys, S5⟩, ?_⟩
        rintro j m1 H6 ⟨rfl, hj2, F6, acc6, done6, rest6, s56, e16, hD6, fD6, ra6, lr6, hys6, S6⟩
        obtain ⟨go1, stop1⟩ := sup1 F6 H6 s56 e16.sub
        by_cases hlt1 : j < ds1.length
        · have hd1 : ds1[j]? = some ds1[j] := List.getElem?_eq_getElem hlt1
          obtain ⟨k1, k2⟩ := go1 j _ hd1
          refine .inr ⟨k1, fun H => j + 1 ≤ ds1.length ∧ ∃ F6 acc6 done6 rest6, Same F5 F6 ∧ Ext F1 H1 F6 H ∧ H D = some (.lst acc6) ∧ F6 D = none ∧ RpA G.K F6 acc6 done6 ∧ LcR G (C.blk scope) k (wipeE (dropO ρ') vs1) vs1 tg1 ifs1 elt (ds1.drop (j + 1)) rest6 ∧ done6 ++ (rest6 ++ zs) = ys ∧ SRel G.K F0 H0 (dropO ρ') σ' F6 H,
            fun H' ⟨h1, h2⟩ => ⟨ds1.length - (j + 1), by omega, rfl, h1, h2⟩, fun x1 H7 y1 => ?_⟩
          obtain ⟨F7, e7, rx1⟩ := k2 x1 H7 y1
          have hdrop1 : ds1.drop j = ds1[j] :: ds1.drop (j + 1) := List.drop_eq_getElem_cons hlt1
          rw [hdrop1] at lr6
          have wp1 : ∀ {is : List Nat} {σ3 : L2.St}, (∀ i ∈ is, i ∈ vs1) → Off is (L2.wipe σ' vs1) σ3 → L2.wipe σ3 vs1 = L2.wipe σ' vs1 := fun {is σ3} hsub off =>
            wipe_eq (off.1.trans (wipe_length _ _)) fun j hj => by rw [off.2 j fun z => hj (hsub j z), wipe_at hj]
          have S7 := S6.go e7
          cases lr6 with
          | @keep _ y' _ rest' hst lr' =>
            obtain ⟨is1, ρ3, hsub1, htg1, ⟨y2, hy2, hts1, hev⟩ | ⟨hn, _⟩⟩ := hst
            · cases hy2
              refine ⟨(wipeE (dropO ρ') vs1, ds1[j], is1, ρ3), htg1, F0, H0, F7, S7.wipe _, rx1, fun σ3 off1 S3 => ⟨wp1 hsub1 off1, ?_⟩⟩
              refine ⟨(ρ3, true), hts1, F0, H0, F7, S3, fun F8 H8 e8 => iteT ⟨(ρ3, y'), hev, F0, H0, F8, S3.go e8, fun v F9 H9 e9 r9 => ?_⟩⟩
              have e69 := (e7.trans e8).trans e9
              have hD9 := e69.hs _ _ hD6
              have fD9 := noD e69 fD6 ⟨_, hD6⟩
              have hl := ra6.length
              have e19 := (e16.trans e69).growD (o' := .lst (acc6 ++ [v])) hD fD9 hD9
              refine ⟨acc6, hD9, ?_, hlt1, F9, acc6 ++ [v], done6 ++ [y'], rest', s56.trans e69.fs, e19, upd_same, fD9, (ra6.mono e69.fs).append (.cons r9 .nil), lr', by rw [List.append_assoc]; exact hys6, ?_⟩
              · have hl2 := congrArg List.length hys6
                simp only [List.length_append, List.length_cons] at hl2
                omega
              · exact (S6.go e69).updO ((S.ext.trans e1).trans e19)
            · cases hn
          | skip hst lr' =>
            obtain ⟨is1, ρ3, hsub1, htg1, ⟨y2, hy2, _⟩ | ⟨_, hts1⟩⟩ := hst
            · cases hy2
            · refine ⟨(wipeE (dropO ρ') vs1, ds1[j], is1, ρ3), htg1, F0, H0, F7, S7.wipe _, rx1, fun σ3 off1 S3 => ⟨wp1 hsub1 off1, ?_⟩⟩
              refine ⟨(ρ3, false), hts1, F0, H0, F7, S3, fun F8 H8 e8 => iteF ?_⟩
              have e68 := e7.trans e8
              exact ⟨hlt1, F8, acc6, done6, rest6, s56.trans e68.fs, e16.trans e68, e68.hs _ _ hD6, noD e68 fD6 ⟨_, hD6⟩, ra6.mono e68.fs, lr', hys6, S6.go e68⟩
        · have e : j = ds1.length := by omega
          subst e
          rw [List.drop_length] at lr6
          cases lr6
          exact .inl ⟨stop1, hlt, F6, acc6, done6, zs, e16, hD6, fD6, ra6, lr', hys6⟩
      · refine ⟨(ρ', false), hts, F0, H0, F3, S', fun F4 H4 e4 => iteF ?_⟩
        have e24 := e3.trans e4
        subst hn
        exact ⟨hlt, F4, acc, done, zs, e2.trans e24, e24.hs _ _ hD2, noD e24 fD2 ⟨_, hD2⟩, ra.mono e24.fs, lr', hys⟩
  · have e : i = ds.length := by omega
    subst e
    rw [List.drop_length] at lr
    cases lr
    rw [List.append_nil] at hys
    subst hys
    exact .inl ⟨stop, q D _ F2 H2 (e1.trans e2) (e1.hs.free hD) hD2 fD2 (.lst ra)⟩
theorem ttU_l {ifs : List Expr} {scope : Scope} (X : Cx) (hX : CxOk G (C.blk scope) k X) : PTs X ifs (ttU G C k scope ifs) := pts_un fun i h => h _ hX
theorem nLc2 {elt iter iter1 : Expr} {ifs ifs1 : List Expr} {scope : Scope} {ys : List PyData} (own : List (Str × Nat)) (vs1 : List Nat) (ok : blkC C.N C.sc scope own = true) (hv : ∀ i ∈ vs1, i ∈ own.map (·.2)) {z : Prop} (hi : ItB G C k ρ tg iter ds z)
    (hs : LcR2 G (C.blk scope) k (wipeE ρ (own.map (·.2))) (own.map (·.2)) vs1 tg ifs tg1 iter1 ifs1 elt ds ys) (hzz : ys.length ≤ sizeLine) (hfs : ∀ env x, foldedSetIterable iter env x = pure x) (hfs1 : ∀ env x, foldedSetIterable iter1 env x = pure x) :
    EvN G C k ρ (.ListComp elt [⟨tg, iter, ifs, 0⟩, ⟨tg1, iter1, ifs1, 0⟩] scope pos) (.list ys) := fun X hX =>
  pe_imp (pe_lc2 (own := own) (vs1 := vs1) (wi := tItB G.K ρ ds z) (g := gUU G (C.blk scope) k tg) (tt := ttU G C k scope ifs) (wi1 := itUU G (C.blk scope) k tg1 iter1) (g1 := gUU G (C.blk scope) k tg1) (tt1 := ttU G C k scope ifs1) (te := teU G C k scope elt)
    hX.calm (by rw [hX.eN]; exact hX.nd) (hi X hX) (by rw [hX.eN, hX.es]; exact blkOk_by ok) hv
    (fun s H Ca cl fp => pg_un fun i h => h _ hX.blk) (fun s H Ca cl fp => pts_un fun i h => h _ hX.blk) (fun s H Ca cl fp => pi_un fun i h => h _ hX.blk) (fun s H Ca cl fp => pg_un fun i h => h _ hX.blk) (fun s H Ca cl fp => pts_un fun i h => h _ hX.blk)
    (fun s H Ca cl fp => pe_un fun i h => h _ hX.blk) (hfs _) hfs1) fun σ H Q h => lc2_read hs hzz h
theorem sLc2 (i : Nat) {x : Str} {py : Pos} {elt iter iter1 : Expr} {ifs ifs1 : List Expr} {scope : Scope} {spos : Pos} {ys : List PyData} (n : NmL C i x) (own : List (Str × Nat)) (vs1 : List Nat) (hsw : ∀ env : Env, env.scope = C.sc → swapsWith (.ListComp elt [⟨tg, iter, ifs, 0⟩, ⟨tg1, iter1, ifs1, 0⟩] scope pos) (some (.Name x py)) spos.line env = pure true)
    (ok : blkC C.N C.sc scope own = true) (hv : ∀ i ∈ vs1, i ∈ own.map (·.2)) {z : Prop} (hi : ItB G C k ρ tg iter ds z)
    (hs : LcR2 G (C.blk scope) k (wipeE ρ (own.map (·.2))) (own.map (·.2)) vs1 tg ifs tg1 iter1 ifs1 elt ds ys) (hzz : ys.length ≤ sizeLine) (hfs : ∀ env x, foldedSetIterable iter env x = pure x) (hfs1 : ∀ env x, foldedSetIterable iter1 env x = pure x) :
    St1 G C k ρ (.Assign [.Name x py] (.ListComp elt [⟨tg, iter, ifs, 0⟩, ⟨tg1, iter1, ifs1, 0⟩] scope pos) spos) (.nx (ρ.set i (some (.ow (.list ys))))) := fun X hX =>
  ps_imp (ps_setLc2 (i := i) (own := own) (vs1 := vs1) (wi := tItB G.K ρ ds z) (g := gUU G (C.blk scope) k tg) (tt := ttU G C k scope ifs) (wi1 := itUU G (C.blk scope) k tg1 iter1) (g1 := gUU G (C.blk scope) k tg1) (tt1 := ttU G C k scope ifs1) (te := teU G C k scope elt)
    hX.calm (by rw [hX.eN]; exact hX.nd) (by rw [hX.eN]; exact n.hi) (by rw [hX.es]; exact n.hl) (hsw _ hX.es) (hi X hX) (by rw [hX.eN, hX.es]; exact blkOk_by ok) hv
    (fun s H Ca cl fp => pg_un fun i h => h _ hX.blk) (fun s H Ca cl fp => pts_un fun i h => h _ hX.blk) (fun s H Ca cl fp => pi_un fun i h => h _ hX.blk) (fun s H Ca cl fp => pg_un fun i h => h _ hX.blk) (fun s H Ca cl fp => pts_un fun i h => h _ hX.blk)
    (fun s H Ca cl fp => pe_un fun i h => h _ hX.blk) (hfs _) hfs1) fun D σ H ⟨F0, H0, F, S, q⟩ =>
      lc2_read hs hzz ⟨F0, H0, F, S, fun a o F1 H1 e1 hn ha hf r => q _ F1 H1 (S.own e1 hn ha hf r) e1.fs⟩
theorem sLc2S (i : Nat) {x : Str} {py : Pos} {elt iter iter1 : Expr} {ifs ifs1 : List Expr} {scope : Scope} {spos : Pos} {ys : List PyData} (n : NmL C i x) (own : List (Str × Nat)) (vs1 : List Nat) (hsw : ∀ env : Env, env.scope = C.sc → swapsWith (.ListComp elt [⟨tg, iter, ifs, 0⟩, ⟨tg1, iter1, ifs1, 0⟩] scope pos) (some (.Name x py)) spos.line env = pure true)
    (ok : blkC C.N C.sc scope own = true) (hv : ∀ i ∈ vs1, i ∈ own.map (·.2)) {z : Prop} (hi : ItB G C k ρ tg iter ds z)
    (hs : LcR2 G (C.blk scope) k (wipeE ρ (own.map (·.2))) (own.map (·.2)) vs1 tg ifs tg1 iter1 ifs1 elt ds ys) (hzz : ys.length ≤ sizeLine) (hfs : ∀ env x, foldedSetIterable iter env x = pure x) (hfs1 : ∀ env x, foldedSetIterable iter1 env x = pure x) :
    St1 G C k ρ (.Assign [.Name x py] (.ListComp elt [⟨tg, iter, ifs, 0⟩, ⟨tg1, iter1, ifs1, 0⟩] scope pos) spos) (.nx (ρ.set i (some (.sh (.list ys))))) := fun X hX =>
  ps_imp (ps_setLc2 (i := i) (own := own) (vs1 := vs1) (wi := tItB G.K ρ ds z) (g := gUU G (C.blk scope) k tg) (tt := ttU G C k scope ifs) (wi1 := itUU G (C.blk scope) k tg1 iter1) (g1 := gUU G (C.blk scope) k tg1) (tt1 := ttU G C k scope ifs1) (te := teU G C k scope elt)
    hX.calm (by rw [hX.eN]; exact hX.nd) (by rw [hX.eN]; exact n.hi) (by rw [hX.es]; exact n.hl) (hsw _ hX.es) (hi X hX) (by rw [hX.eN, hX.es]; exact blkOk_by ok) hv
    (fun s H Ca cl fp => pg_un fun i h => h _ hX.blk) (fun s H Ca cl fp => pts_un fun i h => h _ hX.blk) (fun s H Ca cl fp => pi_un fun i h => h _ hX.blk) (fun s H Ca cl fp => pg_un fun i h => h _ hX.blk) (fun s H Ca cl fp => pts_un fun i h => h _ hX.blk)
    (fun s H Ca cl fp => pe_un fun i h => h _ hX.blk) (hfs _) hfs1) fun D σ H ⟨F0, H0, F, S, q⟩ =>
      lc2_read hs hzz ⟨F0, H0, F, S, fun a o F1 H1 e1 hn ha hf r => q _ _ H1 ((S.go (e1.freeze hn ha hf)).put (r.rp (same_upd hf) upd_same)) (e1.freeze hn ha hf).fs⟩
/-! by type -/
theorem lcr2_flat {α β : Type} {ea : α → PyData} {eb : β → PyData} {vs vs1 : List Nat} {ifs ifs1 : List Expr} {elt iter1 : Expr} (g : α → List β) (h : ∀ x, LcStep2 G C k ρ vs vs1 tg ifs tg1 iter1 ifs1 elt (ea x) ((g x).map eb)) : ∀ xs : List α, LcR2 G C k ρ vs vs1 tg ifs tg1 iter1 ifs1 elt (xs.map ea) ((xs.flatMap g).map eb)
  | [] => .nil
  | x :: xs => by
    rw [List.flatMap_cons, List.map_append]
    exact .cons (h x) (lcr2_flat g h xs)
/-- the items of all, one behind the other -/
def catO {α β : Type} (g : α → Option (List β)) : List α → Option (List β)
  | [] => some []
  | x :: xs => (g x).bind fun y => (catO g xs).bind fun ys => some (y ++ ys)
theorem lcr2_cat {α β : Type} {ea : α → PyData} {eb : β → PyData} {vs vs1 : List Nat} {ifs ifs1 : List Expr} {elt iter1 : Expr} (g : α → Option (List β)) (h : ∀ x ys, g x = some ys → LcStep2 G C k ρ vs vs1 tg ifs tg1 iter1 ifs1 elt (ea x) (ys.map eb)) : ∀ (xs : List α) (ys : List β), catO g xs = some ys → LcR2 G C k ρ vs vs1 tg ifs tg1 iter1 ifs1 elt (xs.map ea) (ys.map eb)
  | [], ys, q => by cases q; exact .nil
  | x :: xs, ys, q => by
    obtain ⟨y, h1, q⟩ := bind_ex q
    obtain ⟨zs, h2, q⟩ := bind_ex q
    cases q
    rw [List.map_append]
    exact .cons (h x y h1) (lcr2_cat g h xs zs h2)
theorem step2_one {vs vs1 is : List Nat} {ifs1 : List Expr} {elt iter1 : Expr} {ds1 ys : List PyData} {z1 : Prop} (hs : ∀ i ∈ is, i ∈ vs) (ht : Tg G C k ρ tg is d ρ1) (hi : It' G C k (dropO ρ1) tg1 iter1 ds1 z1) (hl : LcR G C k (wipeE (dropO ρ1) vs1) vs1 tg1 ifs1 elt ds1 ys) : LcStep2 G C k ρ vs vs1 tg [] tg1 iter1 ifs1 elt d ys := ⟨is, ρ1, hs, ht, .inl ⟨ts_nil, ds1, z1, hi, hl⟩⟩
theorem step2_if {vs vs1 is : List Nat} {ifs1 : List Expr} {elt iter1 c : Expr} {ds1 ys : List PyData} {z1 : Prop} {t : Bool} (hs : ∀ i ∈ is, i ∈ vs) (ht : Tg G C k ρ tg is d ρ1) (hc : Te G C k ρ1 c t) (hi : t = true → It' G C k (dropO ρ1) tg1 iter1 ds1 z1) (hl : t = true → LcR G C k (wipeE (dropO ρ1) vs1) vs1 tg1 ifs1 elt ds1 ys) (hn : t = false → ys = []) : LcStep2 G C k ρ vs vs1 tg [c] tg1 iter1 ifs1 elt d ys := by
  cases t with
  | true => exact ⟨is, ρ1, hs, ht, .inl ⟨ts_one hc, ds1, z1, hi rfl, hl rfl⟩⟩
  | false => exact ⟨is, ρ1, hs, ht, .inr ⟨hn rfl, ts_one hc⟩⟩
/-! ### more that is walked -/
/-- lo, lo + c, .. -/
def rangeC (lo hi c : Int) : List Int := (List.range (Builtin.Range.rangeSize lo hi c).toNat).map fun (i : Nat) => lo + (i : Int) * c
def RgC3 (lo hi c : Int) : Prop := (c ≠ 0 ∧ c.natAbs < 1073741824 ∧ Builtin.Range.small lo hi c = true) ∧ 0 ≤ Builtin.Range.rangeSize lo hi c ∧ Builtin.Range.rangeSize lo hi c ≤ 16777216
theorem rangeC_get {lo hi c : Int} {i : Nat} {d : PyData} (h : ((rangeC lo hi c).map PyData.int)[i]? = some d) : d = .int (lo + (i : Int) * c) := by
  unfold rangeC at h
  rw [List.map_map, List.getElem?_map] at h
  cases e : (List.range (Builtin.Range.rangeSize lo hi c).toNat)[i]? with
  | none => rw [e] at h; cases h
  | some j =>
    rw [e] at h
    have hj : j = i := by
      obtain ⟨h1, h2⟩ := List.getElem?_eq_some_iff.mp e
      simpa using h2.symm
    subst hj
    cases h
    rfl
theorem iR3 {a b c : Expr} {i j l : Int} (g : Gn C "range") (m : G.mg "range" = none) (ha : EvB G C k ρ a (.int i)) (hb : EvB G C k ρ b (.int j)) (hc : EvB G C k ρ c (.int l)) (hr : RgC3 i j l)
    (hs : ∀ env, starEach [a, b, c] env = (false, eval a env) :: starEach [b, c] env) (hs2 : ∀ env, starEach [b, c] env = (false, eval b env) :: starEach [c] env) (hs3 : ∀ env, starEach [c] env = (false, eval c env) :: starEach [] env) (hpl : ∀ env, (backTo pos (starEach [b, c] env)).any (·.1) = false) :
    It' G C k ρ tg (.Call (.Name "range" p) [a, b, c] [] pos) ((rangeC i j l).map .int) True := fun X hX =>
  pi_imp (pi_range3 (by unfold Gl Env.kindOf; rw [hX.es]; exact g.hg) (by rw [hX.em]; exact m) (pa_cons (ha X hX) (pa_cons (hb X hX) (pa_cons (hc X hX) pa_nil (hs3 _)) (hs2 _)) (hs _)) (hs _) (hpl _)) fun σ H R ⟨F0, H0, F, S, q⟩ => ⟨F0, H0, F, S, fun v F1 H1 e1 r1 => ⟨F0, H0, F1, S.go e1, fun w F2 H2 e2 r2 => ⟨F0, H0, F2, (S.go e1).go e2, fun u F3 H3 e3 r3 => by
    rw [r1.int, r2.int, r3.int]
    refine ⟨i, j, l, (Builtin.Range.rangeSize i j l).toNat, rfl, ⟨hr.1.1, hr.1.2.1, hr.1.2.2, by have := hr.2.1; omega⟩, q _ F3 H3 ((e1.trans e2).trans e3) trivial (sup_walk walk_rangeC (by unfold rangeC; simp) (fun _ _ _ _ => trivial) fun F4 H4 m x d H' s sF hd y => ?_)⟩
    obtain ⟨rfl, rfl⟩ := y
    rw [rangeC_get hd]
    exact ⟨F4, Ext.refl sF, .int _⟩⟩⟩⟩
theorem walk_revT {K : KK} {a : Addr} {xs : List V} : Walk (RT.ItvT K a xs.length) xs.length (fun H => SqT K H a xs) (fun i H x H' => H' = H ∧ xs[xs.length - 1 - i]? = some x) := by
  refine ⟨fun i _ hi q => ?_, fun _ q => Nat.le_refl _, fun i H v H' _ q y => ?_⟩
  · have h1 : xs.length - 1 - i < xs.length := by omega
    exact ⟨hi, xs, xs[xs.length - 1 - i], q, List.getElem?_eq_getElem h1⟩
  · exact ⟨y.1, y.2 xs q⟩
theorem rev_get {ds : List PyData} {i : Nat} {d : PyData} (h : ds.reverse[i]? = some d) : ds[ds.length - 1 - i]? = some d := by
  have hl : i < ds.length := by
    have := (List.getElem?_eq_some_iff.mp h).1
    simpa using this
  rw [List.getElem?_reverse hl] at h
  exact h
theorem it_rev (g : Gn C "reversed") (m : G.mg "reversed" = none) (h : Ev G C k ρ e (.list ds)) (hs : ∀ env, starEach [e] env = (false, eval e env) :: starEach [] env) : It' G C k ρ tg (.Call (.Name "reversed" p) [e] [] pos) ds.reverse (ds.length ≤ sizeLine) := fun X hX =>
  pi_imp (RT.pi_revA (by unfold Gl Env.kindOf; rw [hX.es]; exact g.hg) (by rw [hX.em]; exact m) (pe_bd (h X hX)) (hs _)) fun σ H R ⟨F0, H0, F, S, q⟩ => ⟨F0, H0, F, S, fun v F1 H1 e1 r1 bd => by
    rw [hX.eK] at bd ⊢
    cases r1 with
    | @lst a xs _ h1 h2 =>
      refine ⟨_, xs, rfl, .inl ⟨e1.sub.seq h1, q _ F1 H1 e1 (by rw [← h2.length]; exact bd _ _ (.inl (e1.sub.seq h1))) (sup_walk (walk_rev (xs := xs)) (by rw [List.length_reverse, h2.length]) (fun F2 H2 s sF => (s.trans sF).seq h1) fun F2 H2 i x d H' s sF hd y => ?_)⟩⟩
      obtain ⟨rfl, hx⟩ := y
      rw [h2.length] at hx
      obtain ⟨d', hd', r⟩ := h2.get hx
      rw [rev_get hd] at hd'
      cases hd'
      exact ⟨F2, Ext.refl sF, r.mono s⟩⟩
theorem it_revT (g : Gn C "reversed") (m : G.mg "reversed" = none) (h : Ev G C k ρ e (.tuple ds)) (hs : ∀ env, starEach [e] env = (false, eval e env) :: starEach [] env) : It' G C k ρ tg (.Call (.Name "reversed" p) [e] [] pos) ds.reverse (ds.length ≤ sizeLine) := fun X hX =>
  pi_imp (RT.pi_revA (by unfold Gl Env.kindOf; rw [hX.es]; exact g.hg) (by rw [hX.em]; exact m) (pe_bd (h X hX)) (hs _)) fun σ H R ⟨F0, H0, F, S, q⟩ => ⟨F0, H0, F, S, fun v F1 H1 e1 r1 bd => by
    rw [hX.eK] at bd ⊢
    cases r1 with
    | @tup a xs _ h1 h2 =>
      refine ⟨_, xs, rfl, .inr ⟨same_tup e1.sub h1, q _ F1 H1 e1 (by rw [← h2.length]; exact bd _ _ (.inr (same_tup e1.sub h1))) (sup_walk (walk_revT (xs := xs)) (by rw [List.length_reverse, h2.length]) (fun F2 H2 s sF => same_tup (s.trans sF) h1) fun F2 H2 i x d H' s sF hd y => ?_)⟩⟩
      obtain ⟨rfl, hx⟩ := y
      rw [h2.length] at hx
      obtain ⟨d', hd', r⟩ := h2.get hx
      rw [rev_get hd] at hd'
      cases hd'
      exact ⟨F2, Ext.refl sF, r.mono s⟩⟩
/-! ### rows of ranges -/
theorem rgV_eq (a b : Int) : rgV a b = (rangeD a b).map V.int := by
  unfold rgV rangeD
  rw [List.map_map]
  rfl
theorem RgO.ok {i j : Int} (h : RgO i j) : RgOk i j := by
  obtain ⟨h1, h2, h3, h4, h5⟩ := h
  exact ⟨by omega, by omega, by omega, by omega, by omega⟩
theorem nRg1 {a : Expr} {j : Int} {p2 pos2 : Pos} (gl : Gn C "list") (ml : G.mg "list" = none) (g : Gn C "range") (m : G.mg "range" = none) (ha : EvB G C k ρ a (.int j)) (hr : RgO 0 j) (hs : ∀ env, starEach [a] env = (false, eval a env) :: starEach [] env)
    (hs2 : ∀ env, starEach [.Call (.Name "range" p2) [a] [] pos2] env = (false, eval (.Call (.Name "range" p2) [a] [] pos2) env) :: starEach [] env) : EvN G C k ρ (.Call (.Name "list" p) [.Call (.Name "range" p2) [a] [] pos2] [] pos) (eL eI (rangeD 0 j)) := fun X hX =>
  pe_imp (pe_listRg hX.calm (by unfold Gl Env.kindOf; rw [hX.es]; exact gl.hg) (by rw [hX.em]; exact ml) (prg_1 (by unfold Gl Env.kindOf; rw [hX.es]; exact g.hg) (by rw [hX.em]; exact m) (ha X hX) (hs _)) (hs2 _)) fun σ H Q ⟨F0, H0, F, S, q⟩ => ⟨F0, H0, F, S, fun x F1 H1 e1 r1 => by
    rw [r1.int]
    refine ⟨j, rfl, hr.ok, fun p hp => q p _ F1 _ (e1.trans (Ext.put e1.sub hp)) (e1.hs.free hp) upd_same (e1.sub.free hp) (.lst ?_)⟩
    rw [rgV_eq]
    exact RpA.ofInts _⟩
theorem eRgT1 {a : Expr} {j : Int} {p2 pos2 : Pos} (gl : Gn C "tuple") (ml : G.mg "tuple" = none) (g : Gn C "range") (m : G.mg "range" = none) (ha : EvB G C k ρ a (.int j)) (hr : RgO 0 j) (hs : ∀ env, starEach [a] env = (false, eval a env) :: starEach [] env)
    (hs2 : ∀ env, starEach [.Call (.Name "range" p2) [a] [] pos2] env = (false, eval (.Call (.Name "range" p2) [a] [] pos2) env) :: starEach [] env) : Ev G C k ρ (.Call (.Name "tuple" p) [.Call (.Name "range" p2) [a] [] pos2] [] pos) (eT eI (rangeD 0 j)) := fun X hX =>
  pe_imp (pe_tupRg hX.calm (by unfold Gl Env.kindOf; rw [hX.es]; exact gl.hg) (by rw [hX.em]; exact ml) (prg_1 (by unfold Gl Env.kindOf; rw [hX.es]; exact g.hg) (by rw [hX.em]; exact m) (ha X hX) (hs _)) (hs2 _)) fun σ H Q ⟨F0, H0, F, S, q⟩ => ⟨F0, H0, F, S, fun x F1 H1 e1 r1 => by
    rw [r1.int]
    refine ⟨j, rfl, hr.ok, fun p hp => q _ _ _ (e1.trans (Ext.lay e1.sub hp)) (.tup (.inl (.inl upd_same)) ?_)⟩
    rw [rgV_eq]
    exact RpA.mono (same_upd (e1.sub.free hp)) (RpA.ofInts _)⟩
theorem nRg2 {a b : Expr} {i j : Int} {p2 pos2 : Pos} (gl : Gn C "list") (ml : G.mg "list" = none) (g : Gn C "range") (m : G.mg "range" = none) (ha : EvB G C k ρ a (.int i)) (hb : EvB G C k ρ b (.int j)) (hr : RgO i j) (hs : ∀ env, starEach [a, b] env = (false, eval a env) :: starEach [b] env) (hs1 : ∀ env, starEach [b] env = (false, eval b env) :: starEach [] env) (hpl : ∀ env, (backTo pos2 (starEach [b] env)).any (·.1) = false)
    (hs2 : ∀ env, starEach [.Call (.Name "range" p2) [a, b] [] pos2] env = (false, eval (.Call (.Name "range" p2) [a, b] [] pos2) env) :: starEach [] env) : EvN G C k ρ (.Call (.Name "list" p) [.Call (.Name "range" p2) [a, b] [] pos2] [] pos) (eL eI (rangeD i j)) := fun X hX =>
  pe_imp (pe_listRg hX.calm (by unfold Gl Env.kindOf; rw [hX.es]; exact gl.hg) (by rw [hX.em]; exact ml) (prg_2 (by unfold Gl Env.kindOf; rw [hX.es]; exact g.hg) (by rw [hX.em]; exact m) (ha X hX) (hb X hX) (hs _) (hs1 _) (hpl _)) (hs2 _)) fun σ H Q ⟨F0, H0, F, S, q⟩ => ⟨F0, H0, F, S, fun x F1 H1 e1 r1 => ⟨F0, H0, F1, S.go e1, fun y F2 H2 e2 r2 => by
    rw [r1.int, r2.int]
    refine ⟨i, j, rfl, rfl, hr.ok, fun p hp => q p _ F2 _ ((e1.trans e2).trans (Ext.put e2.sub hp)) ((e1.trans e2).hs.free hp) upd_same (e2.sub.free hp) (.lst ?_)⟩
    rw [rgV_eq]
    exact RpA.ofInts _⟩⟩
/-! ### the greatest, the least of whole numbers -/
def maxI : List Int → Option Int
  | [] => none
  | x :: xs => some (xs.foldl max x)
def minI : List Int → Option Int
  | [] => none
  | x :: xs => some (xs.foldl min x)
theorem foldl_max (xs : List Int) : ∀ x : Int, (∀ y ∈ x :: xs, y ≤ xs.foldl max x) ∧ xs.foldl max x ∈ x :: xs := by
  induction xs with
  | nil => intro x; exact ⟨by simp, by simp⟩
  | cons z xs ih =>
    intro x
    obtain ⟨h1, h2⟩ := ih (max x z)
    rw [List.foldl_cons]
    refine ⟨fun y hy => ?_, ?_⟩
    · have h0 := h1 (max x z) (List.mem_cons_self ..)
      rcases List.mem_cons.mp hy with rfl | hy
      · omega
      · rcases List.mem_cons.mp hy with rfl | hy
        · omega
        · exact h1 y (List.mem_cons_of_mem _ hy)
    · rcases List.mem_cons.mp h2 with h | h
      · rw [h]
        by_cases c : x ≤ z
        · rw [show max x z = z by omega]; simp
        · rw [show max x z = x by omega]; simp
      · exact List.mem_cons_of_mem _ (List.mem_cons_of_mem _ h)
theorem foldl_min (xs : List Int) : ∀ x : Int, (∀ y ∈ x :: xs, xs.foldl min x ≤ y) ∧ xs.foldl min x ∈ x :: xs := by
  induction xs with
  | nil => intro x; exact ⟨by simp, by simp⟩
  | cons z xs ih =>
    intro x
    obtain ⟨h1, h2⟩ := ih (min x z)
    rw [List.foldl_cons]
    refine ⟨fun y hy => ?_, ?_⟩
    · have h0 := h1 (min x z) (List.mem_cons_self ..)
      rcases List.mem_cons.mp hy with rfl | hy
      · omega
      · rcases List.mem_cons.mp hy with rfl | hy
        · omega
        · exact h1 y (List.mem_cons_of_mem _ hy)
    · rcases List.mem_cons.mp h2 with h | h
      · rw [h]
        by_cases c : x ≤ z
        · rw [show min x z = x by omega]; simp
        · rw [show min x z = z by omega]; simp
      · exact List.mem_cons_of_mem _ (List.mem_cons_of_mem _ h)
theorem maxI_spec {xs : List Int} {m : Int} (h : maxI xs = some m) : (∀ y ∈ xs, y ≤ m) ∧ m ∈ xs := by
  cases xs with
  | nil => cases h
  | cons x xs => cases h; exact foldl_max xs x
theorem minI_spec {xs : List Int} {m : Int} (h : minI xs = some m) : (∀ y ∈ xs, m ≤ y) ∧ m ∈ xs := by
  cases xs with
  | nil => cases h
  | cons x xs => cases h; exact foldl_min xs x
theorem maxI_some {xs : List Int} (h : xs ≠ []) : ∃ m, maxI xs = some m := by
  cases xs with
  | nil => exact absurd rfl h
  | cons x xs => exact ⟨_, rfl⟩
theorem minI_some {xs : List Int} (h : xs ≠ []) : ∃ m, minI xs = some m := by
  cases xs with
  | nil => exact absurd rfl h
  | cons x xs => exact ⟨_, rfl⟩
theorem ok_maxL {ns : List Int} {m : Int} (h : maxI ns = some m) : CallOk G C k (.builtin "max") [eL eI ns] (.int m) := fun X hX => by
  refine call_imp (cr_max hX.calm) fun xs H Q ⟨F, sF, r, q⟩ => ?_
  obtain ⟨x, rfl, rx⟩ := ba1 r
  obtain ⟨p, ys, rfl, h1, h2⟩ := rx.lst sF
  obtain ⟨h3, h4⟩ := maxI_spec h
  refine ⟨p, ns, rfl, by rw [hX.eK, ← h2.ints]; exact h1, List.length_pos_of_mem h4, fun m' hm' hle => ?_⟩
  have : m' = m := Int.le_antisymm (h3 m' hm') (hle m h4)
  rw [this]
  exact q _ F H (Ext.refl sF) (.int _)
theorem ok_minL {ns : List Int} {m : Int} (h : minI ns = some m) : CallOk G C k (.builtin "min") [eL eI ns] (.int m) := fun X hX => by
  refine call_imp (cr_min hX.calm) fun xs H Q ⟨F, sF, r, q⟩ => ?_
  obtain ⟨x, rfl, rx⟩ := ba1 r
  obtain ⟨p, ys, rfl, h1, h2⟩ := rx.lst sF
  obtain ⟨h3, h4⟩ := minI_spec h
  refine ⟨p, ns, rfl, by rw [hX.eK, ← h2.ints]; exact h1, List.length_pos_of_mem h4, fun m' hm' hle => ?_⟩
  have : m' = m := Int.le_antisymm (hle m h4) (h3 m' hm')
  rw [this]
  exact q _ F H (Ext.refl sF) (.int _)
/-! ### rows many times -/
def RepTOk (l : Nat) (n : Int) : Prop := (2 ≤ n ∧ n ≤ 1000) ∧ 0 < l ∧ l ≤ 1000
theorem ok_repT {α : Type} {ea : α → PyData} {xs : List α} {n : Int} (h : RepTOk xs.length n) : OpOk G C k (binaryOp .Mult) (eT ea xs) (.int n) (eT ea (repL xs n)) := fun X hX => by
  refine op_imp op_repT fun x y H Q ⟨F, sF, rx, ry, q⟩ => ?_
  obtain ⟨p, vs, rfl, h1, h2⟩ := rx.tup sF
  have hl : vs.length = xs.length := by rw [h2.length, List.length_map]
  refine ⟨p, n, vs, rfl, ry.int, by rw [hX.eK]; exact h1, fun e => ?_, h.1.1, h.1.2, by rw [hl]; exact h.2.2, fun p hp => ?_⟩
  · rw [e] at hl
    have := h.2.1
    simp at hl
    omega
  · have e2 : (List.replicate n.toNat (xs.map ea)).flatten = (repL xs n).map ea := by
      unfold repL
      rw [List.map_flatten, List.map_replicate]
    refine q _ _ _ (Ext.lay sF hp) (.tup (.inl (.inl upd_same)) ?_)
    show RpA G.K _ _ ((repL xs n).map ea)
    rw [← e2]
    exact RpA.mono (same_upd (sF.free hp)) (RpA.rep h2 _)
/-- a list's items given to names -/
theorem tg_lst {n m : Nat} {is : List Nat} (h : Tgs G C k ρ es is ds ρ1) (hl : ds.length = n) (hn : ∀ env, (assignEach es env).length = n) (hst : ∀ env, (assignEach es env).findIdx? (·.1) = none) : Tg G C k ρ (.Tuple es m pos) is (.list ds) ρ1 := fun X hX =>
  pg_imp (pg_lst hX.calm (h X hX) (hn _) (hst _)) fun v σ H Q ⟨F0, H0, F, S, r, q⟩ => by
    obtain ⟨a, xs, rfl, h1, h2⟩ := (Rp.b (H := H) r).lst S.ext.sub
    exact ⟨a, xs, rfl, by rw [hX.eK]; exact h1, by rw [h2.length]; exact hl, F0, H0, F, S, h2, q⟩
theorem it_revX {α : Type} {ea : α → PyData} {xs : List α} (g : Gn C "reversed") (m : G.mg "reversed" = none) (h : Ev G C k ρ e (eL ea xs)) (hs : ∀ env, starEach [e] env = (false, eval e env) :: starEach [] env) : It' G C k ρ tg (.Call (.Name "reversed" p) [e] [] pos) (xs.reverse.map ea) ((xs.map ea).length ≤ sizeLine) := by
  rw [List.map_reverse]
  exact it_rev g m h hs
theorem it_revTX {α : Type} {ea : α → PyData} {xs : List α} (g : Gn C "reversed") (m : G.mg "reversed" = none) (h : Ev G C k ρ e (eT ea xs)) (hs : ∀ env, starEach [e] env = (false, eval e env) :: starEach [] env) : It' G C k ρ tg (.Call (.Name "reversed" p) [e] [] pos) (xs.reverse.map ea) ((xs.map ea).length ≤ sizeLine) := by
  rw [List.map_reverse]
  exact it_revT g m h hs
theorem zz_rg3 {β : Type} {eb : β → PyData} {lo hi c : Int} {ys : List β} (hr : RgC3 lo hi c) (h : ys.length ≤ (rangeC lo hi c).length) : True → (ys.map eb).length ≤ sizeLine := fun _ => by
  have e := sizeLine_eq
  rw [List.length_map]
  unfold rangeC at h
  simp at h
  have := hr.2.2
  omega
theorem sz_map {β : Type} {eb : β → PyData} {ys : List β} (h : SzOk ys.length) : (ys.map eb).length ≤ sizeLine := by rw [List.length_map]; exact h.z
theorem sz_to {β : Type} {eb : β → PyData} {ys zs : List β} (q : ys = zs) (h : (ys.map eb).length ≤ sizeLine) : (zs.map eb).length ≤ sizeLine := q ▸ h
theorem LcR2.to {vs vs1 : List Nat} {ifs ifs1 : List Expr} {elt iter1 : Expr} {ys zs : List PyData} (h : LcR2 G C k ρ vs vs1 tg ifs tg1 iter1 ifs1 elt ds ys) (q : ys = zs) : LcR2 G C k ρ vs vs1 tg ifs tg1 iter1 ifs1 elt ds zs := q ▸ h
end
section
variable {G : Gb} {C : SC} {k : Nat} {ρ : PEnv} {a b c : Expr} {d1 d2 d3 : PyData} {pos : Pos} {t u : Bool}
theorem te_chain2 {op op' : CmpOp} (ho : OpOk G C k (compareOp op) d1 d2 (.bool t)) (ho' : OpOk G C k (compareOp op') d2 d3 (.bool u)) (ha : EvB G C k ρ a d1) (hb : EvB G C k ρ b d2) (hc : EvB G C k ρ c d3) (hm : lastMarks [op, op'] [b, c] = false) :
    Te G C k ρ (.Compare a [op, op'] [b, c] pos) (t && u) := fun X hX =>
  pt_imp (pt_chain (ho X hX) (ho' X hX) (ha X hX) (hb X hX) (hc X hX) hm) fun σ H Q ⟨F0, H0, F, S, q⟩ => ⟨F0, H0, F, S, fun x F1 H1 e1 r1 => ⟨F0, H0, F1, S.go e1, fun y F2 H2 e2 r2 => ⟨F2, e2.sub, r1.ext e2, r2, fun v F3 H3 e3 r3 => by
    cases r3
    cases t with
    | false => exact ⟨false, rfl, iteF ⟨false, rfl, q F3 H3 ((e1.trans e2).trans e3)⟩⟩
    | true =>
      refine ⟨true, rfl, iteT ⟨F0, H0, F3, ((S.go e1).go e2).go e3, fun z F4 H4 e4 r4 => ⟨F4, e4.sub, (r2.ext e3).ext e4, r4, fun v F5 H5 e5 r5 => ?_⟩⟩⟩
      cases r5
      exact ⟨u, rfl, q F5 H5 ((((e1.trans e2).trans e3).trans e4).trans e5)⟩⟩⟩⟩
end
/-! ### targets that change objects -/
def tTgH (K : KK) (ρ : PEnv) (d : PyData) (ρ' : PEnv) : TG := fun v σ H Q => ∃ F0 H0 F, SRel K F0 H0 ρ σ F H ∧ Rp K F v d ∧ ∀ σ' F' H', Same F F' → SRel K F0 H0 ρ' σ' F' H' → Q σ' H'
def tTgsH (K : KK) (ρ : PEnv) (ds : List PyData) (ρ' : PEnv) : TGs := fun vs σ H Q => ∃ F0 H0 F, SRel K F0 H0 ρ σ F H ∧ RpA K F vs ds ∧ ∀ σ' F' H', Same F F' → SRel K F0 H0 ρ' σ' F' H' → Q σ' H'
def TgH (G : Gb) (C : SC) (k : Nat) (ρ : PEnv) (tg : Expr) (d : PyData) (ρ' : PEnv) : Prop := ∀ X, CxOk G C k X → PG X tg (tTgH G.K ρ d ρ')
def TgsH (G : Gb) (C : SC) (k : Nat) (ρ : PEnv) (tgs : List Expr) (ds : List PyData) (ρ' : PEnv) : Prop := ∀ X, CxOk G C k X → PGs X tgs (tTgsH G.K ρ ds ρ')
section
variable {G : Gb} {C : SC} {k : Nat} {ρ ρ1 ρ2 : PEnv} {e tg tg1 : Expr} {es : List Expr} {d : PyData} {ds : List PyData} {pos p : Pos} {x : Str}
theorem Tg.h {is : List Nat} (h : Tg G C k ρ tg is d ρ1) : TgH G C k ρ tg d ρ1 := fun X hX => pg_imp (h X hX) fun v σ H Q ⟨F0, H0, F, S, r, q⟩ => ⟨F0, H0, F, S, r, fun σ' _ S' => q σ' F H (Same.refl _) S'⟩
theorem tgsH_nil : TgsH G C k ρ [] [] ρ := fun X hX => pgs_imp pgs_nil fun vs σ H Q ⟨F0, H0, F, S, r, q⟩ => by
  cases r
  exact ⟨rfl, q σ F H (Same.refl _) S⟩
theorem tgsH_cons (h1 : TgH G C k ρ e d ρ1) (h2 : TgsH G C k ρ1 es ds ρ2) (hs : ∀ env, (assignEach (e :: es) env).map (·.2) = assign e env :: (assignEach es env).map (·.2)) : TgsH G C k ρ (e :: es) (d :: ds) ρ2 := fun X hX =>
  pgs_imp (pgs_cons (h1 X hX) (h2 X hX) (hs _)) fun vs σ H Q ⟨F0, H0, F, S, r, q⟩ => by
    cases r with
    | cons r t => exact ⟨_, _, rfl, F0, H0, F, S, r, fun σ1 F1 H1 s1 S1 => ⟨F0, H0, F1, S1, t.mono s1, fun σ2 F2 H2 s2 S2 => q σ2 F2 H2 (s1.trans s2) S2⟩⟩
theorem tgH_tup {n m : Nat} (h : TgsH G C k ρ es ds ρ1) (hl : ds.length = n) (hn : ∀ env, (assignEach es env).length = n) (hst : ∀ env, (assignEach es env).findIdx? (·.1) = none) : TgH G C k ρ (.Tuple es m pos) (.tuple ds) ρ1 := fun X hX =>
  pg_imp (pg_tup hX.calm (h X hX) (hn _) (hst _)) fun v σ H Q ⟨F0, H0, F, S, r, q⟩ => by
    obtain ⟨a, xs, rfl, h1, h2⟩ := (Rp.b (H := H) r).tup S.ext.sub
    exact ⟨a, xs, rfl, by rw [hX.eK]; exact h1, by rw [h2.length]; exact hl, F0, H0, F, S, h2, q⟩
/-- x[ei] as a target, x an owned list -/
theorem tgH_item {α : Type} {f : α → PyData} {xs ys : List α} {v : α} (i : Nat) {ei : Expr} {m : Int} {p1 p2 : Pos} (n : Nm C i x) (h : ρ[i]? = some (some (.ow (eL f xs)))) (hei : EvB G C k ρ ei (.int m)) (hm : setAt xs m v = some ys)
    (ha : ∀ env v, assign (.Subscript (.Name x p1) ei p2) env v = (do
      let ov ← holding [v] (eval (.Name x p1) env)
      let iv ← holding [v, ov] (eval ei env)
      standAt p2
      holding [v, ov, iv] (setItem ov iv v)
      release [v, ov, iv] [])) : TgH G C k ρ (.Subscript (.Name x p1) ei p2) (f v) (ρ.set i (some (.ow (eL f ys)))) := fun X hX => by
  obtain ⟨j, hj, e⟩ := setAt_ex (ea := f) hm
  refine pg_imp (pg_sub (pe_var (i := i) (by rw [hX.eN]; exact n.hi) (vis_of hX n.hv) n.hd n.hc) (hei X hX) set_list (ha _)) fun w σ H Q ⟨F0, H0, F, S, r, q⟩ => ?_
  obtain ⟨a, o, h1, h2, h3, h4, h5⟩ := S.ow i _ h
  cases h3 with
  | @lst vs _ rv =>
    refine ⟨.ref a, h1, F0, H0, F, S, fun y F2 H2 e2 r2 => ⟨a, vs, m, j, rfl, r2.int, e2.hs _ _ h2, by rw [rv.length]; exact hj, q σ F2 _ e2.fs ?_⟩⟩
    show SRel G.K F0 H0 (ρ.set i (some (.ow (.list (ys.map f))))) σ F2 _
    rw [e]
    exact (S.go e2).mut h h1 (.lst (RpA.set (r.mono e2.fs) j (rv.mono e2.fs)))
theorem st_asgH (he : Ev G C k ρ e d) (hg : TgH G C k ρ tg d ρ1) (hs : ∀ env, swapsWithSole [tg] e pos.line env = pure false) (hw : ∀ env : Env, env.scope = C.sc → swappedStores [tg] e env = pure none) (h1 : ∀ env, (assignEach [tg] env).map (·.2) = [assign tg env]) :
    St1 G C k ρ (.Assign [tg] e pos) (.nx ρ1) := fun X hX =>
  ps_imp (ps_asg (he X hX) (hg X hX) (hs _) (hw _ hX.es) (h1 _)) fun D σ H ⟨F0, H0, F, S, q⟩ => ⟨F0, H0, F, S, fun v F1 H1 e1 r1 => ⟨F0, H0, F1, S.go e1, r1, fun σ' F2 H2 s2 S' => q σ' F2 H2 S' (e1.fs.trans s2)⟩⟩
end
/-! ### a row of so many items -/
def fit2 {α β : Type} (xs : List α) (f : α → α → Option β) : Option β := match xs with
  | [a, b] => f a b
  | _ => none
theorem fit2_ex {α β : Type} {xs : List α} {f : α → α → Option β} {r : β} (h : fit2 xs f = some r) : ∃ a b, xs = [a, b] ∧ f a b = some r := by
  unfold fit2 at h
  split at h
  · exact ⟨_, _, rfl, h⟩
  · cases h
def fit3 {α β : Type} (xs : List α) (f : α → α → α → Option β) : Option β := match xs with
  | [a, b, c] => f a b c
  | _ => none
theorem fit3_ex {α β : Type} {xs : List α} {f : α → α → α → Option β} {r : β} (h : fit3 xs f = some r) : ∃ a b c, xs = [a, b, c] ∧ f a b c = some r := by
  unfold fit3 at h
  split at h
  · exact ⟨_, _, _, rfl, h⟩
  · cases h
end Pl
/-! Pl, part Y: order by type: sorted, the order of tuples. -/
namespace Pl
open PySem PySem.Spec PyProof.Rows L2

/-- data that are put in order -/
structure OrdT {α : Type} (e : α → PyData) (n : Nat) : Prop where
  al : ∀ x y, PySem.W.alike (e x) (e y) = true
  nd : ∀ x, noDct (e x) = true
  nn : ∀ x, e x ≠ .none
  cl : ∀ x, (e x).canLay0 = true
  dp : ∀ x, (e x).depth ≤ n
def ltT {α : Type} (e : α → PyData) (x y : α) : Bool := PySem.W.dataLt (e x) (e y)
def sortT {α : Type} (e : α → PyData) (xs : List α) : List α := xs.mergeSort fun a b => !ltT e b a
theorem sortD_map {α : Type} (e : α → PyData) (xs : List α) : sortD (xs.map e) = (sortT e xs).map e := by
  unfold sortD sortT
  rw [List.map_mergeSort (s := fun a b => !PySem.W.dataLt b a) (f := e)]
  intro a _ b _
  rfl
theorem sortT_perm {α : Type} (e : α → PyData) (xs : List α) : (sortT e xs).Perm xs := List.mergeSort_perm _ _
theorem sortT_len {α : Type} (e : α → PyData) (xs : List α) : (sortT e xs).length = xs.length := (sortT_perm e xs).length_eq
section
variable {α β γ δ : Type} {ea : α → PyData} {eb : β → PyData} {ec : γ → PyData} {n : Nat}
theorem alikeA_map (h : ∀ x y, PySem.W.alike (ea x) (ea y) = true) : ∀ xs ys : List α, PySem.W.alikeAll (xs.map ea) (ys.map ea) = true
  | [], _ => by simp [PySem.W.alikeAll]
  | _ :: _, [] => by simp [PySem.W.alikeAll]
  | x :: xs, y :: ys => by
    simp only [List.map_cons, PySem.W.alikeAll]
    rw [h, alikeA_map h xs ys]; rfl
theorem or_I : OrdT eI 0 := ⟨fun _ _ => rfl, fun _ => rfl, (fun _ h => by cases h), fun _ => rfl, fun _ => Nat.le_refl 0⟩
theorem or_t (h : OrdT ea n) : OrdT (eT ea) (n + 1) := ⟨fun x y => by
  show PySem.W.alike (.tuple (x.map ea)) (.tuple (y.map ea)) = true
  simp only [PySem.W.alike]
  exact alikeA_map h.al x y, fun xs => ndA_map h.nd xs, (fun _ h => by cases h), fun xs => clA_map h.cl xs, fun xs => by
  show PyData.depthAll (xs.map ea) + 1 ≤ n + 1
  exact Nat.succ_le_succ (dpA_map h.dp xs)⟩
theorem or_P (h : OrdT ea n) (h' : OrdT eb n) : OrdT (eP ea eb) (n + 1) := ⟨fun x y => by
  show PySem.W.alike (.tuple [ea x.1, eb x.2]) (.tuple [ea y.1, eb y.2]) = true
  simp only [PySem.W.alike, PySem.W.alikeAll, h.al, h'.al]; rfl, fun x => by
  show (noDct (ea x.1) && (noDct (eb x.2) && true)) = true
  rw [h.nd, h'.nd]; rfl, (fun _ h => by cases h), fun x => by
  show ((ea x.1).canLay0 && ((eb x.2).canLay0 && true)) = true
  rw [h.cl, h'.cl]; rfl, fun x => by
  show max ((ea x.1).depth) (max ((eb x.2).depth) 0) + 1 ≤ n + 1
  exact Nat.succ_le_succ (Nat.max_le.mpr ⟨h.dp _, Nat.max_le.mpr ⟨h'.dp _, Nat.zero_le _⟩⟩)⟩
theorem or_P3 (h : OrdT ea n) (h' : OrdT eb n) (h'' : OrdT ec n) : OrdT (eP3 ea eb ec) (n + 1) := ⟨fun x y => by
  show PySem.W.alike (.tuple [ea x.1, eb x.2.1, ec x.2.2]) (.tuple [ea y.1, eb y.2.1, ec y.2.2]) = true
  simp only [PySem.W.alike, PySem.W.alikeAll, h.al, h'.al, h''.al]; rfl, fun x => by
  show (noDct (ea x.1) && (noDct (eb x.2.1) && (noDct (ec x.2.2) && true))) = true
  rw [h.nd, h'.nd, h''.nd]; rfl, (fun _ h => by cases h), fun x => by
  show ((ea x.1).canLay0 && ((eb x.2.1).canLay0 && ((ec x.2.2).canLay0 && true))) = true
  rw [h.cl, h'.cl, h''.cl]; rfl, fun x => by
  show max ((ea x.1).depth) (max ((eb x.2.1).depth) (max ((ec x.2.2).depth) 0)) + 1 ≤ n + 1
  exact Nat.succ_le_succ (Nat.max_le.mpr ⟨h.dp _, Nat.max_le.mpr ⟨h'.dp _, Nat.max_le.mpr ⟨h''.dp _, Nat.zero_le _⟩⟩⟩)⟩
theorem OrdT.up {m : Nat} (h : OrdT ea n) (hn : n ≤ m) : OrdT ea m := ⟨h.al, h.nd, h.nn, h.cl, fun x => Nat.le_trans (h.dp x) hn⟩
/-- all tuples with an item, or none a tuple -/
def SrtOk (e : α → PyData) (xs : List α) : Prop := (∀ x ∈ xs, ∃ d r, e x = .tuple (d :: r)) ∨ ∀ x ∈ xs, ∀ ys, e x ≠ .tuple ys
theorem srt_I (xs : List Int) : SrtOk eI xs := .inr fun _ _ _ h => by cases h
theorem srt_P (xs : List (α × β)) : SrtOk (eP ea eb) xs := .inl fun x _ => ⟨_, _, rfl⟩
theorem srt_P3 (xs : List (α × β × γ)) : SrtOk (eP3 ea eb ec) xs := .inl fun x _ => ⟨_, _, rfl⟩
/-- no empty row -/
def NoNil (xs : List (List α)) : Prop := ∀ x ∈ xs, x ≠ []
theorem srt_t {xs : List (List α)} (h : NoNil xs) : SrtOk (eT ea) xs := .inl fun x hx => by
  cases x with
  | nil => exact absurd rfl (h [] hx)
  | cons a r => exact ⟨_, _, rfl⟩
theorem sortb_of (h : OrdT ea n) (hn : n ≤ 64) {xs : List α} (hs : SrtOk ea xs) : Sortb (xs.map ea) where
  nd := ndA_map h.nd xs
  al := PySem.W.AllAlike.of h.al
  sb := by
    rcases hs with hs | hs
    · refine .inl fun d hd => ?_
      obtain ⟨x, hx, rfl⟩ := List.mem_map.mp hd
      exact hs x hx
    · refine .inr fun d hd => ?_
      obtain ⟨x, hx, rfl⟩ := List.mem_map.mp hd
      exact ⟨h.nn x, hs x hx⟩
  dp := fun d hd => by
    obtain ⟨x, hx, rfl⟩ := List.mem_map.mp hd
    exact Nat.le_trans (h.dp x) hn
end
section
variable {G : Gb} {C : SC} {k : Nat} {α : Type} {ea : α → PyData} {n : Nat}
theorem new_sortL (h : OrdT ea n) {xs : List α} (hs : SrtOk ea xs) (hn : n ≤ 64 := by decide) : CallNew G C k (.builtin "sorted") [eL ea xs] (eL ea (sortT ea xs)) := by
  have q := new_sorted (G := G) (C := C) (k := k) (sortb_of h hn hs)
  rw [sortD_map] at q
  exact q
theorem OrdT.b (h : OrdT ea n) (hn : n ≤ 64) (x : α) : Eqb (ea x) := ⟨h.nd x, by
  show (((ea x).canLay0) && decide ((ea x).depth ≤ 64)) = true
  rw [h.cl x, Bool.true_and]
  exact decide_eq_true (Nat.le_trans (h.dp x) hn)⟩
theorem ok_ltT (h : OrdT ea n) (x y : α) (hn : n ≤ 64 := by decide) : OpOk G C k (compareOp .Lt) (ea x) (ea y) (.bool (ltT ea x y)) := ok_ltD (h.b hn x) (h.b hn y) (h.al x y) (h.nn x)
theorem ok_gtT (h : OrdT ea n) (x y : α) (hn : n ≤ 64 := by decide) : OpOk G C k (compareOp .Gt) (ea x) (ea y) (.bool (ltT ea y x)) := ok_gtD (h.b hn x) (h.b hn y) (h.al x y) (h.nn x)
theorem ok_leT (h : OrdT ea n) (x y : α) (hn : n ≤ 64 := by decide) : OpOk G C k (compareOp .LtE) (ea x) (ea y) (.bool (!ltT ea y x)) := ok_leD (h.b hn x) (h.b hn y) (h.al x y) (h.nn x)
theorem ok_geT (h : OrdT ea n) (x y : α) (hn : n ≤ 64 := by decide) : OpOk G C k (compareOp .GtE) (ea x) (ea y) (.bool (!ltT ea x y)) := ok_geD (h.b hn x) (h.b hn y) (h.al x y) (h.nn x)
end
theorem ltT_I (x y : Int) : ltT eI x y = decide (x < y) := PySem.W.dataLt_int x y
/-! ### sorted over a tuple -/
section
variable {prog : Program} {w : World} {A : Around} {E : Value → Shared → Prop} {s : Shared}
abbrev lsO (xs : Array Value) : Obj := { cls := .type "list", data := .seq xs }
/-- a tuple's items, gathered in a new list -/
theorem gatherT {l : Addr} {vs : List Value} {Q : List Value → Shared → Prop} (hl : s.heap.IsTuple l vs.toArray) (hz : vs.length ≤ sizeLine)
    (h : Q vs { s with heap := (s.heap.push (lsO #[])).update s.heap.objs.size (Obj.mapSeq (· ++ vs.toArray)) }) : wpAny (model prog w) A (collect (.ref l)) Q E s := by
  obtain ⟨o, ho, hc, n, hd⟩ := id hl
  have hz' : vs.toArray.size ≤ sizeLine := by simpa using hz
  let S := s.heap.objs.size
  let s1 : Shared := { s with heap := s.heap.push (lsO #[]) }
  let s2 : Shared := { s with heap := (s.heap.push (lsO #[])).update S (Obj.mapSeq (· ++ vs.toArray)) }
  have g1 : (s.heap.push (lsO #[])).get? S = some (lsO #[]) := Heap.get?_push_size _ rfl
  have g2 : s2.heap.get? S = some (Obj.mapSeq (· ++ vs.toArray) (lsO #[])) := Heap.get?_update_self (Obj.mapSeq (· ++ vs.toArray)) g1 rfl
  have last : wpAny (model prog w) A (match Value.ref S with
      | .ref a => do match (← load a).data with
          | .seq xs _ => pure xs.toList
          | _ => unsupported "internal:collect"
      | _ => unsupported "internal:collect") Q E s2 := by
    refine wpAny_bind (m := load S) (wpAny_load g2 (wpAny_pure ?_))
    have e : ((#[] : Array Value) ++ vs.toArray).toList = vs := by simp
    show Q ((#[] : Array Value) ++ vs.toArray).toList s2
    rw [e]; exact h
  unfold collect; refine wpAny_bind (wpAny_runValue (codeAny_builtin F.entry_proto_collect ?_)); rw [Around.under_plainId F.plain_proto_collect _]
  show wpAny _ A.in1 (newList [] >>= fun q => again (.builtin "list.__iadd__" ⟨[q, .ref l], []⟩)) _ _ s
  refine wpAny_bind (wpAny_newObj_type (wpAny_pure ⟨plainId_quiet F.plain_list_iadd _, codeAny_builtin F.entry_list_iadd ?_⟩)); rw [Around.under_plainId F.plain_list_iadd _]
  show wpAny _ A.in1 (Builtin.List.listExtendWith (.ref S) (.ref l) (.ref S)) _ _ s1
  refine wpAny_mono (wpAny_extend_seq (hsz := hz') (A := A) (R := fun r s' => r = .ok (.ret (.ref S)) ∧ s' = s2) (s := s1) S l (.ref S) 0 (.inr rfl) g1 (Heap.get?_push_of_some _ ho) hc hd ⟨rfl, rfl⟩) (fun fin s' hq => ?_) fun e s' hq => absurd hq.1 (by simp)
  cases fin with
  | done f => obtain ⟨e, rfl⟩ := hq; cases e; exact last
  | again c => exact ⟨hq.1, codeAny_mono hq.2 fun r s'' hr => by obtain ⟨rfl, rfl⟩ := hr; exact last⟩
open PySem.W in
/-- sorted(t), t a tuple of data -/
theorem sorted_tupD {β : Type} {R : Value → β → Prop} {enc : β → PyData} {bs : List β} {l : Addr} {vs : List Value} {Q : Value → Shared → Prop} (hl : s.heap.IsTuple l vs.toArray) (e : EachIs R vs bs) (er : EachIs (fun v b => ∃ as, Reads s.heap v (enc b) as) vs bs) (hal : AllAlike (bs.map enc)) (hk : Sortable (bs.map enc)) (hL : bs.length ≤ sizeLine)
    (hu : ∀ b, b ∈ bs → A.units + 2 + (enc b).depth < cLine) (h : ∀ out, out.length = bs.length → EachIs R out (bs.mergeSort (dataLe false enc)) → Q (.ref (s.heap.objs.size + 1)) { s with heap := sortedAll s.heap vs (List.toArray out) }) : wpAny (model prog w) A (call (.builtin "sorted") [.ref l]) Q E s := by
  have hv : vs.length ≤ sizeLine := by rw [e.length]; exact hL
  have er' : EachIs (fun v b => ∃ as, Reads (sortingHeap (copyHeap s.heap vs) (s.heap.objs.size + 1) vs) v (enc b) as) vs bs := er.mono fun _ _ ⟨as, r⟩ => ⟨as, PyProof.Rows.Reads.keeps (fun _ _ => sorting_copy_old) r⟩
  have S := SortsAt.data (prog := prog) (w := w) (A := A.in1.in1) (s := { s with heap := sortingHeap (copyHeap s.heap vs) (s.heap.objs.size + 1) vs }) (each_map (R := fun v d => ∃ as, Reads (sortingHeap (copyHeap s.heap vs) (s.heap.objs.size + 1) vs) v d as) enc er') hal hk (bound_map hu)
  refine call_function_entry_kw kind_sorted plain_sorted entry_sorted (args_sorted1 _) ?_
  unfold Builtin.«sorted»; refine wpAny_bind (m := checkCount "sorted" 1 1 _) (wpAny_pure (wpAny_bind (gatherT hl hv (wpAny_bind (wpAny_newList ?_ hv)))))
  have hsz : ((s.heap.push (seqObj "list" #[] 0)).update s.heap.objs.size (Obj.mapSeq (· ++ vs.toArray))).objs.size = s.heap.objs.size + 1 := by rw [Heap.size_update, size_push']
  show wpAny _ _ _ _ _ { s with heap := copyHeap s.heap vs }; rw [show ((s.heap.push (lsO #[])).update s.heap.objs.size (Obj.mapSeq (· ++ vs.toArray))).objs.size = s.heap.objs.size + 1 from hsz]
  refine wpAny_bind (wpAny_holding (wpAny_call_entry_kw slot_list_sort ⟨_, copyHeap_at s.heap vs, rfl⟩ entry_list_sort ?_ (args_list_sort _)))
  refine wpAny_mono (list_sort_vals (s := { s with heap := copyHeap s.heap vs }) (P := fun f s' => f = .done (.ret .none) ∧ Q (.ref (s.heap.objs.size + 1)) s') (copyHeap_at s.heap vs) S hv ⟨rfl, h _ (by rw [sortVals_length false rfl]; exact e.length) (sortVals_data false e er' hal)⟩) (fun f s' hf => ?_) fun _ _ e => e
  obtain ⟨rfl, hq⟩ := hf; exact ⟨_, rfl, wpAny_pure ⟨_, rfl, hq⟩⟩
end
section
variable {G : Gb} {C : SC} {k : Nat} {α : Type} {ea : α → PyData} {n : Nat}
theorem new_sortedT {ds : List PyData} (hs : Sortb ds) : CallNew G C k (.builtin "sorted") [.tuple ds] (.list (sortD ds)) := fun X hX => by
  intro pins sh st H xs0 us0 Q0 I r0 ⟨F, sF, rb, q⟩
  obtain ⟨x, rfl, rx⟩ := ba1 rb
  obtain ⟨p, xs, rfl, h1, h2⟩ := rx.tup sF
  rw [← hX.eK] at h1
  obtain ⟨its, rv, hl, hz⟩ := I.tuple h1
  rw [Vals.ref1 r0]
  have e := each_zip h2 rv
  have hlen := h2.length
  have hsnd : (xs.zip ds).map (·.2) = ds := zip_snd hlen
  have hzl : (xs.zip ds).length = xs.length := by rw [List.length_zip]; omega
  have nd : ∀ p ∈ xs.zip ds, noDct p.2 = true := fun p hp => noDct_mem hs.nd _ (by rw [← hsnd]; exact List.mem_map_of_mem hp)
  have er : PySem.W.EachIs (fun v (p : V × PyData) => ∃ as, Reads sh.heap v p.2 as) its (xs.zip ds) := by
    have aux : ∀ {us : List Value} {ps : List (V × PyData)}, (∀ p ∈ ps, noDct p.2 = true) → PySem.W.EachIs (fun v (p : V × PyData) => RelV p.1 v ∧ Rp G.K F p.1 p.2) us ps → PySem.W.EachIs (fun v (p : V × PyData) => ∃ as, Reads sh.heap v p.2 as) us ps := by
      intro us ps hn h
      induction h with
      | nil => exact .nil
      | cons r t ih =>
        refine .cons ?_ (ih fun p hp => hn p (List.mem_cons_of_mem _ hp))
        have r2 := r.2.mono sF
        rw [← hX.eK] at r2
        exact Dp.reads I _ _ _ (r2.dp (hn _ List.mem_cons_self)) r.1
    exact aux nd e
  refine sorted_tupD (bs := xs.zip ds) (enc := (·.2)) hl e er (by rw [hsnd]; exact hs.al) (by rw [hsnd]; exact hs.sb) (by rw [hzl]; exact hz) (fun p hp => ?_) fun out ho ho2 => ?_
  · have hd := hs.dp p.2 (by rw [← hsnd]; exact List.mem_map_of_mem hp)
    have := hX.room.un
    omega
  · obtain ⟨ep, he'⟩ := PyProof.Rows.sortedAll_at sh.heap its out.toArray
    have hn : H (sh.heap.objs.size + 1) = none := I.hok.fresh (Nat.le_succ _)
    generalize hps : (xs.zip ds).mergeSort (PySem.W.dataLe false (·.2)) = ps at ho2
    have hv : Vals (ps.map (·.1)) out := vals_snd (fun v p r => r.1) ho2
    have hr2 : RpA G.K F (ps.map (·.1)) (ps.map (·.2)) := rpa_of _ (each_all (fun v p r => r.2) ho2)
    have hps2 : ps.map (·.2) = sortD ds := by rw [← hps, map_merge, hsnd]
    rw [hps2] at hr2
    have hll : (ps.map (·.1)).length ≤ sizeLine := by rw [hv.length, ho, hzl]; exact hz
    exact ⟨.ref _, upd H (sh.heap.objs.size + 1) (.lst (ps.map (·.1))), I.laid (t' := sh.toks) (fun _ _ => PyProof.Rows.sortedAll_old) (Nat.le_succ _) ⟨hll, out, ep, hv, by simpa using he'⟩, rfl,
      q _ _ F _ (Ext.put sF hn) hn upd_same (sF.free hn) (.lst hr2)⟩
theorem new_sortT (h : OrdT ea n) {xs : List α} (hs : SrtOk ea xs) (hn : n ≤ 64 := by decide) : CallNew G C k (.builtin "sorted") [eT ea xs] (eL ea (sortT ea xs)) := by
  have q := new_sortedT (G := G) (C := C) (k := k) (sortb_of h hn hs)
  rw [sortD_map] at q
  exact q
end
section
variable {G : Gb} {C : SC} {k : Nat} {ρ : PEnv} {e : Expr} {p p2 pos pos2 : Pos} {α : Type} {ea : α → PyData} {xs : List α}
/-- tuple(reversed(xs)) -/
theorem eTupRev (gt : Gn C "tuple") (mt : G.mg "tuple" = none) (gr : Gn C "reversed") (mr : G.mg "reversed" = none) (h : EvB G C k ρ e (eL ea xs)) (hs : ∀ env, starEach [e] env = (false, eval e env) :: starEach [] env)
    (hs2 : ∀ env, starEach [.Call (.Name "reversed" p2) [e] [] pos2] env = (false, eval (.Call (.Name "reversed" p2) [e] [] pos2) env) :: starEach [] env) : Ev G C k ρ (.Call (.Name "tuple" p) [.Call (.Name "reversed" p2) [e] [] pos2] [] pos) (eT ea xs.reverse) := fun X hX =>
  pe_imp (RT.pe_tupRev hX.calm (by unfold Gl Env.kindOf; rw [hX.es]; exact gt.hg) (by rw [hX.em]; exact mt) (by unfold Gl Env.kindOf; rw [hX.es]; exact gr.hg) (by rw [hX.em]; exact mr) (h X hX) (hs _) (hs2 _)) fun σ H Q ⟨F0, H0, F, S, q⟩ => ⟨F0, H0, F, S, fun v F1 H1 e1 r1 => by
    obtain ⟨a, vs, rfl, h1, h2⟩ := r1.lst e1.sub
    refine ⟨a, vs, rfl, by rw [hX.eK]; exact h1, fun p hp => q _ _ _ (e1.trans (Ext.lay e1.sub hp)) (.tup (.inl (.inl upd_same)) ?_)⟩
    rw [List.map_reverse]
    exact RpA.mono (same_upd (e1.sub.free hp)) h2.rev⟩
end
end Pl
/-! Pl, part M: plain laws of mirrors: loops, comprehensions, items; the drawn row. -/
namespace Pl
open PySem PySem.Spec PyProof.Rows L2
noncomputable section

/-! ### items -/
/-- the item at a place -/
def gI {α : Type} [Inhabited α] (xs : List α) (i : Int) : α := xs.getD i.toNat default
theorem idx_in {α : Type} [Inhabited α] {xs : List α} {i : Int} (h0 : 0 ≤ i) (h1 : i < xs.length) : idx xs i = some (gI xs i) := by
  obtain ⟨n, rfl⟩ := Int.eq_ofNat_of_zero_le h0
  have hn : n < xs.length := by omega
  refine idx_nat h0 ?_
  unfold gI
  simp [List.getD, hn]
theorem idx_nat' {α : Type} {xs : List α} {n : Nat} : idx xs (n : Int) = xs[n]? := by
  unfold idx atI ixN
  by_cases h : n < xs.length
  · simp [h]
  · simp [h]
theorem gI_nat {α : Type} [Inhabited α] (xs : List α) (n : Nat) : gI xs (n : Int) = xs.getD n default := rfl
theorem gI_mem {α : Type} [Inhabited α] {xs : List α} {i : Int} (h0 : 0 ≤ i) (h1 : i < xs.length) : gI xs i ∈ xs := by
  obtain ⟨n, rfl⟩ := Int.eq_ofNat_of_zero_le h0
  have hn : n < xs.length := by omega
  unfold gI
  simp [List.getD, hn]
theorem setAt_in {α : Type} {xs : List α} {i : Int} {v : α} (h0 : 0 ≤ i) (h1 : i < xs.length) : setAt xs i v = some (xs.set i.toNat v) := by
  unfold setAt ixN
  simp [h0, h1]
/-! ### loops -/
theorem forS_inv {S α : Type} {step : S → α → Option S} (I : Nat → S → Prop) : ∀ (xs : List α) (s0 : S) (n : Nat), I n s0 → (∀ i s x, xs[i]? = some x → I (n + i) s → ∃ s', step s x = some s' ∧ I (n + i + 1) s') → ∃ s', forS step xs s0 = some s' ∧ I (n + xs.length) s'
  | [], s0, n, h0, _ => ⟨s0, rfl, h0⟩
  | x :: xs, s0, n, h0, hs => by
    obtain ⟨s1, e1, h1⟩ := hs 0 s0 x rfl h0
    obtain ⟨s2, e2, h2⟩ := forS_inv I xs s1 (n + 1) h1 fun i s y hy hi => by
      have := hs (i + 1) s y (by simpa using hy) (by rw [show n + (i + 1) = n + 1 + i by omega]; exact hi)
      rw [show n + (i + 1) + 1 = n + 1 + i + 1 by omega] at this
      exact this
    refine ⟨s2, ?_, by rw [List.length_cons, show n + (xs.length + 1) = n + 1 + xs.length by omega]; exact h2⟩
    show (step s0 x).bind _ = _
    rw [e1]
    exact e2
theorem forS_ex {S α : Type} {step : S → α → Option S} (I : Nat → S → Prop) {xs : List α} {s0 : S} (h0 : I 0 s0) (hs : ∀ i s x, xs[i]? = some x → I i s → ∃ s', step s x = some s' ∧ I (i + 1) s') : ∃ s', forS step xs s0 = some s' ∧ I xs.length s' := by
  have := forS_inv I xs s0 0 h0 fun i s x h hi => by
    rw [Nat.zero_add] at hi ⊢
    exact hs i s x h hi
  rw [Nat.zero_add] at this
  exact this
/-- every turn as a total step -/
theorem forS_fold {S α : Type} {step : S → α → Option S} (f : S → α → S) : ∀ (xs : List α) (s0 : S), (∀ s x, x ∈ xs → step s x = some (f s x)) → forS step xs s0 = some (xs.foldl f s0)
  | [], s0, _ => rfl
  | x :: xs, s0, h => by
    show (step s0 x).bind _ = _
    rw [h s0 x (List.mem_cons_self ..)]
    exact forS_fold f xs _ fun s y hy => h s y (List.mem_cons_of_mem _ hy)
/-- a for whose turns go on -/
theorem forO_ex {S α β : Type} {step : S → α → Option (O S β)} (I : Nat → S → Prop) : ∀ (xs : List α) (s0 : S) (n : Nat), I n s0 → (∀ i s x, xs[i]? = some x → I (n + i) s → ∃ s', step s x = some (.nx s') ∧ I (n + i + 1) s') → ∃ s', forO step xs s0 = some (.nx s') ∧ I (n + xs.length) s'
  | [], s0, n, h0, _ => ⟨s0, rfl, h0⟩
  | x :: xs, s0, n, h0, hs => by
    obtain ⟨s1, e1, h1⟩ := hs 0 s0 x rfl h0
    obtain ⟨s2, e2, h2⟩ := forO_ex I xs s1 (n + 1) h1 fun i s y hy hi => by
      have := hs (i + 1) s y (by simpa using hy) (by rw [show n + (i + 1) = n + 1 + i by omega]; exact hi)
      rw [show n + (i + 1) + 1 = n + 1 + i + 1 by omega] at this
      exact this
    refine ⟨s2, ?_, by rw [List.length_cons, show n + (xs.length + 1) = n + 1 + xs.length by omega]; exact h2⟩
    show (step s0 x).bind _ = _
    rw [e1]
    exact e2
theorem forO_inv {S α β : Type} {step : S → α → Option (O S β)} (I : Nat → S → Prop) {xs : List α} {s0 : S} (h0 : I 0 s0) (hs : ∀ i s x, xs[i]? = some x → I i s → ∃ s', step s x = some (.nx s') ∧ I (i + 1) s') : ∃ s', forO step xs s0 = some (.nx s') ∧ I xs.length s' := by
  have := forO_ex I xs s0 0 h0 fun i s x h hi => by
    rw [Nat.zero_add] at hi ⊢
    exact hs i s x h hi
  rw [Nat.zero_add] at this
  exact this
/-- the counter's turns -/
theorem rangeD_get? {lo hi : Int} {i : Nat} {x : Int} (h : (rangeD lo hi)[i]? = some x) : x = lo + i ∧ lo ≤ x ∧ x < hi := by
  unfold rangeD at h
  rw [List.getElem?_map] at h
  cases e : (List.range (hi - lo).toNat)[i]? with
  | none => rw [e] at h; cases h
  | some j =>
    rw [e] at h
    cases h
    obtain ⟨h1, h2⟩ := List.getElem?_eq_some_iff.mp e
    rw [List.getElem_range] at h2
    rw [List.length_range] at h1
    subst h2
    exact ⟨rfl, by show lo ≤ lo + (i : Int); omega, by show lo + (i : Int) < hi; omega⟩
theorem rangeD_length (lo hi : Int) : (rangeD lo hi).length = (hi - lo).toNat := by unfold rangeD; simp
theorem rangeD_nat (n : Nat) : rangeD 0 (n : Int) = (List.range n).map fun (i : Nat) => (i : Int) := by unfold rangeD; simp
theorem enumT_get? {α : Type} {xs : List α} {i : Nat} {p : Int × α} (h : (enumT xs)[i]? = some p) : p.1 = i ∧ xs[i]? = some p.2 := by
  unfold enumT at h
  rw [List.getElem?_map] at h
  cases e : xs.zipIdx[i]? with
  | none => rw [e] at h; cases h
  | some q =>
    rw [e] at h
    cases h
    rw [List.getElem?_zipIdx] at e
    cases e2 : xs[i]? with
    | none => rw [e2] at e; cases e
    | some y =>
      rw [e2] at e
      cases e
      exact ⟨by simp, rfl⟩
/-! ### comprehensions -/
theorem mapO_eq {α β : Type} {g : α → Option β} (f : α → β) : ∀ (xs : List α), (∀ x ∈ xs, g x = some (f x)) → mapO g xs = some (xs.map f)
  | [], _ => rfl
  | x :: xs, h => by
    show (g x).bind _ = _
    rw [h x (List.mem_cons_self ..)]
    show (mapO g xs).bind _ = _
    rw [mapO_eq f xs fun y hy => h y (List.mem_cons_of_mem _ hy)]
    rfl
theorem filO_eq {α β : Type} {g : α → Option (Option β)} (c : α → Bool) (f : α → β) : ∀ (xs : List α), (∀ x ∈ xs, g x = some (if c x = true then some (f x) else none)) → filO g xs = some ((xs.filter c).map f)
  | [], _ => rfl
  | x :: xs, h => by
    show (g x).bind _ = _
    rw [h x (List.mem_cons_self ..)]
    show (filO g xs).bind _ = _
    rw [filO_eq c f xs fun y hy => h y (List.mem_cons_of_mem _ hy)]
    rw [List.filter_cons]
    cases c x <;> rfl
/-- a row of n items made by place -/
theorem mapO_range {β : Type} {g : Int → Option β} (n : Nat) (f : Nat → β) (h : ∀ i, i < n → g (i : Int) = some (f i)) : mapO g (rangeD 0 (n : Int)) = some ((List.range n).map f) := by
  rw [rangeD_nat]
  have q : mapO g ((List.range n).map fun (i : Nat) => (i : Int)) = some (((List.range n).map fun (i : Nat) => (i : Int)).map fun (i : Int) => f i.toNat) := mapO_eq _ _ fun x hx => by
    rw [List.mem_map] at hx
    obtain ⟨i, hi, rfl⟩ := hx
    rw [List.mem_range] at hi
    rw [h i hi]
    rfl
  rw [q, List.map_map]
  rfl
/-! ### guards -/
theorem mulS {i j : Int} (h : -(2 ^ 64) < i ∧ i < 2 ^ 64) : MulOk i j := .inl (.inl h)
theorem divS {i j : Int} (h : 0 < j ∧ j < 1073741824) : DivOk i j := ⟨h.1, .inl h.2⟩
theorem rgS {i j : Int} (h : -1000000000 ≤ i ∧ i ≤ 1000000000 ∧ -1000000000 ≤ j ∧ j ≤ 1000000000 ∧ j - i ≤ 16777216) : RgO i j := h
/-! ### the drawn row -/
def law_mixed_m (script1 : (List Int)) (k1 : Int) : Option Int :=
  (set' (0 : Int) fun cell1 => Option.bind (if (decide (0 < ((script1).length : Int))) = true then (need (0 < ((script1).length : Int)) <| Option.bind (idx script1 (k1 % ((script1).length : Int))) fun x2 => set' (x2 : Int) fun cell2 => some cell2) else some cell1 : Option (Int)) fun j1 => (set' (((((j1 * 48271) + (k1 * 69621)) + 8191) % 2147483647) : Int) fun first1 => (need (Pl.MulOk first1 first1) <| set' (((((first1 * first1) + (first1 / 7)) + (k1 * 16807)) % 2147483629) : Int) fun second1 => (need (Pl.MulOk second1 second1) <| set' (((((second1 * second1) + (second1 / 11)) + 40692) % 2147483563) : Int) fun third1 => some ((third1 / 5) % 1000003)))))
def law_row_l1 (script1 : (List Int)) (s1 : ((List Int) × Int)) (x4 : Int) : Option ((List Int) × Int) :=
  Option.bind (if (decide (0 < s1.2)) = true then (need (Sz1 (s1.1).length) <| set' ((s1.1 ++ [(s1.2 % 1000)]) : (List Int)) fun row2 => (set' ((s1.2 / 1000) : Int) fun big3 => some (row2, big3))) else (Option.bind (law_mixed_m script1 x4) fun law_mi1 => need (Sz1 (s1.1).length) <| set' ((s1.1 ++ [law_mi1]) : (List Int)) fun row3 => some (row3, s1.2)) : Option ((List Int) × Int)) fun j2 => some (j2.1, j2.2)
def law_row_m (script1 : (List Int)) (many1 : Int) : Option (List Int) :=
  (set' (0 : Int) fun big1 => (Option.bind ((if (decide (0 < ((script1).length : Int))) = true then (Option.bind (idx script1 0) fun x1 => some (decide (1000000000000000000 ≤ x1))) else some false)) fun b1 => Option.bind (if b1 = true then (Option.bind (idx script1 0) fun x3 => set' (x3 : Int) fun big2 => some big2) else some big1 : Option (Int)) fun j1 => (set' (([] : (List Int)) : (List Int)) fun row1 => (need (RgO 0 many1) <| (forS (law_row_l1 script1) (rangeD 0 many1) (row1, j1)).bind fun s2 => some s2.1))))
theorem mixed_ok (ns : List Int) (k : Int) : ∃ v, law_mixed_m ns k = some v ∧ 0 ≤ v ∧ v < 1000003 := by
  unfold law_mixed_m
  simp only [set_eq]
  have key : ∀ j1 : Int, ∃ v, (need (Pl.MulOk (((j1 * 48271) + (k * 69621) + 8191) % 2147483647) (((j1 * 48271) + (k * 69621) + 8191) % 2147483647)) <| need (Pl.MulOk ((((((j1 * 48271) + (k * 69621) + 8191) % 2147483647) * (((j1 * 48271) + (k * 69621) + 8191) % 2147483647) + (((j1 * 48271) + (k * 69621) + 8191) % 2147483647) / 7) + k * 16807) % 2147483629) ((((((j1 * 48271) + (k * 69621) + 8191) % 2147483647) * (((j1 * 48271) + (k * 69621) + 8191) % 2147483647) + (((j1 * 48271) + (k * 69621) + 8191) % 2147483647) / 7) + k * 16807) % 2147483629)) <| some ((((((((((j1 * 48271) + (k * 69621) + 8191) % 2147483647) * (((j1 * 48271) + (k * 69621) + 8191) % 2147483647) + (((j1 * 48271) + (k * 69621) + 8191) % 2147483647) / 7) + k * 16807) % 2147483629) * ((((((j1 * 48271) + (k * 69621) + 8191) % 2147483647) * (((j1 * 48271) + (k * 69621) + 8191) % 2147483647) + (((j1 * 48271) + (k * 69621) + 8191) % 2147483647) / 7) + k * 16807) % 2147483629) + ((((((j1 * 48271) + (k * 69621) + 8191) % 2147483647) * (((j1 * 48271) + (k * 69621) + 8191) % 2147483647) + (((j1 * 48271) + (k * 69621) + 8191) % 2147483647) / 7) + k * 16807) % 2147483629) / 11) + 40692) % 2147483563) / 5 % 1000003)) = some v ∧ 0 ≤ v ∧ v < 1000003 := fun j1 => by
    generalize ((j1 * 48271) + (k * 69621) + 8191) = a
    have ha : 0 ≤ a % 2147483647 ∧ a % 2147483647 < 2147483647 := by omega
    generalize a % 2147483647 = b at ha ⊢
    generalize (b * b + b / 7) + k * 16807 = c
    have hc : 0 ≤ c % 2147483629 ∧ c % 2147483629 < 2147483629 := by omega
    generalize c % 2147483629 = d at hc ⊢
    rw [need_of (mulS (by omega)), need_of (mulS (by omega))]
    exact ⟨_, rfl, by omega, by omega⟩
  by_cases hl : 0 < (ns.length : Int)
  · have hk : 0 ≤ k % (ns.length : Int) := Int.emod_nonneg _ (by omega)
    have hk2 : k % (ns.length : Int) < ns.length := Int.emod_lt_of_pos _ hl
    simp only [hl, decide_true, if_true, need_of, idx_in hk hk2, Option.bind_some]
    exact key _
  · simp only [hl, decide_false, Bool.false_eq_true, if_false, Option.bind_some]
    exact key 0
/-- the row of a law: so many numbers, each below a million and three -/
theorem row_ok (ns : List Int) (m : Nat) (hm : m ≤ 100000) : ∃ row, law_row_m ns (m : Int) = some row ∧ row.length = m ∧ ∀ x ∈ row, 0 ≤ x ∧ x < 1000003 := by
  have loop : ∀ b : Int, ∃ s, forS (law_row_l1 ns) (rangeD 0 (m : Int)) (([] : List Int), b) = some s ∧ s.1.length = m ∧ ∀ x ∈ s.1, 0 ≤ x ∧ x < 1000003 := fun b => by
    have := forS_ex (step := law_row_l1 ns) (fun i (s : List Int × Int) => i ≤ m → s.1.length = i ∧ ∀ x ∈ s.1, 0 ≤ x ∧ x < 1000003) (xs := rangeD 0 (m : Int)) (s0 := (([] : List Int), b)) (fun _ => ⟨rfl, by simp⟩) fun i s x hx hi => by
      obtain ⟨hx1, hx2, hx3⟩ := rangeD_get? hx
      obtain ⟨hl, hr⟩ := hi (by omega)
      have hz : Sz1 s.1.length := by unfold Sz1; omega
      unfold law_row_l1
      simp only [set_eq, need_of hz]
      by_cases hb : 0 < s.2
      · simp only [hb, decide_true, if_true, Option.bind_some]
        refine ⟨_, rfl, fun _ => ⟨by simp [hl], fun y hy => ?_⟩⟩
        simp only [List.mem_append, List.mem_singleton] at hy
        rcases hy with hy | rfl
        · exact hr y hy
        · omega
      · obtain ⟨v, hv, h0, h1⟩ := mixed_ok ns x
        simp only [hb, decide_false, Bool.false_eq_true, if_false, hv, Option.bind_some]
        refine ⟨_, rfl, fun _ => ⟨by simp [hl], fun y hy => ?_⟩⟩
        simp only [List.mem_append, List.mem_singleton] at hy
        rcases hy with hy | rfl
        · exact hr y hy
        · exact ⟨h0, h1⟩
    obtain ⟨s, e, h⟩ := this
    have hlen : (rangeD 0 (m : Int)).length = m := by rw [rangeD_length]; omega
    rw [hlen] at h
    exact ⟨s, e, h (Nat.le_refl _)⟩
  have hrg : RgO 0 (m : Int) := rgS (by omega)
  have fin : ∀ b : Int, ∃ row, ((forS (law_row_l1 ns) (rangeD 0 (m : Int)) (([] : List Int), b)).bind fun s2 => some s2.1) = some row ∧ row.length = m ∧ ∀ x ∈ row, 0 ≤ x ∧ x < 1000003 := fun b => by
    obtain ⟨s, e, h⟩ := loop b
    rw [e]
    exact ⟨s.1, rfl, h⟩
  unfold law_row_m
  simp only [set_eq, need_of hrg]
  by_cases hl : 0 < (ns.length : Int)
  · have e0 : idx ns 0 = some (gI ns 0) := idx_in (by omega) hl
    simp only [hl, decide_true, if_true, e0, Option.bind_some]
    by_cases hb : 1000000000000000000 ≤ gI ns 0
    · simp only [hb, decide_true, if_true, Option.bind_some]
      exact fin _
    · simp only [hb, decide_false, Bool.false_eq_true, if_false, Option.bind_some]
      exact fin _
  · simp only [hl, decide_false, Bool.false_eq_true, if_false, Option.bind_some]
    exact fin _
/-! ### the common divisor -/
theorem euclid (Q : Nat → Nat → Nat → Prop) (h0 : ∀ m a, Q (m + 1) a 0) (hs : ∀ m a b, 0 < b → Q m b (a % b) → Q (m + 1) a b) : ∀ n m a b : Nat, b < 2 ^ n → 2 * n + 1 ≤ m → Q m a b := by
  intro n
  induction n with
  | zero =>
    intro m a b hb hm
    obtain ⟨k, rfl⟩ : ∃ k, m = k + 1 := ⟨m - 1, by omega⟩
    have : b = 0 := by simp at hb; exact hb
    subst this
    exact h0 k a
  | succ n ih =>
    intro m a b hb hm
    obtain ⟨k, rfl⟩ : ∃ k, m = k + 1 := ⟨m - 1, by omega⟩
    rcases Nat.eq_zero_or_pos b with rfl | hp
    · exact h0 k a
    · refine hs k a b hp ?_
      obtain ⟨j, rfl⟩ : ∃ j, k = j + 1 := ⟨k - 1, by omega⟩
      rcases Nat.eq_zero_or_pos (a % b) with hz | hq
      · rw [hz]; exact h0 j b
      · refine hs j b _ hq (ih j _ _ ?_ (by omega))
        have h1 : a % b < b := Nat.mod_lt _ hp
        generalize a % b = r at h1 hq ⊢
        have h2 : b % r < r := Nat.mod_lt _ hq
        have h3 : b = r * (b / r) + b % r := (Nat.div_add_mod b r).symm
        have h4 : 1 ≤ b / r := Nat.div_pos (by omega) hq
        have h5 : r ≤ r * (b / r) := Nat.le_mul_of_pos_right r h4
        rw [Nat.pow_succ] at hb
        omega
def divisor_c1  (s1 : (Int × Int)) : Option Bool :=
  some (decide (0 < s1.2))
def divisor_b2  (s1 : (Int × Int)) : Option (Int × Int) :=
  (need (0 < s1.2) <| set' (s1.2 : Int) fun first3 => set' ((s1.1 % s1.2) : Int) fun second3 => some (first3, second3))
def divisor_m (first1 : Int) (second1 : Int) : Option Int :=
  (set' ((if first1 < 0 then -first1 else first1) : Int) fun first2 => set' ((if second1 < 0 then -second1 else second1) : Int) fun second2 => (whileS (divisor_c1) (divisor_b2) 1000000 (first2, second2)).bind fun s2 => some s2.1)
def lowest_m (a1 : Int) (b1 : Int) : Option (Int × Int) :=
  (Option.bind ((if (decide (0 < b1)) = true then (Option.bind (divisor_m a1 b1) fun diviso3 => some diviso3) else (Option.bind (divisor_m a1 b1) fun diviso4 => some (-diviso4)))) fun c1 => set' (c1 : Int) fun common1 => (need (DivOk a1 common1) <| need (DivOk b1 common1) <| some ((a1 / common1), (b1 / common1))))
theorem divisor_loop (n m a b : Nat) (hb : b < 2 ^ n) (hm : 2 * n + 1 ≤ m) : whileS divisor_c1 divisor_b2 m ((a : Int), (b : Int)) = some (((Nat.gcd a b : Nat) : Int), 0) := by
  refine euclid (fun m a b => whileS divisor_c1 divisor_b2 m ((a : Int), (b : Int)) = some (((Nat.gcd a b : Nat) : Int), 0)) (fun m a => ?_) (fun m a b hp ih => ?_) n m a b hb hm
  · show (divisor_c1 ((a : Int), ((0 : Nat) : Int))).bind _ = _
    simp [divisor_c1]
  · show (divisor_c1 ((a : Int), (b : Int))).bind _ = _
    have hb : (0 : Int) < (b : Int) := by omega
    have e : divisor_b2 ((a : Int), (b : Int)) = some ((b : Int), ((a % b : Nat) : Int)) := by
      unfold divisor_b2
      simp only [set_eq, need_of hb]
      rw [Int.natCast_emod]
    simp only [divisor_c1, hb, decide_true, Option.bind_some, if_true]
    rw [e]
    show whileS divisor_c1 divisor_b2 m ((b : Int), ((a % b : Nat) : Int)) = _
    rw [ih, Nat.gcd_comm b, ← Nat.gcd_rec, Nat.gcd_comm]
theorem divisor_ok (a b : Nat) (hb : b < 2 ^ 400000) : divisor_m (a : Int) (b : Int) = some ((Nat.gcd a b : Nat) : Int) := by
  unfold divisor_m
  have h1 : (if (a : Int) < 0 then -(a : Int) else (a : Int)) = a := if_neg (by omega)
  have h2 : (if (b : Int) < 0 then -(b : Int) else (b : Int)) = b := if_neg (by omega)
  simp only [set_eq, h1, h2]
  rw [divisor_loop 400000 1000000 a b hb (by omega)]
  rfl
theorem lowest_ok (a b : Nat) (h : 0 < b) (hb : b < 2 ^ 8999) : lowest_m (a : Int) (b : Int) = some (((a / Nat.gcd a b : Nat) : Int), ((b / Nat.gcd a b : Nat) : Int)) := by
  unfold lowest_m
  have h0 : (0 : Int) < (b : Int) := by omega
  have hg : 0 < Nat.gcd a b := Nat.gcd_pos_of_pos_right _ h
  have hl : Nat.gcd a b ≤ b := Nat.gcd_le_right _ h
  have hd : ∀ i : Int, DivOk i ((Nat.gcd a b : Nat) : Int) := fun i => ⟨by omega, .inr (by
    rw [Int.natAbs_natCast, Nat.log2_lt (by omega)]
    exact Nat.lt_of_le_of_lt hl (Nat.lt_of_lt_of_le hb (Nat.pow_le_pow_right (by decide) (by decide))))⟩
  simp only [h0, decide_true, if_true, Option.bind_some]
  rw [divisor_ok a b (Nat.lt_of_lt_of_le hb (Nat.pow_le_pow_right (by decide) (by decide)))]
  simp only [Option.bind_some, set_eq, need_of (hd _)]
  rw [Int.natCast_ediv, Int.natCast_ediv]
def law_common_l1  (s1 : (Int × Int)) (x1 : Int) : Option (O (Int × Int) Int) :=
  if (decide (s1.2 = 0)) = true then some (O.bk (s1.1, s1.2)) else (need (0 < s1.2) <| set' (s1.2 : Int) fun first2 => set' ((s1.1 % s1.2) : Int) fun second2 => some (O.nx (first2, second2)))
def law_common_m (first1 : Int) (second1 : Int) : Option Int :=
  (need (RgO 0 900) <| (forO (law_common_l1) (rangeD 0 900) (first1, second1)).bind fun o1 => O.then o1 (fun s2 => some s2.1) (fun b => some b))
theorem common_loop (n : Nat) (a b : Nat) (hb : b < 2 ^ n) : ∀ xs : List Int, 2 * n + 1 ≤ xs.length → forO law_common_l1 xs ((a : Int), (b : Int)) = some (.nx (((Nat.gcd a b : Nat) : Int), 0)) := by
  intro xs hx
  refine euclid (fun m a b => ∀ xs : List Int, xs.length = m → forO law_common_l1 xs ((a : Int), (b : Int)) = some (.nx (((Nat.gcd a b : Nat) : Int), 0))) (fun m a => ?_) (fun m a b hp ih => ?_) n xs.length a b hb hx xs rfl
  · intro xs h
    cases xs with
    | nil => cases h
    | cons x xs =>
      show (law_common_l1 ((a : Int), ((0 : Nat) : Int)) x).bind _ = _
      simp [law_common_l1]
  · intro xs h
    cases xs with
    | nil => cases h
    | cons x xs =>
      have hb : (0 : Int) < (b : Int) := by omega
      have hz : ¬ ((b : Int) = 0) := by omega
      have e : law_common_l1 ((a : Int), (b : Int)) x = some (.nx ((b : Int), ((a % b : Nat) : Int))) := by
        unfold law_common_l1
        simp only [hz, decide_false, Bool.false_eq_true, if_false, set_eq, need_of hb]
        rw [Int.natCast_emod]
      show (law_common_l1 ((a : Int), (b : Int)) x).bind _ = _
      rw [e]
      show forO law_common_l1 xs ((b : Int), ((a % b : Nat) : Int)) = _
      rw [ih xs (Nat.succ.inj h), Nat.gcd_comm b, ← Nat.gcd_rec, Nat.gcd_comm]
theorem common_ok (a b : Nat) (hb : b < 2 ^ 440) : law_common_m (a : Int) (b : Int) = some ((Nat.gcd a b : Nat) : Int) := by
  unfold law_common_m
  rw [need_of (rgS (by omega)), common_loop 440 a b hb _ (by rw [rangeD_length]; decide)]
  rfl
/-! ### places -/
/-- the places below n of which c holds -/
def pl (n : Nat) (c : Nat → Bool) : List Int := ((List.range n).filter c).map fun (i : Nat) => (i : Int)
theorem pl_zero (c : Nat → Bool) : pl 0 c = [] := rfl
theorem pl_succ (n : Nat) (c : Nat → Bool) : pl (n + 1) c = pl n c ++ (if c n = true then [(n : Int)] else []) := by
  unfold pl
  rw [List.range_succ, List.filter_append, List.map_append]
  cases h : c n <;> simp [h]
theorem pl_mem {n : Nat} {c : Nat → Bool} {x : Int} (h : x ∈ pl n c) : ∃ i : Nat, x = i ∧ i < n ∧ c i = true := by
  unfold pl at h
  simp only [List.mem_map, List.mem_filter, List.mem_range] at h
  obtain ⟨i, ⟨h1, h2⟩, rfl⟩ := h
  exact ⟨i, rfl, h1, h2⟩
theorem mem_pl {n : Nat} {c : Nat → Bool} {i : Nat} : (i : Int) ∈ pl n c ↔ i < n ∧ c i = true := by
  unfold pl
  simp only [List.mem_map, List.mem_filter, List.mem_range]
  constructor
  · rintro ⟨j, ⟨h1, h2⟩, h3⟩
    have : j = i := by omega
    subst this
    exact ⟨h1, h2⟩
  · rintro ⟨h1, h2⟩
    exact ⟨i, ⟨h1, h2⟩, rfl⟩
theorem pl_congr {n : Nat} {c d : Nat → Bool} (h : ∀ i, i < n → c i = d i) : pl n c = pl n d := by
  unfold pl
  congr 1
  refine List.filter_congr fun i hi => h i (List.mem_range.mp hi)
theorem pl_filter (n : Nat) (c : Nat → Bool) (d : Int → Bool) : (pl n c).filter d = pl n fun i => c i && d (i : Int) := by
  unfold pl
  rw [List.filter_map, List.filter_filter]
  congr 1
  refine List.filter_congr fun i _ => ?_
  show (d (i : Int) && c i) = (c i && d (i : Int))
  rw [Bool.and_comm]
theorem pl_len_succ (n : Nat) (c : Nat → Bool) : ((pl (n + 1) c).length : Int) = (pl n c).length + (if c n = true then 1 else 0) := by
  rw [pl_succ]
  cases h : c n <;> simp [h]
theorem pl_le (n : Nat) (c : Nat → Bool) : (pl n c).length ≤ n := by
  unfold pl
  rw [List.length_map]
  exact Nat.le_trans (List.length_filter_le _ _) (by simp)
theorem range_fil (n : Nat) (d : Int → Bool) : (rangeD 0 (n : Int)).filter d = pl n fun i => d (i : Int) := by
  rw [rangeD_nat]
  unfold pl
  rw [List.filter_map]
  rfl
theorem enumT_range {α : Type} [Inhabited α] (xs : List α) : enumT xs = (List.range xs.length).map fun (i : Nat) => ((i : Int), gI xs (i : Int)) := by
  refine List.ext_getElem? fun i => ?_
  unfold enumT
  rw [List.getElem?_map, List.getElem?_map, List.getElem?_zipIdx]
  by_cases h : i < xs.length
  · simp [h, gI, List.getD]
  · simp [h]
/-- the places of the items of which c holds -/
theorem enum_fil {α : Type} [Inhabited α] (xs : List α) (c : Int × α → Bool) : ((enumT xs).filter c).map (fun z => z.1) = pl xs.length fun i => c ((i : Int), gI xs (i : Int)) := by
  rw [enumT_range, List.filter_map, List.map_map]
  rfl
theorem repL_if (x : Int) (b : Bool) : repL [x] (if b = true then 1 else 0) = if b = true then [x] else [] := by
  cases b <;> rfl
theorem repOk_if (l : Nat) (b : Bool) (h : l ≤ 1000) : RepOk l (if b = true then 1 else 0) := by
  unfold RepOk
  cases b <;> simp <;> omega
theorem gI_map {α β : Type} [Inhabited α] [Inhabited β] (f : α → β) (xs : List α) {i : Nat} (h : i < xs.length) : gI (xs.map f) (i : Int) = f (gI xs (i : Int)) := by
  unfold gI
  simp [List.getD, h]
theorem gI_range {β : Type} [Inhabited β] (f : Nat → β) (n : Nat) {i : Nat} (h : i < n) : gI ((List.range n).map f) (i : Int) = f i := by
  unfold gI
  simp [List.getD, h]
theorem idx_n {α : Type} [Inhabited α] {xs : List α} {i : Nat} (h : i < xs.length) : idx xs (i : Int) = some (gI xs (i : Int)) := idx_in (by omega) (by omega)
theorem map_range_gI {α : Type} [Inhabited α] (xs : List α) : (List.range xs.length).map (fun (i : Nat) => gI xs (i : Int)) = xs := by
  refine List.ext_getElem? fun i => ?_
  rw [List.getElem?_map]
  by_cases h : i < xs.length
  · simp [h, gI, List.getD]
  · simp [h]
theorem map_succ {β : Type} (f : Nat → β) (n : Nat) : (List.range (n + 1)).map f = (List.range n).map f ++ [f n] := by
  rw [List.range_succ, List.map_append]
  rfl
/-- the items of a row in a map's range -/
theorem forall_map_range {β : Type} {P : β → Prop} {f : Nat → β} {n : Nat} (h : ∀ i, i < n → P (f i)) : ∀ x ∈ (List.range n).map f, P x := fun x hx => by
  rw [List.mem_map] at hx
  obtain ⟨i, hi, rfl⟩ := hx
  exact h i (List.mem_range.mp hi)
/-! ### sizes -/
/-- below 2 ^ b either way -/
def Sm (b : Nat) (x : Int) : Prop := x.natAbs < 2 ^ b
theorem Sm.mul {a b : Nat} {x y : Int} (hx : Sm a x) (hy : Sm b y) : Sm (a + b) (x * y) := by
  unfold Sm at *
  rw [Int.natAbs_mul, Nat.pow_add]
  exact Nat.mul_lt_mul'' hx hy
theorem Sm.up {a b : Nat} {x : Int} (hx : Sm a x) (h : a ≤ b) : Sm b x := Nat.lt_of_lt_of_le hx (Nat.pow_le_pow_right (by decide) h)
theorem Sm.nat {a n : Nat} (h : n < 2 ^ a) : Sm a (n : Int) := by unfold Sm; rw [Int.natAbs_natCast]; exact h
theorem log2_le {n b : Nat} (h : n < 2 ^ b) : n.log2 ≤ b := by
  rcases Nat.eq_zero_or_pos n with rfl | hp
  · simp
  · exact Nat.le_of_lt ((Nat.log2_lt (by omega)).mpr h)
theorem mulSm {a b : Nat} {x y : Int} (hx : Sm a x) (hy : Sm b y) (h : a + b < 1000000) : Pl.MulOk x y := .inr (by
  show x.natAbs.log2 + y.natAbs.log2 < 1000000
  have := log2_le hx
  have := log2_le hy
  omega)
theorem cmulSm {x y : Int} (hy : -(2 ^ 64) < y ∧ y < 2 ^ 64) : CMul x y := .inr hy
theorem divSm {x y : Int} (h0 : 0 < y) (hy : Sm 8999 y) : DivOk x y := ⟨h0, .inr (by have := log2_le hy; omega)⟩
/-! ### reduced ratios -/
def redN (a b : Nat) : Int × Int := (((a / Nat.gcd a b : Nat) : Int), ((b / Nat.gcd a b : Nat) : Int))
/-- equal ratios have one reduced form -/
theorem redN_eq {a b c d : Nat} (hb : 0 < b) (hd : 0 < d) (h : a * d = c * b) : redN a b = redN c d := by
  have g1 : 0 < Nat.gcd a b := Nat.gcd_pos_of_pos_right _ hb
  have g2 : 0 < Nat.gcd c d := Nat.gcd_pos_of_pos_right _ hd
  have e1 : Nat.gcd a b * d = Nat.gcd c d * b := by
    have h1 : Nat.gcd a b * d = Nat.gcd (a * d) (b * d) := (Nat.gcd_mul_right a d b).symm
    have h2 : Nat.gcd c d * b = Nat.gcd (c * b) (d * b) := (Nat.gcd_mul_right c b d).symm
    rw [h1, h2, h, Nat.mul_comm b d]
  have e2 : b / Nat.gcd a b = d / Nat.gcd c d := by
    refine Nat.div_eq_of_eq_mul_right g1 ?_
    obtain ⟨q, hq⟩ := Nat.gcd_dvd_right c d
    have hq2 : d / Nat.gcd c d = q := Nat.div_eq_of_eq_mul_right g2 hq
    rw [hq2]
    refine Nat.eq_of_mul_eq_mul_left g2 ?_
    rw [← e1]
    calc Nat.gcd a b * d = Nat.gcd a b * (Nat.gcd c d * q) := by rw [← hq]
      _ = Nat.gcd c d * (Nat.gcd a b * q) := by rw [Nat.mul_left_comm]
  have e3 : a / Nat.gcd a b = c / Nat.gcd c d := by
    refine Nat.div_eq_of_eq_mul_right g1 ?_
    obtain ⟨q, hq⟩ := Nat.gcd_dvd_left c d
    have hq2 : c / Nat.gcd c d = q := Nat.div_eq_of_eq_mul_right g2 hq
    rw [hq2]
    refine Nat.eq_of_mul_eq_mul_right hd ?_
    rw [h]
    calc c * b = (Nat.gcd c d * q) * b := by rw [← hq]
      _ = q * (Nat.gcd c d * b) := by rw [Nat.mul_comm (Nat.gcd c d) q, Nat.mul_assoc]
      _ = q * (Nat.gcd a b * d) := by rw [e1]
      _ = Nat.gcd a b * q * d := by rw [Nat.mul_comm (Nat.gcd a b) q, Nat.mul_assoc]
  unfold redN
  rw [e2, e3]
theorem lowest_red (a b : Nat) (h : 0 < b) (hb : b < 2 ^ 8999) : lowest_m (a : Int) (b : Int) = some (redN a b) := lowest_ok a b h hb
/-- the parts of a reduced ratio -/
theorem redN_spec (a b : Nat) (hb : 0 < b) : ∃ p q : Nat, redN a b = ((p : Int), (q : Int)) ∧ 0 < q ∧ p * b = a * q ∧ p ≤ a ∧ q ≤ b := by
  have g1 : 0 < Nat.gcd a b := Nat.gcd_pos_of_pos_right _ hb
  refine ⟨_, _, rfl, Nat.div_pos (Nat.gcd_le_right _ hb) g1, ?_, Nat.div_le_self _ _, Nat.div_le_self _ _⟩
  obtain ⟨p, hp⟩ := Nat.gcd_dvd_left a b
  obtain ⟨q, hq⟩ := Nat.gcd_dvd_right a b
  have e1 : a / Nat.gcd a b = p := Nat.div_eq_of_eq_mul_right g1 hp
  have e2 : b / Nat.gcd a b = q := Nat.div_eq_of_eq_mul_right g1 hq
  rw [e1, e2]
  calc p * b = p * (Nat.gcd a b * q) := by rw [← hq]
    _ = Nat.gcd a b * p * q := by rw [Nat.mul_left_comm, Nat.mul_assoc]
    _ = a * q := by rw [← hp]
/-! ### rows by place -/
def rowF {β : Type} (n : Nat) (g : Nat → β) : List β := (List.range n).map g
theorem rowF_len {β : Type} (n : Nat) (g : Nat → β) : (rowF n g).length = n := by unfold rowF; simp
theorem rowF_get {β : Type} (n : Nat) (g : Nat → β) (i : Nat) : (rowF n g)[i]? = if i < n then some (g i) else none := by
  unfold rowF
  rw [List.getElem?_map]
  by_cases h : i < n <;> simp [h]
theorem rowF_idx {β : Type} {n : Nat} {g : Nat → β} {i : Nat} (h : i < n) : idx (rowF n g) (i : Int) = some (g i) := by
  rw [idx_nat', rowF_get, if_pos h]
theorem rowF_ext {β : Type} {n : Nat} {g : Nat → β} {xs : List β} (hl : xs.length = n) (h : ∀ i, i < n → xs[i]? = some (g i)) : xs = rowF n g := by
  refine List.ext_getElem? fun i => ?_
  rw [rowF_get]
  by_cases c : i < n
  · rw [if_pos c, h i c]
  · rw [if_neg c, List.getElem?_eq_none (by omega)]
theorem rowF_congr {β : Type} {n : Nat} {g h : Nat → β} (e : ∀ i, i < n → g i = h i) : rowF n g = rowF n h := List.map_congr_left fun i hi => e i (List.mem_range.mp hi)
theorem rowF_set {β : Type} {n : Nat} {g : Nat → β} {i : Nat} {v : β} (h : i < n) : setAt (rowF n g) (i : Int) v = some (rowF n fun j => if j = i then v else g j) := by
  rw [setAt_in (by omega) (by rw [rowF_len]; omega)]
  refine congrArg some (rowF_ext (by rw [List.length_set, rowF_len]) fun j hj => ?_)
  rw [List.getElem?_set, rowF_len, rowF_get, if_pos hj]
  by_cases c : i = j
  · subst c; simp [hj]
  · have c' : ¬ j = i := fun z => c z.symm
    simp [c, c']
theorem rowF_last {β : Type} {n : Nat} {g : Nat → β} : idx (rowF (n + 1) g) (-1) = some (g n) := by
  unfold idx atI ixN
  rw [rowF_len]
  have h1 : ¬ (0 : Int) ≤ -1 := by omega
  have h2 : -((n + 1 : Nat) : Int) ≤ -1 := by omega
  have h3 : ((-1 : Int) + ((n + 1 : Nat) : Int)).toNat = n := by omega
  rw [if_neg h1, if_pos h2]
  show (rowF (n + 1) g)[((-1 : Int) + ((n + 1 : Nat) : Int)).toNat]? = _
  rw [h3, rowF_get, if_pos (by omega)]
theorem rowF_snoc {β : Type} (n : Nat) (g : Nat → β) : rowF (n + 1) g = rowF n g ++ [g n] := by
  unfold rowF
  rw [List.range_succ, List.map_append]
  rfl
theorem rowF_map {β γ : Type} (n : Nat) (g : Nat → β) (f : β → γ) : (rowF n g).map f = rowF n fun j => f (g j) := by
  unfold rowF
  rw [List.map_map]
  rfl
theorem rowF_rep (n : Nat) (x : Int) : repL [x] (n : Int) = rowF n fun _ => x := by
  refine rowF_ext ?_ fun i hi => ?_
  · unfold repL
    rw [rep_length]
    simp
  · unfold repL
    have : (List.replicate (Int.toNat (n : Int)) [x]).flatten = List.replicate n x := by
      rw [Int.toNat_natCast]
      induction n with
      | zero => rfl
      | succ n ih =>
        rw [List.replicate_succ, List.flatten_cons]
        rcases Nat.eq_zero_or_pos n with h0 | h0
        · subst h0; rfl
        · have : (List.replicate n [x]).flatten = List.replicate n x := by
            clear ih hi
            induction n with
            | zero => rfl
            | succ n ih2 =>
              rw [List.replicate_succ, List.flatten_cons, List.replicate_succ]
              rcases Nat.eq_zero_or_pos n with h1 | h1
              · subst h1; rfl
              · rw [ih2 h1]; rfl
          rw [this, List.replicate_succ]
          rfl
    rw [this]
    simp [hi]
theorem enumT_rowF {β : Type} (n : Nat) (g : Nat → β) : enumT (rowF n g) = rowF n fun j => ((j : Int), g j) := by
  refine rowF_ext (by rw [enumT_len, rowF_len]) fun i hi => ?_
  unfold enumT
  rw [List.getElem?_map, List.getElem?_zipIdx, rowF_get, if_pos hi]
  simp
theorem Sm.pow {a : Nat} {x : Int} (h : Sm a x) : ∀ n : Nat, Sm (a * n + 1) (x ^ n)
  | 0 => by unfold Sm; simp
  | n + 1 => by
    rw [Int.pow_succ]
    exact (Sm.mul (Sm.pow h n) h).up (by rw [Nat.mul_succ]; omega)
end
end Pl
/-! Pl, part N: is True, is False. -/
namespace Pl
open PySem PySem.Spec PyProof.Rows L2
section
variable {G : Gb} {C : SC} {k : Nat}
theorem ok_isB {x y : Bool} : OpOk G C k (compareOp .Is) (eB x) (eB y) (.bool (decide (x = y))) := fun X hX => op_imp op_isBl fun v u H Q ⟨F, sF, rx, ry, q⟩ => ⟨x, y, rx.bool, ry.bool, q _ F H (Ext.refl sF) (.bl _)⟩
theorem ok_isnotB {x y : Bool} : OpOk G C k (compareOp .IsNot) (eB x) (eB y) (.bool (!decide (x = y))) := fun X hX => op_imp op_notBl fun v u H Q ⟨F, sF, rx, ry, q⟩ => ⟨x, y, rx.bool, ry.bool, q _ F H (Ext.refl sF) (.bl _)⟩
theorem ok_isTr (x : Bool) : OpOk G C k (compareOp .Is) (eB x) (eB true) (.bool x) := by
  have h := ok_isB (G := G) (C := C) (k := k) (x := x) (y := true)
  rw [show decide (x = true) = x by cases x <;> rfl] at h
  exact h
theorem ok_isFa (x : Bool) : OpOk G C k (compareOp .Is) (eB x) (eB false) (.bool (!x)) := by
  have h := ok_isB (G := G) (C := C) (k := k) (x := x) (y := false)
  rw [show decide (x = false) = !x by cases x <;> rfl] at h
  exact h
theorem ok_isntTr (x : Bool) : OpOk G C k (compareOp .IsNot) (eB x) (eB true) (.bool (!x)) := by
  have h := ok_isnotB (G := G) (C := C) (k := k) (x := x) (y := true)
  rw [show decide (x = true) = x by cases x <;> rfl] at h
  exact h
theorem ok_isntFa (x : Bool) : OpOk G C k (compareOp .IsNot) (eB x) (eB false) (.bool x) := by
  have h := ok_isnotB (G := G) (C := C) (k := k) (x := x) (y := false)
  rw [show decide (x = false) = !x by cases x <;> rfl] at h
  rw [Bool.not_not] at h
  exact h
end
end Pl
/-! Pl, part R: plain laws: inverses, counts, order, bits, rows of bits, drawn orders. -/
namespace Pl
open PySem PySem.Spec PyProof.Rows L2
noncomputable section
/-! ### inverses -/
theorem bez (a b : Nat) : ∃ x y : Int, (a : Int) * x + (b : Int) * y = ((Nat.gcd a b : Nat) : Int) := by
  induction a, b using Nat.gcd.induction with
  | H0 n => exact ⟨0, 1, by simp⟩
  | H1 m n hm ih =>
    obtain ⟨x, y, h⟩ := ih
    refine ⟨y - (n / m : Nat) * x, x, ?_⟩
    rw [Nat.gcd_rec m n, ← h]
    have e : (n : Int) = (m : Int) * ((n / m : Nat) : Int) + ((n % m : Nat) : Int) := by
      have := Nat.div_add_mod n m
      omega
    generalize ((n / m : Nat) : Int) = q at e ⊢
    generalize ((n % m : Nat) : Int) = r at e ⊢
    rw [e]
    grind
theorem inv_ex {a n : Nat} (h : Nat.gcd a n = 1) (hn : 1 < n) : ∃ x, x < n ∧ a * x % n = 1 := by
  obtain ⟨x, y, e⟩ := bez a n
  rw [h] at e
  refine ⟨(x % n).toNat, by have := Int.emod_lt_of_pos x (show (0 : Int) < n by omega); have := Int.emod_nonneg x (show (n : Int) ≠ 0 by omega); omega, ?_⟩
  have h0 := Int.emod_nonneg x (show (n : Int) ≠ 0 by omega)
  have e2 : ((a * (x % n).toNat % n : Nat) : Int) = 1 := by
    rw [Int.natCast_emod, Int.natCast_mul, Int.toNat_of_nonneg h0, Int.mul_emod, Int.emod_emod_of_dvd _ (Int.dvd_refl _), ← Int.mul_emod]
    rw [show (a : Int) * x = 1 - n * y by omega, Int.sub_emod, Int.mul_emod_right]
    simp only [Int.sub_zero, Int.emod_emod_of_dvd _ (Int.dvd_refl _)]
    exact Int.emod_eq_of_lt (by omega) (by omega)
  omega
/-! ### counts -/
theorem sum_zero : ∀ l : List Nat, (l.map fun _ => 0).sum = 0
  | [] => rfl
  | _ :: l => by rw [List.map_cons, List.sum_cons, sum_zero l]
theorem sum_count {α : Type} (f : α → Nat) (n : Nat) : ∀ L : List α, (∀ x ∈ L, f x < n) → ((List.range n).map fun t => (L.filter fun x => f x == t).length).sum = L.length
  | [], _ => by
    simp only [List.filter_nil, List.length_nil]
    exact sum_zero _
  | x :: L, h => by
    have ih := sum_count f n L fun y hy => h y (List.mem_cons_of_mem _ hy)
    have hx := h x (List.mem_cons_self ..)
    have e : ∀ t, ((x :: L).filter fun y => f y == t).length = (if t = f x then 1 else 0) + (L.filter fun y => f y == t).length := fun t => by
      rw [List.filter_cons]
      by_cases c : f x = t
      · subst c; simp; omega
      · have c' : ¬ t = f x := fun z => c z.symm
        simp [c, c']
    simp only [e]
    have s : ∀ (g h : Nat → Nat) (l : List Nat), (l.map fun t => g t + h t).sum = (l.map g).sum + (l.map h).sum := fun g h l => by
      induction l with
      | nil => rfl
      | cons a l ih => simp only [List.map_cons, List.sum_cons, ih]; omega
    rw [s, ih]
    have z : ∀ n, f x < n → ((List.range n).map fun t => if t = f x then 1 else 0).sum = 1 := fun n => by
      induction n with
      | zero => intro h; omega
      | succ n ih2 =>
        intro hl
        rw [List.range_succ, List.map_append, List.sum_append]
        by_cases c : n = f x
        · have : ((List.range n).map fun t => if t = f x then 1 else 0).sum = 0 := by
            have : (List.range n).map (fun t => if t = f x then 1 else 0) = (List.range n).map fun _ => 0 := List.map_congr_left fun t ht => if_neg (by have := List.mem_range.mp ht; omega)
            rw [this]
            exact sum_zero _
          rw [this]; simp [c]
        · rw [ih2 (by omega)]; simp [c]
    rw [z n hx]
    simp; omega
/-! ### order by type -/
theorem lex_more (t : List PyProof.Rows.itemOrd.α) (a : PyProof.Rows.itemOrd.α) : PyProof.Rows.lexLt PyProof.Rows.itemOrd t (t ++ [a]) = true := by
  induction t with
  | nil => rfl
  | cons x t ih => rw [List.cons_append, lex_self]; exact ih
section
variable {α : Type} {e : α → PyData} {n m : Nat}
theorem ltT_irr (x : α) : ltT e x x = false := lex_irrefl _
theorem ltT_tr {x y z : α} (h1 : ltT e x y = true) (h2 : ltT e y z = true) : ltT e x z = true := lex_trans _ _ _ h1 h2
theorem ltT_asym {x y : α} (h1 : ltT e x y = true) : ltT e y x = false := by
  cases h : ltT e y x with
  | false => rfl
  | true =>
    have := ltT_tr h1 h
    rw [ltT_irr] at this
    cases this
variable [DecidableEq α]
theorem ltT_tri (ho : OrdT e n) (he : EqT e m) {x y : α} (h1 : ltT e x y = false) (h2 : ltT e y x = false) : x = y := by
  have t : PySem.W.keyToks (e x) = PySem.W.keyToks (e y) := lex_total _ _ h1 h2
  by_cases c : x = y
  · exact c
  · have q : PyData.eqv (e x) (e y) = false := by rw [he.eq]; exact decide_eq_false c
    have := (PySem.W.toks_eqv (e x) (e y) (ho.al x y)).2 q [] [.inl 0]
    rw [← t, List.append_nil, lex_more, lex_irrefl] at this
    cases this
theorem sortT_sorted (xs : List α) : (sortT e xs).Pairwise fun a b => ltT e b a = false := by
  have h := List.pairwise_mergeSort (le := fun a b => !ltT e b a) (fun a b c h1 h2 => by
    simp only [Bool.not_eq_true'] at *
    cases h : ltT e c a with
    | false => rfl
    | true =>
      rcases lex_negTrans _ (PySem.W.keyToks (e b)) _ h with q | q
      · rw [show PyProof.Rows.lexLt PyProof.Rows.itemOrd (PySem.W.keyToks (e c)) (PySem.W.keyToks (e b)) = false from h2] at q; cases q
      · rw [show PyProof.Rows.lexLt PyProof.Rows.itemOrd (PySem.W.keyToks (e b)) (PySem.W.keyToks (e a)) = false from h1] at q; cases q) (fun a b => by
    cases h : ltT e b a with
    | false => rfl
    | true => rw [ltT_asym h]; rfl) xs
  exact h.imp fun {a b} q => by simpa using q
/-- the sorted row is the only sorted one with these items -/
theorem sortT_uniq (ho : OrdT e n) (he : EqT e m) {xs ys : List α} (p : xs.Perm ys) (s : ys.Pairwise fun a b => ltT e b a = false) : sortT e xs = ys :=
  List.Perm.eq_of_pairwise (fun a b _ _ h1 h2 => ltT_tri ho he h2 h1) (sortT_sorted xs) s ((sortT_perm e xs).trans p)
theorem sortT_congr (ho : OrdT e n) (he : EqT e m) {xs ys : List α} (p : xs.Perm ys) : sortT e xs = sortT e ys := sortT_uniq ho he (p.trans (sortT_perm e ys).symm) (sortT_sorted ys)
theorem sortT_mem {xs : List α} {x : α} : x ∈ sortT e xs ↔ x ∈ xs := (sortT_perm e xs).mem_iff
/-- of two rows: sorted alike just if they have the same items as often -/
theorem sortT_eq_iff (ho : OrdT e n) (he : EqT e m) {xs ys : List α} : sortT e xs = sortT e ys ↔ xs.Perm ys := ⟨fun h => (sortT_perm e xs).symm.trans (h ▸ sortT_perm e ys), fun p => sortT_congr ho he p⟩
theorem sortT_strict (ho : OrdT e n) (he : EqT e m) {xs ys : List α} (p : xs.Perm ys) (s : ys.Pairwise fun a b => ltT e a b = true) : sortT e xs = ys := sortT_uniq ho he p (s.imp fun {a b} h => ltT_asym h)
end
theorem or_tI : OrdT (eT eI) 1 := or_t or_I
theorem eq_tI : EqT (eT eI) 1 := eq_t eq_I
theorem ltT_tI (x y : List Int) : ltT (eT eI) x y = decide (x < y) := by
  show PySem.W.dataLt (.tuple (x.map .int)) (.tuple (y.map .int)) = _
  rw [PySem.W.dataLt_tuple]
  exact PySem.W.dataLt_ints x y
/-- sorted whole numbers -/
theorem sortI_uniq {xs ys : List Int} (p : xs.Perm ys) (s : ys.Pairwise (· ≤ ·)) : sortT eI xs = ys := sortT_uniq or_I eq_I p (s.imp fun {a b} h => by rw [ltT_I]; exact decide_eq_false (by omega))
theorem sortI_sorted (xs : List Int) : (sortT eI xs).Pairwise (· ≤ ·) := (sortT_sorted (e := eI) xs).imp fun {a b} h => by rw [ltT_I] at h; have := of_decide_eq_false h; omega
theorem nodup_perm {α : Type} {xs ys : List α} (h1 : xs.Nodup) (h2 : ys.Nodup) (h : ∀ a, a ∈ xs ↔ a ∈ ys) : xs.Perm ys := (List.perm_ext_iff_of_nodup h1 h2).mpr h
/-! ### the law's common divisor, 60 turns -/
def law_gcd_l1  (s1 : (Int × Int)) (x1 : Int) : Option (O (Int × Int) Int) :=
  if (decide (s1.2 = 0)) = true then some (O.rt s1.1) else (need (0 < s1.2) <| set' (s1.2 : Int) fun one2 => set' ((s1.1 % s1.2) : Int) fun other2 => some (O.nx (one2, other2)))
def law_gcd_m (one1 : Int) (other1 : Int) : Option Int :=
  (need (RgO 0 60) <| (forO (law_gcd_l1) (rangeD 0 60) (one1, other1)).bind fun o1 => O.then o1 (fun s2 => some s2.1) (fun b => some b))
theorem gcd_loop (n : Nat) (a b : Nat) (hb : b < 2 ^ n) : ∀ xs : List Int, 2 * n + 1 ≤ xs.length → forO law_gcd_l1 xs ((a : Int), (b : Int)) = some (.rt ((Nat.gcd a b : Nat) : Int)) := by
  intro xs hx
  refine euclid (fun m a b => ∀ xs : List Int, xs.length = m → forO law_gcd_l1 xs ((a : Int), (b : Int)) = some (.rt ((Nat.gcd a b : Nat) : Int))) (fun m a => ?_) (fun m a b hp ih => ?_) n xs.length a b hb hx xs rfl
  · intro xs h
    cases xs with
    | nil => cases h
    | cons x xs =>
      show (law_gcd_l1 ((a : Int), ((0 : Nat) : Int)) x).bind _ = _
      simp [law_gcd_l1]
  · intro xs h
    cases xs with
    | nil => cases h
    | cons x xs =>
      have hb : (0 : Int) < (b : Int) := by omega
      have hz : ¬ ((b : Int) = 0) := by omega
      have e : law_gcd_l1 ((a : Int), (b : Int)) x = some (.nx ((b : Int), ((a % b : Nat) : Int))) := by
        unfold law_gcd_l1
        simp only [hz, decide_false, Bool.false_eq_true, if_false, set_eq, need_of hb]
        rw [Int.natCast_emod]
      show (law_gcd_l1 ((a : Int), (b : Int)) x).bind _ = _
      rw [e]
      show forO law_gcd_l1 xs ((b : Int), ((a % b : Nat) : Int)) = _
      rw [ih xs (Nat.succ.inj h), Nat.gcd_comm b, ← Nat.gcd_rec, Nat.gcd_comm]
theorem gcd_ok (a b : Nat) (hb : b < 2 ^ 29) : law_gcd_m (a : Int) (b : Int) = some ((Nat.gcd a b : Nat) : Int) := by
  unfold law_gcd_m
  rw [need_of (rgS (by omega)), gcd_loop 29 a b hb _ (by rw [rangeD_length]; decide)]
  rfl
/-! ### a drawn order -/
def law_order_l1 (row1 : (List Int)) (at_p1 : Int) (s1 : ((List Int) × (List Int))) (x1 : Int) : Option ((List Int) × (List Int)) :=
  (Option.bind (idx row1 (at_p1 + x1)) fun x2 => need (0 < ((s1.2).length : Int)) <| Option.bind (idx s1.2 (x2 % ((s1.2).length : Int))) fun x3 => set' (x3 : Int) fun one1 => (need (Sz1 (s1.1).length) <| set' ((s1.1 ++ [one1]) : (List Int)) fun found2 => (set' (((List.filter (fun z2 : Int => (decide (z2 ≠ one1))) s1.2).map (fun z2 : Int => z2)) : (List Int)) fun left2 => some (found2, left2))))
def law_order_m (row1 : (List Int)) (at_p1 : Int) (n1 : Int) : Option (List Int) :=
  (need (RgO 0 n1) <| set' ((rangeD 0 n1) : (List Int)) fun left1 => set' (([] : (List Int)) : (List Int)) fun found1 => (need (RgO 0 n1) <| (forS (law_order_l1 row1 at_p1) (rangeD 0 n1) (found1, left1)).bind fun s2 => some s2.1))
theorem perm_out {α : Type} [DecidableEq α] {l : List α} {x : α} (hn : l.Nodup) (hx : x ∈ l) : (x :: l.filter fun z => decide (z ≠ x)).Perm l := by
  refine nodup_perm (List.nodup_cons.mpr ⟨by simp, hn.filter _⟩) hn fun a => ?_
  simp only [List.mem_cons, List.mem_filter, decide_eq_true_eq]
  constructor
  · rintro (rfl | ⟨h, _⟩)
    · exact hx
    · exact h
  · intro h
    by_cases c : a = x
    · exact .inl c
    · exact .inr ⟨h, c⟩
theorem rangeD_nodup (lo hi : Int) : (rangeD lo hi).Nodup := by
  unfold rangeD
  refine List.pairwise_map.mpr (List.nodup_range.imp fun {a b} h => ?_)
  show lo + (a : Int) ≠ lo + (b : Int)
  omega
theorem mem_rangeD {lo hi x : Int} : x ∈ rangeD lo hi ↔ lo ≤ x ∧ x < hi := by
  constructor
  · exact rangeD_mem
  · intro h
    unfold rangeD
    rw [List.mem_map]
    exact ⟨(x - lo).toNat, by rw [List.mem_range]; omega, by omega⟩
theorem order_step (row : List Int) (at_ : Int) (n i : Nat) (x : Int) (s : List Int × List Int) (hx : idx row (at_ + i) = some x) (h0 : 0 ≤ x) (hi : i < n) (hn : n ≤ 100000) (hl : s.1.length = i) (hp : (s.1 ++ s.2).Perm (rangeD 0 n)) :
    ∃ s', law_order_l1 row at_ s (i : Int) = some s' ∧ s'.1.length = i + 1 ∧ (s'.1 ++ s'.2).Perm (rangeD 0 n) := by
  have hlen := hp.length_eq
  rw [List.length_append, rangeD_length] at hlen
  have hpos : (0 : Int) < (s.2.length : Int) := by omega
  have k0 := Int.emod_nonneg x (show (s.2.length : Int) ≠ 0 by omega)
  have k1 := Int.emod_lt_of_pos x hpos
  unfold law_order_l1
  rw [hx]
  simp only [Option.bind_some, need_of hpos, idx_in k0 k1, set_eq, List.map_id']
  have hz : Sz1 s.1.length := by unfold Sz1; omega
  rw [need_of hz]
  refine ⟨_, rfl, by simp [hl], ?_⟩
  have hnd : s.2.Nodup := ((hp.nodup_iff.mpr (rangeD_nodup _ _)).sublist (List.sublist_append_right ..))
  show (s.1 ++ [gI s.2 _] ++ s.2.filter _).Perm _
  rw [List.append_assoc]
  exact (List.Perm.append_left _ (perm_out hnd (gI_mem k0 k1))).trans hp
/-- a drawn order of n places -/
theorem order_ok (row : List Int) (hr : ∀ x ∈ row, 0 ≤ x) (at_ n : Nat) (h : at_ + n ≤ row.length) (hn : n ≤ 100000) : ∃ o, law_order_m row (at_ : Int) (n : Int) = some o ∧ o.Perm (rangeD 0 (n : Int)) := by
  unfold law_order_m
  have hrg : RgO 0 (n : Int) := rgS (by omega)
  rw [need_of hrg, set_eq, set_eq, need_of hrg]
  obtain ⟨s, e, hs⟩ := forS_ex (step := law_order_l1 row (at_ : Int)) (fun i (s : List Int × List Int) => i ≤ n → s.1.length = i ∧ (s.1 ++ s.2).Perm (rangeD 0 (n : Int))) (xs := rangeD 0 (n : Int)) (s0 := ([], rangeD 0 (n : Int))) (fun _ => ⟨rfl, List.Perm.refl _⟩) fun i s x hx hi => by
    obtain ⟨rfl, h1, h2⟩ := rangeD_get? hx
    obtain ⟨q1, q2⟩ := hi (by omega)
    have hix : idx row ((at_ : Int) + (i : Int)) = some (gI row ((at_ : Int) + (i : Int))) := idx_in (by omega) (by omega)
    obtain ⟨s', e', a, b⟩ := order_step row at_ n i _ s hix (hr _ (gI_mem (by omega) (by omega))) (by omega) hn q1 q2
    exact ⟨s', by rw [Int.zero_add]; exact e', fun _ => ⟨a, b⟩⟩
  rw [e]
  have hl : (rangeD 0 (n : Int)).length = n := by rw [rangeD_length]; omega
  rw [hl] at hs
  obtain ⟨a, b⟩ := hs (Nat.le_refl _)
  refine ⟨s.1, rfl, ?_⟩
  have hb := b.length_eq
  rw [List.length_append, hl, a] at hb
  have : s.2 = [] := List.eq_nil_of_length_eq_zero (by omega)
  rw [this, List.append_nil] at b
  exact b
/-! ### all rows of bits, ascending -/
def allR : Nat → List (List Int)
  | 0 => [[]]
  | n + 1 => (allR n).flatMap fun r => [r ++ [0], r ++ [1]]
theorem mem_allR : ∀ {n : Nat} {r : List Int}, r ∈ allR n ↔ r.length = n ∧ ∀ x ∈ r, x = 0 ∨ x = 1
  | 0, r => by
    show r ∈ [[]] ↔ _
    rw [List.mem_singleton, List.length_eq_zero_iff]
    constructor
    · rintro rfl; simp
    · exact fun h => h.1
  | n + 1, r => by
    show r ∈ (allR n).flatMap _ ↔ _
    rw [List.mem_flatMap]
    constructor
    · rintro ⟨a, ha, h⟩
      obtain ⟨h1, h2⟩ := mem_allR.mp ha
      simp only [List.mem_cons, List.not_mem_nil, or_false] at h
      rcases h with rfl | rfl <;> refine ⟨by simp [h1], fun x hx => ?_⟩ <;> rw [List.mem_append, List.mem_singleton] at hx <;> rcases hx with hx | rfl <;> first | exact h2 _ hx | simp
    · rintro ⟨h1, h2⟩
      have hne : r ≠ [] := fun z => by subst z; simp at h1
      have e := List.dropLast_concat_getLast hne
      refine ⟨r.dropLast, mem_allR.mpr ⟨by simp [h1], fun x hx => h2 x (List.dropLast_subset _ hx)⟩, ?_⟩
      rcases h2 _ (List.getLast_mem hne) with q | q <;> rw [q] at e
      · exact List.mem_cons.mpr (.inl e.symm)
      · exact List.mem_cons.mpr (.inr (List.mem_cons.mpr (.inl e.symm)))
theorem snoc_lt {a b : List Int} (h : a.length = b.length) (x y : Int) : a ++ [x] < b ++ [y] ↔ a < b ∨ (a = b ∧ x < y) := by
  induction a generalizing b with
  | nil =>
    cases b with
    | nil => simp [List.cons_lt_cons_iff]
    | cons b bs => cases h
  | cons a as ih =>
    cases b with
    | nil => cases h
    | cons b bs =>
      rw [List.cons_append, List.cons_append, List.cons_lt_cons_iff, List.cons_lt_cons_iff, ih (Nat.succ.inj h)]
      constructor
      · rintro (q | ⟨q, q2 | ⟨q2, q3⟩⟩)
        · exact .inl (.inl q)
        · exact .inl (.inr ⟨q, q2⟩)
        · exact .inr ⟨by rw [q, q2], q3⟩
      · rintro ((q | ⟨q, q2⟩) | ⟨q, q2⟩)
        · exact .inl q
        · exact .inr ⟨q, .inl q2⟩
        · injection q with e1 e2
          exact .inr ⟨e1, .inr ⟨e2, q2⟩⟩
theorem allR_sorted : ∀ n : Nat, (allR n).Pairwise (· < ·)
  | 0 => by simp [allR]
  | n + 1 => by
    show ((allR n).flatMap _).Pairwise _
    rw [List.pairwise_flatMap]
    refine ⟨fun a ha => ?_, ?_⟩
    · simp only [List.pairwise_cons, List.mem_singleton, forall_eq, List.not_mem_nil, false_implies, implies_true, List.Pairwise.nil, and_true]
      exact (snoc_lt rfl 0 1).mpr (.inr ⟨rfl, by omega⟩)
    · refine (List.pairwise_iff_forall_sublist.mpr fun {a b} hs => ?_)
      have hab := List.pairwise_iff_forall_sublist.mp (allR_sorted n) hs
      have ha := (mem_allR.mp (hs.subset (by simp : a ∈ [a, b]))).1
      have hb := (mem_allR.mp (hs.subset (by simp : b ∈ [a, b]))).1
      intro x hx y hy
      simp only [List.mem_cons, List.not_mem_nil, or_false] at hx hy
      rcases hx with rfl | rfl <;> rcases hy with rfl | rfl <;> exact (snoc_lt (by omega) _ _).mpr (.inl hab)
theorem allR_nodup (n : Nat) : (allR n).Nodup := (allR_sorted n).imp fun {a b} h e => by subst e; exact absurd h (List.lt_irrefl a)
theorem allR_len : ∀ n : Nat, (allR n).length = 2 ^ n
  | 0 => rfl
  | n + 1 => by
    show ((allR n).flatMap _).length = _
    rw [List.length_flatMap]
    have : (allR n).map (fun r => ([r ++ [0], r ++ [1]] : List (List Int)).length) = (allR n).map fun _ => 2 := rfl
    rw [this, List.map_const', List.sum_replicate_nat, allR_len n, Nat.pow_succ]
/-- a part of all rows of bits, sorted -/
theorem sortT_allR {n : Nat} {xs : List (List Int)} {p : List Int → Bool} (h : xs.Perm ((allR n).filter p)) : sortT (eT eI) xs = (allR n).filter p :=
  sortT_strict or_tI eq_tI h (((allR_sorted n).filter p).imp fun {a b} q => by rw [ltT_tI]; exact decide_eq_true q)
/-- the bits of a number, the least first -/
def bitsN (k m : Nat) : List Int := (List.range m).map fun (i : Nat) => ((k / 2 ^ i % 2 : Nat) : Int)
theorem bitsN_mem (k m : Nat) : bitsN k m ∈ allR m := mem_allR.mpr ⟨by simp [bitsN], fun x hx => by
  unfold bitsN at hx
  rw [List.mem_map] at hx
  obtain ⟨i, _, rfl⟩ := hx
  omega⟩
theorem bitsN_cons (k m : Nat) : bitsN k (m + 1) = ((k % 2 : Nat) : Int) :: bitsN (k / 2) m := by
  unfold bitsN
  rw [List.range_succ_eq_map, List.map_cons, List.map_map]
  simp only [Nat.pow_zero, Nat.div_one]
  congr 1
  refine List.map_congr_left fun i _ => ?_
  show ((k / 2 ^ (i + 1) % 2 : Nat) : Int) = ((k / 2 / 2 ^ i % 2 : Nat) : Int)
  rw [Nat.div_div_eq_div_mul, Nat.pow_succ, Nat.mul_comm]
theorem bitsN_inj : ∀ {m a b : Nat}, a < 2 ^ m → b < 2 ^ m → bitsN a m = bitsN b m → a = b
  | 0, a, b, ha, hb, _ => by simp at ha hb; omega
  | m + 1, a, b, ha, hb, h => by
    rw [bitsN_cons, bitsN_cons] at h
    injection h with h1 h2
    have := bitsN_inj (m := m) (a := a / 2) (b := b / 2) (by rw [Nat.pow_succ] at ha; omega) (by rw [Nat.pow_succ] at hb; omega) h2
    omega
theorem bitsN_onto : ∀ {m : Nat} {r : List Int}, r ∈ allR m → ∃ k, k < 2 ^ m ∧ bitsN k m = r
  | 0, r, h => ⟨0, by decide, by have := mem_allR.mp h; rw [List.eq_nil_of_length_eq_zero this.1]; rfl⟩
  | m + 1, [], h => by have := mem_allR.mp h; simp at this
  | m + 1, x :: r, h => by
    obtain ⟨h1, h2⟩ := mem_allR.mp h
    obtain ⟨k, hk, e⟩ := bitsN_onto (m := m) (r := r) (mem_allR.mpr ⟨Nat.succ.inj h1, fun y hy => h2 y (List.mem_cons_of_mem _ hy)⟩)
    rcases h2 x (List.mem_cons_self ..) with rfl | rfl
    · refine ⟨2 * k, by rw [Nat.pow_succ]; omega, ?_⟩
      rw [bitsN_cons, show 2 * k / 2 = k by omega, e, show 2 * k % 2 = 0 by omega]; rfl
    · refine ⟨2 * k + 1, by rw [Nat.pow_succ]; omega, ?_⟩
      rw [bitsN_cons, show (2 * k + 1) / 2 = k by omega, e, show (2 * k + 1) % 2 = 1 by omega]; rfl
theorem bits_perm (m : Nat) : ((List.range (2 ^ m)).map fun k => bitsN k m).Perm (allR m) := by
  refine nodup_perm (List.pairwise_map.mpr ((List.pairwise_iff_forall_sublist.mpr fun {a b} hs => ?_))) (allR_nodup m) fun r => ?_
  · intro e
    have ha := List.mem_range.mp (hs.subset (by simp : a ∈ [a, b]))
    have hb := List.mem_range.mp (hs.subset (by simp : b ∈ [a, b]))
    have := bitsN_inj ha hb e
    have h2 := List.pairwise_iff_forall_sublist.mp (List.nodup_range (n := 2 ^ m)) hs
    exact h2 this
  · rw [List.mem_map]
    constructor
    · rintro ⟨k, _, rfl⟩; exact bitsN_mem k m
    · intro h
      obtain ⟨k, hk, e⟩ := bitsN_onto h
      exact ⟨k, List.mem_range.mpr hk, e⟩
/-! ### slices, sums -/
theorem cut_to {α : Type} (xs : List α) (i : Nat) (h : i ≤ xs.length) : Pl.cutD xs none (some (i : Int)) = xs.take i := by
  unfold Pl.cutD
  rw [HT.sIx_nat, HT.sIx_none, List.drop_zero, Nat.sub_zero, Nat.min_eq_left h]
theorem cut_from {α : Type} (xs : List α) (i : Nat) (h : i ≤ xs.length) : Pl.cutD xs (some (i : Int)) none = xs.drop i := by
  unfold Pl.cutD
  rw [HT.sIx_nat, HT.sIx_none, Nat.min_eq_left h]
  exact List.take_of_length_le (by rw [List.length_drop]; omega)
theorem cut_mid {α : Type} (xs : List α) (i j : Nat) (hi : i ≤ xs.length) (hj : j ≤ xs.length) : Pl.cutD xs (some (i : Int)) (some (j : Int)) = (xs.drop i).take (j - i) := by
  unfold Pl.cutD
  rw [HT.sIx_nat, HT.sIx_nat, Nat.min_eq_left hi, Nat.min_eq_left hj]
theorem catO_eq {α β : Type} {g : α → Option (List β)} (f : α → List β) : ∀ (xs : List α), (∀ x ∈ xs, g x = some (f x)) → catO g xs = some (xs.flatMap f)
  | [], _ => rfl
  | x :: xs, h => by
    show (g x).bind _ = _
    rw [h x (List.mem_cons_self ..)]
    show (catO g xs).bind _ = _
    rw [catO_eq f xs fun y hy => h y (List.mem_cons_of_mem _ hy)]
    rfl
/-- a for that leaves at the first hit, always with the same -/
theorem forO_hit {α β : Type} {step : Unit → α → Option (O Unit β)} (P : α → Prop) (v : β) : ∀ (xs : List α), (∀ x ∈ xs, P x → step () x = some (.rt v)) → (∀ x ∈ xs, ¬ P x → step () x = some (.nx ())) → (∃ x ∈ xs, P x) → forO step xs () = some (.rt v)
  | [], _, _, h => by obtain ⟨x, hx, _⟩ := h; cases hx
  | x :: xs, h1, h2, h3 => by
    show (step () x).bind _ = _
    by_cases c : P x
    · rw [h1 x (List.mem_cons_self ..) c]; rfl
    · rw [h2 x (List.mem_cons_self ..) c]
      refine forO_hit P v xs (fun y hy => h1 y (List.mem_cons_of_mem _ hy)) (fun y hy => h2 y (List.mem_cons_of_mem _ hy)) ?_
      obtain ⟨y, hy, q⟩ := h3
      rcases List.mem_cons.mp hy with rfl | hy
      · exact absurd q c
      · exact ⟨y, hy, q⟩
theorem like_same {α : Type} {e : α → PyData} {m : Nat} (d : Due e m) (x : α) : likeD (e x) (e x) = true := like_refl _ (d.ok x)
theorem rg_n (w : Nat) (h : w ≤ 16777216) : RgO 0 (w : Int) := rgS (by omega)
theorem rangeD_len0' (w : Nat) : (rangeD 0 (w : Int)).length = w := by rw [rangeD_length]; omega
/-! ### arrangements -/
theorem fmap_congr {α β : Type} {f g : α → List β} : ∀ {xs : List α}, (∀ x ∈ xs, f x = g x) → xs.flatMap f = xs.flatMap g
  | [], _ => rfl
  | x :: xs, h => by rw [List.flatMap_cons, List.flatMap_cons, h x (List.mem_cons_self ..), fmap_congr fun y hy => h y (List.mem_cons_of_mem _ hy)]
theorem sub_perm {α : Type} [DecidableEq α] : ∀ {xs ys : List α}, xs.Nodup → (∀ x ∈ xs, x ∈ ys) → ys.length ≤ xs.length → xs.Perm ys
  | [], ys, _, _, h => by rw [List.eq_nil_of_length_eq_zero (Nat.le_zero.mp h)]
  | x :: xs, ys, hn, hs, hl => by
    obtain ⟨h1, h2⟩ := List.nodup_cons.mp hn
    have hx := hs x (List.mem_cons_self ..)
    have e := List.length_erase_of_mem hx
    have hp := List.length_pos_of_mem hx
    refine List.Perm.trans (List.Perm.cons x (sub_perm (ys := ys.erase x) h2 (fun y hy => ?_) ?_)) (List.perm_cons_erase hx).symm
    · have hne : y ≠ x := fun z => h1 (z ▸ hy)
      exact (List.mem_erase_of_ne hne).mpr (hs y (List.mem_cons_of_mem _ hy))
    · rw [e]
      rw [List.length_cons] at hl
      omega
theorem perm_sum {xs ys : List Int} (p : xs.Perm ys) : xs.sum = ys.sum := by
  induction p with
  | nil => rfl
  | cons x _ ih => rw [List.sum_cons, List.sum_cons, ih]
  | swap x y l => simp only [List.sum_cons]; omega
  | trans _ _ i1 i2 => exact i1.trans i2
end
end Pl
/-! Pl, part S: zip of two: lists, tuples, texts, in any mixture. -/
namespace Pl
open PySem PySem.Spec PyProof.Rows L2

/-- what is walked: a list, a tuple, a text -/
inductive Srk where
  | lst (a : Addr)
  | tup (a : Addr)
  | str (x : Str)
def Srk.v : Srk → V
  | .lst a => .ref a
  | .tup a => .ref a
  | .str x => .str x
def Srk.adr : Srk → List Addr
  | .lst a => [a]
  | .tup a => [a]
  | .str _ => []
def chsV (x : Str) : List V := x.cps.toList.map fun c => .str ⟨#[c]⟩
def Srk.has (K : KK) (H : Hp) : Srk → List V → Prop
  | .lst a, xs => SqL K H a xs
  | .tup a, xs => SqT K H a xs
  | .str x, xs => xs = chsV x
/-- the iterator's object -/
def Srk.obj : Srk → Value → Obj
  | .lst _, v => { cls := .type "list_iterator", data := .fields #[v, .int 0 0] }
  | .tup _, v => { cls := .type "tuple_iterator", data := .fields #[v, .int 0 0] }
  | .str x, v => { cls := .type (strIterType x), data := .fields #[v, .int 0 0] }
def Srk.it (h : Heap) (b : Addr) (i : Nat) : Srk → Prop
  | .lst a => h.IsListIter b a i
  | .tup a => h.IsTupleIter b a i
  | .str x => ∃ t, h.IsStrIter b (strIterType x) x t i
/-- what the iterator reads -/
def Srk.src (s : Shared) (its : Array Value) : Srk → Value → Prop
  | .lst a, v => v = .ref a ∧ s.heap.IsList a its
  | .tup a, v => v = .ref a ∧ s.heap.IsTuple a its
  | .str x, v => ∃ t, v = .str x t
theorem Srk.src_push {k : Srk} {s : Shared} {its : Array Value} {v : Value} (h : k.src s its v) (o : Obj) : k.src { s with heap := s.heap.push o } its v := by
  cases k with
  | lst a => exact ⟨h.1, Heap.IsList.push h.2 o⟩
  | tup a => exact ⟨h.1, Heap.IsTuple.push h.2 o⟩
  | str x => exact h
theorem Srk.iter {k : Srk} {P : Program} {w : World} {A : Around} {E : Value → Shared → Prop} {s : Shared} {its : Array Value} {v : Value} {Q : Value → Shared → Prop} (h : k.src s its v) (hQ : Q (.ref s.heap.objs.size) { s with heap := s.heap.push (k.obj v) }) : wpAny (model P w) A (pyIter v) Q E s := by
  cases k with
  | lst a => obtain ⟨rfl, h⟩ := h; exact wpAny_pyIter_list h hQ
  | tup a => obtain ⟨rfl, h⟩ := h; exact wpAny_pyIter_tuple h hQ
  | str x => obtain ⟨t, rfl⟩ := h; exact wpAny_pyIter_strU hQ
theorem Srk.it_new {k : Srk} {s : Shared} {its : Array Value} {v : Value} {h : Heap} {b : Addr} (q : k.src s its v) (e : h.get? b = some (k.obj v)) : k.it h b 0 := by
  cases k with
  | lst a => obtain ⟨rfl, _⟩ := q; exact ⟨_, e, rfl, rfl⟩
  | tup a => obtain ⟨rfl, _⟩ := q; exact ⟨_, e, rfl, rfl⟩
  | str x => obtain ⟨t, rfl⟩ := q; exact ⟨t, _, e, rfl, rfl⟩
theorem Srk.it_obj {k : Srk} {h : Heap} {b : Addr} {i : Nat} (q : k.it h b i) : ∃ o, h.get? b = some o ∧ ∀ v, o.data ≠ .cell v := by
  cases k with
  | lst a => obtain ⟨o, e, _, d⟩ := q; exact ⟨o, e, fun v z => by rw [d] at z; cases z⟩
  | tup a => obtain ⟨o, e, _, d⟩ := q; exact ⟨o, e, fun v z => by rw [d] at z; cases z⟩
  | str x => obtain ⟨t, o, e, _, d⟩ := q; exact ⟨o, e, fun v z => by rw [d] at z; cases z⟩
theorem Srk.it_at {k : Srk} {h h' : Heap} {b : Addr} {i : Nat} (q : k.it h b i) (hk : ∀ o, h.get? b = some o → h'.get? b = some o) : k.it h' b i := by
  cases k with
  | lst a => obtain ⟨o, e, r⟩ := q; exact ⟨o, hk o e, r⟩
  | tup a => obtain ⟨o, e, r⟩ := q; exact ⟨o, hk o e, r⟩
  | str x => obtain ⟨t, o, e, r⟩ := q; exact ⟨t, o, hk o e, r⟩
section
variable {X : Cx} {pins : List (Addr × Obj)} {σ : L2.St} {H : Hp} {s : Shared}
theorem Srk.rd {k : Srk} {xs : List V} (I : L2.Inv X pins σ H s) (h : k.has X.K H xs) {v : Value} (r : RelV k.v v) : ∃ its : Array Value, k.src s its v := by
  cases k with
  | lst a => obtain ⟨its, rv, p, _⟩ := I.list h; cases r; exact ⟨its.toArray, rfl, p.isList⟩
  | tup a => obtain ⟨its, rv, p, _⟩ := I.tuple h; cases r; exact ⟨its.toArray, rfl, p⟩
  | str x => obtain ⟨t, rfl⟩ := r; exact ⟨#[], t, rfl⟩
/-- the draws of an iterator, by the tracked heap -/
theorem Srk.draws {k : Srk} {xs : List V} {b : Addr} {i : Nat} (I : L2.Inv X pins σ H s) (hc : X.calm = true) (h : k.has X.K H xs) (hb : b ∉ k.adr) (hi : k.it s.heap b i) :
    ∃ (P : Nat → Value → Prop) (St : Nat → Heap → Prop), Draws X.prog X.w X.A.in1 b (b :: k.adr) xs.length P St ∧ St i s.heap ∧ (∀ j h', St j h' → k.it h' b j) ∧ ∀ j v, P j v → ∃ x, xs[j]? = some x ∧ RelV x v := by
  have hh : X.A.in1.handled = none := I.ok.hd hc
  cases k with
  | lst a =>
    obtain ⟨its, rv, p, _⟩ := I.list h
    have hl := rv.length
    have D := Draws.list (prog := X.prog) (w := X.w) hh b a (fun e => hb (by rw [e]; exact List.mem_cons_self ..)) its.toArray
    have e : its.toArray.size = xs.length := by rw [List.size_toArray, hl]
    rw [e] at D
    refine ⟨_, _, D, ⟨hi, p.isList⟩, fun j h' q => q.1, fun j v hv => ?_⟩
    have hv' : its[j]? = some v := by simpa using hv
    obtain ⟨x, hx⟩ : ∃ x, xs[j]? = some x := ⟨xs[j]'(by rw [hl]; exact (List.getElem?_eq_some_iff.mp hv').1), List.getElem?_eq_getElem _⟩
    obtain ⟨u, hu, ru⟩ := rv.get hx
    rw [hu] at hv'
    cases hv'
    exact ⟨x, hx, ru⟩
  | tup a =>
    obtain ⟨its, rv, p, _⟩ := I.tuple h
    have hl := rv.length
    have D := drawsT (prog := X.prog) (w := X.w) hh b a (fun e => hb (by rw [e]; exact List.mem_cons_self ..)) its.toArray
    have e : its.toArray.size = xs.length := by rw [List.size_toArray, hl]
    rw [e] at D
    refine ⟨_, _, D, ⟨hi, p⟩, fun j h' q => q.1, fun j v hv => ?_⟩
    have hv' : its[j]? = some v := by simpa using hv
    obtain ⟨x, hx⟩ : ∃ x, xs[j]? = some x := ⟨xs[j]'(by rw [hl]; exact (List.getElem?_eq_some_iff.mp hv').1), List.getElem?_eq_getElem _⟩
    obtain ⟨u, hu, ru⟩ := rv.get hx
    rw [hu] at hv'
    cases hv'
    exact ⟨x, hx, ru⟩
  | str x =>
    obtain ⟨t, hi⟩ := hi
    have h' : xs = chsV x := h
    have e : x.cps.size = xs.length := by rw [h']; simp [chsV]
    have fin : ∀ (j : Nat) (v : Value), (∃ c u, x.cps[j]? = some c ∧ v = .str ⟨#[c]⟩ u) → ∃ y, xs[j]? = some y ∧ RelV y v := fun j v ⟨c, u, hc, hv⟩ => ⟨.str ⟨#[c]⟩, by rw [h', chsV, List.getElem?_map, Array.getElem?_toList, hc]; rfl, by rw [hv]; exact ⟨u, rfl⟩⟩
    cases ha : x.cps.all (· < 128)
    · have ty : strIterType x = "str_iterator" := by simp [strIterType, ha]
      rw [ty] at hi
      have D := Draws.strWide (prog := X.prog) (w := X.w) hh b x t
      rw [e] at D
      exact ⟨_, _, D, hi, fun j h' q => ⟨t, by rw [ty]; exact q⟩, fin⟩
    · have ty : strIterType x = "str_ascii_iterator" := by simp [strIterType, ha]
      rw [ty] at hi
      have D := Draws.strAscii (prog := X.prog) (w := X.w) hh b x t
      rw [e] at D
      exact ⟨_, _, D, hi, fun j h' q => ⟨t, by rw [ty]; exact q⟩, fin⟩
theorem Srk.inj {k : Srk} {xs ys : List V} (I : L2.Inv X pins σ H s) (h : k.has X.K H xs) (h' : k.has X.K H ys) : xs = ys := by
  cases k with
  | lst a => exact I.list_inj h h'
  | tup a => exact I.tuple_inj h h'
  | str x => exact (show xs = _ from h).trans (show ys = _ from h').symm
theorem Srk.adr_lt {k : Srk} {xs : List V} (I : L2.Inv X pins σ H s) (h : k.has X.K H xs) : ∀ a ∈ k.adr, a < s.heap.objs.size := by
  cases k with
  | lst a => obtain ⟨its, rv, p, _⟩ := I.list h; intro b hb; rw [List.mem_singleton.mp hb]; exact p.lt
  | tup a => obtain ⟨its, rv, p, _⟩ := I.tuple h; intro b hb; rw [List.mem_singleton.mp hb]; exact p.lt
  | str x => intro b hb; cases hb
end
/-! ### the zip's making -/
abbrev zG1 (h : Heap) (o1 : Obj) : Heap := h.push o1
abbrev zG2 (h : Heap) (o1 o2 : Obj) : Heap := (zG1 h o1).push o2
abbrev zG3 (h : Heap) (o1 o2 : Obj) : Heap := (zG2 h o1 o2).push { cls := .type "tuple", data := .seq #[.ref h.objs.size, .ref (zG1 h o1).objs.size] }
abbrev zG4 (h : Heap) (o1 o2 : Obj) : Heap := (zG3 h o1 o2).push { cls := .type "tuple", data := .seq #[.none, .none] }
abbrev zG5 (h : Heap) (o1 o2 : Obj) : Heap := (zG4 h o1 o2).push { cls := .type "zip", data := .fields #[.none, .bool false, .bool false, .ref (zG2 h o1 o2).objs.size, .ref (zG3 h o1 o2).objs.size] }
theorem meets_zipG (k1 k2 : Srk) (v1 v2 : Value) (i1 i2 : Array Value) :
    Meets (Builtin.«zip.__new__» ⟨[.type "zip", v1, v2], []⟩) (fun _ R s => k1.src s i1 v1 ∧ k2.src s i2 v2 ∧
      R (.ok (.ret (.ref (zG4 s.heap (k1.obj v1) (k2.obj v2)).objs.size))) { s with heap := zG5 s.heap (k1.obj v1) (k2.obj v2) }) :=
  .of_wp fun prog w A R s h => by
    obtain ⟨hp, g, d, tk, os⟩ := s; obtain ⟨hl1, hl2, h⟩ := h
    have hsub := sub_zip
    have hL2 := Srk.src_push hl2 (k1.obj v1)
    wp_walk using Srk.iter hl1, Srk.iter hL2
    exact ⟨_, rfl, h⟩
section
variable {prog : Program} {w : World} {A : Around} {E : Value → Shared → Prop} {s : Shared}
theorem call_zipG {k1 k2 : Srk} {v1 v2 : Value} {i1 i2 : Array Value} {Q : Value → Shared → Prop} (hl1 : k1.src s i1 v1) (hl2 : k2.src s i2 v2)
    (h : ∀ h', IsZip h' (s.heap.objs.size + 4) (s.heap.objs.size + 2) (s.heap.objs.size + 3) .none → IsPair h' (s.heap.objs.size + 2) (.ref s.heap.objs.size) (.ref (s.heap.objs.size + 1)) →
      IsPair h' (s.heap.objs.size + 3) .none .none → k1.it h' s.heap.objs.size 0 → k2.it h' (s.heap.objs.size + 1) 0 → h'.objs.size = s.heap.objs.size + 5 →
      (∀ c o, s.heap.get? c = some o → h'.get? c = some o) → Q (.ref (s.heap.objs.size + 4)) { s with heap := h' }) :
    wpAny (model prog w) A (call (.type "zip") [v1, v2]) Q E s := by
  refine callType_new F.called_zip (by decide) (F.typeCall_zip_2 _ _) (F.newCall_zip_2 _ _) (fun obj => F.args_object_init_3 obj _ _) F.entry_zip_new
    (meets_zipG k1 k2 v1 v2 i1 i2) ⟨hl1, hl2, ?_⟩
  generalize ho1 : k1.obj v1 = o1
  generalize ho2 : k2.obj v2 = o2
  have f1 : o1.isFreed = false := by rw [← ho1]; cases k1 <;> rfl
  have f2 : o2.isFreed = false := by rw [← ho2]; cases k2 <;> rfl
  have z1 : (zG1 s.heap o1).objs.size = s.heap.objs.size + 1 := Heap.size_push ..
  have z2 : (zG2 s.heap o1 o2).objs.size = s.heap.objs.size + 2 := by rw [Heap.size_push, z1]
  have z3 : (zG3 s.heap o1 o2).objs.size = s.heap.objs.size + 3 := by rw [Heap.size_push, z2]
  have z4 : (zG4 s.heap o1 o2).objs.size = s.heap.objs.size + 4 := by rw [Heap.size_push, z3]
  have z5 : (zG5 s.heap o1 o2).objs.size = s.heap.objs.size + 5 := by rw [Heap.size_push, z4]
  have g5 : (zG5 s.heap o1 o2).get? (zG4 s.heap o1 o2).objs.size = some _ := Heap.get?_push_size _ rfl
  have g4 : (zG5 s.heap o1 o2).get? (zG3 s.heap o1 o2).objs.size = some _ := Heap.get?_push_of_some _ (Heap.get?_push_size _ rfl)
  have g3 : (zG5 s.heap o1 o2).get? (zG2 s.heap o1 o2).objs.size = some _ := Heap.get?_push_of_some _ (Heap.get?_push_of_some _ (Heap.get?_push_size _ rfl))
  have g2 : (zG5 s.heap o1 o2).get? (zG1 s.heap o1).objs.size = some o2 := Heap.get?_push_of_some _ (Heap.get?_push_of_some _ (Heap.get?_push_of_some _ (Heap.get?_push_size _ f2)))
  have g1 : (zG5 s.heap o1 o2).get? s.heap.objs.size = some o1 := Heap.get?_push_of_some _ (Heap.get?_push_of_some _ (Heap.get?_push_of_some _ (Heap.get?_push_of_some _ (Heap.get?_push_size _ f1))))
  show _ ∧ _
  rw [z2, z3, z4] at g5
  rw [z1, z2] at g3
  rw [z3] at g4
  rw [z1] at g2
  rw [z4]
  subst ho1
  subst ho2
  exact ⟨⟨_, g5, rfl⟩, h _ g5 g3 g4 (Srk.it_new hl1 g1) (Srk.it_new hl2 g2) z5 fun c o x =>
    Heap.get?_push_of_some _ (Heap.get?_push_of_some _ (Heap.get?_push_of_some _ (Heap.get?_push_of_some _ (Heap.get?_push_of_some _ x))))⟩
end
/-! ### the zip's turns -/
def ItzG (K : KK) (k1 k2 : Srk) : It where
  go := fun i H => ∃ (xs ys : List V), k1.has K H xs ∧ k2.has K H ys ∧ i < xs.length ∧ i < ys.length
  yld := fun i H v H' => ∃ T x y, v = .ref T ∧ H T = none ∧ H' = upd H T (.tup [x, y]) ∧ (∀ xs, k1.has K H xs → xs[i]? = some x) ∧ ∀ ys, k2.has K H ys → ys[i]? = some y
  stop := fun i H => ∃ xs ys : List V, k1.has K H xs ∧ k2.has K H ys ∧ i = min xs.length ys.length
structure SepG (z TI TO i1 i2 : Addr) (k1 k2 : Srk) : Prop where
  TIz : TI ≠ z
  TOz : TO ≠ z
  TITO : TI ≠ TO
  TIi1 : TI ≠ i1
  TIi2 : TI ≠ i2
  zi1 : z ≠ i1
  zi2 : z ≠ i2
  Ti1 : TO ≠ i1
  Ti2 : TO ≠ i2
  i12 : i1 ≠ i2
  z1 : z ∉ k1.adr
  z2 : z ∉ k2.adr
  T1 : TO ∉ k1.adr
  T2 : TO ∉ k2.adr
  a11 : i1 ∉ k1.adr
  a12 : i1 ∉ k2.adr
  a21 : i2 ∉ k1.adr
  a22 : i2 ∉ k2.adr
theorem nmc {a b : Addr} {l : List Addr} (h : a ≠ b) (h' : a ∉ l) : a ∉ b :: l := fun z => (List.mem_cons.mp z).elim h h'
theorem SepG.s {z TI TO i1 i2 : Addr} {k1 k2 : Srk} (D : SepG z TI TO i1 i2 k1 k2) : ZipSep2 z TI TO i1 i2 (i1 :: k1.adr) (i2 :: k2.adr) :=
  ⟨D.TIz, D.TOz, D.TITO, D.TIi1, List.mem_cons_self .., nmc D.zi1 D.z1, nmc D.Ti1 D.T1, D.TIi2, List.mem_cons_self .., nmc D.zi2 D.z2, nmc D.Ti2 D.T2, nmc D.i12 D.a12, nmc (Ne.symm D.i12) D.a21⟩
theorem turn_zipG {P : Program} {w : World} {K : KK} {elts : List Expr} {kk : Nat} {tpos : Pos} {k1 k2 : Srk} {z TI TO i1 i2 : Addr} (D : SepG z TI TO i1 i2 k1 k2) :
    Turn P w K (.Tuple elts kk tpos) (ItzG K k1 k2) [z, TI, TO, i1, i2] z (fun i h => IsZip h z TI TO .none ∧ IsPair h TI (.ref i1) (.ref i2) ∧ (∃ x y, IsPair h TO x y) ∧ k1.it h i1 i ∧ k2.it h i2 i) where
  mem := by simp
  obj := fun i h st c hc => by
    obtain ⟨hz, hTI, ⟨x, y, hTO⟩, h1, h2⟩ := st
    have e' : c = z ∨ c = TI ∨ c = TO ∨ c = i1 ∨ c = i2 := by simpa using hc
    rcases e' with q | q | q | q | q
    · rw [q]; exact ⟨_, hz, fun v q => nomatch q⟩
    · rw [q]; exact ⟨_, hTI, fun v q => nomatch q⟩
    · rw [q]; exact ⟨_, hTO, fun v q => nomatch q⟩
    · rw [q]; exact Srk.it_obj h1
    · rw [q]; exact Srk.it_obj h2
  keep := fun i h h' st k => by
    obtain ⟨hz, hTI, ⟨x, y, hTO⟩, h1, h2⟩ := st
    exact ⟨k z (by simp) _ hz, k TI (by simp) _ hTI, ⟨x, y, k TO (by simp) _ hTO⟩, Srk.it_at h1 fun o q => k i1 (by simp) o q, Srk.it_at h2 fun o q => k i2 (by simp) o q⟩
  item := by
    intro X hP hw hK hc i pins s σ H E I hf st hg
    subst hP hw hK
    obtain ⟨hz, hTI, ⟨x0, y0, hTO⟩, h1, h2⟩ := st
    obtain ⟨xs, ys, hqx, hqy, hx, hy⟩ := hg
    obtain ⟨P1, St1, D1, st1, b1, p1⟩ := Srk.draws I hc hqx D.a11 h1
    obtain ⟨P2, St2, D2, st2, b2, p2⟩ := Srk.draws I hc hqy D.a22 h2
    have hzl : z < s.heap.objs.size := Heap.lt_size hz
    refine wpAny_pyNext_zipD2_item D.s D1 D2 hz hTI hTO st1 st2 hx hy fun u u2 h' tk q1 q2 z' TO' st1' st2' hT hsz hk => ?_
    obtain ⟨x, hx', ru⟩ := p1 _ _ q1
    obtain ⟨y, hy', ru2⟩ := p2 _ _ q2
    refine ⟨_, rfl, wpAny_letOwnedTupleGo_zip (s := { s with heap := h', toks := tk }) z' fun h'' z'' sb => ?_⟩
    have hT2 : h''.get? s.heap.objs.size = some { cls := .type "tuple", data := .seq #[u, u2] } := (sb.2 _ (Nat.ne_of_gt hzl)).trans hT
    have new : ObjOk X.prog X.w (upd H s.heap.objs.size (.tup [x, y])) h'' s.heap.objs.size (.tup [x, y]) :=
      ⟨by show 2 ≤ sizeLine; decide, [u, u2], .cons ru (.cons ru2 .nil), ⟨_, hT2, rfl, _, rfl⟩⟩
    have I1 : L2.Inv X pins σ (upd H s.heap.objs.size (.tup [x, y])) { s with heap := h'', toks := tk } :=
      I.turnedNew (t' := tk) (ch := [z, TI, TO, i1, i2]) (fun c o hb q => (sb.2 c (fun q' => hb (by simp [q']))).trans (hk c o (fun q' => hb (by simp [q'])) (fun q' => hb (by simp [q'])) (fun q' => hb (by simp [q'])) (fun q' => hb (by simp [q'])) q)) hf (Nat.le_refl _) new
    refine ⟨.ref s.heap.objs.size, _, I1, rfl, ⟨_, x, y, rfl, I.hok.fresh (Nat.le_refl _), rfl, fun l hl => by rw [Srk.inj I hl hqx]; exact hx', fun l hl => by rw [Srk.inj I hl hqy]; exact hy'⟩, ⟨z'', ?_, ⟨u, u2, ?_⟩, ?_, ?_⟩, fun c hcm => ?_⟩
    · exact (sb.2 _ D.TIz).trans (hk _ _ D.TIz D.TITO D.TIi1 D.TIi2 hTI)
    · exact (sb.2 _ D.TOz).trans TO'
    · exact Srk.it_at (b1 _ _ st1') fun o q => (sb.2 _ (Ne.symm D.zi1)).trans q
    · exact Srk.it_at (b2 _ _ st2') fun o q => (sb.2 _ (Ne.symm D.zi2)).trans q
    · have hlt : c < s.heap.objs.size := by
        have e' : c = z ∨ c = TI ∨ c = TO ∨ c = i1 ∨ c = i2 := by simpa using hcm
        rcases e' with q | q | q | q | q
        · rw [q]; exact hzl
        · rw [q]; exact Heap.lt_size hTI
        · rw [q]; exact Heap.lt_size hTO
        · rw [q]; obtain ⟨_, e1, _⟩ := Srk.it_obj h1; exact Heap.lt_size e1
        · rw [q]; obtain ⟨_, e2, _⟩ := Srk.it_obj h2; exact Heap.lt_size e2
      rw [upd_ne (Nat.ne_of_lt hlt)]
      exact (hf c hcm).1
  done := by
    intro X hP hw hK hc i pins s σ H E I hf st hg
    subst hP hw hK
    obtain ⟨hz, hTI, ⟨x0, y0, hTO⟩, h1, h2⟩ := st
    obtain ⟨xs, ys, hqx, hqy, hend⟩ := hg
    obtain ⟨P1, St1, D1, st1, b1, p1⟩ := Srk.draws I hc hqx D.a11 h1
    obtain ⟨P2, St2, D2, st2, b2, p2⟩ := Srk.draws I hc hqy D.a22 h2
    exact wpAny_pyNext_zipD2_end D.s D1 D2 hz hTI hTO st1 st2 (by omega) (by omega) (by omega) fun h' tk hk => ⟨rfl, I.turnedL (t' := tk) (ch := [z, TI, TO, i1, i2]) (fun c o hb q =>
      hk c o (fun q' => hb (by simp [q'])) (fun q' => hb (by simp [q'])) (fun q' => hb (by simp [q'])) (fun q' => hb (by simp [q'])) q) hf⟩
  self := fun A i s Q E st h => wpAny_pyIter_zip st.1 h
def iZipG (K : KK) (ta : TA) : TI := fun σ H R => ta σ H fun vs H1 => ∃ k1 k2 xs ys, vs = [Srk.v k1, Srk.v k2] ∧ k1.has K H1 xs ∧ k2.has K H1 ys ∧ R (ItzG K k1 k2) H1
theorem pi_zipG {X : Cx} {e e2 : Expr} {ta : TA} {p pos tpos : Pos} {elts : List Expr} {kk : Nat} (hg : Gl X "zip") (hm : X.mg "zip" = none) (ha : PA X [e, e2] ta)
    (hs : starEach [e, e2] X.env = (false, eval e X.env) :: starEach [e2] X.env := by rfl) (hpl : (backTo pos (starEach [e2] X.env)).any (·.1) = false := by rfl) :
    PI X (.Tuple elts kk tpos) (.Call (.Name "zip" p) [e, e2] [] pos) (iZipG X.K ta) := by
  refine ⟨fun pins s σ H R I h => ?_⟩
  refine Call_ (ld_blt I hg hm PyProof.Rows.boot_zip (PyProof.Rows.callWith_type1 (thn (ha.run pos pins s σ H _ I h) fun us s1 ⟨vs, H1, I1, r1, q1⟩ => ?_) hs hpl))
  obtain ⟨k1, k2, xs, ys, ex, hqx, hqy, q⟩ := q1
  subst ex
  cases r1 with
  | cons r rr =>
    cases rr with
    | cons r' rr =>
      cases rr
      have fresh5 : ∀ c, c ∈ [s1.heap.objs.size + 4, s1.heap.objs.size + 2, s1.heap.objs.size + 3, s1.heap.objs.size, s1.heap.objs.size + 1] → FpOk X pins H1 c := fun c hcm => by
        have e' : c = s1.heap.objs.size + 4 ∨ c = s1.heap.objs.size + 2 ∨ c = s1.heap.objs.size + 3 ∨ c = s1.heap.objs.size ∨ c = s1.heap.objs.size + 1 := by simpa using hcm
        have hle : s1.heap.objs.size ≤ c := by
          rcases e' with z | z | z | z | z <;> rw [z] <;> first | exact Nat.le_add_right _ _ | exact Nat.le_refl _
        exact I1.fpOk hle (I1.hok.fresh hle)
      obtain ⟨its1, s1'⟩ := Srk.rd I1 hqx r
      obtain ⟨its2, s2'⟩ := Srk.rd I1 hqy r'
      have l1 := Srk.adr_lt I1 hqx
      have l2 := Srk.adr_lt I1 hqy
      refine call_zipG s1' s2' fun h' hz hTI hTO h1 h2 hsz hk => wpAny_pyIter_zip hz ?_
      have I2 : L2.Inv X pins σ H1 { s1 with heap := h' } := I1.kept (t' := s1.toks) hk
      have n1 : ∀ c, s1.heap.objs.size ≤ c → c ∉ k1.adr := fun c hc z => absurd (l1 c z) (Nat.not_lt.mpr hc)
      have n2 : ∀ c, s1.heap.objs.size ≤ c → c ∉ k2.adr := fun c hc z => absurd (l2 c z) (Nat.not_lt.mpr hc)
      refine ⟨s1.heap.objs.size + 4, [s1.heap.objs.size + 4, s1.heap.objs.size + 2, s1.heap.objs.size + 3, s1.heap.objs.size, s1.heap.objs.size + 1], _, _, H1, rfl, I2, turn_zipG ⟨?_, ?_, ?_, ?_, ?_, ?_, ?_, ?_, ?_, ?_, n1 _ (Nat.le_add_right _ _), n2 _ (Nat.le_add_right _ _), n1 _ (Nat.le_add_right _ _), n2 _ (Nat.le_add_right _ _), n1 _ (Nat.le_refl _), n2 _ (Nat.le_refl _), n1 _ (Nat.le_add_right _ _), n2 _ (Nat.le_add_right _ _)⟩, ⟨hz, hTI, ⟨_, _, hTO⟩, h1, h2⟩, fresh5, q⟩
      all_goals (show (_ : Nat) ≠ _; omega)
/-! ### over data -/
def isSeqD : PyData → Bool
  | .list _ => true
  | .tuple _ => true
  | _ => false
/-- what stands for a walked datum -/
def sdOk (K : KK) (F : Hp) (d : PyData) (ds : List PyData) (v : V) : Prop := ∃ k xs, v = Srk.v k ∧ (∀ H, Same F H → k.has K H xs) ∧ RpA K F xs ds ∧ (isSeqD d = true → ∀ H, Same F H → Bd K H → ds.length ≤ sizeLine)
def chsD (x : Str) : List PyData := x.cps.toList.map fun c => .str ⟨#[c]⟩
/-- the items of a datum that can be walked -/
def itemsD : PyData → Option (List PyData)
  | .list ds => some ds
  | .tuple ds => some ds
  | .str x => some (chsD x)
  | _ => none
theorem itemsD_ok {K : KK} {F : Hp} {d : PyData} {ds : List PyData} {v : V} (h : itemsD d = some ds) (r : Rp K F v d) : sdOk K F d ds v := by
  cases r with
  | lst q r => cases h; exact ⟨.lst _, _, rfl, fun H s => s.seq q, r, fun _ H s bd => by rw [← r.length]; exact bd _ _ (.inl (s.seq q))⟩
  | tup q r => cases h; exact ⟨.tup _, _, rfl, fun H s => same_tup s q, r, fun _ H s bd => by rw [← r.length]; exact bd _ _ (.inr (same_tup s q))⟩
  | str x =>
    cases h
    refine ⟨.str x, chsV x, rfl, fun H s => rfl, ?_, fun z => nomatch z⟩
    unfold chsV chsD
    induction x.cps.toList with
    | nil => exact .nil
    | cons c cs ih => exact .cons (.str _) ih
  | non => cases h
  | bl b => cases h
  | int i => cases h
  | dK _ _ => cases h
section
variable {G : Gb} {C : SC} {k : Nat} {ρ ρ1 ρ2 : PEnv} {e e2 : Expr} {elts es : List Expr} {d d' : PyData} {ds es' : List PyData} {pos p tp : Pos} {kk : Nat}
theorem sdOk.mono {K : KK} {F F' : Hp} {v : V} (h : sdOk K F d ds v) (s : Same F F') : sdOk K F' d ds v := by
  obtain ⟨k, xs, e, q, r, b⟩ := h
  exact ⟨k, xs, e, fun H s' => q H (s.trans s'), r.mono s, fun z H s' bd => b z H (s.trans s') bd⟩
theorem it_zipA (hd : itemsD d = some ds) (hd' : itemsD d' = some es') (hg : C.sc.names.lookup ("zip" : Str) = some .globalImplicit) (hm : G.mg "zip" = none) (h : Ev G C k ρ e d) (h' : Ev G C k ρ e2 d') (hs : ∀ env, starEach [e, e2] env = (false, eval e env) :: starEach [e2] env) (hs2 : ∀ env, starEach [e2] env = [(false, eval e2 env)]) :
    It' G C k ρ (.Tuple elts kk tp) (.Call (.Name "zip" p) [e, e2] [] pos) (zipD ds es') ((isSeqD d = true → ds.length ≤ sizeLine) ∧ (isSeqD d' = true → es'.length ≤ sizeLine)) := fun X hX =>
  pi_imp (pi_zipG (by unfold Gl Env.kindOf; rw [hX.es]; exact hg) (by rw [hX.em]; exact hm) (pa_cons (h X hX) (pa_cons (pe_bd (h' X hX)) pa_nil (by rw [hs2]; rfl)) (hs _)) (hs _) (by rw [hs2]; rfl)) fun σ H R ⟨F0, H0, F, S, q⟩ => ⟨F0, H0, F, S, fun v F1 H1 e1 r1 => ⟨F0, H0, F1, S.go e1, fun v2 F2 H2 e2 r2 bd => by
    rw [hX.eK] at bd ⊢
    obtain ⟨k1, xs, rfl, h1, h2, b1⟩ := (itemsD_ok hd r1).mono e2.fs
    obtain ⟨k2, ys, rfl, h3, h4, b2⟩ := itemsD_ok hd' r2
    refine ⟨k1, k2, xs, ys, rfl, h1 _ e2.sub, h3 _ e2.sub, q _ F2 H2 (e1.trans e2) ⟨fun z => b1 z _ e2.sub bd, fun z => b2 z _ e2.sub bd⟩ ?_⟩
    refine fun F3 H3 s sF => ⟨fun i d hd => ?_, ⟨xs, ys, h1 _ (s.trans sF), h3 _ (s.trans sF), by rw [← zipD_len, h2.length, h4.length]⟩⟩
    obtain ⟨d1, d2, hd1, hd2, rfl⟩ := zipD_get hd
    have i1 : i < xs.length := by rw [h2.length]; exact (List.getElem?_eq_some_iff.mp hd1).1
    have i2 : i < ys.length := by rw [h4.length]; exact (List.getElem?_eq_some_iff.mp hd2).1
    refine ⟨⟨xs, ys, h1 _ (s.trans sF), h3 _ (s.trans sF), i1, i2⟩, fun x H' y => ?_⟩
    obtain ⟨T, u, v, rfl, hT, rfl, hu, hv⟩ := y
    obtain ⟨d3, hd3, r⟩ := h2.get (hu xs (h1 _ (s.trans sF)))
    obtain ⟨d4, hd4, r'⟩ := h4.get (hv ys (h3 _ (s.trans sF)))
    rw [hd1] at hd3
    rw [hd2] at hd4
    cases hd3
    cases hd4
    exact pair_new sF hT (r.mono s) (r'.mono s)⟩⟩
end
/-! ### with types -/
/-- a text's letters, each a text -/
def chS (x : Str) : List Str := x.cps.toList.map fun c => ⟨#[c]⟩
theorem itemsD_l {α : Type} (e : α → PyData) (xs : List α) : itemsD (eL e xs) = some (xs.map e) := rfl
theorem itemsD_t {α : Type} (e : α → PyData) (xs : List α) : itemsD (eT e xs) = some (xs.map e) := rfl
theorem itemsD_s (x : Str) : itemsD (eS x) = some ((chS x).map eS) := by
  show some (chsD x) = _
  unfold chsD chS
  rw [List.map_map]
  rfl
section
variable {G : Gb} {C : SC} {k : Nat} {ρ : PEnv} {e e2 : Expr} {elts : List Expr} {d d' : PyData} {pos p tp : Pos} {kk : Nat} {α β : Type} {ea : α → PyData} {eb : β → PyData}
theorem it_zipAX {xs : List α} {ys : List β} (hd : itemsD d = some (xs.map ea)) (hd' : itemsD d' = some (ys.map eb)) (hg : C.sc.names.lookup ("zip" : Str) = some .globalImplicit) (hm : G.mg "zip" = none) (h : Ev G C k ρ e d) (h' : Ev G C k ρ e2 d') (hs : ∀ env, starEach [e, e2] env = (false, eval e env) :: starEach [e2] env) (hs2 : ∀ env, starEach [e2] env = [(false, eval e2 env)]) :
    It' G C k ρ (.Tuple elts kk tp) (.Call (.Name "zip" p) [e, e2] [] pos) ((xs.zip ys).map (eP ea eb)) ((isSeqD d = true → (xs.map ea).length ≤ sizeLine) ∧ (isSeqD d' = true → (ys.map eb).length ≤ sizeLine)) := zipD_map (ea := ea) (eb := eb) xs ys ▸ it_zipA hd hd' hg hm h h' hs hs2
theorem zz_zipA {γ : Type} {ec : γ → PyData} {xs : List α} {ys : List β} {zs : List γ} (hd : isSeqD d = true ∨ isSeqD d' = true) (h : zs.length ≤ (List.zip xs ys).length) : ((isSeqD d = true → (xs.map ea).length ≤ sizeLine) ∧ (isSeqD d' = true → (ys.map eb).length ≤ sizeLine)) → (zs.map ec).length ≤ sizeLine := fun q => by
  simp only [List.length_map] at q ⊢
  rw [List.length_zip] at h
  rcases hd with z | z
  · have := q.1 z
    omega
  · have := q.2 z
    omega
end
end Pl
/-! Pl, part Q: x.extend(e), e a shared list or tuple. -/
namespace Pl
open PySem PySem.Spec PyProof.Rows L2

theorem ext_any (T : String) (hT : T = "list" ∨ T = "tuple") (l : Addr) (items : Array Value) (n : Nat) (b : Addr) (items2 : Array Value) (n2 : Nat) (dd : Option Addr) (sl : Array (Option Value)) (hc0 : ¬(!items.isEmpty && Builtin.List.listTooLong (items.size + items2.size)) = true) (hc1 : items.size ≤ sizeLine) (hs2 : items.size + items2.size ≤ sizeLine + 1) :
    Meets (Builtin.«list.extend» ⟨[.ref l, .ref b], []⟩) (fun _ R s => s.heap.get? l = some { cls := .type "list", dict := none, data := .seq items n, slots := #[] } ∧ s.heap.get? b = some { cls := .type T, dict := dd, data := .seq items2 n2, slots := sl } ∧ R (.ok (.ret Value.none)) { s with heap := s.heap.update l (Obj.mapSeq (· ++ items2)) }) :=
  .of_wp fun prog w A R s h => by
    obtain ⟨hp, g, d, tk, os⟩ := s; obtain ⟨hl, hb, h⟩ := h; have f1 := PySem.AutoSeq1.idx_int; have f2 := sub_tuple_tuple; have f3 := sub_list_list; have f4 := sub_tuple_list; have f5 := sub_list_tuple
    have hz' : (items ++ items2).size ≤ sizeLine + 1 := by rw [Array.size_append]; exact hs2
    rcases hT with rfl | rfl
    · wp_walk using (wpAny_updateSeq hl rfl (hz := hc1) (_hz' := hz')), wpAny_loadPart' hl, wpAny_loadPart' hb; exact ⟨_, rfl, h⟩
    · wp_walk using (wpAny_updateSeq hl rfl (hz := hc1) (_hz' := hz')), wpAny_loadPart' hl, wpAny_loadPart' hb; exact ⟨_, rfl, h⟩
def rExtA (K : KK) : V → List V → Hp → VK → Prop := fun x vs H Q => ∃ l b xs zs, x = .ref l ∧ vs = [.ref b] ∧ H l = some (.lst xs) ∧ (SqL K H b zs ∨ SqT K H b zs) ∧ xs.length + zs.length ≤ sizeLine ∧ Q .non (upd H l (.lst (xs ++ zs)))
theorem mt_extA {X : Cx} : MtM X "list.extend" (rExtA X.K) := by
  intro pins s σ H x vs v us Q I rx rv h
  obtain ⟨l, b, xs, zs, rfl, rfl, hH, hB, hz, q⟩ := h
  cases rx
  obtain ⟨u, rfl, ru⟩ := rv.one
  cases ru
  obtain ⟨z, its, n, r, hl, e⟩ := I.lstM hH
  obtain ⟨T, hT, its2, r2, n2, dd, sl, e2⟩ : ∃ T, (T = "list" ∨ T = "tuple") ∧ ∃ (its2 : List Value), Vals zs its2 ∧ ∃ n2 dd sl, s.heap.get? b = some { cls := .type T, dict := dd, data := .seq its2.toArray n2, slots := sl } := by
    rcases hB with hB | hB
    · obtain ⟨its2, r2, ⟨⟨cls, dd, data, sl⟩, n2, ho, hc, hd0, hd⟩, _⟩ := I.list hB
      simp only at hc hd
      subst hc hd
      exact ⟨"list", .inl rfl, its2, r2, n2, dd, sl, ho⟩
    · obtain ⟨its2, r2, ⟨⟨cls, dd, data, sl⟩, ho, hc, n2, hd⟩, _⟩ := I.tuple hB
      simp only at hc hd
      subst hc hd
      exact ⟨"tuple", .inr rfl, its2, r2, n2, dd, sl, ho⟩
  have hl2 := r2.length
  have hsz : its.toArray.size + its2.toArray.size ≤ sizeLine := by rw [List.size_toArray, List.size_toArray]; omega
  have hlong : ¬ (!its.toArray.isEmpty && Builtin.List.listTooLong (its.toArray.size + its2.toArray.size)) = true := by
    rw [notLongL hsz, Bool.and_false]
    exact Bool.false_ne_true
  refine call_meets PySem.F.slot_list_extend ⟨_, e, rfl⟩ PySem.F.entry_list_extend (PySem.F.args_list_extend_2 _ _)
    (ext_any T hT l its.toArray n b its2.toArray n2 dd sl hlong (by rw [List.size_toArray]; omega) (by omega)) ⟨e, e2, ?_⟩
  refine ⟨.non, _, I.lset (its' := its ++ its2) hH e (by simp) (r.append r2) ?_, rfl, q⟩
  rw [List.length_append]
  omega
section
variable {G : Gb} {C : SC} {k : Nat} {ρ : PEnv} {e : Expr} {d : PyData} {ds es' : List PyData} {pos : Pos} {x : Str}
/-- a list's or a tuple's items -/
def seqD : PyData → Option (List PyData)
  | .list ds => some ds
  | .tuple ds => some ds
  | _ => none
theorem st_extA (i : Nat) {p1 ap cp : Pos} (n : Nm C i x) (h : ρ[i]? = some (some (.ow (.list ds)))) (he : Ev G C k ρ e d) (hd : seqD d = some es') (hl : ds.length + es'.length ≤ sizeLine)
    (hsw : ∀ env, swapsWith (.Call (.Attribute (.Name x p1) "extend" ap) [e] [] cp) none pos.line env = pure false)
    (hs : ∀ env, starEach [e] env = [(false, eval e env)]) (hab : ∀ env, attributeBase (.Name x p1) "extend" env (eval (.Name x p1) env) = eval (.Name x p1) env) (hln : (ap.endLine == cp.line) = true) :
    St1 G C k ρ (.Expr (.Call (.Attribute (.Name x p1) "extend" ap) [e] [] cp) pos) (.nx (ρ.set i (some (.ow (.list (ds ++ es')))))) := fun X hX => by
  refine ps_imp (ps_expr (pe_bm PySem.F.plainAttrs_list PySem.F.slot_list_extend PySem.F.type_list_extend mt_extA (pe_var (i := i) (by rw [hX.eN]; exact n.hi) (vis_of hX n.hv) n.hd n.hc) (pa_cons (he X hX) pa_nil (by rw [hs]; rfl)) (hab _) (by rw [hs]; rfl) hln (by rw [hs]; rfl) rfl) (hsw _)) fun D σ H ⟨F0, H0, F, S, q⟩ => ?_
  obtain ⟨a, o, h1, h2, h3, h4, h5⟩ := S.ow i _ h
  rw [hX.eK]
  cases h3 with
  | @lst xs _ r =>
    refine ⟨.ref a, h1, .inl ⟨rfl, xs, .inl (.inl h2)⟩, F0, H0, F, S, fun v F1 H1 e1 r1 => ?_⟩
    have fin : ∀ zs b, v = .ref b → (SqL G.K H1 b zs ∨ SqT G.K H1 b zs) → RpA G.K F1 zs es' → rExtA G.K (.ref a) [v] H1 fun _ H' => D.nx σ H' := fun zs b hv hq rr => by
      subst hv
      exact ⟨a, b, xs, zs, rfl, rfl, e1.hs _ _ h2, hq, by rw [r.length, rr.length]; exact hl, q σ F1 _ ((S.go e1).mut h h1 (.lst ((r.mono e1.fs).append rr))) e1.fs⟩
    cases r1 with
    | lst q1 r1 => cases hd; exact fin _ _ rfl (.inl (e1.sub.seq q1)) r1
    | tup q1 r1 => cases hd; exact fin _ _ rfl (.inr (same_tup e1.sub q1)) r1
    | _ => cases hd
theorem sExtA {α : Type} {f : α → PyData} {xs ys zs : List α} (hz : xs ++ ys = zs) (i : Nat) {p1 ap cp : Pos} (n : Nm C i x) (h : ρ[i]? = some (some (.ow (eL f xs)))) (he : Ev G C k ρ e d) (hd : seqD d = some (ys.map f)) (hl : SzOk (xs.length + ys.length))
    (hsw : ∀ env, swapsWith (.Call (.Attribute (.Name x p1) "extend" ap) [e] [] cp) none pos.line env = pure false) (hs : ∀ env, starEach [e] env = [(false, eval e env)]) (hab : ∀ env, attributeBase (.Name x p1) "extend" env (eval (.Name x p1) env) = eval (.Name x p1) env) (hln : (ap.endLine == cp.line) = true) :
    St1 G C k ρ (.Expr (.Call (.Attribute (.Name x p1) "extend" ap) [e] [] cp) pos) (.nx (ρ.set i (some (.ow (eL f zs))))) := by
  subst hz
  have q := st_extA (pos := pos) (ds := xs.map f) (es' := ys.map f) i n h he hd (by rw [List.length_map, List.length_map]; exact hl.z) hsw hs hab hln
  rw [map_app] at q
  exact q
end
end Pl
/-! Pl, part O: powers in a ring, groups of powers. -/
namespace Pl
open PySem PySem.Spec PyProof.Rows L2
noncomputable section
/-! ### powers in a ring -/
theorem powmod_mod (a e n : Nat) : (a % n) ^ e % n = a ^ e % n := (Nat.pow_mod a e n).symm
/-- a prime's ring: each but 0 has a turned one -/
structure Fld (q : Nat) : Prop where
  two : 2 ≤ q
  inv : ∀ a, 0 < a → a < q → ∃ b, 0 < b ∧ b < q ∧ a * b % q = 1
theorem Fld.cancel {q : Nat} (F : Fld q) {a x y : Nat} (ha : 0 < a % q) (h : a * x % q = a * y % q) : x % q = y % q := by
  obtain ⟨b, _, hb, e⟩ := F.inv (a % q) ha (Nat.mod_lt _ (by have := F.two; omega))
  have h1 : b * (a * x) % q = b * (a * y) % q := by rw [Nat.mul_mod, h, ← Nat.mul_mod]
  have e' : a * b % q = 1 := by rw [Nat.mul_mod, Nat.mod_eq_of_lt hb] at *; simpa [Nat.mul_mod, Nat.mod_eq_of_lt hb] using e
  have k : ∀ z, b * (a * z) % q = z % q := fun z => by
    rw [show b * (a * z) = (a * b) * z by grind, Nat.mul_mod, e', Nat.one_mul, Nat.mod_mod]
  rw [k, k] at h1
  exact h1
theorem Fld.zero {q : Nat} (F : Fld q) {a x : Nat} (ha : 0 < a % q) (h : a * x % q = 0) : x % q = 0 := by
  have := F.cancel (x := x) (y := 0) ha (by rw [h, Nat.mul_zero, Nat.zero_mod])
  rw [this, Nat.zero_mod]
/-- g makes a round of q in the ring of p -/
structure Grp (p q g : Nat) : Prop where
  F : Fld q
  p1 : 1 < p
  g0 : 1 < g
  g1 : g < p
  e : g ^ q % p = 1
theorem Grp.mul {p q g : Nat} (G : Grp p q g) (k : Nat) : g ^ (q * k) % p = 1 := by
  rw [Nat.pow_mul, Nat.pow_mod, G.e, Nat.one_pow, Nat.mod_eq_of_lt G.p1]
theorem Grp.red {p q g : Nat} (G : Grp p q g) (x : Nat) : g ^ x % p = g ^ (x % q) % p := by
  have e : x = q * (x / q) + x % q := (Nat.div_add_mod x q).symm
  conv => lhs; rw [e]
  rw [Nat.pow_add, Nat.mul_mod, G.mul, Nat.one_mul, Nat.mod_mod]
theorem Grp.one {p q g : Nat} (G : Grp p q g) {x : Nat} (h : g ^ x % p = 1) : x % q = 0 := by
  by_cases c : x % q = 0
  · exact c
  · exfalso
    obtain ⟨b, _, hb, e⟩ := G.F.inv (x % q) (Nat.pos_of_ne_zero c) (Nat.mod_lt _ (by have := G.F.two; omega))
    have h1 : g ^ (x * b) % p = 1 := by rw [Nat.pow_mul, Nat.pow_mod, h, Nat.one_pow, Nat.mod_eq_of_lt G.p1]
    have e2 : x * b % q = 1 := by rw [Nat.mul_mod, Nat.mod_eq_of_lt hb]; exact e
    rw [G.red, e2, Nat.pow_one, Nat.mod_eq_of_lt G.g1] at h1
    have := G.g0
    omega
theorem Grp.inj {p q g : Nat} (G : Grp p q g) {x y : Nat} (h : g ^ x % p = g ^ y % p) : x % q = y % q := by
  have q2 := G.F.two
  have h1 : g ^ (x + (q - 1) * y) % p = 1 := by
    rw [Nat.pow_add, Nat.mul_mod, h, ← Nat.mul_mod, ← Nat.pow_add]
    have : y + (q - 1) * y = q * y := by
      obtain ⟨k, rfl⟩ : ∃ k, q = k + 1 := ⟨q - 1, by omega⟩
      simp only [Nat.add_sub_cancel]
      grind
    rw [this]
    exact G.mul y
  have h2 := G.one h1
  have h3 : (x + (q - 1) * y) + y = x + q * y := by
    obtain ⟨k, rfl⟩ : ∃ k, q = k + 1 := ⟨q - 1, by omega⟩
    simp only [Nat.add_sub_cancel]
    grind
  have h4 : ((x + (q - 1) * y) + y) % q = x % q := by rw [h3, Nat.add_mul_mod_self_left]
  rw [Nat.add_mod, h2, Nat.zero_add, Nat.mod_mod] at h4
  exact h4.symm
theorem Grp.iff {p q g : Nat} (G : Grp p q g) {x y : Nat} : g ^ x % p = g ^ y % p ↔ x % q = y % q := ⟨G.inj, fun h => by rw [G.red x, h, ← G.red]⟩
theorem Grp.pos {p q g : Nat} (G : Grp p q g) (x : Nat) : 0 < g ^ x % p := by
  rcases Nat.eq_zero_or_pos (g ^ x % p) with h | h
  · exfalso
    have q2 := G.F.two
    have h1 : g ^ (x + (q - 1) * x) % p = 0 := by rw [Nat.pow_add, Nat.mul_mod, h, Nat.zero_mul, Nat.zero_mod]
    have : x + (q - 1) * x = q * x := by
      obtain ⟨k, rfl⟩ : ∃ k, q = k + 1 := ⟨q - 1, by omega⟩
      simp only [Nat.add_sub_cancel]
      grind
    rw [this, G.mul] at h1
    omega
  · exact h
theorem Grp.pow {p q g : Nat} (G : Grp p q g) (x s : Nat) : (g ^ x % p) ^ s % p = g ^ (x * s) % p := by
  rw [powmod_mod, Nat.pow_mul]
/-! ### the program's power -/
def power_in_c1  (s1 : (Int × Int × Int)) : Option Bool :=
  some (decide (0 < s1.2.2))
def power_in_b2 (n1 : Int) (s1 : (Int × Int × Int)) : Option (Int × Int × Int) :=
  Option.bind (if (decide ((s1.2.2 % 2) = 1)) = true then (need (Pl.MulOk s1.1 s1.2.1) <| need (0 < n1) <| set' (((s1.1 * s1.2.1) % n1) : Int) fun found2 => some found2) else some s1.1 : Option (Int)) fun j1 => (need (Pl.MulOk s1.2.1 s1.2.1) <| need (0 < n1) <| set' (((s1.2.1 * s1.2.1) % n1) : Int) fun base2 => set' ((s1.2.2 / 2) : Int) fun e2 => some (j1, base2, e2))
def power_in_m (a1 : Int) (e1 : Int) (n1 : Int) : Option Int :=
  (need (0 < n1) <| set' ((1 % n1) : Int) fun found1 => set' ((a1 % n1) : Int) fun base1 => (whileS (power_in_c1) (power_in_b2 n1) 1000000 (found1, base1, e1)).bind fun s2 => some s2.1)
theorem pow_step (f b e n : Nat) (h : ¬ e = 0) : (if e % 2 = 1 then f * b % n else f) * (b * b % n) ^ (e / 2) % n = f * b ^ e % n := by
  have e1 : b ^ e = (b * b) ^ (e / 2) * b ^ (e % 2) := by
    conv => lhs; rw [← Nat.div_add_mod e 2, Nat.pow_add, Nat.pow_mul, Nat.pow_two]
  rcases Nat.mod_two_eq_zero_or_one e with c | c
  · rw [if_neg (by omega), e1, c, Nat.pow_zero, Nat.mul_one, Nat.mul_mod, powmod_mod, ← Nat.mul_mod]
  · rw [if_pos c, e1, c, Nat.pow_one, Nat.mul_mod, powmod_mod, Nat.mod_mod, ← Nat.mul_mod]
    congr 1
    rw [Nat.mul_assoc, Nat.mul_comm b]
theorem power_loop (n : Nat) (h0 : 0 < n) (hn : n < 2 ^ 60) : ∀ (m fuel e f b : Nat), e < 2 ^ m → m + 1 ≤ fuel → f < n → b < n → ∃ b' : Int, whileS power_in_c1 (power_in_b2 (n : Int)) fuel ((f : Int), (b : Int), (e : Int)) = some (((f * b ^ e % n : Nat) : Int), b', 0) := by
  intro m
  induction m with
  | zero =>
    intro fuel e f b he hf hf1 hb1
    obtain ⟨k, rfl⟩ : ∃ k, fuel = k + 1 := ⟨fuel - 1, by omega⟩
    have : e = 0 := by simpa using he
    subst this
    refine ⟨b, ?_⟩
    show (power_in_c1 ((f : Int), (b : Int), ((0 : Nat) : Int))).bind _ = _
    simp [power_in_c1, Nat.mod_eq_of_lt hf1]
  | succ m ih =>
    intro fuel e f b he hf hf1 hb1
    obtain ⟨k, rfl⟩ : ∃ k, fuel = k + 1 := ⟨fuel - 1, by omega⟩
    by_cases c : e = 0
    · subst c
      refine ⟨b, ?_⟩
      show (power_in_c1 ((f : Int), (b : Int), ((0 : Nat) : Int))).bind _ = _
      simp [power_in_c1, Nat.mod_eq_of_lt hf1]
    · have n0 : (0 : Int) < (n : Int) := by omega
      have b2 : ((2 ^ 60 : Nat) : Int) = 1152921504606846976 := by decide
      have hm1 : Pl.MulOk (f : Int) (b : Int) := mulS (by omega)
      have hm2 : Pl.MulOk (b : Int) (b : Int) := mulS (by omega)
      have hp : (0 : Int) < (e : Int) := by omega
      have e1 : power_in_b2 (n : Int) ((f : Int), (b : Int), (e : Int)) = some ((((if e % 2 = 1 then f * b % n else f : Nat)) : Int), ((b * b % n : Nat) : Int), ((e / 2 : Nat) : Int)) := by
        unfold power_in_b2
        simp only [need_of hm1, need_of n0, need_of hm2, set_eq]
        rcases Nat.mod_two_eq_zero_or_one e with c | c
        · have c' : ¬ ((e : Int) % 2 = 1) := by omega
          simp only [c', decide_false, Bool.false_eq_true, if_false, Option.bind_some, c, if_neg (show ¬ (0 = 1) by omega), Int.natCast_emod, Int.natCast_mul, Int.natCast_ediv]
          rfl
        · have c' : ((e : Int) % 2 = 1) := by omega
          simp only [c', decide_true, if_true, Option.bind_some, c, Int.natCast_emod, Int.natCast_mul, Int.natCast_ediv]
          rfl
      obtain ⟨b', h⟩ := ih k (e / 2) (if e % 2 = 1 then f * b % n else f) (b * b % n) (by rw [Nat.pow_succ] at he; omega) (by omega) (by split <;> first | exact Nat.mod_lt _ h0 | exact hf1) (Nat.mod_lt _ h0)
      refine ⟨b', ?_⟩
      show (power_in_c1 ((f : Int), (b : Int), (e : Int))).bind _ = _
      simp only [power_in_c1, hp, decide_true, Option.bind_some, if_true, e1, h]
      rw [pow_step f b e n c]
theorem power_in_ok (a e n : Nat) (h0 : 0 < n) (hn : n < 2 ^ 60) (he : e < 2 ^ 1000) : power_in_m (a : Int) (e : Int) (n : Int) = some ((a ^ e % n : Nat) : Int) := by
  unfold power_in_m
  have n0 : (0 : Int) < (n : Int) := by omega
  rw [need_of n0, set_eq, set_eq]
  obtain ⟨b', h⟩ := power_loop n h0 hn 1000 1000000 e (1 % n) (a % n) he (by omega) (Nat.mod_lt _ h0) (Nat.mod_lt _ h0)
  have e1 : ((1 : Int) % (n : Int)) = ((1 % n : Nat) : Int) := by rw [Int.natCast_emod]; rfl
  have e2 : ((a : Int) % (n : Int)) = ((a % n : Nat) : Int) := by rw [Int.natCast_emod]
  rw [e1, e2, h]
  show some (((1 % n * (a % n) ^ e % n : Nat)) : Int) = _
  rw [Nat.mul_mod, powmod_mod, Nat.mod_mod, ← Nat.mul_mod, Nat.one_mul]
theorem if_nt {α : Type} {b : Bool} (h : b = true) {x y : α} : (if (!b) = true then x else y) = y := by rw [h]; rfl
theorem if_yes {α : Type} {b : Bool} (h : b = true) {x y : α} : (if b = true then x else y) = x := by rw [h]; rfl
theorem if_no {α : Type} {b : Bool} (h : b = false) {x y : α} : (if b = true then x else y) = y := by rw [h]; rfl
/-! ### the first hit -/
theorem forO_find {α β : Type} {step : Unit → α → Option (O Unit β)} (P : α → Prop) (v : α → β) : ∀ (xs : List α), (∀ x ∈ xs, P x → step () x = some (.rt (v x))) → (∀ x ∈ xs, ¬ P x → step () x = some (.nx ())) → (∃ x ∈ xs, P x) → ∃ x ∈ xs, P x ∧ forO step xs () = some (.rt (v x))
  | [], _, _, h => by obtain ⟨x, hx, _⟩ := h; cases hx
  | x :: xs, h1, h2, h3 => by
    by_cases c : P x
    · refine ⟨x, List.mem_cons_self .., c, ?_⟩
      show (step () x).bind _ = _
      rw [h1 x (List.mem_cons_self ..) c]; rfl
    · obtain ⟨y, hy, q⟩ := h3
      have hy' : y ∈ xs := by
        rcases List.mem_cons.mp hy with rfl | hy
        · exact absurd q c
        · exact hy
      obtain ⟨z, hz, q1, q2⟩ := forO_find P v xs (fun y hy => h1 y (List.mem_cons_of_mem _ hy)) (fun y hy => h2 y (List.mem_cons_of_mem _ hy)) ⟨y, hy', q⟩
      refine ⟨z, List.mem_cons_of_mem _ hz, q1, ?_⟩
      show (step () x).bind _ = _
      rw [h2 x (List.mem_cons_self ..) c]
      exact q2
/-- a walk in which nothing leaves -/
theorem forO_none {α β : Type} {step : Unit → α → Option (O Unit β)} : ∀ (xs : List α), (∀ x ∈ xs, step () x = some (.nx ())) → forO step xs () = some (.nx ())
  | [], _ => rfl
  | x :: xs, h => by
    show (step () x).bind _ = _
    rw [h x (List.mem_cons_self ..)]
    exact forO_none xs fun y hy => h y (List.mem_cons_of_mem _ hy)
def turned_number_l1 (a1 : Int) (n1 : Int) (s1 : (Unit)) (x1 : Int) : Option (O (Unit) (Option Int)) :=
  (need (Pl.MulOk a1 x1) <| need (0 < n1) <| if (decide (((a1 * x1) % n1) = 1)) = true then some (O.rt (some x1)) else some (O.nx ()))
def turned_number_m (a1 : Int) (n1 : Int) : Option (Option Int) :=
  (need (RgO 0 n1) <| (forO (turned_number_l1 a1 n1) (rangeD 0 n1) ()).bind fun o1 => O.then o1 (fun s2 => some (none : (Option Int))) (fun b => some b))
theorem turned_ok (a n : Nat) (hn : n ≤ 1000) (h0 : 0 < n) (h : ∃ b, b < n ∧ a * b % n = 1) : ∃ b, b < n ∧ a * b % n = 1 ∧ turned_number_m (a : Int) (n : Int) = some (some (b : Int)) := by
  unfold turned_number_m
  rw [need_of (rg_n n (by omega))]
  have n0 : (0 : Int) < (n : Int) := by omega
  obtain ⟨b0, hb, e⟩ := h
  obtain ⟨x, hx, q1, q2⟩ := forO_find (step := turned_number_l1 (a : Int) (n : Int)) (fun x => (a : Int) * x % (n : Int) = 1) (fun x => some x) (rangeD 0 (n : Int)) (fun x hx hP => by
    obtain ⟨x0, x1⟩ := rangeD_mem hx
    unfold turned_number_l1
    rw [need_of (mul_r (by omega)), need_of n0, decide_eq_true hP]
    rfl) (fun x hx hP => by
    obtain ⟨x0, x1⟩ := rangeD_mem hx
    unfold turned_number_l1
    rw [need_of (mul_r (by omega)), need_of n0, decide_eq_false hP]
    rfl) ⟨(b0 : Int), mem_rangeD.mpr (by omega), by rw [← Int.natCast_mul, ← Int.natCast_emod, e]; rfl⟩
  obtain ⟨x0, x1⟩ := rangeD_mem hx
  obtain ⟨b, rfl⟩ := Int.eq_ofNat_of_zero_le x0
  refine ⟨b, by omega, ?_, by rw [q2]; rfl⟩
  rw [← Int.natCast_mul, ← Int.natCast_emod] at q1
  omega
/-- every number's power by one less is 1 -/
def Fer (q : Nat) : Prop := 2 ≤ q ∧ ∀ a, 0 < a → a < q → a ^ (q - 1) % q = 1
theorem Fer.fld {q : Nat} (h : Fer q) : Fld q := ⟨h.1, fun a h0 h1 => by
  have e := h.2 a h0 h1
  have h2 := h.1
  refine ⟨a ^ (q - 2) % q, ?_, Nat.mod_lt _ (by omega), ?_⟩
  · rcases Nat.eq_zero_or_pos (a ^ (q - 2) % q) with z | z
    · exfalso
      have : a ^ (q - 1) % q = 0 := by rw [show q - 1 = (q - 2) + 1 by omega, Nat.pow_succ, Nat.mul_mod, z, Nat.zero_mul, Nat.zero_mod]
      omega
    · exact z
  · rw [Nat.mul_mod, Nat.mod_mod, ← Nat.mul_mod, Nat.mul_comm, ← Nat.pow_succ]
    rw [show (q - 2).succ = q - 1 by omega]
    exact e⟩
def ferB (q : Nat) : Bool := decide (2 ≤ q) && (List.range q).all fun a => a == 0 || a ^ (q - 1) % q == 1
theorem fer_of {q : Nat} (h : ferB q = true) : Fer q := by
  unfold ferB at h
  rw [Bool.and_eq_true, decide_eq_true_iff, List.all_eq_true] at h
  refine ⟨h.1, fun a h0 h1 => ?_⟩
  have := h.2 a (List.mem_range.mpr h1)
  rw [Bool.or_eq_true, beq_iff_eq, beq_iff_eq] at this
  omega
/-- lists of one length with the same images under what tells all apart -/
theorem perm_of_map {α β : Type} (f : α → β) (P : α → Prop) (inj : ∀ x y, P x → P y → f x = f y → x = y) {l m : List α} (hl : ∀ x ∈ l, P x) (hm : ∀ x ∈ m, P x) (h : (l.map f).Perm (m.map f)) : l.Perm m := by
  open Classical in
  by_cases hz : l = []
  · subst hz
    have := h.length_eq
    simp only [List.map_nil, List.length_nil, List.length_map] at this
    rw [List.eq_nil_of_length_eq_zero this.symm]
  · obtain ⟨x0, hx0⟩ := List.exists_mem_of_ne_nil l hz
    let g : β → α := fun y => if c : ∃ x, P x ∧ f x = y then c.choose else x0
    have hg : ∀ x, P x → g (f x) = x := fun x hx => by
      have c : ∃ z, P z ∧ f z = f x := ⟨x, hx, rfl⟩
      show (if c : ∃ z, P z ∧ f z = f x then c.choose else x0) = x
      rw [dif_pos c]
      exact inj _ _ c.choose_spec.1 hx c.choose_spec.2
    have h2 := h.map g
    rw [List.map_map, List.map_map] at h2
    have a : l.map (g ∘ f) = l := by
      conv => rhs; rw [← List.map_id l]
      exact List.map_congr_left fun x hx => hg x (hl x hx)
    have b : m.map (g ∘ f) = m := by
      conv => rhs; rw [← List.map_id m]
      exact List.map_congr_left fun x hx => hg x (hm x hx)
    rw [a, b] at h2
    exact h2
end
end Pl
/-! Pl, part P: texts. -/
namespace Pl
open PySem PySem.Spec PyProof.Rows L2
/-- x * n -/
def repS (x : Str) (n : Int) : Str := ⟨(List.replicate n.toNat x.cps.toList).flatten.toArray⟩
theorem foldl_rep' (its : List Nat) : ∀ (m : Nat) (acc : List Nat), List.foldl (fun (x1 x2 : Array Nat) => x1 ++ x2) acc.toArray (List.replicate m its.toArray) = (acc ++ (List.replicate m its).flatten).toArray
  | 0, acc => by simp
  | m + 1, acc => by
    rw [List.replicate_succ, List.foldl_cons, List.replicate_succ, List.flatten_cons]
    have e : acc.toArray ++ its.toArray = (acc ++ its).toArray := by simp
    rw [e, foldl_rep' its m, List.append_assoc]
theorem repS_fold (x : Str) (n : Nat) : (List.replicate n x.cps).foldl (· ++ ·) #[] = (List.replicate n x.cps.toList).flatten.toArray := by
  have := foldl_rep' x.cps.toList n []
  rw [List.nil_append] at this
  exact this
theorem op_repS {X : Cx} : OpR X (binaryOp .Mult) (fun x y H Q => ∃ z n, x = .str z ∧ y = .int n ∧ -1000000000 ≤ n ∧ n ≤ 1000000000 ∧ z.length * n.toNat ≤ 16777216 ∧ Q (.str (repS z n)) H) := by
  intro pins s σ H x y v u Q I rx ry h
  obtain ⟨z, n, rfl, rfl, h1, h2, h3, q⟩ := h
  obtain ⟨t, rfl⟩ := rx
  obtain ⟨t', rfl⟩ := ry
  have sz : sizeLine = 16777216 := sizeLine_eq
  refine P.mul_str ?_ ?_ ?_ ?_
  · rw [decide_eq_false (by omega), decide_eq_false (by omega)]; rfl
  · intro a b c
    have h0 : 0 < n := by omega
    have : (z.length : Int) * n ≤ 16777216 := by
      have e := Int.toNat_of_nonneg (show 0 ≤ n by omega)
      rw [← e, ← Int.natCast_mul]
      exact Int.ofNat_le.mpr h3
    have c2 : (2 ^ 63 - 1 : Int) / n < z.length := c
    have := Int.lt_mul_of_ediv_lt h0 c2
    omega
  · intro a b
    exact decide_eq_false (by show ¬ z.length * n.toNat > sizeLine; omega)
  · by_cases c : n < 1
    · rw [if_pos c]
      have e : repS z n = Str.empty := by
        unfold repS
        rw [show n.toNat = 0 by omega]; rfl
      exact ⟨by decide, ⟨.str (repS z n), H, I.tok _, ⟨s.toks, by rw [e]⟩, q⟩⟩
    · rw [if_neg c]
      by_cases c2 : (n == 1 || z.length == 0) = true
      · rw [if_pos c2]
        have e : repS z n = z := by
          unfold repS
          rw [Bool.or_eq_true, beq_iff_eq, beq_iff_eq] at c2
          rcases c2 with c2 | c2
          · subst c2
            show (⟨(List.replicate 1 z.cps.toList).flatten.toArray⟩ : Str) = z
            simp
          · have : z.cps.toList = [] := by
              have : z.cps.size = 0 := c2
              simpa using this
            rw [this]
            have h : (List.replicate n.toNat ([] : List Nat)).flatten = [] := by simp
            rw [h]
            have hz : z.cps = #[] := by simpa using this
            cases z
            simp only at hz
            rw [hz]
        exact ⟨.str (repS z n), H, I, ⟨_, by rw [e]⟩, q⟩
      · rw [if_neg c2, repS_fold]
        refine ⟨?_, ⟨.str (repS z n), H, I.tok _, ⟨_, rfl⟩, q⟩⟩
        show (List.replicate n.toNat z.cps.toList).flatten.toArray.size ≤ sizeLine
        rw [List.size_toArray, rep_length, sz, Nat.mul_comm]
        exact h3
section
variable {G : Gb} {C : SC} {k : Nat}
theorem ok_repS {z : Str} {n : Int} (h : RepOk z.length n) : OpOk G C k (binaryOp .Mult) (eS z) (.int n) (eS (repS z n)) := fun X hX =>
  op_imp op_repS fun v u H Q ⟨F, sF, rx, ry, q⟩ => ⟨z, n, rx.str, ry.int, h.1.1, h.1.2, h.2, q _ F H (Ext.refl sF) (.str _)⟩
end
end Pl
/-! Pl: tuples of four to eight fixed parts (printed by genP.py). -/
namespace Pl
open PySem PySem.Spec PyProof.Rows L2

section
variable {t0 t1 t2 t3 : Type} {e0 : t0 → PyData} {e1 : t1 → PyData} {e2 : t2 → PyData} {e3 : t3 → PyData} {n m : Nat}
theorem fl_P4 (h0 : ∀ x, flat (e0 x) = true) (h1 : ∀ x, flat (e1 x) = true) (h2 : ∀ x, flat (e2 x) = true) (h3 : ∀ x, flat (e3 x) = true) : ∀ x, flat (eP4 e0 e1 e2 e3 x) = true := fun x => by
  show (flat (e0 (x.1)) && (flat (e1 (x.2.1)) && (flat (e2 (x.2.2.1)) && (flat (e3 (x.2.2.2)) && true)))) = true
  rw [h0, h1, h2, h3]; rfl
theorem or_P4 (h0 : OrdT e0 n) (h1 : OrdT e1 n) (h2 : OrdT e2 n) (h3 : OrdT e3 n) : OrdT (eP4 e0 e1 e2 e3) (n + 1) := ⟨fun x y => by
  show PySem.W.alike (.tuple [e0 (x.1), e1 (x.2.1), e2 (x.2.2.1), e3 (x.2.2.2)]) (.tuple [e0 (y.1), e1 (y.2.1), e2 (y.2.2.1), e3 (y.2.2.2)]) = true
  simp only [PySem.W.alike, PySem.W.alikeAll, h0.al, h1.al, h2.al, h3.al]; rfl, fun x => by
  show (noDct (e0 (x.1)) && (noDct (e1 (x.2.1)) && (noDct (e2 (x.2.2.1)) && (noDct (e3 (x.2.2.2)) && true)))) = true
  rw [h0.nd, h1.nd, h2.nd, h3.nd]; rfl, (fun _ h => by cases h), fun x => by
  show ((e0 (x.1)).canLay0 && ((e1 (x.2.1)).canLay0 && ((e2 (x.2.2.1)).canLay0 && ((e3 (x.2.2.2)).canLay0 && true)))) = true
  rw [h0.cl, h1.cl, h2.cl, h3.cl]; rfl, fun x => by
  show max ((e0 (x.1)).depth) (max ((e1 (x.2.1)).depth) (max ((e2 (x.2.2.1)).depth) (max ((e3 (x.2.2.2)).depth) (0)))) + 1 ≤ n + 1
  exact Nat.succ_le_succ (Nat.max_le.mpr ⟨h0.dp _, (Nat.max_le.mpr ⟨h1.dp _, (Nat.max_le.mpr ⟨h2.dp _, (Nat.max_le.mpr ⟨h3.dp _, (Nat.zero_le _)⟩)⟩)⟩)⟩)⟩
theorem srt_P4 (xs : List (t0 × t1 × t2 × t3)) : SrtOk (eP4 e0 e1 e2 e3) xs := .inl fun x _ => ⟨_, _, rfl⟩
variable [DecidableEq t0] [DecidableEq t1] [DecidableEq t2] [DecidableEq t3]
theorem eq_P4 (h0 : EqT e0 n) (h1 : EqT e1 n) (h2 : EqT e2 n) (h3 : EqT e3 n) : EqT (eP4 e0 e1 e2 e3) (n + 1) := ⟨fun x => by
  show (noDct (e0 (x.1)) && (noDct (e1 (x.2.1)) && (noDct (e2 (x.2.2.1)) && (noDct (e3 (x.2.2.2)) && true)))) = true
  rw [h0.nd, h1.nd, h2.nd, h3.nd]; rfl, fun x => by
  show ((e0 (x.1)).canLay0 && ((e1 (x.2.1)).canLay0 && ((e2 (x.2.2.1)).canLay0 && ((e3 (x.2.2.2)).canLay0 && true)))) = true
  rw [h0.cl, h1.cl, h2.cl, h3.cl]; rfl, fun x => by
  show max ((e0 (x.1)).depth) (max ((e1 (x.2.1)).depth) (max ((e2 (x.2.2.1)).depth) (max ((e3 (x.2.2.2)).depth) (0)))) + 1 ≤ n + 1
  exact Nat.succ_le_succ (Nat.max_le.mpr ⟨h0.dp _, (Nat.max_le.mpr ⟨h1.dp _, (Nat.max_le.mpr ⟨h2.dp _, (Nat.max_le.mpr ⟨h3.dp _, (Nat.zero_le _)⟩)⟩)⟩)⟩), fun x y => by
  show PyData.eqv (.tuple [e0 (x.1), e1 (x.2.1), e2 (x.2.2.1), e3 (x.2.2.2)]) (.tuple [e0 (y.1), e1 (y.2.1), e2 (y.2.2.1), e3 (y.2.2.2)]) = _
  rw [PyData.eqv]
  simp only [PyData.eqvAll, h0.eq, h1.eq, h2.eq, h3.eq, Bool.and_true]
  obtain ⟨x0, x1, x2, x3⟩ := x
  obtain ⟨y0, y1, y2, y3⟩ := y
  simp [Bool.decide_and]⟩
end
def fit4 {α β : Type} (xs : List α) (f : α → α → α → α → Option β) : Option β := match xs with
  | [v0, v1, v2, v3] => f v0 v1 v2 v3
  | _ => none
theorem fit4_ex {α β : Type} {xs : List α} {f : α → α → α → α → Option β} {r : β} (h : fit4 xs f = some r) : ∃ v0 v1 v2 v3, xs = [v0, v1, v2, v3] ∧ f v0 v1 v2 v3 = some r := by
  unfold fit4 at h
  split at h
  · exact ⟨_, _, _, _, rfl, h⟩
  · cases h
def eP5 {t0 t1 t2 t3 t4 : Type} (e0 : t0 → PyData) (e1 : t1 → PyData) (e2 : t2 → PyData) (e3 : t3 → PyData) (e4 : t4 → PyData) (p : t0 × t1 × t2 × t3 × t4) : PyData := .tuple [e0 (p.1), e1 (p.2.1), e2 (p.2.2.1), e3 (p.2.2.2.1), e4 (p.2.2.2.2)]
section
variable {t0 t1 t2 t3 t4 : Type} {e0 : t0 → PyData} {e1 : t1 → PyData} {e2 : t2 → PyData} {e3 : t3 → PyData} {e4 : t4 → PyData} {n m : Nat}
theorem nn_P5 : NN (eP5 e0 e1 e2 e3 e4) := ⟨fun _ => rfl⟩
theorem fl_P5 (h0 : ∀ x, flat (e0 x) = true) (h1 : ∀ x, flat (e1 x) = true) (h2 : ∀ x, flat (e2 x) = true) (h3 : ∀ x, flat (e3 x) = true) (h4 : ∀ x, flat (e4 x) = true) : ∀ x, flat (eP5 e0 e1 e2 e3 e4 x) = true := fun x => by
  show (flat (e0 (x.1)) && (flat (e1 (x.2.1)) && (flat (e2 (x.2.2.1)) && (flat (e3 (x.2.2.2.1)) && (flat (e4 (x.2.2.2.2)) && true))))) = true
  rw [h0, h1, h2, h3, h4]; rfl
theorem du_P5 (h0 : Due e0 n) (h1 : Due e1 n) (h2 : Due e2 n) (h3 : Due e3 n) (h4 : Due e4 n) : Due (eP5 e0 e1 e2 e3 e4) (n + 1) := ⟨fun x => by
  show (dueOk (e0 (x.1)) && (dueOk (e1 (x.2.1)) && (dueOk (e2 (x.2.2.1)) && (dueOk (e3 (x.2.2.2.1)) && (dueOk (e4 (x.2.2.2.2)) && true))))) = true
  rw [h0.ok, h1.ok, h2.ok, h3.ok, h4.ok]; rfl, fun x => by
  show max ((e0 (x.1)).depth) (max ((e1 (x.2.1)).depth) (max ((e2 (x.2.2.1)).depth) (max ((e3 (x.2.2.2.1)).depth) (max ((e4 (x.2.2.2.2)).depth) (0))))) + 1 ≤ n + 1
  exact Nat.succ_le_succ (Nat.max_le.mpr ⟨h0.dp _, (Nat.max_le.mpr ⟨h1.dp _, (Nat.max_le.mpr ⟨h2.dp _, (Nat.max_le.mpr ⟨h3.dp _, (Nat.max_le.mpr ⟨h4.dp _, (Nat.zero_le _)⟩)⟩)⟩)⟩)⟩)⟩
theorem or_P5 (h0 : OrdT e0 n) (h1 : OrdT e1 n) (h2 : OrdT e2 n) (h3 : OrdT e3 n) (h4 : OrdT e4 n) : OrdT (eP5 e0 e1 e2 e3 e4) (n + 1) := ⟨fun x y => by
  show PySem.W.alike (.tuple [e0 (x.1), e1 (x.2.1), e2 (x.2.2.1), e3 (x.2.2.2.1), e4 (x.2.2.2.2)]) (.tuple [e0 (y.1), e1 (y.2.1), e2 (y.2.2.1), e3 (y.2.2.2.1), e4 (y.2.2.2.2)]) = true
  simp only [PySem.W.alike, PySem.W.alikeAll, h0.al, h1.al, h2.al, h3.al, h4.al]; rfl, fun x => by
  show (noDct (e0 (x.1)) && (noDct (e1 (x.2.1)) && (noDct (e2 (x.2.2.1)) && (noDct (e3 (x.2.2.2.1)) && (noDct (e4 (x.2.2.2.2)) && true))))) = true
  rw [h0.nd, h1.nd, h2.nd, h3.nd, h4.nd]; rfl, (fun _ h => by cases h), fun x => by
  show ((e0 (x.1)).canLay0 && ((e1 (x.2.1)).canLay0 && ((e2 (x.2.2.1)).canLay0 && ((e3 (x.2.2.2.1)).canLay0 && ((e4 (x.2.2.2.2)).canLay0 && true))))) = true
  rw [h0.cl, h1.cl, h2.cl, h3.cl, h4.cl]; rfl, fun x => by
  show max ((e0 (x.1)).depth) (max ((e1 (x.2.1)).depth) (max ((e2 (x.2.2.1)).depth) (max ((e3 (x.2.2.2.1)).depth) (max ((e4 (x.2.2.2.2)).depth) (0))))) + 1 ≤ n + 1
  exact Nat.succ_le_succ (Nat.max_le.mpr ⟨h0.dp _, (Nat.max_le.mpr ⟨h1.dp _, (Nat.max_le.mpr ⟨h2.dp _, (Nat.max_le.mpr ⟨h3.dp _, (Nat.max_le.mpr ⟨h4.dp _, (Nat.zero_le _)⟩)⟩)⟩)⟩)⟩)⟩
theorem srt_P5 (xs : List (t0 × t1 × t2 × t3 × t4)) : SrtOk (eP5 e0 e1 e2 e3 e4) xs := .inl fun x _ => ⟨_, _, rfl⟩
variable [DecidableEq t0] [DecidableEq t1] [DecidableEq t2] [DecidableEq t3] [DecidableEq t4]
theorem eq_P5 (h0 : EqT e0 n) (h1 : EqT e1 n) (h2 : EqT e2 n) (h3 : EqT e3 n) (h4 : EqT e4 n) : EqT (eP5 e0 e1 e2 e3 e4) (n + 1) := ⟨fun x => by
  show (noDct (e0 (x.1)) && (noDct (e1 (x.2.1)) && (noDct (e2 (x.2.2.1)) && (noDct (e3 (x.2.2.2.1)) && (noDct (e4 (x.2.2.2.2)) && true))))) = true
  rw [h0.nd, h1.nd, h2.nd, h3.nd, h4.nd]; rfl, fun x => by
  show ((e0 (x.1)).canLay0 && ((e1 (x.2.1)).canLay0 && ((e2 (x.2.2.1)).canLay0 && ((e3 (x.2.2.2.1)).canLay0 && ((e4 (x.2.2.2.2)).canLay0 && true))))) = true
  rw [h0.cl, h1.cl, h2.cl, h3.cl, h4.cl]; rfl, fun x => by
  show max ((e0 (x.1)).depth) (max ((e1 (x.2.1)).depth) (max ((e2 (x.2.2.1)).depth) (max ((e3 (x.2.2.2.1)).depth) (max ((e4 (x.2.2.2.2)).depth) (0))))) + 1 ≤ n + 1
  exact Nat.succ_le_succ (Nat.max_le.mpr ⟨h0.dp _, (Nat.max_le.mpr ⟨h1.dp _, (Nat.max_le.mpr ⟨h2.dp _, (Nat.max_le.mpr ⟨h3.dp _, (Nat.max_le.mpr ⟨h4.dp _, (Nat.zero_le _)⟩)⟩)⟩)⟩)⟩), fun x y => by
  show PyData.eqv (.tuple [e0 (x.1), e1 (x.2.1), e2 (x.2.2.1), e3 (x.2.2.2.1), e4 (x.2.2.2.2)]) (.tuple [e0 (y.1), e1 (y.2.1), e2 (y.2.2.1), e3 (y.2.2.2.1), e4 (y.2.2.2.2)]) = _
  rw [PyData.eqv]
  simp only [PyData.eqvAll, h0.eq, h1.eq, h2.eq, h3.eq, h4.eq, Bool.and_true]
  obtain ⟨x0, x1, x2, x3, x4⟩ := x
  obtain ⟨y0, y1, y2, y3, y4⟩ := y
  simp [Bool.decide_and]⟩
end
def fit5 {α β : Type} (xs : List α) (f : α → α → α → α → α → Option β) : Option β := match xs with
  | [v0, v1, v2, v3, v4] => f v0 v1 v2 v3 v4
  | _ => none
theorem fit5_ex {α β : Type} {xs : List α} {f : α → α → α → α → α → Option β} {r : β} (h : fit5 xs f = some r) : ∃ v0 v1 v2 v3 v4, xs = [v0, v1, v2, v3, v4] ∧ f v0 v1 v2 v3 v4 = some r := by
  unfold fit5 at h
  split at h
  · exact ⟨_, _, _, _, _, rfl, h⟩
  · cases h
def eP6 {t0 t1 t2 t3 t4 t5 : Type} (e0 : t0 → PyData) (e1 : t1 → PyData) (e2 : t2 → PyData) (e3 : t3 → PyData) (e4 : t4 → PyData) (e5 : t5 → PyData) (p : t0 × t1 × t2 × t3 × t4 × t5) : PyData := .tuple [e0 (p.1), e1 (p.2.1), e2 (p.2.2.1), e3 (p.2.2.2.1), e4 (p.2.2.2.2.1), e5 (p.2.2.2.2.2)]
section
variable {t0 t1 t2 t3 t4 t5 : Type} {e0 : t0 → PyData} {e1 : t1 → PyData} {e2 : t2 → PyData} {e3 : t3 → PyData} {e4 : t4 → PyData} {e5 : t5 → PyData} {n m : Nat}
theorem nn_P6 : NN (eP6 e0 e1 e2 e3 e4 e5) := ⟨fun _ => rfl⟩
theorem fl_P6 (h0 : ∀ x, flat (e0 x) = true) (h1 : ∀ x, flat (e1 x) = true) (h2 : ∀ x, flat (e2 x) = true) (h3 : ∀ x, flat (e3 x) = true) (h4 : ∀ x, flat (e4 x) = true) (h5 : ∀ x, flat (e5 x) = true) : ∀ x, flat (eP6 e0 e1 e2 e3 e4 e5 x) = true := fun x => by
  show (flat (e0 (x.1)) && (flat (e1 (x.2.1)) && (flat (e2 (x.2.2.1)) && (flat (e3 (x.2.2.2.1)) && (flat (e4 (x.2.2.2.2.1)) && (flat (e5 (x.2.2.2.2.2)) && true)))))) = true
  rw [h0, h1, h2, h3, h4, h5]; rfl
theorem du_P6 (h0 : Due e0 n) (h1 : Due e1 n) (h2 : Due e2 n) (h3 : Due e3 n) (h4 : Due e4 n) (h5 : Due e5 n) : Due (eP6 e0 e1 e2 e3 e4 e5) (n + 1) := ⟨fun x => by
  show (dueOk (e0 (x.1)) && (dueOk (e1 (x.2.1)) && (dueOk (e2 (x.2.2.1)) && (dueOk (e3 (x.2.2.2.1)) && (dueOk (e4 (x.2.2.2.2.1)) && (dueOk (e5 (x.2.2.2.2.2)) && true)))))) = true
  rw [h0.ok, h1.ok, h2.ok, h3.ok, h4.ok, h5.ok]; rfl, fun x => by
  show max ((e0 (x.1)).depth) (max ((e1 (x.2.1)).depth) (max ((e2 (x.2.2.1)).depth) (max ((e3 (x.2.2.2.1)).depth) (max ((e4 (x.2.2.2.2.1)).depth) (max ((e5 (x.2.2.2.2.2)).depth) (0)))))) + 1 ≤ n + 1
  exact Nat.succ_le_succ (Nat.max_le.mpr ⟨h0.dp _, (Nat.max_le.mpr ⟨h1.dp _, (Nat.max_le.mpr ⟨h2.dp _, (Nat.max_le.mpr ⟨h3.dp _, (Nat.max_le.mpr ⟨h4.dp _, (Nat.max_le.mpr ⟨h5.dp _, (Nat.zero_le _)⟩)⟩)⟩)⟩)⟩)⟩)⟩
theorem or_P6 (h0 : OrdT e0 n) (h1 : OrdT e1 n) (h2 : OrdT e2 n) (h3 : OrdT e3 n) (h4 : OrdT e4 n) (h5 : OrdT e5 n) : OrdT (eP6 e0 e1 e2 e3 e4 e5) (n + 1) := ⟨fun x y => by
  show PySem.W.alike (.tuple [e0 (x.1), e1 (x.2.1), e2 (x.2.2.1), e3 (x.2.2.2.1), e4 (x.2.2.2.2.1), e5 (x.2.2.2.2.2)]) (.tuple [e0 (y.1), e1 (y.2.1), e2 (y.2.2.1), e3 (y.2.2.2.1), e4 (y.2.2.2.2.1), e5 (y.2.2.2.2.2)]) = true
  simp only [PySem.W.alike, PySem.W.alikeAll, h0.al, h1.al, h2.al, h3.al, h4.al, h5.al]; rfl, fun x => by
  show (noDct (e0 (x.1)) && (noDct (e1 (x.2.1)) && (noDct (e2 (x.2.2.1)) && (noDct (e3 (x.2.2.2.1)) && (noDct (e4 (x.2.2.2.2.1)) && (noDct (e5 (x.2.2.2.2.2)) && true)))))) = true
  rw [h0.nd, h1.nd, h2.nd, h3.nd, h4.nd, h5.nd]; rfl, (fun _ h => by cases h), fun x => by
  show ((e0 (x.1)).canLay0 && ((e1 (x.2.1)).canLay0 && ((e2 (x.2.2.1)).canLay0 && ((e3 (x.2.2.2.1)).canLay0 && ((e4 (x.2.2.2.2.1)).canLay0 && ((e5 (x.2.2.2.2.2)).canLay0 && true)))))) = true
  rw [h0.cl, h1.cl, h2.cl, h3.cl, h4.cl, h5.cl]; rfl, fun x => by
  show max ((e0 (x.1)).depth) (max ((e1 (x.2.1)).depth) (max ((e2 (x.2.2.1)).depth) (max ((e3 (x.2.2.2.1)).depth) (max ((e4 (x.2.2.2.2.1)).depth) (max ((e5 (x.2.2.2.2.2)).depth) (0)))))) + 1 ≤ n + 1
  exact Nat.succ_le_succ (Nat.max_le.mpr ⟨h0.dp _, (Nat.max_le.mpr ⟨h1.dp _, (Nat.max_le.mpr ⟨h2.dp _, (Nat.max_le.mpr ⟨h3.dp _, (Nat.max_le.mpr ⟨h4.dp _, (Nat.max_le.mpr ⟨h5.dp _, (Nat.zero_le _)⟩)⟩)⟩)⟩)⟩)⟩)⟩
theorem srt_P6 (xs : List (t0 × t1 × t2 × t3 × t4 × t5)) : SrtOk (eP6 e0 e1 e2 e3 e4 e5) xs := .inl fun x _ => ⟨_, _, rfl⟩
variable [DecidableEq t0] [DecidableEq t1] [DecidableEq t2] [DecidableEq t3] [DecidableEq t4] [DecidableEq t5]
theorem eq_P6 (h0 : EqT e0 n) (h1 : EqT e1 n) (h2 : EqT e2 n) (h3 : EqT e3 n) (h4 : EqT e4 n) (h5 : EqT e5 n) : EqT (eP6 e0 e1 e2 e3 e4 e5) (n + 1) := ⟨fun x => by
  show (noDct (e0 (x.1)) && (noDct (e1 (x.2.1)) && (noDct (e2 (x.2.2.1)) && (noDct (e3 (x.2.2.2.1)) && (noDct (e4 (x.2.2.2.2.1)) && (noDct (e5 (x.2.2.2.2.2)) && true)))))) = true
  rw [h0.nd, h1.nd, h2.nd, h3.nd, h4.nd, h5.nd]; rfl, fun x => by
  show ((e0 (x.1)).canLay0 && ((e1 (x.2.1)).canLay0 && ((e2 (x.2.2.1)).canLay0 && ((e3 (x.2.2.2.1)).canLay0 && ((e4 (x.2.2.2.2.1)).canLay0 && ((e5 (x.2.2.2.2.2)).canLay0 && true)))))) = true
  rw [h0.cl, h1.cl, h2.cl, h3.cl, h4.cl, h5.cl]; rfl, fun x => by
  show max ((e0 (x.1)).depth) (max ((e1 (x.2.1)).depth) (max ((e2 (x.2.2.1)).depth) (max ((e3 (x.2.2.2.1)).depth) (max ((e4 (x.2.2.2.2.1)).depth) (max ((e5 (x.2.2.2.2.2)).depth) (0)))))) + 1 ≤ n + 1
  exact Nat.succ_le_succ (Nat.max_le.mpr ⟨h0.dp _, (Nat.max_le.mpr ⟨h1.dp _, (Nat.max_le.mpr ⟨h2.dp _, (Nat.max_le.mpr ⟨h3.dp _, (Nat.max_le.mpr ⟨h4.dp _, (Nat.max_le.mpr ⟨h5.dp _, (Nat.zero_le _)⟩)⟩)⟩)⟩)⟩)⟩), fun x y => by
  show PyData.eqv (.tuple [e0 (x.1), e1 (x.2.1), e2 (x.2.2.1), e3 (x.2.2.2.1), e4 (x.2.2.2.2.1), e5 (x.2.2.2.2.2)]) (.tuple [e0 (y.1), e1 (y.2.1), e2 (y.2.2.1), e3 (y.2.2.2.1), e4 (y.2.2.2.2.1), e5 (y.2.2.2.2.2)]) = _
  rw [PyData.eqv]
  simp only [PyData.eqvAll, h0.eq, h1.eq, h2.eq, h3.eq, h4.eq, h5.eq, Bool.and_true]
  obtain ⟨x0, x1, x2, x3, x4, x5⟩ := x
  obtain ⟨y0, y1, y2, y3, y4, y5⟩ := y
  simp [Bool.decide_and]⟩
end
def fit6 {α β : Type} (xs : List α) (f : α → α → α → α → α → α → Option β) : Option β := match xs with
  | [v0, v1, v2, v3, v4, v5] => f v0 v1 v2 v3 v4 v5
  | _ => none
theorem fit6_ex {α β : Type} {xs : List α} {f : α → α → α → α → α → α → Option β} {r : β} (h : fit6 xs f = some r) : ∃ v0 v1 v2 v3 v4 v5, xs = [v0, v1, v2, v3, v4, v5] ∧ f v0 v1 v2 v3 v4 v5 = some r := by
  unfold fit6 at h
  split at h
  · exact ⟨_, _, _, _, _, _, rfl, h⟩
  · cases h
def eP7 {t0 t1 t2 t3 t4 t5 t6 : Type} (e0 : t0 → PyData) (e1 : t1 → PyData) (e2 : t2 → PyData) (e3 : t3 → PyData) (e4 : t4 → PyData) (e5 : t5 → PyData) (e6 : t6 → PyData) (p : t0 × t1 × t2 × t3 × t4 × t5 × t6) : PyData := .tuple [e0 (p.1), e1 (p.2.1), e2 (p.2.2.1), e3 (p.2.2.2.1), e4 (p.2.2.2.2.1), e5 (p.2.2.2.2.2.1), e6 (p.2.2.2.2.2.2)]
section
variable {t0 t1 t2 t3 t4 t5 t6 : Type} {e0 : t0 → PyData} {e1 : t1 → PyData} {e2 : t2 → PyData} {e3 : t3 → PyData} {e4 : t4 → PyData} {e5 : t5 → PyData} {e6 : t6 → PyData} {n m : Nat}
theorem nn_P7 : NN (eP7 e0 e1 e2 e3 e4 e5 e6) := ⟨fun _ => rfl⟩
theorem fl_P7 (h0 : ∀ x, flat (e0 x) = true) (h1 : ∀ x, flat (e1 x) = true) (h2 : ∀ x, flat (e2 x) = true) (h3 : ∀ x, flat (e3 x) = true) (h4 : ∀ x, flat (e4 x) = true) (h5 : ∀ x, flat (e5 x) = true) (h6 : ∀ x, flat (e6 x) = true) : ∀ x, flat (eP7 e0 e1 e2 e3 e4 e5 e6 x) = true := fun x => by
  show (flat (e0 (x.1)) && (flat (e1 (x.2.1)) && (flat (e2 (x.2.2.1)) && (flat (e3 (x.2.2.2.1)) && (flat (e4 (x.2.2.2.2.1)) && (flat (e5 (x.2.2.2.2.2.1)) && (flat (e6 (x.2.2.2.2.2.2)) && true))))))) = true
  rw [h0, h1, h2, h3, h4, h5, h6]; rfl
theorem du_P7 (h0 : Due e0 n) (h1 : Due e1 n) (h2 : Due e2 n) (h3 : Due e3 n) (h4 : Due e4 n) (h5 : Due e5 n) (h6 : Due e6 n) : Due (eP7 e0 e1 e2 e3 e4 e5 e6) (n + 1) := ⟨fun x => by
  show (dueOk (e0 (x.1)) && (dueOk (e1 (x.2.1)) && (dueOk (e2 (x.2.2.1)) && (dueOk (e3 (x.2.2.2.1)) && (dueOk (e4 (x.2.2.2.2.1)) && (dueOk (e5 (x.2.2.2.2.2.1)) && (dueOk (e6 (x.2.2.2.2.2.2)) && true))))))) = true
  rw [h0.ok, h1.ok, h2.ok, h3.ok, h4.ok, h5.ok, h6.ok]; rfl, fun x => by
  show max ((e0 (x.1)).depth) (max ((e1 (x.2.1)).depth) (max ((e2 (x.2.2.1)).depth) (max ((e3 (x.2.2.2.1)).depth) (max ((e4 (x.2.2.2.2.1)).depth) (max ((e5 (x.2.2.2.2.2.1)).depth) (max ((e6 (x.2.2.2.2.2.2)).depth) (0))))))) + 1 ≤ n + 1
  exact Nat.succ_le_succ (Nat.max_le.mpr ⟨h0.dp _, (Nat.max_le.mpr ⟨h1.dp _, (Nat.max_le.mpr ⟨h2.dp _, (Nat.max_le.mpr ⟨h3.dp _, (Nat.max_le.mpr ⟨h4.dp _, (Nat.max_le.mpr ⟨h5.dp _, (Nat.max_le.mpr ⟨h6.dp _, (Nat.zero_le _)⟩)⟩)⟩)⟩)⟩)⟩)⟩)⟩
theorem or_P7 (h0 : OrdT e0 n) (h1 : OrdT e1 n) (h2 : OrdT e2 n) (h3 : OrdT e3 n) (h4 : OrdT e4 n) (h5 : OrdT e5 n) (h6 : OrdT e6 n) : OrdT (eP7 e0 e1 e2 e3 e4 e5 e6) (n + 1) := ⟨fun x y => by
  show PySem.W.alike (.tuple [e0 (x.1), e1 (x.2.1), e2 (x.2.2.1), e3 (x.2.2.2.1), e4 (x.2.2.2.2.1), e5 (x.2.2.2.2.2.1), e6 (x.2.2.2.2.2.2)]) (.tuple [e0 (y.1), e1 (y.2.1), e2 (y.2.2.1), e3 (y.2.2.2.1), e4 (y.2.2.2.2.1), e5 (y.2.2.2.2.2.1), e6 (y.2.2.2.2.2.2)]) = true
  simp only [PySem.W.alike, PySem.W.alikeAll, h0.al, h1.al, h2.al, h3.al, h4.al, h5.al, h6.al]; rfl, fun x => by
  show (noDct (e0 (x.1)) && (noDct (e1 (x.2.1)) && (noDct (e2 (x.2.2.1)) && (noDct (e3 (x.2.2.2.1)) && (noDct (e4 (x.2.2.2.2.1)) && (noDct (e5 (x.2.2.2.2.2.1)) && (noDct (e6 (x.2.2.2.2.2.2)) && true))))))) = true
  rw [h0.nd, h1.nd, h2.nd, h3.nd, h4.nd, h5.nd, h6.nd]; rfl, (fun _ h => by cases h), fun x => by
  show ((e0 (x.1)).canLay0 && ((e1 (x.2.1)).canLay0 && ((e2 (x.2.2.1)).canLay0 && ((e3 (x.2.2.2.1)).canLay0 && ((e4 (x.2.2.2.2.1)).canLay0 && ((e5 (x.2.2.2.2.2.1)).canLay0 && ((e6 (x.2.2.2.2.2.2)).canLay0 && true))))))) = true
  rw [h0.cl, h1.cl, h2.cl, h3.cl, h4.cl, h5.cl, h6.cl]; rfl, fun x => by
  show max ((e0 (x.1)).depth) (max ((e1 (x.2.1)).depth) (max ((e2 (x.2.2.1)).depth) (max ((e3 (x.2.2.2.1)).depth) (max ((e4 (x.2.2.2.2.1)).depth) (max ((e5 (x.2.2.2.2.2.1)).depth) (max ((e6 (x.2.2.2.2.2.2)).depth) (0))))))) + 1 ≤ n + 1
  exact Nat.succ_le_succ (Nat.max_le.mpr ⟨h0.dp _, (Nat.max_le.mpr ⟨h1.dp _, (Nat.max_le.mpr ⟨h2.dp _, (Nat.max_le.mpr ⟨h3.dp _, (Nat.max_le.mpr ⟨h4.dp _, (Nat.max_le.mpr ⟨h5.dp _, (Nat.max_le.mpr ⟨h6.dp _, (Nat.zero_le _)⟩)⟩)⟩)⟩)⟩)⟩)⟩)⟩
theorem srt_P7 (xs : List (t0 × t1 × t2 × t3 × t4 × t5 × t6)) : SrtOk (eP7 e0 e1 e2 e3 e4 e5 e6) xs := .inl fun x _ => ⟨_, _, rfl⟩
end
def fit7 {α β : Type} (xs : List α) (f : α → α → α → α → α → α → α → Option β) : Option β := match xs with
  | [v0, v1, v2, v3, v4, v5, v6] => f v0 v1 v2 v3 v4 v5 v6
  | _ => none
theorem fit7_ex {α β : Type} {xs : List α} {f : α → α → α → α → α → α → α → Option β} {r : β} (h : fit7 xs f = some r) : ∃ v0 v1 v2 v3 v4 v5 v6, xs = [v0, v1, v2, v3, v4, v5, v6] ∧ f v0 v1 v2 v3 v4 v5 v6 = some r := by
  unfold fit7 at h
  split at h
  · exact ⟨_, _, _, _, _, _, _, rfl, h⟩
  · cases h
def eP8 {t0 t1 t2 t3 t4 t5 t6 t7 : Type} (e0 : t0 → PyData) (e1 : t1 → PyData) (e2 : t2 → PyData) (e3 : t3 → PyData) (e4 : t4 → PyData) (e5 : t5 → PyData) (e6 : t6 → PyData) (e7 : t7 → PyData) (p : t0 × t1 × t2 × t3 × t4 × t5 × t6 × t7) : PyData := .tuple [e0 (p.1), e1 (p.2.1), e2 (p.2.2.1), e3 (p.2.2.2.1), e4 (p.2.2.2.2.1), e5 (p.2.2.2.2.2.1), e6 (p.2.2.2.2.2.2.1), e7 (p.2.2.2.2.2.2.2)]
section
variable {t0 t1 t2 t3 t4 t5 t6 t7 : Type} {e0 : t0 → PyData} {e1 : t1 → PyData} {e2 : t2 → PyData} {e3 : t3 → PyData} {e4 : t4 → PyData} {e5 : t5 → PyData} {e6 : t6 → PyData} {e7 : t7 → PyData} {n m : Nat}
theorem nn_P8 : NN (eP8 e0 e1 e2 e3 e4 e5 e6 e7) := ⟨fun _ => rfl⟩
theorem fl_P8 (h0 : ∀ x, flat (e0 x) = true) (h1 : ∀ x, flat (e1 x) = true) (h2 : ∀ x, flat (e2 x) = true) (h3 : ∀ x, flat (e3 x) = true) (h4 : ∀ x, flat (e4 x) = true) (h5 : ∀ x, flat (e5 x) = true) (h6 : ∀ x, flat (e6 x) = true) (h7 : ∀ x, flat (e7 x) = true) : ∀ x, flat (eP8 e0 e1 e2 e3 e4 e5 e6 e7 x) = true := fun x => by
  show (flat (e0 (x.1)) && (flat (e1 (x.2.1)) && (flat (e2 (x.2.2.1)) && (flat (e3 (x.2.2.2.1)) && (flat (e4 (x.2.2.2.2.1)) && (flat (e5 (x.2.2.2.2.2.1)) && (flat (e6 (x.2.2.2.2.2.2.1)) && (flat (e7 (x.2.2.2.2.2.2.2)) && true)))))))) = true
  rw [h0, h1, h2, h3, h4, h5, h6, h7]; rfl
theorem du_P8 (h0 : Due e0 n) (h1 : Due e1 n) (h2 : Due e2 n) (h3 : Due e3 n) (h4 : Due e4 n) (h5 : Due e5 n) (h6 : Due e6 n) (h7 : Due e7 n) : Due (eP8 e0 e1 e2 e3 e4 e5 e6 e7) (n + 1) := ⟨fun x => by
  show (dueOk (e0 (x.1)) && (dueOk (e1 (x.2.1)) && (dueOk (e2 (x.2.2.1)) && (dueOk (e3 (x.2.2.2.1)) && (dueOk (e4 (x.2.2.2.2.1)) && (dueOk (e5 (x.2.2.2.2.2.1)) && (dueOk (e6 (x.2.2.2.2.2.2.1)) && (dueOk (e7 (x.2.2.2.2.2.2.2)) && true)))))))) = true
  rw [h0.ok, h1.ok, h2.ok, h3.ok, h4.ok, h5.ok, h6.ok, h7.ok]; rfl, fun x => by
  show max ((e0 (x.1)).depth) (max ((e1 (x.2.1)).depth) (max ((e2 (x.2.2.1)).depth) (max ((e3 (x.2.2.2.1)).depth) (max ((e4 (x.2.2.2.2.1)).depth) (max ((e5 (x.2.2.2.2.2.1)).depth) (max ((e6 (x.2.2.2.2.2.2.1)).depth) (max ((e7 (x.2.2.2.2.2.2.2)).depth) (0)))))))) + 1 ≤ n + 1
  exact Nat.succ_le_succ (Nat.max_le.mpr ⟨h0.dp _, (Nat.max_le.mpr ⟨h1.dp _, (Nat.max_le.mpr ⟨h2.dp _, (Nat.max_le.mpr ⟨h3.dp _, (Nat.max_le.mpr ⟨h4.dp _, (Nat.max_le.mpr ⟨h5.dp _, (Nat.max_le.mpr ⟨h6.dp _, (Nat.max_le.mpr ⟨h7.dp _, (Nat.zero_le _)⟩)⟩)⟩)⟩)⟩)⟩)⟩)⟩)⟩
theorem or_P8 (h0 : OrdT e0 n) (h1 : OrdT e1 n) (h2 : OrdT e2 n) (h3 : OrdT e3 n) (h4 : OrdT e4 n) (h5 : OrdT e5 n) (h6 : OrdT e6 n) (h7 : OrdT e7 n) : OrdT (eP8 e0 e1 e2 e3 e4 e5 e6 e7) (n + 1) := ⟨fun x y => by
  show PySem.W.alike (.tuple [e0 (x.1), e1 (x.2.1), e2 (x.2.2.1), e3 (x.2.2.2.1), e4 (x.2.2.2.2.1), e5 (x.2.2.2.2.2.1), e6 (x.2.2.2.2.2.2.1), e7 (x.2.2.2.2.2.2.2)]) (.tuple [e0 (y.1), e1 (y.2.1), e2 (y.2.2.1), e3 (y.2.2.2.1), e4 (y.2.2.2.2.1), e5 (y.2.2.2.2.2.1), e6 (y.2.2.2.2.2.2.1), e7 (y.2.2.2.2.2.2.2)]) = true
  simp only [PySem.W.alike, PySem.W.alikeAll, h0.al, h1.al, h2.al, h3.al, h4.al, h5.al, h6.al, h7.al]; rfl, fun x => by
  show (noDct (e0 (x.1)) && (noDct (e1 (x.2.1)) && (noDct (e2 (x.2.2.1)) && (noDct (e3 (x.2.2.2.1)) && (noDct (e4 (x.2.2.2.2.1)) && (noDct (e5 (x.2.2.2.2.2.1)) && (noDct (e6 (x.2.2.2.2.2.2.1)) && (noDct (e7 (x.2.2.2.2.2.2.2)) && true)))))))) = true
  rw [h0.nd, h1.nd, h2.nd, h3.nd, h4.nd, h5.nd, h6.nd, h7.nd]; rfl, (fun _ h => by cases h), fun x => by
  show ((e0 (x.1)).canLay0 && ((e1 (x.2.1)).canLay0 && ((e2 (x.2.2.1)).canLay0 && ((e3 (x.2.2.2.1)).canLay0 && ((e4 (x.2.2.2.2.1)).canLay0 && ((e5 (x.2.2.2.2.2.1)).canLay0 && ((e6 (x.2.2.2.2.2.2.1)).canLay0 && ((e7 (x.2.2.2.2.2.2.2)).canLay0 && true)))))))) = true
  rw [h0.cl, h1.cl, h2.cl, h3.cl, h4.cl, h5.cl, h6.cl, h7.cl]; rfl, fun x => by
  show max ((e0 (x.1)).depth) (max ((e1 (x.2.1)).depth) (max ((e2 (x.2.2.1)).depth) (max ((e3 (x.2.2.2.1)).depth) (max ((e4 (x.2.2.2.2.1)).depth) (max ((e5 (x.2.2.2.2.2.1)).depth) (max ((e6 (x.2.2.2.2.2.2.1)).depth) (max ((e7 (x.2.2.2.2.2.2.2)).depth) (0)))))))) + 1 ≤ n + 1
  exact Nat.succ_le_succ (Nat.max_le.mpr ⟨h0.dp _, (Nat.max_le.mpr ⟨h1.dp _, (Nat.max_le.mpr ⟨h2.dp _, (Nat.max_le.mpr ⟨h3.dp _, (Nat.max_le.mpr ⟨h4.dp _, (Nat.max_le.mpr ⟨h5.dp _, (Nat.max_le.mpr ⟨h6.dp _, (Nat.max_le.mpr ⟨h7.dp _, (Nat.zero_le _)⟩)⟩)⟩)⟩)⟩)⟩)⟩)⟩)⟩
theorem srt_P8 (xs : List (t0 × t1 × t2 × t3 × t4 × t5 × t6 × t7)) : SrtOk (eP8 e0 e1 e2 e3 e4 e5 e6 e7) xs := .inl fun x _ => ⟨_, _, rfl⟩
end
def fit8 {α β : Type} (xs : List α) (f : α → α → α → α → α → α → α → α → Option β) : Option β := match xs with
  | [v0, v1, v2, v3, v4, v5, v6, v7] => f v0 v1 v2 v3 v4 v5 v6 v7
  | _ => none
theorem fit8_ex {α β : Type} {xs : List α} {f : α → α → α → α → α → α → α → α → Option β} {r : β} (h : fit8 xs f = some r) : ∃ v0 v1 v2 v3 v4 v5 v6 v7, xs = [v0, v1, v2, v3, v4, v5, v6, v7] ∧ f v0 v1 v2 v3 v4 v5 v6 v7 = some r := by
  unfold fit8 at h
  split at h
  · exact ⟨_, _, _, _, _, _, _, _, rfl, h⟩
  · cases h
end Pl
/-! Pl, part K: groups of powers with whole exponents. -/
namespace Pl
open PySem PySem.Spec PyProof.Rows L2
noncomputable section
structure Gz (p q g : Nat) : Prop where
  G : Grp p q g
  ps : p ≤ 1000
  qp : q ≤ p
  dv : (p - 1) % q = 0
def EZ (p q g : Nat) (k : Int) : Int := ((g ^ (k % (q : Int)).toNat % p : Nat) : Int)
section
variable {p q g : Nat} (H : Gz p q g)
include H
theorem Gz.q2 : 2 ≤ q := H.G.F.two
theorem Gz.q0 : (0 : Int) < (q : Int) := by have := H.q2; omega
theorem Gz.p0 : (0 : Int) < (p : Int) := by have := H.G.p1; omega
theorem ez_pos (k : Int) : 0 < EZ p q g k := by have := H.G.pos (k % (q : Int)).toNat; unfold EZ; omega
theorem ez_lt (k : Int) : EZ p q g k < p := by
  have := Nat.mod_lt (g ^ (k % (q : Int)).toNat) (show p > 0 by have := H.G.p1; omega)
  unfold EZ; omega
theorem ez_nat (x : Nat) : EZ p q g (x : Int) = ((g ^ x % p : Nat) : Int) := by
  unfold EZ
  rw [← Int.natCast_emod, Int.toNat_natCast, ← H.G.red]
theorem ez_iff (a b : Int) : EZ p q g a = EZ p q g b ↔ a % (q : Int) = b % (q : Int) := by
  have q0 := H.q0
  have a0 := Int.emod_nonneg a (show (q : Int) ≠ 0 by omega)
  have b0 := Int.emod_nonneg b (show (q : Int) ≠ 0 by omega)
  have a1 := Int.emod_lt_of_pos a q0
  have b1 := Int.emod_lt_of_pos b q0
  constructor
  · intro h
    unfold EZ at h
    have h1 := H.G.inj (Int.ofNat_inj.mp h)
    rw [Nat.mod_eq_of_lt (by omega), Nat.mod_eq_of_lt (by omega)] at h1
    omega
  · intro h
    unfold EZ
    rw [h]
theorem ez_red (a : Int) : EZ p q g (a % (q : Int)) = EZ p q g a := (ez_iff H _ _).mpr (Int.emod_emod_of_dvd _ (Int.dvd_refl _))
theorem ez_mul (a b : Int) : EZ p q g a * EZ p q g b % (p : Int) = EZ p q g (a + b) := by
  have q0 := H.q0
  have a0 := Int.emod_nonneg a (show (q : Int) ≠ 0 by omega)
  have b0 := Int.emod_nonneg b (show (q : Int) ≠ 0 by omega)
  have e : EZ p q g (a + b) = EZ p q g (((a % (q : Int)).toNat + (b % (q : Int)).toNat : Nat) : Int) := by
    refine (ez_iff H _ _).mpr ?_
    rw [Int.natCast_add, Int.toNat_of_nonneg a0, Int.toNat_of_nonneg b0, ← Int.add_emod]
  rw [e, ez_nat H]
  unfold EZ
  rw [← Int.natCast_mul, ← Int.natCast_emod, Nat.pow_add, ← Nat.mul_mod]
theorem ez_one : EZ p q g 0 = 1 := by
  have := ez_nat H 0
  rw [Nat.pow_zero, Nat.mod_eq_of_lt H.G.p1] at this
  exact this
theorem ez_pow (a : Int) (n : Nat) (hn : n < 2 ^ 60) : power_in_m (EZ p q g a) (n : Int) (p : Int) = some (EZ p q g (a * n)) := by
  have hp := H.ps
  unfold EZ
  rw [power_in_ok _ n p (by have := H.G.p1; omega) (by omega) (Nat.lt_of_lt_of_le hn (Nat.pow_le_pow_right (by decide) (by decide))), H.G.pow]
  have := ez_nat H ((a % (q : Int)).toNat * n)
  rw [← this]
  refine congrArg some ?_
  refine (ez_iff H _ _).mpr ?_
  rw [Int.natCast_mul, Int.toNat_of_nonneg (Int.emod_nonneg a (by have := H.q0; omega)), Int.mul_emod, Int.emod_emod_of_dvd _ (Int.dvd_refl _), ← Int.mul_emod]
theorem ez_powZ (a n : Int) (h0 : 0 ≤ n) (h1 : n < 1000000) : power_in_m (EZ p q g a) n (p : Int) = some (EZ p q g (a * n)) := by
  obtain ⟨k, rfl⟩ := Int.eq_ofNat_of_zero_le h0
  exact ez_pow H a k (by omega)
theorem ez_base (n : Int) (h0 : 0 ≤ n) (h1 : n < 1000000) : power_in_m (g : Int) n (p : Int) = some (EZ p q g n) := by
  obtain ⟨k, rfl⟩ := Int.eq_ofNat_of_zero_le h0
  have hp := H.ps
  rw [power_in_ok g k p (by have := H.G.p1; omega) (by omega) (Nat.lt_of_lt_of_le (show k < 2 ^ 60 by omega) (Nat.pow_le_pow_right (by decide) (by decide))), ez_nat H]
/-- the turned one -/
theorem ez_turn (a : Int) : power_in_m (EZ p q g a) ((p : Int) - 2) (p : Int) = some (EZ p q g (-a)) := by
  have hp := H.ps
  have h1 := H.G.p1
  rw [ez_powZ H a _ (by omega) (by omega)]
  refine congrArg some ((ez_iff H _ _).mpr ?_)
  have hd : ((p : Int) - 1) % (q : Int) = 0 := by
    rw [show ((p : Int) - 1) = ((p - 1 : Nat) : Int) by omega, ← Int.natCast_emod, H.dv]; rfl
  have : a * ((p : Int) - 2) = -a + a * ((p : Int) - 1) := by grind
  rw [this, Int.add_emod, Int.mul_emod, hd, Int.mul_zero, Int.zero_emod, Int.add_zero, Int.emod_emod_of_dvd _ (Int.dvd_refl _)]
theorem ez_mulok (a : Int) (x : Int) : Pl.MulOk (EZ p q g a) x := mul_l (by
  have := ez_pos H a
  have := ez_lt H a
  have := H.ps
  omega)
end
/-! ### the law's power, by multiplying -/
theorem emod_lt' (a : Int) {q : Nat} (h : 2 ≤ q) : 0 ≤ a % (q : Int) ∧ a % (q : Int) < q := ⟨Int.emod_nonneg a (by omega), Int.emod_lt_of_pos a (by omega)⟩
end
end Pl
/-! Pl, part L: rows turned round by a slice, sorted(set(row)). -/
namespace Pl
open PySem PySem.Spec PyProof.Rows L2
section
variable {prog : Program} {w : World} {A : Around} {E : Value → Shared → Prop} {s : Shared}
theorem applied_rev {sl : Addr} {vs : Value} {n : Nat} {Q : Int × Int × Nat → Shared → Prop} (hs : s.heap.IsSliceOf sl .none .none vs) (ps : IsPart vs (some (-1)))
    (h : Q ((n : Int) - 1, -1, n) s) : wpAny (model prog w) A (Builtin.Slice.sliceApplied (.ref sl) (pure (n : Int))) Q E s := by
  obtain ⟨os, hos, hcs, hds⟩ := id hs
  unfold Builtin.Slice.sliceApplied Builtin.Slice.sliceFields
  refine wpAny_bind (wpAny_bind (wpAny_field hos hds (x := .none) rfl (wpAny_bind (wpAny_field hos hds (x := .none) rfl (wpAny_bind (wpAny_field hos hds (x := vs) rfl (wpAny_pure ?_)))))))
  refine wpAny_bind (HT.slicePart_ ps ?_)
  show wpAny _ _ (if ((-1 : Int) == 0) = true then _ else _) _ _ s
  rw [if_neg (by decide)]
  refine wpAny_bind (HT.slicePart_ .none (wpAny_bind (HT.slicePart_ .none (wpAny_bind (wpAny_pure ?_)))))
  show wpAny _ _ (pure ((n : Int) - 1, (-1 : Int), Builtin.Slice.slicePlaces ((n : Int) - 1) (-1) (-1))) _ _ s
  have e : Builtin.Slice.slicePlaces ((n : Int) - 1) (-1) (-1) = n := by
    unfold Builtin.Slice.slicePlaces
    rw [if_neg (by omega)]
    by_cases c : (n : Int) - 1 > -1
    · rw [if_pos c, show (- (-1 : Int)) = 1 by omega, Int.ediv_one]
      omega
    · rw [if_neg c]
      omega
  rw [e]
  exact wpAny_pure h
theorem pick_rev (xs : Array Value) : ((List.range xs.size).filterMap fun (k : Nat) => xs[(((xs.size : Int) - 1) + (k : Int) * -1).toNat]?).toArray = xs.toList.reverse.toArray := by
  have e : ∀ l : List Nat, (∀ k ∈ l, k < xs.size) → l.filterMap (fun (k : Nat) => xs[(((xs.size : Int) - 1) + (k : Int) * -1).toNat]?) = (l.map fun k => xs.size - 1 - k).filterMap (xs[·]?) := fun l hl => by
    induction l with
    | nil => rfl
    | cons k l ih =>
      have h1 := hl k List.mem_cons_self
      have e2 : (((xs.size : Int) - 1) + (k : Int) * -1).toNat = xs.size - 1 - k := by omega
      rw [List.map_cons, List.filterMap_cons, List.filterMap_cons, ih fun j hj => hl j (List.mem_cons_of_mem _ hj), e2]
  rw [e _ fun k hk => List.mem_range.mp hk, W.krv_range, List.filterMap_reverse, W.krv_all]
theorem getItem_tuple_rev {t sl : Addr} {items : Array Value} {vs : Value} {Q : Value → Shared → Prop} (ht : IsTup s.heap t items) (hs : s.heap.IsSliceOf sl .none .none vs) (ps : IsPart vs (some (-1)))
    (h : Q (.ref s.heap.objs.size) { s with heap := s.heap.push { cls := .type "tuple", data := .seq items.toList.reverse.toArray } })
    (hsz : items.size ≤ sizeLine) : wpAny (model prog w) A (getItem (.ref t) (.ref sl)) Q E s := by
  have htake : sizeOk (.seq items.toList.reverse.toArray) := by
    show items.toList.reverse.toArray.size ≤ sizeLine
    rw [List.size_toArray, List.length_reverse, Array.length_toList]
    exact hsz
  obtain ⟨os, hos, hcs, hds⟩ := id hs
  have hTs : s.TypeIs (.ref sl) "slice" := ⟨os, hos, hcs⟩
  unfold getItem
  try with_reducible refine wpAny_holding ?_
  first | refine wpAny_bind (wpAny_pure ?_) | skip
  refine wpAny_bind (wpAny_sequenceKey ht.typeIs (by decide) ?_)
  refine wpAny_bind (wpAny_callSpecial?_slot (name := Str.ofString "__getitem__") ht.typeIs PyProof.Rows.slot_tuple_getitem
    (wpAny_call_entry PyProof.Rows.slot_tuple_getitem ht.typeIs entry_tuple_getitem ?_ (args_tuple_getitem _ _)))
  show wpAny _ _ (Builtin.Tuple.tupleItemsOf (.ref t) >>= _) _ _ s
  refine wpAny_bind (tupleItemsOf_ ht ?_)
  refine wpAny_bind (wpAny_typeOf hTs ?_)
  rw [if_pos (by decide)]
  refine wpAny_bind (applied_rev hs ps ?_)
  have hno : ¬ ((((items.size : Int) - 1) == 0 && (-1 : Int) == 1 && items.size == items.size) = true) := by
    intro q
    rw [Bool.and_eq_true, Bool.and_eq_true] at q
    exact absurd (eq_of_beq q.1.2) (by decide)
  show wpAny _ _ (if (((items.size : Int) - 1) == 0 && (-1 : Int) == 1 && items.size == items.size) = true then _ else _) _ _ s
  rw [if_neg hno, pick_rev]
  first
    | exact wpAny_bind (m := Builtin.Tuple.tupleExact _) (wpAny_newObj_type (wpAny_pure ⟨_, rfl, wpAny_pure h⟩) htake)
    | exact wpAny_bind (m := Builtin.Tuple.tupleExact _) (wpAny_newObj_type (wpAny_bind (wpAny_pure (wpAny_pure ⟨_, rfl, wpAny_pure h⟩))) htake)
    | exact wpAny_bind (wpAny_bind (m := Builtin.Tuple.tupleExact _) (wpAny_newObj_type (wpAny_pure (wpAny_pure ⟨_, rfl, wpAny_pure h⟩)) htake))
    | exact wpAny_bind (wpAny_bind (m := Builtin.Tuple.tupleExact _) (wpAny_newObj_type (wpAny_pure ⟨_, rfl, wpAny_pure h⟩) htake))
end
section
variable {X : Cx} {e st : Expr} {te ts : TE} {p2 pos : Pos}
def tRv (K : PySem.W.Frag) (te ts : TE) : TE := fun σ H Q => te σ H fun x H1 => ts σ H1 fun y H2 => y = .int (-1) ∧ ∃ a xs, x = .ref a ∧
  ((SqT K H2 a xs ∧ ∀ p, H2 p = none → Q (.ref p) (upd H2 p (.tup xs.reverse))) ∨ (SqL K H2 a xs ∧ ∀ p, H2 p = none → Q (.ref p) (upd H2 p (.lst xs.reverse))))
theorem pe_rev (he : PE X e te) (hs : PE X st ts) : PE X (.Subscript e (.Slice none none (some st) p2) pos) (tRv X.K te ts) := by
  refine ⟨fun pins s σ H Q I h => ?_⟩
  refine Subscript_ (thn (he.run pins s σ H _ I h) fun v s1 ⟨x, H1, I1, r1, q1⟩ => ?_)
  refine wpAny_Slice ?_
  rw [evalPart_none]
  refine wpAny_pure (wpAny_pure ?_)
  rw [evalPart_some]
  refine thn (hs.run pins s1 σ H1 _ I1 q1) fun vs s3 ⟨y, H3, I3, r3, q3⟩ => ?_
  obtain ⟨rfl, a, xs, rfl, q3⟩ := q3
  obtain ⟨tk, rfl⟩ := r3
  cases r1
  have I4 : Inv X pins σ H3 { s3 with heap := s3.heap.push { cls := .type "slice", data := .fields #[.none, .none, .int (-1) tk] } } := I3.kept (t' := s3.toks) fun b ob q => Heap.get?_push_of_some _ q
  have hsl := Heap.IsSliceOf.new s3.heap .none .none (.int (-1) tk)
  rcases q3 with ⟨hx, q⟩ | ⟨hx, q⟩
  · obtain ⟨its, r, ht, hz⟩ := I4.tuple hx
    have hlen : its.toArray.size = xs.length := by rw [List.size_toArray]; exact r.length.symm
    show wpAny (model X.prog X.w) X.A (subscriptTail e (.Slice none none (some st) p2) (.ref a) (.ref s3.heap.objs.size)) (EP X pins σ Q) X.xe { s3 with heap := s3.heap.push { cls := .type "slice", data := .fields #[.none, .none, .int (-1) tk] } }
    refine tail_any (ops := [.ref a, .ref s3.heap.objs.size]) ht.typeIs PyProof.Rows.slot_tuple_getitem.lookup ?_ (by with_unfolding_all rfl)
    refine getItem_tuple_rev ht hsl (.int (-1) tk) ?_ (by rw [hlen]; exact hz)
    refine ⟨.ref _, _, I4.laid (t' := s3.toks) (o := .tup xs.reverse) (fun b ob q => Heap.get?_push_of_some _ q) (Nat.le_refl _) ?_, rfl, q _ (I4.hok.fresh (Nat.le_refl _))⟩
    exact ⟨by rw [List.length_reverse]; exact hz, _, r.reverse, IsTup.new _ _⟩
  · obtain ⟨its, r, ht, hz⟩ := I4.list hx
    have hlen : its.toArray.size = xs.length := by rw [List.size_toArray]; exact r.length.symm
    show wpAny (model X.prog X.w) X.A (subscriptTail e (.Slice none none (some st) p2) (.ref a) (.ref s3.heap.objs.size)) (EP X pins σ Q) X.xe { s3 with heap := s3.heap.push { cls := .type "slice", data := .fields #[.none, .none, .int (-1) tk] } }
    refine tail_any (ops := [.ref a, .ref s3.heap.objs.size]) ht.isList.typeIs slot_list_getitem.lookup ?_ (by with_unfolding_all rfl)
    refine wpAny_getItem_list_slice ht.isList hsl .none .none (.int (-1) tk) (by decide) ?_ (by rw [hlen]; exact hz)
    rw [W.krv_pick]
    refine ⟨.ref _, _, I4.laid (t' := s3.toks) (o := .lst xs.reverse) (fun b ob q => Heap.get?_push_of_some _ q) (Nat.le_refl _) ?_, rfl, q _ (I4.hok.fresh (Nat.le_refl _))⟩
    exact ⟨by rw [List.length_reverse]; exact hz, _, 0, r.reverse, Heap.get?_push_size _ rfl⟩
end
section
variable {G : Gb} {C : SC} {k : Nat} {ρ : PEnv} {α : Type} {ea : α → PyData} {xs : List α} {e st : Expr} {p2 pos : Pos}
theorem ev_revX (he : EvB G C k ρ e (eT ea xs)) (hs : EvB G C k ρ st (eI (-1))) : Ev G C k ρ (.Subscript e (.Slice none none (some st) p2) pos) (eT ea xs.reverse) := fun X hX =>
  pe_imp (pe_rev (he X hX) (hs X hX)) fun σ H Q ⟨F0, H0, F, S, q⟩ => ⟨F0, H0, F, S, fun v F1 H1 e1 r1 => ⟨F0, H0, F1, S.go e1, fun y F2 H2 e2 r2 => by
    obtain ⟨a, vs, rfl, h1, h2⟩ := (r1.ext e2).tup e2.sub
    refine ⟨by rw [r2.int], a, vs, rfl, .inl ⟨by rw [hX.eK]; exact h1, fun p hp => q _ _ _ ((e1.trans e2).trans (Ext.lay e2.sub hp)) (.tup (.inl (.inl upd_same)) ?_)⟩⟩
    rw [List.map_reverse]
    exact RpA.mono (same_upd (e2.sub.free hp)) h2.rev⟩⟩
theorem evn_revX (he : EvB G C k ρ e (eL ea xs)) (hs : EvB G C k ρ st (eI (-1))) : EvN G C k ρ (.Subscript e (.Slice none none (some st) p2) pos) (eL ea xs.reverse) := fun X hX =>
  pe_imp (pe_rev (he X hX) (hs X hX)) fun σ H Q ⟨F0, H0, F, S, q⟩ => ⟨F0, H0, F, S, fun v F1 H1 e1 r1 => ⟨F0, H0, F1, S.go e1, fun y F2 H2 e2 r2 => by
    obtain ⟨a, vs, rfl, h1, h2⟩ := (r1.ext e2).lst e2.sub
    refine ⟨by rw [r2.int], a, vs, rfl, .inr ⟨by rw [hX.eK]; exact h1, fun p hp => q p _ F2 _ ((e1.trans e2).trans (Ext.put e2.sub hp)) ((e1.trans e2).hs.free hp) upd_same (e2.sub.free hp) (.lst ?_)⟩⟩
    rw [List.map_reverse]
    exact h2.rev⟩⟩
end
/-! ### set(row) of whole numbers, sorted at once -/
section
variable {P : Program} {w : World} {A : Around} {E : Value → Shared → Prop} {s : Shared}
theorem set_of_listI {l : Addr} {items : Array Value} (ns : List Int) {Q : Value → Shared → Prop} (hh : A.handled = none) (hl : s.heap.IsList l items) (hit : IntsAre items.toList ns) (hb : ns.length + 1 < scanBound)
    (h : ∀ (h' : Heap) (tk c : Nat), SetR w h' s.heap.objs.size (fun j => decide (j ∈ ns)) c → c ≤ ns.length → (∀ b o, s.heap.get? b = some o → h'.get? b = some o) → Q (.ref s.heap.objs.size) { s with heap := h', toks := tk }) :
    wpAny (model P w) A (call (.type "set") [.ref l]) Q E s := by
  have hisz : items.size = ns.length := by
    have q := IntsAre.length hit
    rw [Array.length_toList] at q
    exact q
  obtain ⟨c, tl, hmro⟩ := F.called_set.mro
  have hmade := F.called_set.made
  have hsub := F.called_set.sub
  refine wpAny_call (codeAny_of_tree ?_)
  show wpAny _ _ (callAny (.type "set") _) _ _ _
  refine wpAny_pure ⟨Code.quiet_builtin _ (by decide +kernel), codeAny_builtin F.entry_type_call ?_⟩
  rw [Around.under_plain (weight_type_call_type "set" [.ref l] []) rfl]
  have h1 := F.called_set.notType
  have h2 := F.called_set.canCreate
  have hct := F.typeCall_set_1 (.ref l)
  repeat (any_goals (first | assumption | wp_step))
  obtain ⟨S0, hS0⟩ : ∃ S0 : Obj, S0 = { cls := .type "set", dict := none, data := .set #[] 0 (.fresh 0 0 (!w.params.followText "set-order")) } := ⟨_, rfl⟩
  refine codeAny_mono (code_set_led1 (.ref l) (E := E) (Q₁ := fun obj s₁ => obj = .ref s.heap.objs.size ∧ s₁ = { s with heap := s.heap.push S0 }) ⟨rfl, by rw [hS0]⟩) fun r s₁ hr => ?_
  cases r with
  | error e => exact hr
  | ok fl =>
    cases fl with
    | ret obj =>
      obtain ⟨rfl, rfl⟩ := hr
      have hS : (s.heap.push S0).get? s.heap.objs.size = some S0 := Heap.get?_push_size _ (by rw [hS0]; rfl)
      have hT : Shared.TypeIs { s with heap := s.heap.push S0 } (.ref s.heap.objs.size) "set" := ⟨_, hS, by rw [hS0]⟩
      have hli := F.called_set.init.lookup
      have hbi := F.called_set.init.bind (.ref s.heap.objs.size)
      repeat (any_goals (first | assumption | wp_step))
      refine codeAny_mono (codeAny_call_builtin (R := wants (fun r s₂ => r = .none ∧ ∃ h' tk c, s₂ = { s with heap := h', toks := tk } ∧ SetR w h' s.heap.objs.size (fun j => decide (j ∈ ns)) c ∧ c ≤ ns.length ∧
          (∀ b o, s.heap.get? b = some o → h'.get? b = some o)) E) F.called_set.init.plain F.entry_set_init (check_set_init_1 hT ?_)) fun r₂ s₂ hr₂ => ?_
      · obtain ⟨ol, hol, hcl, nl, hdl⟩ := hl
        obtain ⟨ocls, odict, odata, oslots⟩ := ol
        simp only at hcl hdl
        subst hcl; subst hdl; subst hS0
        have hol' := Heap.get?_push_of_some (h := s.heap) { cls := .type "set", dict := none, data := .set #[] 0 (.fresh 0 0 (!w.params.followText "set-order")) } hol
        have hsls := F.sub_list_set
        have hslf := F.sub_list_frozenset
        have hne : (Value.type "list" == Value.type "dict") = false := by decide
        have hl1 : (s.heap.push { cls := .type "set", dict := none, data := .set #[] 0 (.fresh 0 0 (!w.params.followText "set-order")) }).IsList l items := ⟨_, hol', rfl, nl, rfl⟩
        unfold Builtin.«set.__init__» noKeywords Builtin.Frozenset.updateFrom
        generalize hPI : pyIter = PI
        wp_walk
        subst hPI
        refine wpAny_pyIter_list hl1 (wpAny_bind (wpAny_runValue ?_))
        have hlS : l < s.heap.objs.size := Heap.lt_size hol
        have hh3 : A.in1.in1.in1.handled = none := by simp [hh]
        have hz1 : (s.heap.push { cls := .type "set", dict := none, data := .set #[] 0 (.fresh 0 0 (!w.params.followText "set-order")) }).objs.size = s.heap.objs.size + 1 := Heap.size_push ..
        have hneI : l ≠ (s.heap.push { cls := .type "set", dict := none, data := .set #[] 0 (.fresh 0 0 (!w.params.followText "set-order")) }).objs.size := by rw [Heap.size_push]; exact Nat.ne_of_lt (Nat.lt_succ_of_lt hlS)
        have hSf : s.heap.objs.size ∉ [(s.heap.push { cls := .type "set", dict := none, data := .set #[] 0 (.fresh 0 0 (!w.params.followText "set-order")) }).objs.size, l] := by
          rw [Heap.size_push]
          simp only [List.mem_cons, List.not_mem_nil, or_false, not_or]
          exact ⟨Nat.ne_of_lt (Nat.lt_succ_self _), Nat.ne_of_gt hlS⟩
        have hval : ∀ (i : Nat) (v : Value), items[i]? = some v → ∃ k t, ns[i]? = some k ∧ v = .int k t := fun i v hv => by
          have hi : i < ns.length := by rw [← hisz]; exact (Array.getElem?_eq_some_iff.mp hv).1
          obtain ⟨t, e⟩ := PyProof.Rows.IntsAre.int_at hit i v (by rw [Array.getElem?_toList]; exact hv)
          exact ⟨ns[i], t, List.getElem?_eq_getElem hi, by rw [e, List.getD_eq_getElem?_getD, List.getElem?_eq_getElem hi]; rfl⟩
        refine set_update_ints ((Walks.list hh3 _ l hneI items).toS) s.heap.objs.size
          hSf ns hisz hb hval (items.size - 0) 0 _ (by omega) (Nat.zero_le _)
          ⟨⟨_, Heap.get?_push_size _ rfl, rfl, rfl⟩, (hl1.push _)⟩ ?hS0 ?hR
        case hS0 => exact ⟨0, Nat.le_refl 0, setR_new_at (Heap.get?_push_of_some _ hS)⟩
        case hR =>
          intro s' c' hm hc' hS'
          obtain ⟨h', g2, d', tk', os'⟩ := s'
          have eg : g2 = s.gens := hm.gens
          have ed : d' = s.drawn := hm.drawn
          have eo : os' = s.os := hm.os
          subst eg; subst ed; subst eo
          show wpAny _ _ _ _ _ _
          refine wpAny_pure ?_
          show wpAny _ _ (ret Value.none) _ _ _
          rw [hisz] at hc'
          refine wpAny_pure ⟨rfl, h', tk', c', rfl, hS', hc', fun b o e => ?_⟩
          have hb0 : b < s.heap.objs.size := Heap.lt_size e
          refine hm.heap b o ?_ (Heap.get?_push_of_some _ (Heap.get?_push_of_some _ e))
          rw [Heap.size_push]
          simp only [List.mem_cons, List.not_mem_nil, or_false, not_or]
          exact ⟨Nat.ne_of_lt hb0, Nat.ne_of_lt (Nat.lt_succ_of_lt hb0)⟩
      · cases r₂ with
        | error e => exact hr₂
        | ok fl₂ =>
          cases fl₂ with
          | ret r =>
            obtain ⟨rfl, h', tk, c', rfl, hS', hc', hk'⟩ := hr₂
            repeat (any_goals (first | assumption | wp_step))
            exact h _ _ _ hS' hc' hk'
          | _ => exact hr₂.elim
    | _ => exact hr.elim
end
section
variable {X : Cx}
def rSetI (K : PySem.W.Frag) (w : World) : List V → Hp → VK → Prop := fun xs H Q => ∃ (l : Addr) (ns : List Int), xs = [.ref l] ∧ (SqL K H l (ns.map V.int) ∨ SqT K H l (ns.map V.int)) ∧ ns.length < 64 ∧
  ∀ a c, H a = none → c ≤ ns.length → Q (.ref a) (upd H a (SetO w a (fun j => decide (j ∈ ns)) c))
theorem cr_setI (hc : X.calm = true) : CallR X (.type "set") (rSetI X.K X.w) := by
  intro pins s σ H xs us Q I r h
  obtain ⟨l, ns, rfl, hl, hf, q⟩ := h
  rw [Vals.ref1 r]
  have hb : ns.length + 1 < scanBound := by unfold scanBound; omega
  have fin : ∀ (h' : Heap) (tk c : Nat), SetR X.w h' s.heap.objs.size (fun j => decide (j ∈ ns)) c → c ≤ ns.length → (∀ b o, s.heap.get? b = some o → h'.get? b = some o) → EP X pins σ Q (.ref s.heap.objs.size) { s with heap := h', toks := tk } := fun h' tk c R hc k =>
    ⟨.ref s.heap.objs.size, upd H s.heap.objs.size (SetO X.w s.heap.objs.size (fun j => decide (j ∈ ns)) c), I.laid (t' := tk) k (Nat.le_refl _) (setO_new R), rfl, q _ c (I.hok.fresh (Nat.le_refl _)) hc⟩
  rcases hl with hl | hl
  · obtain ⟨its, rv, pl, hz⟩ := I.list hl
    exact set_of_listI ns (I.ok.hd hc) pl.isList (by simpa using intsAre_of rv) hb fin
  · obtain ⟨its, rv, pl, hz⟩ := I.tuple hl
    exact call_set_tupI ns (I.ok.hd hc) pl (by simpa using intsAre_of rv) hb fin
end
/-- a row without what comes again -/
def ddI : List Int → List Int
  | [] => []
  | x :: xs => if x ∈ xs then ddI xs else x :: ddI xs
theorem ddI_mem {x : Int} : ∀ {xs : List Int}, x ∈ ddI xs ↔ x ∈ xs
  | [] => Iff.rfl
  | y :: xs => by
    unfold ddI
    by_cases h : y ∈ xs
    · rw [if_pos h, ddI_mem, List.mem_cons]
      exact ⟨.inr, fun q => q.elim (fun e => e ▸ h) id⟩
    · rw [if_neg h, List.mem_cons, List.mem_cons, ddI_mem]
theorem ddI_nodup : ∀ xs : List Int, (ddI xs).Nodup
  | [] => .nil
  | y :: xs => by
    unfold ddI
    by_cases h : y ∈ xs
    · rw [if_pos h]; exact ddI_nodup xs
    · rw [if_neg h]; exact List.nodup_cons.mpr ⟨fun q => h (ddI_mem.mp q), ddI_nodup xs⟩
/-- sorted(set(row)) -/
def setI (xs : List Int) : List Int := sortT eI (ddI xs)
theorem setI_mem {x : Int} {xs : List Int} : x ∈ setI xs ↔ x ∈ xs := by
  unfold setI
  rw [sortT_mem, ddI_mem]
theorem setI_nodup (xs : List Int) : (setI xs).Nodup := (sortT_perm eI (ddI xs)).nodup_iff.mpr (ddI_nodup xs)
theorem setI_pw (xs : List Int) : (setI xs).Pairwise (· < ·) := by
  have h := List.pairwise_and_iff.mpr ⟨sortI_sorted (ddI xs), (setI_nodup xs : List.Pairwise (· ≠ ·) _)⟩
  exact h.imp fun {a b} q => by have := q.1; have := q.2; omega
theorem asc_uniq {xs ys : List Int} (h1 : xs.Pairwise (· < ·)) (h2 : ys.Pairwise (· < ·)) (h : ∀ x, x ∈ xs ↔ x ∈ ys) : xs = ys := by
  have n1 : xs.Nodup := h1.imp fun {a b} q e => by omega
  have n2 : ys.Nodup := h2.imp fun {a b} q e => by omega
  exact List.Perm.eq_of_pairwise (le := (· ≤ ·)) (fun a b _ _ q r => by omega) (h1.imp fun {a b} q => Int.le_of_lt q) (h2.imp fun {a b} q => Int.le_of_lt q) (nodup_perm n1 n2 h)
theorem setI_uniq {xs ys : List Int} (h1 : ys.Pairwise (· < ·)) (h : ∀ x, x ∈ ys ↔ x ∈ xs) : setI xs = ys := asc_uniq (setI_pw xs) h1 fun x => by rw [setI_mem, h]
section
variable {G : Gb} {C : SC} {k : Nat} {ρ : PEnv} {xs : List Int} {e : Expr} {p p2 pos pos2 : Pos}
theorem evn_setI {ds : List PyData → PyData} (hd : ds = PyData.list ∨ ds = PyData.tuple) (gs : Gn C "sorted") (ms : G.mg "sorted" = none) (gt : Gn C "set") (mt : G.mg "set" = none) (h : EvB G C k ρ e (ds (xs.map eI))) (hn : xs.length < 64)
    (hs : ∀ env, starEach [e] env = (false, eval e env) :: starEach [] env)
    (hs2 : ∀ env, starEach [.Call (.Name "set" p2) [e] [] pos2] env = (false, eval (.Call (.Name "set" p2) [e] [] pos2) env) :: starEach [] env) :
    EvN G C k ρ (.Call (.Name "sorted" p) [.Call (.Name "set" p2) [e] [] pos2] [] pos) (eL eI (setI xs)) := fun X hX => by
  have a1 := pe_callTy (p := p2) (pos := pos2) (cr_setI hX.calm) (by unfold Gl Env.kindOf; rw [hX.es]; exact gt.hg) (by rw [hX.em]; exact mt) (by decide +kernel) (pa_cons (h X hX) pa_nil (hs _)) gt.hn gt.hd (hs _) rfl
  refine pe_imp (pe_callB (p := p) (pos := pos) (cr_sortedSet hX.calm) (by unfold Gl Env.kindOf; rw [hX.es]; exact gs.hg) (by rw [hX.em]; exact ms) (by decide +kernel) (pa_cons a1 pa_nil (hs2 _)) gs.hn gs.hd (hs2 _) rfl) fun σ H Q ⟨F0, H0, F, S, q⟩ => ⟨F0, H0, F, S, fun v F1 H1 e1 r1 => ?_⟩
  have fin : ∀ (a : Addr) (vs : List V), v = .ref a → (SqL X.K H1 a vs ∨ SqT X.K H1 a vs) → RpA G.K F1 vs (xs.map eI) → rSetI X.K X.w [v] H1 fun x H2 => rSortedSet X.w [x] H2 Q := fun a vs ev h1 h2 => by
    rw [RpA.ints h2] at h1
    refine ⟨a, xs, by rw [ev], h1, hn, fun b c hb hc => ⟨b, _, c, rfl, upd_same, by omega, fun ns p hs hm hl hp => ?_⟩⟩
    have e : ns = setI xs := (setI_uniq hs fun x => by rw [hm, decide_eq_true_iff]).symm
    have x1 := Ext.put (o := SetO X.w b (fun j => decide (j ∈ xs)) c) e1.sub hb
    have x2 := Ext.put (o := .lst (ns.map V.int)) x1.sub hp
    refine q p _ F1 _ ((e1.trans x1).trans x2) ((e1.trans x1).hs.free hp) upd_same (x1.sub.free hp) ?_
    rw [e]
    refine .lst ?_
    have : ∀ l : List Int, RpA G.K F1 (l.map V.int) (l.map eI) := fun l => by
      induction l with
      | nil => exact .nil
      | cons i l ih => exact .cons (.int i) ih
    exact this _
  rcases hd with rfl | rfl
  · obtain ⟨a, vs, rfl, h1, h2⟩ := r1.lst e1.sub
    exact fin a vs rfl (.inl (by rw [hX.eK]; exact h1)) h2
  · obtain ⟨a, vs, rfl, h1, h2⟩ := r1.tup e1.sub
    exact fin a vs rfl (.inr (by rw [hX.eK]; exact h1)) h2
end
end Pl
/-! Pl, part Z: min, max of tuples of whole numbers. -/
namespace Pl
open PySem PySem.Spec PyProof.Rows L2
theorem reads_ints {h : Heap} : ∀ {ns : List Int} {us : List Value}, Vals (ns.map V.int) us → ∃ as, ReadsAll h us (ns.map PyData.int) as
  | [], _, .nil => ⟨_, .nil⟩
  | n :: ns, _, .cons r t => by
    obtain ⟨as, q⟩ := reads_ints (h := h) t
    obtain ⟨tk, rfl⟩ := r
    exact ⟨_, .cons (.int _ _) q⟩
theorem depth_ints : ∀ ns : List Int, PyData.depthAll (ns.map PyData.int) = 0
  | [] => rfl
  | n :: ns => by
    show max (PyData.int n).depth (PyData.depthAll (ns.map PyData.int)) = 0
    rw [depth_ints ns]
    rfl
theorem alike_ints (ns : List Int) : PySem.W.AlikeAll (ns.map PyData.int) := by
  constructor
  · intro x hx y hy
    obtain ⟨i, _, rfl⟩ := List.mem_map.mp hx
    obtain ⟨j, _, rfl⟩ := List.mem_map.mp hy
    rfl
  · intro x hx e
    obtain ⟨i, _, rfl⟩ := List.mem_map.mp hx
    cases e
section
variable {G : Gb} {C : SC} {k : Nat}
theorem ok_minT {ns : List Int} {m : Int} (h : minI ns = some m) : CallOk G C k (.builtin "min") [eT eI ns] (.int m) := fun X hX => by
  intro pins s σ H xs us Q I r ⟨F, sF, rb, q⟩
  obtain ⟨x, rfl, rx⟩ := ba1 rb
  obtain ⟨p, ys, rfl, h1, h2⟩ := rx.tup sF
  rw [← hX.eK] at h1
  rw [h2.ints] at h1
  obtain ⟨its, rv, hl, hz⟩ := I.tuple h1
  rw [Vals.ref1 r]
  have hu := hX.room.un
  cases ns with
  | nil => cases h
  | cons n ns =>
    cases h
    obtain ⟨as, ra⟩ := reads_ints (h := s.heap) rv
    refine PySem.W.min_tuple_data (x := .int n) (xs := ns.map .int) (I.ok.hd hX.calm) hl ra (alike_ints (n :: ns)) (by have := depth_ints (n :: ns); rw [List.map_cons] at this; rw [this]; omega) fun i v h' tk bs hv rd hk => ?_
    rw [PySem.W.minD_ints] at rd
    cases rd
    exact ⟨.int _, H, I.kept (t' := tk) hk, ⟨_, rfl⟩, q _ F H (Ext.refl sF) (.int _)⟩
theorem ok_maxT {ns : List Int} {m : Int} (h : maxI ns = some m) : CallOk G C k (.builtin "max") [eT eI ns] (.int m) := fun X hX => by
  intro pins s σ H xs us Q I r ⟨F, sF, rb, q⟩
  obtain ⟨x, rfl, rx⟩ := ba1 rb
  obtain ⟨p, ys, rfl, h1, h2⟩ := rx.tup sF
  rw [← hX.eK] at h1
  rw [h2.ints] at h1
  obtain ⟨its, rv, hl, hz⟩ := I.tuple h1
  rw [Vals.ref1 r]
  have hu := hX.room.un
  cases ns with
  | nil => cases h
  | cons n ns =>
    cases h
    obtain ⟨as, ra⟩ := reads_ints (h := s.heap) rv
    refine PySem.W.max_tuple_data (x := .int n) (xs := ns.map .int) (I.ok.hd hX.calm) hl ra (alike_ints (n :: ns)) (by have := depth_ints (n :: ns); rw [List.map_cons] at this; rw [this]; omega) fun i v h' tk bs hv rd hk => ?_
    rw [PySem.W.maxD_ints] at rd
    cases rd
    exact ⟨.int _, H, I.kept (t' := tk) hk, ⟨_, rfl⟩, q _ F H (Ext.refl sF) (.int _)⟩
end
end Pl
namespace Pl
open PySem PySem.Spec PyProof.Rows L2
/-- two tuples of names at once: no exchange -/
theorem swp_tt {x1 x2 : List Expr} {k1 k2 k3 k4 : Nat} {p1 p2 p3 p4 : Pos} {e1 e2 : Expr} {env : Env} : swappedStores [.Tuple [.Tuple x1 k1 p1, .Tuple x2 k2 p2] k3 p3] (.Tuple [e1, e2] k4 p4) env = pure none := by
  unfold swappedStores
  dsimp only
  split
  · rfl
  · split
    · rfl
    · rfl
end Pl
/-! Pl, part Dd: dicts with whole numbers as keys. -/
namespace Pl
open PySem PySem.Spec PyProof.Rows L2
/-- a dict with whole numbers as keys, in the order of laying -/
def eM {α : Type} (ea : α → PyData) (m : List (Int × α)) : PyData := .dict (m.map fun p => (.int p.1, ea p.2))
def dGet {α : Type} (m : List (Int × α)) (k : Int) : Option α := (m.find? fun p => decide (p.1 = k)).map (·.2)
def dPut {α : Type} (m : List (Int × α)) (k : Int) (a : α) : List (Int × α) := if (m.any fun p => decide (p.1 = k)) = true then m.map (fun p => if p.1 = k then (p.1, a) else p) else m ++ [(k, a)]
section
variable {K : KK} {F F' H : Hp} {α : Type} {ea : α → PyData}
theorem keyD_int : ∀ {k : Key} {i : Int}, keyD k = .int i → k = .inl i
  | .inl _, _, rfl => rfl
  | .inr _, _, h => nomatch h
theorem RpK.inv {kvs : List (Key × V)} {x : PyData × PyData} {ds : List (PyData × PyData)} (h : RpK K F kvs (x :: ds)) : ∃ k v vs, kvs = (k, v) :: vs ∧ keyD k = x.1 ∧ Rp K F v x.2 ∧ RpK K F vs ds := by
  cases h with
  | cons r t => exact ⟨_, _, _, rfl, rfl, r, t⟩
theorem RpK.inv0 {kvs : List (Key × V)} (h : RpK K F kvs []) : kvs = [] := by
  cases h; rfl
theorem RpK.invI {kvs : List (Key × V)} {p : Int × α} {m : List (Int × α)} (h : RpK K F kvs ((p :: m).map fun p => (.int p.1, ea p.2))) : ∃ v vs, kvs = (.inl p.1, v) :: vs ∧ Rp K F v (ea p.2) ∧ RpK K F vs (m.map fun p => (.int p.1, ea p.2)) := by
  obtain ⟨k, v, vs, h1, h2, h3, h4⟩ := RpK.inv (x := (.int p.1, ea p.2)) (ds := m.map fun p => (.int p.1, ea p.2)) h
  have := keyD_int h2
  subst this
  exact ⟨v, vs, h1, h3, h4⟩
theorem RpK.dget : ∀ {m : List (Int × α)} {kvs : List (Key × V)}, RpK K F kvs (m.map fun p => (.int p.1, ea p.2)) → ∀ k : Int, (∀ a, dGet m k = some a → ∃ v, valV kvs (.inl k) = some v ∧ Rp K F v (ea a)) ∧ (dGet m k = none → valV kvs (.inl k) = none)
  | [], kvs, h, k => by
    rw [RpK.inv0 h]
    exact ⟨fun a h => (by cases h), fun _ => rfl⟩
  | (i, a0) :: m, kvs, h, k => by
    obtain ⟨v0, vs, rfl, r, t⟩ := RpK.invI h
    obtain ⟨h1, h2⟩ := RpK.dget t k
    by_cases c : i = k
    · subst c
      have e1 : dGet ((i, a0) :: m) i = some a0 := by unfold dGet; rw [List.find?_cons_of_pos (by simp)]; rfl
      rw [e1]
      refine ⟨fun a ha => ?_, fun hn => (by cases hn)⟩
      cases ha
      exact ⟨v0, valV_pos (p := ((.inl i : Key), v0)) rfl, r⟩
    · have e1 : dGet ((i, a0) :: m) k = dGet m k := by unfold dGet; rw [List.find?_cons_of_neg (by simpa using c)]
      have e2 : valV (((.inl i : Key), v0) :: vs) (.inl k) = valV vs (.inl k) := valV_neg (p := ((.inl i : Key), v0)) fun q => c (Sum.inl.inj q)
      rw [e1, e2]
      exact ⟨h1, h2⟩
theorem dGet_any {m : List (Int × α)} (k : Int) : (m.any fun p => decide (p.1 = k)) = (dGet m k).isSome := by
  induction m with
  | nil => rfl
  | cons p m ih =>
    rw [List.any_cons, ih]
    unfold dGet
    by_cases c : p.1 = k
    · rw [List.find?_cons_of_pos (by simpa using c)]; simp [c]
    · rw [List.find?_cons_of_neg (by simpa using c)]; simp [c]
theorem RpK.any {kvs : List (Key × V)} {m : List (Int × α)} (h : RpK K F kvs (m.map fun p => (.int p.1, ea p.2))) (k : Int) : (kvs.any fun kv => decide (kv.1 = .inl k)) = m.any fun p => decide (p.1 = k) := by
  rw [valV_any, dGet_any]
  obtain ⟨h1, h2⟩ := RpK.dget h k
  cases hg : dGet m k with
  | none => rw [h2 hg]; rfl
  | some a => obtain ⟨v, hv, _⟩ := h1 a hg; rw [hv]; rfl
theorem RpK.dmap {k : Int} {v : V} {a : α} (r : Rp K F v (ea a)) : ∀ {m : List (Int × α)} {kvs : List (Key × V)}, RpK K F kvs (m.map fun p => (.int p.1, ea p.2)) → RpK K F (kvs.map fun kv => if kv.1 = .inl k then (kv.1, v) else kv) ((m.map fun p => if p.1 = k then (p.1, a) else p).map fun p => (.int p.1, ea p.2))
  | [], kvs, h => by rw [RpK.inv0 h]; exact .nil
  | (i, a0) :: m, kvs, h => by
    obtain ⟨v0, vs, rfl, r0, t⟩ := RpK.invI h
    have ih := RpK.dmap (k := k) r t
    rw [List.map_cons, List.map_cons, List.map_cons]
    by_cases c : i = k
    · subst c
      rw [if_pos rfl, if_pos rfl]
      exact .cons (k := (.inl i : Key)) r ih
    · rw [if_neg (fun q => c (Sum.inl.inj q)), if_neg c]
      exact .cons (k := (.inl i : Key)) r0 ih
theorem RpK.dsnoc {k : Int} {v : V} {a : α} (r : Rp K F v (ea a)) : ∀ {m : List (Int × α)} {kvs : List (Key × V)}, RpK K F kvs (m.map fun p => (.int p.1, ea p.2)) → RpK K F (kvs ++ [(.inl k, v)]) ((m ++ [(k, a)]).map fun p => (.int p.1, ea p.2))
  | [], kvs, h => by rw [RpK.inv0 h]; exact .cons (k := (.inl k : Key)) r .nil
  | (i, a0) :: m, kvs, h => by
    obtain ⟨v0, vs, rfl, r0, t⟩ := RpK.invI h
    exact .cons (k := (.inl i : Key)) r0 (RpK.dsnoc r t)
theorem RpK.dput {kvs : List (Key × V)} {m : List (Int × α)} (h : RpK K F kvs (m.map fun p => (.int p.1, ea p.2))) {k : Int} {v : V} {a : α} (r : Rp K F v (ea a)) : RpK K F (putK kvs (.inl k) v) ((dPut m k a).map fun p => (.int p.1, ea p.2)) := by
  unfold putK dPut
  rw [RpK.any h k]
  by_cases c : (m.any fun p => decide (p.1 = k)) = true
  · rw [if_pos c, if_pos c]
    exact RpK.dmap r h
  · rw [if_neg c, if_neg c]
    exact RpK.dsnoc r h
theorem RpK.len : ∀ {kvs : List (Key × V)} {ds : List (PyData × PyData)}, RpK K F kvs ds → kvs.length = ds.length
  | _, _, .nil => rfl
  | _, _, .cons _ t => congrArg (· + 1) (RpK.len t)
theorem RpB.dct {ds : List (PyData × PyData)} {v : V} (h : RpB K F H v (.dict ds)) (s : Same F H) : ∃ a kvs, v = .ref a ∧ H a = some (.dK kvs) ∧ RpK K F kvs ds := by
  rcases h with h | ⟨a, o, e1, e2, h⟩
  · cases h with
    | dK q r => exact ⟨_, _, rfl, s _ _ q, r⟩
  · cases h with
    | dK r => exact ⟨a, _, e1, e2, r⟩
end
section
variable {G : Gb} {C : SC} {k : Nat} {ρ : PEnv} {α : Type} {ea : α → PyData} {m : List (Int × α)} {e o i : Expr} {pos : Pos} {n : Int} {a : α}
theorem evn_dict0 : EvN G C k ρ (.Dict [] [] pos) (eM ea ([] : List (Int × α))) := fun X hX =>
  pe_imp pe_dnewK fun σ H Q ⟨F0, H0, F, S, q⟩ p hp => q p _ F _ (Ext.put S.ext.sub hp) hp upd_same (S.ext.sub.free hp) (.dK .nil)
theorem ev_dget (ho : EvB G C k ρ o (eM ea m)) (hi : EvB G C k ρ i (eI n)) (h : dGet m n = some a) (hs : NoSl i) : Ev G C k ρ (.Subscript o i pos) (ea a) := fun X hX => by
  have hu := hX.room.un
  exact pe_imp (pe_dget (by omega) (ho X hX) (hi X hX) hs) fun σ H Q ⟨F0, H0, F, S, q⟩ => ⟨F0, H0, F, S, fun x F1 H1 e1 r1 => ⟨F0, H0, F1, S.go e1, fun y F2 H2 e2 r2 => by
    obtain ⟨p, kvs, rfl, h1, h2⟩ := (r1.ext e2).dct e2.sub
    obtain ⟨v, hv, rv⟩ := (RpK.dget h2 n).1 a h
    rw [r2.int]
    exact ⟨p, v, rfl, .inl ⟨kvs, .inl n, .inl h1, rfl, hv.symm⟩, q v F2 H2 (e1.trans e2) rv⟩⟩⟩
theorem te_din (hi : EvB G C k ρ i (eI n)) (ho : EvB G C k ρ o (eM ea m)) (hm : behindInMarks .In o = false) : Te G C k ρ (.Compare i [.In] [o] pos) (dGet m n).isSome := fun X hX => by
  have hu := hX.room.un
  refine pt_imp (pt_cmp (pc_din (by omega) (hi X hX) (ho X hX)) hm) fun σ H Q ⟨F0, H0, F, S, q⟩ => ⟨F0, H0, F, S, fun y F1 H1 e1 r1 => ⟨F0, H0, F1, S.go e1, fun x F2 H2 e2 r2 => ?_⟩⟩
  obtain ⟨p, kvs, rfl, h1, h2⟩ := r2.dct e2.sub
  rw [(r1.ext e2).int]
  refine ⟨p, valV kvs (.inl n), rfl, .inl ⟨kvs, .inl n, .inl h1, rfl, rfl⟩, (dGet m n).isSome, ?_, q F2 H2 (e1.trans e2)⟩
  obtain ⟨g1, g2⟩ := RpK.dget h2 n
  cases hg : dGet m n with
  | none => rw [g2 hg]; rfl
  | some a => obtain ⟨v, hv, _⟩ := g1 a hg; rw [hv]; rfl
theorem te_dnotin (hi : EvB G C k ρ i (eI n)) (ho : EvB G C k ρ o (eM ea m)) (hm : behindInMarks .NotIn o = false) : Te G C k ρ (.Compare i [.NotIn] [o] pos) (!(dGet m n).isSome) := fun X hX => by
  have hu := hX.room.un
  refine pt_imp (pt_cmp (pc_dnotin (by omega) (hi X hX) (ho X hX)) hm) fun σ H Q ⟨F0, H0, F, S, q⟩ => ⟨F0, H0, F, S, fun y F1 H1 e1 r1 => ⟨F0, H0, F1, S.go e1, fun x F2 H2 e2 r2 => ?_⟩⟩
  obtain ⟨p, kvs, rfl, h1, h2⟩ := r2.dct e2.sub
  rw [(r1.ext e2).int]
  refine ⟨p, valV kvs (.inl n), rfl, .inl ⟨kvs, .inl n, .inl h1, rfl, rfl⟩, !(dGet m n).isSome, ?_, q F2 H2 (e1.trans e2)⟩
  obtain ⟨g1, g2⟩ := RpK.dget h2 n
  cases hg : dGet m n with
  | none => rw [g2 hg]; rfl
  | some a => obtain ⟨v, hv, _⟩ := g1 a hg; rw [hv]; rfl
theorem ev_din (hi : EvB G C k ρ i (eI n)) (ho : EvB G C k ρ o (eM ea m)) (hm : behindInMarks .In o = false) : Ev G C k ρ (.Compare i [.In] [o] pos) (.bool (dGet m n).isSome) := fun X hX => by
  have hu := hX.room.un
  refine pe_imp (pe_cmp (pc_din (by omega) (hi X hX) (ho X hX)) hm) fun σ H Q ⟨F0, H0, F, S, q⟩ => ⟨F0, H0, F, S, fun y F1 H1 e1 r1 => ⟨F0, H0, F1, S.go e1, fun x F2 H2 e2 r2 => ?_⟩⟩
  obtain ⟨p, kvs, rfl, h1, h2⟩ := r2.dct e2.sub
  rw [(r1.ext e2).int]
  have e : (valV kvs (.inl n)).isSome = (dGet m n).isSome := by
    obtain ⟨g1, g2⟩ := RpK.dget h2 n
    cases hg : dGet m n with
    | none => rw [g2 hg]; rfl
    | some a => obtain ⟨v, hv, _⟩ := g1 a hg; rw [hv]; rfl
  refine ⟨p, valV kvs (.inl n), rfl, .inl ⟨kvs, .inl n, .inl h1, rfl, rfl⟩, ?_⟩
  rw [e]
  exact q _ F2 H2 (e1.trans e2) (.bl _)
theorem ev_dnotin (hi : EvB G C k ρ i (eI n)) (ho : EvB G C k ρ o (eM ea m)) (hm : behindInMarks .NotIn o = false) : Ev G C k ρ (.Compare i [.NotIn] [o] pos) (.bool (!(dGet m n).isSome)) := fun X hX => by
  have hu := hX.room.un
  refine pe_imp (pe_cmp (pc_dnotin (by omega) (hi X hX) (ho X hX)) hm) fun σ H Q ⟨F0, H0, F, S, q⟩ => ⟨F0, H0, F, S, fun y F1 H1 e1 r1 => ⟨F0, H0, F1, S.go e1, fun x F2 H2 e2 r2 => ?_⟩⟩
  obtain ⟨p, kvs, rfl, h1, h2⟩ := r2.dct e2.sub
  rw [(r1.ext e2).int]
  have e : (valV kvs (.inl n)).isSome = (dGet m n).isSome := by
    obtain ⟨g1, g2⟩ := RpK.dget h2 n
    cases hg : dGet m n with
    | none => rw [g2 hg]; rfl
    | some a => obtain ⟨v, hv, _⟩ := g1 a hg; rw [hv]; rfl
  refine ⟨p, valV kvs (.inl n), rfl, .inl ⟨kvs, .inl n, .inl h1, rfl, rfl⟩, ?_⟩
  rw [e]
  exact q _ F2 H2 (e1.trans e2) (.bl _)
/-- x[e1] = e, x a dict -/
theorem st_dput (j : Nat) {x : Str} {ei : Expr} {p1 p2 : Pos} (nm : Nm C j x) (h : ρ[j]? = some (some (.ow (eM ea m)))) (he : Ev G C k ρ e (ea a)) (hei : EvB G C k ρ ei (eI n)) (hl : Sz1 m.length)
    (hs : ∀ env, swapsWith e (some (.Subscript (.Name x p1) ei p2)) pos.line env = pure false) : St1 G C k ρ (.Assign [.Subscript (.Name x p1) ei p2] e pos) (.nx (ρ.set j (some (.ow (eM ea (dPut m n a)))))) := fun X hX => by
  have hu := hX.room.un
  refine ps_imp (ps_dput (by omega) (pe_var (i := j) (by rw [hX.eN]; exact nm.hi) (vis_of hX nm.hv) nm.hd nm.hc) (hei X hX) (he X hX) (hs _)) fun D σ H ⟨F0, H0, F, S, q⟩ => ⟨F0, H0, F, S, fun v F1 H1 e1 r1 => ?_⟩
  obtain ⟨p, o', h1, h2, h3, h4, h5⟩ := S.ow j _ h
  have h3' : OwnAt G.K F o' (.dict (m.map fun p => (.int p.1, ea p.2))) := h3
  cases h3' with
  | @dK kvs _ r =>
    refine ⟨.ref p, h1, F0, H0, F1, S.go e1, fun y F2 H2 e2 r2 => ?_⟩
    rw [r2.int]
    have hlen : kvs.length < sizeLine := by
      rw [RpK.len r, List.length_map, sizeLine_eq]
      exact hl
    exact ⟨p, _, rfl, .inl ⟨kvs, .inl n, (e1.trans e2).hs _ _ h2, rfl, hlen, rfl⟩, q σ F2 _ ((S.go (e1.trans e2)).mut h h1 (.dK (RpK.dput (r.mono (e1.trans e2).fs) (r1.mono e2.fs)))) (e1.trans e2).fs⟩
end
end Pl
namespace Pl
open PySem PySem.Spec PyProof.Rows L2
section
variable {G : Gb} {C : SC} {k : Nat} {ρ : PEnv} {x : Str} {pos : Pos}
/-- a whole number, a text of the module -/
theorem ev_cI {i : Int} (g : Gn C x) (h : ∃ t, G.mg x = some (.int i t)) : Ev G C k ρ (.Name x pos) (eI i) := by
  obtain ⟨t, ht⟩ := h
  exact ev_glob (v := .int i) g.hg ht ⟨t, rfl⟩ (fun _ => .int i) g.hd
theorem ev_cS {z : Str} (g : Gn C x) (h : ∃ t, G.mg x = some (.str z t)) : Ev G C k ρ (.Name x pos) (eS z) := by
  obtain ⟨t, ht⟩ := h
  exact ev_glob (v := .str z) g.hg ht ⟨t, rfl⟩ (fun _ => .str z) g.hd
theorem sDPutX {α : Type} {ea : α → PyData} {m z : List (Int × α)} {n : Int} {a : α} {e ei : Expr} (hz : dPut m n a = z) (j : Nat) {p1 p2 : Pos} (nm : Nm C j x) (h : ρ[j]? = some (some (.ow (eM ea m)))) (he : Ev G C k ρ e (ea a)) (hei : EvB G C k ρ ei (eI n)) (hl : Sz1 m.length)
    (hs : ∀ env, swapsWith e (some (.Subscript (.Name x p1) ei p2)) pos.line env = pure false) : St1 G C k ρ (.Assign [.Subscript (.Name x p1) ei p2] e pos) (.nx (ρ.set j (some (.ow (eM ea z))))) := by
  subst hz
  exact st_dput j nm h he hei hl hs
/-! ### the first place of a number in a list -/
def ixI : List Int → Int → Option Int
  | [], _ => none
  | y :: ys, v => if y = v then some 0 else (ixI ys v).map (· + 1)
theorem ixI_spec : ∀ {ys : List Int} {v j : Int}, ixI ys v = some j → ∃ n : Nat, j = (n : Int) ∧ ys[n]? = some v ∧ ∀ m, m < n → ∀ w, ys[m]? = some w → w ≠ v
  | [], _, _, h => by cases h
  | y :: ys, v, j, h => by
    unfold ixI at h
    by_cases c : y = v
    · rw [if_pos c] at h
      cases h
      exact ⟨0, rfl, by rw [c]; rfl, fun m hm => absurd hm (by omega)⟩
    · rw [if_neg c] at h
      cases hq : ixI ys v with
      | none => rw [hq] at h; cases h
      | some i =>
        rw [hq] at h
        cases h
        obtain ⟨n, rfl, h1, h2⟩ := ixI_spec hq
        refine ⟨n + 1, by show (n : Int) + 1 = _; omega, h1, fun m hm w hw => ?_⟩
        cases m with
        | zero => cases hw; exact c
        | succ m => exact h2 m (by omega) w hw
theorem all_flat (ns : List Int) : (ns.map V.int).all flatV = true := by
  rw [List.all_eq_true]
  intro v hv
  obtain ⟨i, _, rfl⟩ := List.mem_map.mp hv
  rfl
theorem ev_index {o e : Expr} {ys : List Int} {v j : Int} {apos cpos : Pos} (h : ixI ys v = some j) (ho : EvB G C k ρ o (eL eI ys)) (he : EvB G C k ρ e (eI v))
    (hs : ∀ env, starEach [e] env = [(false, eval e env)]) (hab : ∀ env, attributeBase o "index" env (eval o env) = eval o env) (hln : (apos.endLine == cpos.line) = true) :
    Ev G C k ρ (.Call (.Attribute o "index" apos) [e] [] cpos) (eI j) := fun X hX => by
  refine pe_imp (pe_bm PySem.F.plainAttrs_list PySem.F.slot_list_index PySem.F.type_list_index mt_index (ho X hX) (pa_cons (he X hX) pa_nil (by rw [hs]; rfl)) (hab _) (by rw [hs]; rfl) hln (by rw [hs]; rfl) rfl) fun σ H Q ⟨F0, H0, F, S, q⟩ => ⟨F0, H0, F, S, fun x F1 H1 e1 r1 => ?_⟩
  obtain ⟨p, vs, rfl, h1, h2⟩ := r1.lst e1.sub
  refine ⟨.inl ⟨rfl, vs, by rw [hX.eK]; exact h1⟩, F0, H0, F1, S.go e1, fun y F2 H2 e2 r2 => ?_⟩
  rw [r2.int]
  have hv := h2.ints
  obtain ⟨n, rfl, g1, g2⟩ := ixI_spec h
  rw [hv] at h1
  have h1' : SqL G.K H2 p (ys.map V.int) := e2.hs.seq h1
  refine ⟨p, ys.map V.int, .int v, n, .int v, rfl, rfl, by rw [hX.eK]; exact h1', rfl, all_flat ys, by rw [List.getElem?_map, g1]; rfl, by show (v == v) = true; exact beq_self_eq_true v, fun m z hm hz => ?_, q _ F2 H2 (e1.trans e2) (.int _)⟩
  rw [List.getElem?_map] at hz
  cases hw : ys[m]? with
  | none => rw [hw] at hz; cases hz
  | some w =>
    rw [hw] at hz
    cases hz
    show (w == v) = false
    exact beq_eq_false_iff_ne.mpr (g2 m hm w hw)
/-- isinstance of None or a value of one kind -/
theorem cIsO {α : Type} {ea : α → PyData} {T kk : String} {p1 p2 : Pos} {w : Option α} {e : Expr} (g : Gn C "isinstance") (m : G.mg "isinstance" = none) (gT : Gn C x) (mT : G.mg x = none) (bb : bootBuiltins x = some (.type T)) (h : EvB G C k ρ e (eO ea w)) (hk : ∀ a, tyD (ea a) = kk) (h1 : kitB kk T = some true) (h0 : kitB "NoneType" T = some false)
    (hs : ∀ env, starEach [e, .Name x p2] env = (false, eval e env) :: starEach [.Name x p2] env) : Ev G C k ρ (.Call (.Name "isinstance" p1) [e, .Name x p2] [] pos) (eB w.isSome) := by
  cases w with
  | none => exact cIs g m gT mT bb h h0 hs
  | some a => exact cIs g m gT mT bb h (by show kitB (tyD (ea a)) T = some true; rw [hk]; exact h1) hs
end
end Pl
/-! Pl, part Mx: min, max of rows of ordered data. -/
namespace Pl
open PySem PySem.Spec PyProof.Rows L2
def maxT {α : Type} (e : α → PyData) : List α → Option α
  | [] => none
  | x :: xs => some (xs.foldl (fun a y => if ltT e a y = true then y else a) x)
def minT {α : Type} (e : α → PyData) : List α → Option α
  | [] => none
  | x :: xs => some (xs.foldl (fun a y => if ltT e y a = true then y else a) x)
section
variable {α : Type} {ea : α → PyData} {n : Nat}
theorem maxD_map (xs : List α) : ∀ x : α, PySem.W.maxD (ea x) (xs.map ea) = ea (xs.foldl (fun a y => if ltT ea a y = true then y else a) x) := by
  unfold PySem.W.maxD
  induction xs with
  | nil => intro x; rfl
  | cons y xs ih =>
    intro x
    rw [List.map_cons, List.foldl_cons, List.foldl_cons]
    show (xs.map ea).foldl _ (if ltT ea x y = true then ea y else ea x) = _
    rw [← ih]
    congr 1
    split <;> rfl
theorem minD_map (xs : List α) : ∀ x : α, PySem.W.minD (ea x) (xs.map ea) = ea (xs.foldl (fun a y => if ltT ea y a = true then y else a) x) := by
  unfold PySem.W.minD
  induction xs with
  | nil => intro x; rfl
  | cons y xs ih =>
    intro x
    rw [List.map_cons, List.foldl_cons, List.foldl_cons]
    show (xs.map ea).foldl _ (if ltT ea y x = true then ea y else ea x) = _
    rw [← ih]
    congr 1
    split <;> rfl
theorem alike_all (h : OrdT ea n) (xs : List α) : PySem.W.AlikeAll (xs.map ea) := by
  constructor
  · intro x hx y hy
    obtain ⟨i, _, rfl⟩ := List.mem_map.mp hx
    obtain ⟨j, _, rfl⟩ := List.mem_map.mp hy
    exact h.al i j
  · intro x hx e
    obtain ⟨i, _, rfl⟩ := List.mem_map.mp hx
    exact h.nn i e
theorem depth_all (h : OrdT ea n) : ∀ xs : List α, PyData.depthAll (xs.map ea) ≤ n
  | [] => Nat.zero_le _
  | x :: xs => by
    show max (ea x).depth (PyData.depthAll (xs.map ea)) ≤ n
    exact Nat.max_le.mpr ⟨h.dp x, depth_all h xs⟩
theorem reads_all {X : Cx} {pins : List (Addr × Obj)} {σ : L2.St} {H F : Hp} {s : Shared} (I : L2.Inv X pins σ H s) (sF : Same F H) (h : OrdT ea n) : ∀ {xs : List α} {vs : List V} {its : List Value}, RpA X.K F vs (xs.map ea) → Vals vs its → ∃ as, ReadsAll s.heap its (xs.map ea) as
  | [], _, _, .nil, .nil => ⟨_, .nil⟩
  | x :: xs, _, _, .cons r t, .cons q u => by
    obtain ⟨as, k⟩ := reads_all I sF h t u
    obtain ⟨bs, b⟩ := Dp.reads I _ _ _ ((r.mono sF).dp (h.nd x)) q
    exact ⟨_, .cons b k⟩
/-- the value at a place that reads as that datum -/
theorem rp_at {X : Cx} {pins : List (Addr × Obj)} {σ : L2.St} {H F : Hp} {s : Shared} (I : L2.Inv X pins σ H s) (sF : Same F H) (h : OrdT ea n) {h' : Heap} (hk : ∀ b o, s.heap.get? b = some o → h'.get? b = some o) {m : α} {v : Value} {bs : List Addr} (rd : Reads h' v (ea m) bs) :
    ∀ {xs : List α} {vs : List V} {its : List Value} {i : Nat}, RpA X.K F vs (xs.map ea) → Vals vs its → its[i]? = some v → ∃ x, RelV x v ∧ Rp X.K F x (ea m)
  | [], _, _, i, .nil, .nil, hv => by simp at hv
  | x :: xs, _, _, 0, .cons (v := u) r t, .cons q w, hv => by
    have e := Option.some.inj hv
    subst e
    obtain ⟨as, b⟩ := Dp.reads I _ _ _ ((r.mono sF).dp (h.nd x)) q
    have := (Reads.unique (PyProof.Rows.Reads.keeps hk b) _ _ rd).1
    exact ⟨u, q, this ▸ r⟩
  | x :: xs, _, _, i + 1, .cons r t, .cons q w, hv => rp_at I sF h hk rd t w (by simpa using hv)
end
section
variable {G : Gb} {C : SC} {k : Nat} {α : Type} {ea : α → PyData} {n : Nat}
theorem ok_maxTT (h : OrdT ea n) {xs : List α} {m : α} (hm : maxT ea xs = some m) (hn : n ≤ 60 := by decide) : CallOk G C k (.builtin "max") [eT ea xs] (ea m) := fun X hX => by
  intro pins s σ H ws us Q I r ⟨F, sF, rb, q⟩
  obtain ⟨x, rfl, rx⟩ := ba1 rb
  obtain ⟨p, ys, rfl, h1, h2⟩ := rx.tup sF
  rw [← hX.eK] at h1 h2
  obtain ⟨its, rv, hl, hz⟩ := I.tuple h1
  rw [Vals.ref1 r]
  have hu := hX.room.un
  cases xs with
  | nil => cases hm
  | cons y ys' =>
    cases hm
    obtain ⟨as, ra⟩ := reads_all I sF h h2 rv
    refine PySem.W.max_tuple_data (x := ea y) (xs := ys'.map ea) (I.ok.hd hX.calm) hl ra (alike_all h (y :: ys')) (by have := depth_all h (y :: ys'); rw [List.map_cons] at this; omega) fun i v h' tk bs hv rd hk => ?_
    rw [maxD_map] at rd
    obtain ⟨u, ru, rp⟩ := rp_at I sF h hk rd h2 rv (by simpa using hv)
    rw [hX.eK] at rp
    exact ⟨u, H, I.kept (t' := tk) hk, ru, q _ F H (Ext.refl sF) rp⟩
theorem ok_maxTL (h : OrdT ea n) {xs : List α} {m : α} (hm : maxT ea xs = some m) (hn : n ≤ 60 := by decide) : CallOk G C k (.builtin "max") [eL ea xs] (ea m) := fun X hX => by
  intro pins s σ H ws us Q I r ⟨F, sF, rb, q⟩
  obtain ⟨x, rfl, rx⟩ := ba1 rb
  obtain ⟨p, ys, rfl, h1, h2⟩ := rx.lst sF
  rw [← hX.eK] at h1 h2
  obtain ⟨its, rv, hl, hz⟩ := I.list h1
  rw [Vals.ref1 r]
  have hu := hX.room.un
  cases xs with
  | nil => cases hm
  | cons y ys' =>
    cases hm
    obtain ⟨as, ra⟩ := reads_all I sF h h2 rv
    refine PySem.W.max_list_data (x := ea y) (xs := ys'.map ea) (I.ok.hd hX.calm) hl.isList ra (alike_all h (y :: ys')) (by have := depth_all h (y :: ys'); rw [List.map_cons] at this; omega) fun i v h' tk bs hv rd hk => ?_
    rw [maxD_map] at rd
    obtain ⟨u, ru, rp⟩ := rp_at I sF h hk rd h2 rv (by simpa using hv)
    rw [hX.eK] at rp
    exact ⟨u, H, I.kept (t' := tk) hk, ru, q _ F H (Ext.refl sF) rp⟩
theorem ok_minTT (h : OrdT ea n) {xs : List α} {m : α} (hm : minT ea xs = some m) (hn : n ≤ 60 := by decide) : CallOk G C k (.builtin "min") [eT ea xs] (ea m) := fun X hX => by
  intro pins s σ H ws us Q I r ⟨F, sF, rb, q⟩
  obtain ⟨x, rfl, rx⟩ := ba1 rb
  obtain ⟨p, ys, rfl, h1, h2⟩ := rx.tup sF
  rw [← hX.eK] at h1 h2
  obtain ⟨its, rv, hl, hz⟩ := I.tuple h1
  rw [Vals.ref1 r]
  have hu := hX.room.un
  cases xs with
  | nil => cases hm
  | cons y ys' =>
    cases hm
    obtain ⟨as, ra⟩ := reads_all I sF h h2 rv
    refine PySem.W.min_tuple_data (x := ea y) (xs := ys'.map ea) (I.ok.hd hX.calm) hl ra (alike_all h (y :: ys')) (by have := depth_all h (y :: ys'); rw [List.map_cons] at this; omega) fun i v h' tk bs hv rd hk => ?_
    rw [minD_map] at rd
    obtain ⟨u, ru, rp⟩ := rp_at I sF h hk rd h2 rv (by simpa using hv)
    rw [hX.eK] at rp
    exact ⟨u, H, I.kept (t' := tk) hk, ru, q _ F H (Ext.refl sF) rp⟩
theorem ok_minTL (h : OrdT ea n) {xs : List α} {m : α} (hm : minT ea xs = some m) (hn : n ≤ 60 := by decide) : CallOk G C k (.builtin "min") [eL ea xs] (ea m) := fun X hX => by
  intro pins s σ H ws us Q I r ⟨F, sF, rb, q⟩
  obtain ⟨x, rfl, rx⟩ := ba1 rb
  obtain ⟨p, ys, rfl, h1, h2⟩ := rx.lst sF
  rw [← hX.eK] at h1 h2
  obtain ⟨its, rv, hl, hz⟩ := I.list h1
  rw [Vals.ref1 r]
  have hu := hX.room.un
  cases xs with
  | nil => cases hm
  | cons y ys' =>
    cases hm
    obtain ⟨as, ra⟩ := reads_all I sF h h2 rv
    refine PySem.W.min_list_data (x := ea y) (xs := ys'.map ea) (I.ok.hd hX.calm) hl.isList ra (alike_all h (y :: ys')) (by have := depth_all h (y :: ys'); rw [List.map_cons] at this; omega) fun i v h' tk bs hv rd hk => ?_
    rw [minD_map] at rd
    obtain ⟨u, ru, rp⟩ := rp_at I sF h hk rd h2 rv (by simpa using hv)
    rw [hX.eK] at rp
    exact ⟨u, H, I.kept (t' := tk) hk, ru, q _ F H (Ext.refl sF) rp⟩
end
end Pl
/-! Pl, part Tx: texts: slices with a step, join, range of three. -/
namespace Pl
open PySem PySem.Spec PyProof.Rows L2
/-- x[i::w] -/
def stepS (x : Str) (i w : Int) : Str :=
  if (w == 1 && (Builtin.Str.strSliceIndices (some i) none w x.length).length == x.length) = true then x else ⟨((Builtin.Str.strSliceIndices (some i) none w x.length).filterMap (x.cps[·]?)).toArray⟩
theorem stepS_by (x : Str) (i w : Int) (ui uk : Tok) : Txt.sliceBy x (some (i, ui)) none (w, uk) = stepS x i w := rfl
section
variable {X : Cx} {e lo st : Expr} {te tl ts : TE} {p2 pos : Pos}
def tSs (te tl ts : TE) : TE := fun σ H Q => te σ H fun x H1 => tl σ H1 fun c H2 => ts σ H2 fun y H3 => ∃ z i w, x = .str z ∧ c = .int i ∧ y = .int w ∧ w ≠ 0 ∧ z.length ≤ sizeLine ∧ Q (.str (stepS z i w)) H3
theorem pe_sls (he : PE X e te) (hl : PE X lo tl) (hs : PE X st ts) : PE X (.Subscript e (.Slice (some lo) none (some st) p2) pos) (tSs te tl ts) := by
  refine ⟨fun pins s σ H Q I h => ?_⟩
  refine Subscript_ (thn (he.run pins s σ H _ I h) fun v s1 ⟨x, H1, I1, r1, q1⟩ => ?_)
  refine wpAny_Slice ?_
  rw [evalPart_some]
  refine thn (hl.run pins s1 σ H1 _ I1 q1) fun vl s2 ⟨c, H2, I2, r2, q2⟩ => ?_
  rw [evalPart_none]
  refine wpAny_pure ?_
  rw [evalPart_some]
  refine thn (hs.run pins s2 σ H2 _ I2 q2) fun vs s3 ⟨y, H3, I3, r3, q3⟩ => ?_
  obtain ⟨z, i, w, rfl, rfl, rfl, hw, hz, q⟩ := q3
  obtain ⟨ti, rfl⟩ := r2
  obtain ⟨tk, rfl⟩ := r3
  obtain ⟨t, rfl⟩ := r1
  have I4 : Inv X pins σ H3 { s3 with heap := s3.heap.push { cls := .type "slice", data := .fields #[.int i ti, .none, .int w tk] } } := I3.kept (t' := s3.toks) fun b ob q => Heap.get?_push_of_some _ q
  show wpAny (model X.prog X.w) X.A (subscriptTail e (.Slice (some lo) none (some st) p2) (.str z t) (.ref s3.heap.objs.size)) (EP X pins σ Q) X.xe { s3 with heap := s3.heap.push { cls := .type "slice", data := .fields #[.int i ti, .none, .int w tk] } }
  refine tail_any (ops := [.ref s3.heap.objs.size, .str z t]) (typeIs_str _ _ _) F.slot_str_getitem.lookup ?_ (by with_unfolding_all rfl)
  exact wpAny_getItem_str_slice (l := some (i, ti)) (u := none) (st := some (w, tk)) ⟨_, Heap.get?_push_size _ rfl, rfl, rfl⟩ (by simpa using hw)
    (post_val_or_str ⟨Nat.le_trans (Txt.sliceBy_le z _ _ (w, tk) hw) hz, fun t' c => ⟨.str (stepS z i w), H3, I4.tok _, ⟨t', rfl⟩, q⟩⟩)
end
section
variable {G : Gb} {C : SC} {k : Nat} {ρ : PEnv} {e o lo st : Expr} {p2 pos apos : Pos}
theorem ev_stepS {z : Str} {i w : Int} (he : EvB G C k ρ e (.str z)) (hl : EvB G C k ρ lo (.int i)) (hs : EvB G C k ρ st (.int w)) (h : w ≠ 0 ∧ z.length ≤ sizeLine) : Ev G C k ρ (.Subscript e (.Slice (some lo) none (some st) p2) pos) (.str (stepS z i w)) := fun X hX =>
  pe_imp (pe_sls (he X hX) (hl X hX) (hs X hX)) fun σ H Q ⟨F0, H0, F, S, q⟩ => ⟨F0, H0, F, S, fun x F1 H1 e1 r1 => ⟨F0, H0, F1, S.go e1, fun c F2 H2 e2 r2 => ⟨F0, H0, F2, S.go (e1.trans e2), fun y F3 H3 e3 r3 =>
    ⟨z, i, w, r1.str, r2.int, r3.int, h.1, h.2, q _ F3 H3 ((e1.trans e2).trans e3) (.str _)⟩⟩⟩⟩
/-- the bound of a join -/
structure JnOk (z : Str) (ys : List Str) : Prop where
  h : (ys.map (·.length)).sum + ys.length * z.length ≤ 16777216
theorem ev_joinL {z : Str} {ys : List Str} (ho : EvB G C k ρ o (.str z)) (he : EvB G C k ρ e (eL eS ys)) (h : JnOk z ys)
    (hs : ∀ env, starEach [e] env = [(false, eval e env)]) (hbase : ∀ env, attributeBase o "join" env (eval o env) = eval o env) (hline : (apos.endLine == pos.line) = true) : Ev G C k ρ (.Call (.Attribute o "join" apos) [e] [] pos) (.str (Txt.join z ys)) := fun X hX =>
  pe_imp (pe_join (ho X hX) (he X hX) (hs _) (hbase _) hline) fun σ H Q ⟨F0, H0, F, S, q⟩ => ⟨F0, H0, F, S, fun x F1 H1 e1 r1 => ⟨⟨z, r1.str⟩, F0, H0, F1, S.go e1, fun y F2 H2 e2 r2 => by
    obtain ⟨p, vs, rfl, h1, h2⟩ := r2.lst (e1.trans e2).sub
    have hv := RpA.strs (ns := ys) h2
    subst hv
    exact ⟨z, p, ys, r1.str, rfl, .inl (by rw [hX.eK]; exact h1), h.h, q _ F2 H2 (e1.trans e2) (.str _)⟩⟩⟩
end
/-- texts that can be laid -/
structure LayS (xs : List Str) : Prop where
  h : ∀ x ∈ xs, PyData.strOk x = true
theorem layS_cl : ∀ {xs : List Str}, (∀ x ∈ xs, PyData.strOk x = true) → PyData.canLayAll0 (xs.map eS) = true
  | [], _ => rfl
  | x :: xs, h => by
    show (PyData.canLay0 (eS x) && PyData.canLayAll0 (xs.map eS)) = true
    rw [layS_cl fun y hy => h y (List.mem_cons_of_mem _ hy), Bool.and_true]
    show PyData.canLay0 (.str x) = true
    simp only [PyData.canLay0]
    exact h x (List.mem_cons_self ..)
theorem layS_dp : ∀ xs : List Str, PyData.depthAll (xs.map eS) ≤ 0
  | [] => Nat.le_refl 0
  | x :: xs => by
    show max ((eS x).depth) (PyData.depthAll (xs.map eS)) ≤ 0
    exact Nat.max_le.mpr ⟨Nat.le_of_eq (by show PyData.depth (.str x) = 0; simp only [PyData.depth]), layS_dp xs⟩
theorem LayS.b {xs : List Str} (h : LayS xs) : Eqb (eL eS xs) := ⟨ndA_map (fun x => by show noDct (.str x) = true; simp only [noDct]) xs, by
  show ((PyData.canLayAll0 (xs.map eS)) && decide ((eL eS xs).depth ≤ 64)) = true
  rw [layS_cl h.h, Bool.true_and]
  refine decide_eq_true ?_
  show PyData.depthAll (xs.map eS) + 1 ≤ 64
  have := layS_dp xs
  omega⟩
theorem eqv_S (xs ys : List Str) : PyData.eqv (eL eS xs) (eL eS ys) = decide (xs = ys) := by
  show PyData.eqvAll (xs.map eS) (ys.map eS) = _
  exact eqvA_map (fun x y => by
    show PyData.eqv (.str x) (.str y) = _
    simp only [PyData.eqv]
    exact Bool.beq_eq_decide_eq _ _) xs ys
section
variable {G : Gb} {C : SC} {k : Nat}
theorem ok_eqLS {xs ys : List Str} (h : LayS xs) (h' : LayS ys) : OpOk G C k (compareOp .Eq) (eL eS xs) (eL eS ys) (.bool (decide (xs = ys))) := eqv_S xs ys ▸ ok_eq h.b h'.b
theorem ok_neLS {xs ys : List Str} (h : LayS xs) (h' : LayS ys) : OpOk G C k (compareOp .NotEq) (eL eS xs) (eL eS ys) (.bool (!decide (xs = ys))) := eqv_S xs ys ▸ ok_ne h.b h'.b
end
/-! ### list(text), sorted texts, range of three -/
def signsS (z : Str) : List Str := z.cps.toList.map fun c => ⟨#[c]⟩
theorem signs_len (z : Str) : (signsS z).length = z.length := by
  unfold signsS
  rw [List.length_map]
  exact Array.length_toList
theorem vals_are : ∀ {us : List Value} {xs : List Str}, AreOf .str us xs → Vals (xs.map V.str) us
  | _, _, .nil => by rw [List.map_nil]; exact Paired.nil
  | _, _, .cons (a := x) h t => by
    obtain ⟨u, rfl⟩ := h
    rw [List.map_cons]
    exact Paired.cons (show RelV (V.str x) (Value.str x u) from ⟨u, rfl⟩) (vals_are t)
theorem vals_signs {z : Str} {acc : Array Value} (h : ItemsOf (SignAt z) acc z.cps.size) : Vals ((signsS z).map V.str) acc.toList :=
  vals_are (areOf_signs (y := z) (by rw [Array.length_toList]; exact h.1) fun j v hv => h.2 j v (by rw [← Array.getElem?_toList]; exact hv))
def rListS : List V → Hp → VK → Prop := fun xs H Q => ∃ z, xs = [V.str z] ∧ z.length ≤ sizeLine ∧ ∀ p, H p = none → Q (.ref p) (upd H p (.lst ((signsS z).map V.str)))
theorem cr_listS {X : Cx} (hc : X.calm = true) : CallR X (.type "list") rListS := by
  intro pins s σ H vs us Q I r h
  obtain ⟨z, rfl, hz, q⟩ := h
  cases r with
  | cons r1 rs =>
    cases rs
    obtain ⟨t, rfl⟩ := r1
    refine call_list_str (I.ok.hd hc) z t (fun h' tk acc c hk hS hacc => ?_) hz
    refine ⟨.ref s.heap.objs.size, upd H s.heap.objs.size (.lst ((signsS z).map V.str)), I.laid hk (Nat.le_refl _) (show ObjOk X.prog X.w _ _ _ (.lst ((signsS z).map V.str)) from ⟨?_, acc.toList, c, vals_signs hacc, ?_⟩), rfl, q _ (I.hok.fresh (Nat.le_refl _))⟩
    · rw [List.length_map, signs_len]; exact hz
    · rw [Array.toArray_toList]; exact hS
def leS (a b : Str) : Bool := !ltCps b.cps.toList a.cps.toList
def sortS (xs : List Str) : List Str := xs.mergeSort leS
theorem sortS_perm (xs : List Str) : (sortS xs).Perm xs := List.mergeSort_perm _ _
theorem perm_uniq {α : Type} {le : α → α → Bool} (anti : ∀ a b, le a b = true → le b a = true → a = b) : ∀ {xs ys : List α}, xs.Perm ys → xs.Pairwise (fun a b => le a b = true) → ys.Pairwise (fun a b => le a b = true) → xs = ys
  | [], ys, h, _, _ => (List.Perm.nil_eq h)
  | x :: xs, [], h, _, _ => by simpa using h.length_eq
  | x :: xs, y :: ys, h, h1, h2 => by
    have e : x = y := by
      by_cases e : x = y
      · exact e
      · rcases List.mem_cons.mp (h.mem_iff.mp (List.mem_cons_self ..)) with m | m
        · exact m
        · rcases List.mem_cons.mp (h.mem_iff.mpr (List.mem_cons_self ..)) with m' | m'
          · exact m'.symm
          · exact anti x y (List.rel_of_pairwise_cons h1 m') (List.rel_of_pairwise_cons h2 m)
    subst e
    rw [perm_uniq anti h.cons_inv (List.pairwise_cons.mp h1).2 (List.pairwise_cons.mp h2).2]
theorem leS_iff {a b : Str} : leS a b = true ↔ a.cps.toList ≤ b.cps.toList := by
  unfold leS
  rw [ltCps_eq]
  simp
theorem leS_total (a b : Str) : leS a b = true ∨ leS b a = true := by
  rw [leS_iff, leS_iff]
  exact List.le_total _ _
theorem leS_trans {a b c : Str} (h1 : leS a b = true) (h2 : leS b c = true) : leS a c = true := leS_iff.mpr (List.le_trans (leS_iff.mp h1) (leS_iff.mp h2))
theorem leS_anti (a b : Str) (h1 : leS a b = true) (h2 : leS b a = true) : a = b := Str.ext' (Array.toList_inj.mp (List.le_antisymm (leS_iff.mp h1) (leS_iff.mp h2)))
theorem rising_pw : ∀ (p : Str) (l : List Str), risingS p l = true → (p :: l).Pairwise fun a b => leS a b = true
  | p, [], _ => List.pairwise_singleton ..
  | p, x :: r, h => by
    have h' : leS p x = true ∧ risingS x r = true := by simpa [risingS, leS] using h
    have ih := rising_pw x r h'.2
    refine List.pairwise_cons.mpr ⟨fun b hb => ?_, ih⟩
    rcases List.mem_cons.mp hb with rfl | hb
    · exact h'.1
    · exact leS_trans h'.1 (List.rel_of_pairwise_cons ih hb)
theorem sorted_pw : ∀ {l : List Str}, sortedS l = true → l.Pairwise fun a b => leS a b = true
  | [], _ => List.Pairwise.nil
  | x :: r, h => rising_pw x r h
theorem sortS_pw (xs : List Str) : (sortS xs).Pairwise fun a b => leS a b = true :=
  List.pairwise_mergeSort (le := leS) (fun a b c h1 h2 => leS_trans h1 h2) (fun a b => by rcases leS_total a b with h | h <;> simp [h]) xs
theorem sortS_of {xs ys : List Str} (h : ys.Perm xs) (hs : sortedS ys = true) : ys = sortS xs := perm_uniq leS_anti (h.trans (sortS_perm xs).symm) (sorted_pw hs) (sortS_pw xs)
theorem sortS_congr {xs ys : List Str} (h : xs.Perm ys) : sortS xs = sortS ys := perm_uniq leS_anti (((sortS_perm xs).trans h).trans (sortS_perm ys).symm) (sortS_pw xs) (sortS_pw ys)
section
variable {G : Gb} {C : SC} {k : Nat} {ρ : PEnv}
theorem new_listS {z : Str} (hz : z.length ≤ sizeLine) : CallNew G C k (.type "list") [.str z] (eL eS (signsS z)) := fun X hX => by
  refine call_imp (cr_listS hX.calm) fun xs H Q ⟨F, sF, r, q⟩ => ?_
  obtain ⟨x, rfl, rx⟩ := ba1 r
  exact ⟨z, by rw [rx.str], hz, fun l hl => q l _ F _ (Ext.put sF hl) hl upd_same (sF.free hl) (.lst (RpA.ofStrs _))⟩
theorem new_sortS {xs : List Str} (h : xs.length < 64) : CallNew G C k (.builtin "sorted") [eL eS xs] (eL eS (sortS xs)) := fun X hX => by
  refine call_imp cr_sortedS fun vs H Q ⟨F, sF, r, q⟩ => ?_
  rw [hX.eK]
  obtain ⟨x, rfl, rx⟩ := ba1 r
  obtain ⟨p, ys, rfl, h1, h2⟩ := rx.lst sF
  have hv := RpA.strs (ns := xs) h2
  subst hv
  refine ⟨p, xs, rfl, h1, h, fun ys l hp hs hl => ?_⟩
  rw [sortS_of hp hs]
  exact q l _ F _ (Ext.put sF hl) hl upd_same (sF.free hl) (.lst (RpA.ofStrs _))
end
end Pl
namespace K02
open PySem PySem.Spec PyProof.Rows L2 Pl
noncomputable section
/-! ### mirrors -/
def gridded_m (text1 : Str) (order1 : (List Int)) : Option Str :=
  (Option.bind (mapO (fun z1 : Int => (need (((order1).length : Int) ≠ 0) <| need (SzOk (text1).length) <| some (stepS text1 z1 ((order1).length : Int)))) order1) fun ys1 => need (JnOk ("" : Str) ys1) <| some (Txt.join ("" : Str) ys1))
def ungridded_l1 (text1 : Str) (s2 : ((List Str) × Int)) (x2 : Int) : Option ((List Str) × Int) :=
  (need (SzOk (text1).length) <| Option.bind (idx (text1).cps.toList s2.2) fun x3 => Option.bind (setAt s2.1 x2 (⟨#[x3]⟩ : Str)) fun found2 => (set' ((s2.2 + 1) : Int) fun at_p2 => some (found2, at_p2)))
def ungridded_l2 (text1 : Str) (width1 : Int) (s1 : ((List Str) × Int)) (x1 : Int) : Option ((List Str) × Int) :=
  (need (SzOk text1.length) <| need (RgC3 x1 (text1.length : Int) width1) <| (forS (ungridded_l1 text1) (rangeC x1 (text1.length : Int) width1) (s1.1, s1.2)).bind fun s3 => some (s3.1, s3.2))
def ungridded_m (text1 : Str) (order1 : (List Int)) : Option Str :=
  (need (SzOk text1.length) <| need (RepOk (([("" : Str)] : (List Str))).length (text1.length : Int)) <| set' (((order1).length : Int) : Int) fun width1 => set' ((repL ([("" : Str)] : (List Str)) (text1.length : Int)) : (List Str)) fun found1 => set' (0 : Int) fun at_p1 => (forS (ungridded_l2 text1 width1) order1 (found1, at_p1)).bind fun s4 => (need (JnOk ("" : Str) s4.1) <| some (Txt.join ("" : Str) s4.1)))
def law_back_m (numbers1 : (List Int)) : Option Str :=
  (Option.bind (mapO (fun z1 : Int => (need (SzOk (("abcdefghijklmnopqrstuvwxyz" : Str)).length) <| Option.bind (idx (("abcdefghijklmnopqrstuvwxyz" : Str)).cps.toList (z1 % 26)) fun x1 => some (⟨#[x1]⟩ : Str))) numbers1) fun ys1 => need (JnOk ("" : Str) ys1) <| some (Txt.join ("" : Str) ys1))
def law_text_m (row1 : (List Int)) (at_p1 : Int) (count1 : Int) : Option Str :=
  (need (RgO 0 count1) <| Option.bind (mapO (fun z1 : Int => (Option.bind (idx row1 (at_p1 + z1)) fun x1 => some x1)) (rangeD 0 count1)) fun ys1 => Option.bind (law_back_m ys1) fun law_ba1 => some law_ba1)
def law_grid_l1 (text1 : Str) (order1 : (List Int)) (x1 : Int) (s2 : (Str)) (x2 : Int) : Option (Str) :=
  (need (0 < ((order1).length : Int)) <| Option.bind (if (decide ((x2 % ((order1).length : Int)) = x1)) = true then (need (SzOk (text1).length) <| Option.bind (idx (text1).cps.toList x2) fun x4 => need (SzOk (s2.length + (⟨#[x4]⟩ : Str).length)) <| set' ((s2 ++ (⟨#[x4]⟩ : Str)) : Str) fun found2 => some found2) else some s2 : Option (Str)) fun j1 => some j1)
def law_grid_l2 (text1 : Str) (order1 : (List Int)) (s1 : (Str)) (x1 : Int) : Option (Str) :=
  (need (SzOk text1.length) <| need (RgO 0 (text1.length : Int)) <| (forS (law_grid_l1 text1 order1 x1) (rangeD 0 (text1.length : Int)) s1).bind fun s3 => some s3)
def law_grid_m (text1 : Str) (order1 : (List Int)) : Option Str :=
  (set' (("" : Str) : Str) fun found1 => (forS (law_grid_l2 text1 order1) order1 found1).bind fun s4 => some s4)
def law_m (script1 : (List Int)) : Option Bool :=
  (Option.bind (law_row_m script1 66) fun law_ro1 => set' (law_ro1 : (List Int)) fun row1 => (Option.bind (idx row1 40) fun x1 => Option.bind (law_text_m row1 0 (1 + (x1 % 40))) fun law_te1 => set' (law_te1 : Str) fun text1 => (Option.bind (idx row1 59) fun x2 => Option.bind (law_order_m row1 41 (1 + (x2 % 9))) fun law_or1 => Option.bind (idx row1 60) fun x3 => Option.bind (law_order_m row1 50 (1 + (x3 % 9))) fun law_or2 => set' (law_or1 : (List Int)) fun one1 => set' (law_or2 : (List Int)) fun two1 => (Option.bind (gridded_m text1 one1) fun gridde1 => set' (gridde1 : Str) fun hidden1 => (Option.bind ((if (!true) = true then some true else (Option.bind (law_grid_m text1 one1) fun law_gr1 => Option.bind ((if (decide (hidden1 ≠ law_gr1)) = true then some true else (Option.bind (ungridded_m hidden1 one1) fun ungrid1 => some (decide (ungrid1 ≠ text1))))) fun b1 => some b1))) fun b2 => if b2 = true then some false else (Option.bind (ungridded_m text1 two1) fun ungrid2 => Option.bind (gridded_m ungrid2 two1) fun gridde2 => Option.bind ((if (decide (gridde2 ≠ text1)) = true then some true else (need (SzOk (hidden1).length) <| need (((signsS hidden1)).length < 64) <| need (SzOk (text1).length) <| need (((signsS text1)).length < 64) <| need (LayS (sortS (signsS hidden1))) <| need (LayS (sortS (signsS text1))) <| some (!decide ((sortS (signsS hidden1)) = (sortS (signsS text1))))))) fun b3 => if b3 = true then some false else (Option.bind (gridded_m hidden1 two1) fun gridde3 => set' (gridde3 : Str) fun both1 => (Option.bind (law_grid_m hidden1 two1) fun law_gr2 => Option.bind ((if (decide (both1 ≠ law_gr2)) = true then some true else (Option.bind (ungridded_m both1 two1) fun ungrid3 => Option.bind (ungridded_m ungrid3 one1) fun ungrid4 => some (decide (ungrid4 ≠ text1))))) fun b4 => if b4 = true then some false else (Option.bind (idx row1 61) fun x4 => Option.bind (idx row1 62) fun x5 => set' ((2 + (x4 % 4)) : Int) fun high1 => set' ((2 + (x5 % 4)) : Int) fun wide1 => (need (Pl.MulOk high1 wide1) <| Option.bind (law_text_m row1 0 (high1 * wide1)) fun law_te2 => set' (law_te2 : Str) fun full1 => (need (RgO 0 wide1) <| Option.bind (gridded_m full1 (rangeD 0 wide1)) fun gridde4 => set' (gridde4 : Str) fun turned1 => (need (Pl.MulOk high1 wide1) <| need (RgO 0 (high1 * wide1)) <| Option.bind (mapO (fun z1 : Int => (need (DivOk z1 high1) <| need (0 < high1) <| need (Pl.MulOk wide1 (z1 % high1)) <| need (SzOk (full1).length) <| Option.bind (idx (full1).cps.toList ((z1 / high1) + (wide1 * (z1 % high1)))) fun x6 => some (⟨#[x6]⟩ : Str))) (rangeD 0 (high1 * wide1))) fun ys1 => need (JnOk ("" : Str) ys1) <| if (decide (turned1 ≠ (Txt.join ("" : Str) ys1))) = true then some false else (need (RgO 0 high1) <| Option.bind (gridded_m turned1 (rangeD 0 high1)) fun gridde5 => Option.bind ((if (decide (gridde5 = full1)) = true then (need (RgO 0 wide1) <| Option.bind (ungridded_m turned1 (rangeD 0 wide1)) fun ungrid5 => some (decide (ungrid5 = full1))) else some false)) fun b5 => some b5)))))))))))))
end
/-! ### places -/
/-- the places below n in column c -/
def pos (n w c : Nat) : List Nat := (List.range n).filter fun k => k % w = c
theorem pos_mem {n w c k : Nat} : k ∈ pos n w c ↔ k < n ∧ k % w = c := by simp [pos]
theorem pos_pw (n w c : Nat) : (pos n w c).Pairwise (· < ·) := List.Pairwise.filter _ List.pairwise_lt_range
theorem nat_asc {xs ys : List Nat} (h1 : xs.Pairwise (· < ·)) (h2 : ys.Pairwise (· < ·)) (h : ∀ x, x ∈ xs ↔ x ∈ ys) : xs = ys := by
  have n1 : xs.Nodup := h1.imp fun {a b} hab => by omega
  have n2 : ys.Nodup := h2.imp fun {a b} hab => by omega
  have p : xs.Perm ys := (List.perm_ext_iff_of_nodup n1 n2).mpr h
  exact perm_uniq (le := fun a b => decide (a ≤ b)) (fun a b h1 h2 => Nat.le_antisymm (of_decide_eq_true h1) (of_decide_eq_true h2)) p (h1.imp fun {a b} hab => decide_eq_true (Nat.le_of_lt hab)) (h2.imp fun {a b} hab => decide_eq_true (Nat.le_of_lt hab))
/-- c, c + w, .. below n -/
def prog (n w c : Nat) : List Nat := (List.range (if c < n then (n - c - 1) / w + 1 else 0)).map fun k => c + k * w
theorem prog_pos {n w c : Nat} (hw : 0 < w) (hc : c < w) : prog n w c = pos n w c := by
  refine nat_asc ?_ (pos_pw n w c) fun x => ?_
  · unfold prog
    rw [List.pairwise_map]
    exact List.pairwise_lt_range.imp fun {a b} hab => Nat.add_lt_add_left (Nat.mul_lt_mul_of_pos_right hab hw) c
  · rw [pos_mem]
    unfold prog
    rw [List.mem_map]
    constructor
    · rintro ⟨k, hk, rfl⟩
      have hk' := List.mem_range.mp hk
      by_cases h : c < n
      · rw [if_pos h] at hk'
        refine ⟨?_, by rw [Nat.add_mul_mod_self_right]; exact Nat.mod_eq_of_lt hc⟩
        have h1 : k ≤ (n - c - 1) / w := by omega
        have h2 : k * w ≤ n - c - 1 := Nat.le_trans (Nat.mul_le_mul_right w h1) (Nat.div_mul_le_self _ _)
        omega
      · rw [if_neg h] at hk'; omega
    · rintro ⟨h1, h2⟩
      have hx := Nat.div_add_mod x w
      rw [h2] at hx
      have hcx : c ≤ x := by rw [← h2]; exact Nat.mod_le x w
      refine ⟨x / w, List.mem_range.mpr ?_, by rw [Nat.mul_comm]; omega⟩
      rw [if_pos (by omega)]
      refine Nat.lt_succ_of_le ((Nat.le_div_iff_mul_le hw).mpr ?_)
      rw [Nat.mul_comm]
      omega
theorem rangeC_pos {n w c : Nat} (hw : 0 < w) (hc : c < w) : rangeC (c : Int) (n : Int) (w : Int) = (pos n w c).map (fun k : Nat => (k : Int)) := by
  rw [← prog_pos hw hc]
  unfold rangeC prog
  rw [List.map_map]
  have e : (Builtin.Range.rangeSize (c : Int) (n : Int) (w : Int)).toNat = if c < n then (n - c - 1) / w + 1 else 0 := by
    unfold Builtin.Range.rangeSize
    rw [if_pos (show (w : Int) > 0 by omega)]
    by_cases h : c < n
    · rw [if_pos (show (c : Int) < n by omega), if_pos h]
      have e1 : (n : Int) - c - 1 = ((n - c - 1 : Nat) : Int) := by omega
      rw [e1, ← Int.natCast_ediv]
      generalize (n - c - 1) / w = q
      omega
    · rw [if_neg (show ¬ (c : Int) < n by omega), if_neg h]
      rfl
  rw [e]
  refine List.map_congr_left fun k _ => ?_
  simp
theorem slice_pos {n w c : Nat} (hw : 0 < w) (hc : c < w) : Builtin.Str.strSliceIndices (some (c : Int)) none (w : Int) n = pos n w c := by
  rw [← prog_pos hw hc]
  unfold Builtin.Str.strSliceIndices sliceRange prog
  have h0 : ((w : Int) > 0) := by omega
  have h1 : ¬ ((c : Int) < 0) := by omega
  simp only [if_pos h0, if_neg h1]
  by_cases h : c < n
  · have e : max (0 : Int) (min (c : Int) (n : Int)) = (c : Int) := by omega
    rw [e, if_pos (show (c : Int) < n by omega), if_pos h]
    have e1 : (((n : Int) - c + w - 1) / w).toNat = (n - c - 1) / w + 1 := by
      have e2 : (n : Int) - c + w - 1 = ((n - c - 1 : Nat) : Int) + w * 1 := by omega
      rw [e2, Int.add_mul_ediv_left _ _ (by omega), ← Int.natCast_ediv]
      generalize (n - c - 1) / w = q
      omega
    rw [e1]
    refine List.map_congr_left fun k _ => ?_
    rw [Int.mul_comm]
    omega
  · have e : max (0 : Int) (min (c : Int) (n : Int)) = (n : Int) := by omega
    rw [e, if_neg (show ¬ (n : Int) < n by omega), if_neg h]
    rfl
/-- the text's signs at the places -/
def atP (z : Str) (ps : List Nat) : Str := ⟨(ps.map fun k => z.cps.toList.getD k 0).toArray⟩
theorem str_ext {x y : Str} (h : x.cps.toList = y.cps.toList) : x = y := Str.ext' (Array.toList_inj.mp h)
theorem atP_all (z : Str) : atP z (List.range z.length) = z := by
  refine str_ext ?_
  show ((List.range z.length).map fun k => z.cps.toList.getD k 0) = z.cps.toList
  refine List.ext_getElem (by simp [Str.length]) fun i h1 h2 => ?_
  have h2' : i < z.cps.size := by simpa using h2
  simp [List.getD_eq_getElem?_getD, h2']
theorem fm_at (z : Str) : ∀ ps : List Nat, (∀ k ∈ ps, k < z.length) → ps.filterMap (z.cps[·]?) = ps.map fun k => z.cps.toList.getD k 0
  | [], _ => rfl
  | k :: ps, h => by
    have hk : k < z.cps.size := h k (List.mem_cons_self ..)
    rw [List.filterMap_cons, List.map_cons, fm_at z ps fun j hj => h j (List.mem_cons_of_mem _ hj)]
    simp [hk, List.getD_eq_getElem?_getD]
theorem stepS_pos {z : Str} {w c : Nat} (hw : 0 < w) (hc : c < w) : stepS z (c : Int) (w : Int) = atP z (pos z.length w c) := by
  unfold stepS
  rw [slice_pos hw hc]
  split
  · rename_i h
    have h' := Bool.and_eq_true_iff.mp h
    have hw1 : w = 1 := by
      have := eq_of_beq h'.1
      omega
    have hc0 : c = 0 := by omega
    subst hw1 hc0
    have e : pos z.length 1 0 = List.range z.length := by
      unfold pos
      exact List.filter_eq_self.mpr fun k _ => by simp [Nat.mod_one]
    rw [e, atP_all]
  · refine str_ext ?_
    show (pos z.length w c).filterMap (z.cps[·]?) = _
    exact fm_at z _ fun k hk => (pos_mem.mp hk).1
/-- all places, column for column -/
def Plc (n w : Nat) (order : List Nat) : List Nat := order.flatMap (pos n w)
theorem joinL_nil : ∀ ps : List (List Nat), TL.joinL [] ps = ps.flatten
  | [] => rfl
  | [p] => by simp [TL.joinL]
  | p :: q :: r => by
    rw [TL.joinL, joinL_nil (q :: r), List.nil_append]
    rfl
theorem join_nil (ys : List Str) : (Txt.join ("" : Str) ys).cps.toList = ys.flatMap fun y => y.cps.toList := by
  rw [TL.join_eq]
  refine (TL.tl_join ("" : Str) ys).trans ?_
  show TL.joinL [] _ = _
  rw [joinL_nil, List.flatMap_def]
theorem pos_len (n w c : Nat) : (pos n w c).length ≤ n := by
  unfold pos
  exact Nat.le_trans (List.length_filter_le _ _) (by simp)
theorem atP_len (z : Str) (ps : List Nat) : (atP z ps).length = ps.length := by simp [atP, Str.length]
theorem sum_len : ∀ {ys : List Str} {b : Nat}, (∀ y ∈ ys, y.length ≤ b) → (ys.map (·.length)).sum ≤ ys.length * b
  | [], _, _ => by simp
  | y :: ys, b, h => by
    have h1 := h y (List.mem_cons_self ..)
    have h2 := sum_len fun x hx => h x (List.mem_cons_of_mem _ hx)
    simp only [List.map_cons, List.sum_cons, List.length_cons]
    rw [Nat.add_mul]
    omega
theorem jn_ok {ys : List Str} {b : Nat} (h : ∀ y ∈ ys, y.length ≤ b) (hb : ys.length * b ≤ 16777216) : JnOk ("" : Str) ys := ⟨by
  have h1 := sum_len h
  have e : ("" : Str).length = 0 := rfl
  rw [e]
  omega⟩
theorem join_atP (z : Str) (f : Nat → List Nat) (o : List Nat) : Txt.join ("" : Str) (o.map fun c => atP z (f c)) = atP z (o.flatMap f) := by
  refine str_ext ?_
  rw [join_nil]
  show _ = (o.flatMap f).map _
  rw [List.map_flatMap, List.flatMap_map]
  rfl
theorem gridded_ok {z : Str} {o : List Nat} (hz : z.length ≤ 1000) (ho : o ≠ []) (ho9 : o.length ≤ 100) (hc : ∀ c ∈ o, c < o.length) : gridded_m z (o.map fun k : Nat => (k : Int)) = some (atP z (Plc z.length o.length o)) := by
  have hl : 0 < o.length := List.length_pos_iff.mpr ho
  have e0 : (((o.map fun k : Nat => (k : Int)).length : Nat) : Int) = (o.length : Int) := by rw [List.length_map]
  unfold gridded_m
  rw [mapO_eq (fun c : Int => stepS z c (o.length : Int)) _ fun c _ => by
    rw [e0, need_of (show (o.length : Int) ≠ 0 by omega), need_of (show SzOk z.length from by unfold SzOk; omega)]]
  have e : ((o.map fun k : Nat => (k : Int)).map fun c : Int => stepS z c (o.length : Int)) = o.map fun c => atP z (pos z.length o.length c) := by
    rw [List.map_map]
    exact List.map_congr_left fun c hcm => stepS_pos hl (hc c hcm)
  rw [e, Option.bind_some, need_of (jn_ok (b := z.length) (fun y hy => by
    obtain ⟨c, _, rfl⟩ := List.mem_map.mp hy
    rw [atP_len]
    exact pos_len ..) (by
      rw [List.length_map]
      have := Nat.mul_le_mul ho9 hz
      omega)), join_atP]
  rfl
theorem cat_l (x y : Str) : (x ++ y).cps.toList = x.cps.toList ++ y.cps.toList := TL.tl_append x y
theorem cat_len (x y : Str) : (x ++ y).length = x.length + y.length := by
  have := congrArg List.length (cat_l x y)
  simpa [Str.length] using this
theorem atP_app (z : Str) (ps qs : List Nat) : atP z (ps ++ qs) = atP z ps ++ atP z qs := by
  refine str_ext ?_
  rw [cat_l]
  simp [atP]
theorem cat_nil (s : Str) : s ++ (⟨#[]⟩ : Str) = s := by
  refine str_ext ?_
  rw [cat_l]
  simp
theorem cat_assoc (x y z : Str) : x ++ y ++ z = x ++ (y ++ z) := by
  refine str_ext ?_
  rw [cat_l, cat_l, cat_l, cat_l, List.append_assoc]
/-- the law's grid: column for column, sign for sign -/
theorem grid_in {z : Str} {O : List Int} {w c : Nat} {s : Str} (hw : O.length = w) (h0 : 0 < w) (hs : s.length ≤ 200000) (hz : z.length ≤ 1000) :
    forS (law_grid_l1 z O (c : Int)) (rangeD 0 (z.length : Int)) s = some (s ++ atP z (pos z.length w c)) := by
  obtain ⟨t, e, ht⟩ := forS_ex (step := law_grid_l1 z O (c : Int)) (fun k t => k ≤ z.length → t = s ++ atP z ((List.range k).filter fun k => k % w = c)) (xs := rangeD 0 (z.length : Int)) (s0 := s) (fun _ => (cat_nil s).symm) fun i t x hx hi => by
    obtain ⟨rfl, _, hx2⟩ := rangeD_get? hx
    have hin : i < z.length := by omega
    have ht := hi (by omega)
    have hf : ((List.range i).filter fun k => k % w = c).length ≤ i := Nat.le_trans (List.length_filter_le _ _) (by simp)
    have htl : t.length ≤ 201000 := by
      rw [ht, cat_len, atP_len]
      omega
    unfold law_grid_l1
    rw [hw, need_of (show (0 : Int) < (w : Int) by omega)]
    have em : ((0 : Int) + (i : Int)) % (w : Int) = ((i % w : Nat) : Int) := by rw [Int.zero_add]; exact (Int.natCast_emod i w).symm
    rw [em, Int.zero_add]
    by_cases h : i % w = c
    · rw [if_pos (show decide (((i % w : Nat) : Int) = (c : Int)) = true from decide_eq_true (by omega)), need_of (show SzOk z.length by unfold SzOk; omega), idx_nat']
      have hg : z.cps.toList[i]? = some (z.cps.toList.getD i 0) := by
        have h2' : i < z.cps.size := hin
        simp [List.getD_eq_getElem?_getD, h2']
      rw [hg, Option.bind_some, need_of (show SzOk (t.length + Str.length ⟨#[z.cps.toList.getD i 0]⟩) by
        have : Str.length ⟨#[z.cps.toList.getD i 0]⟩ = 1 := rfl
        rw [this]
        unfold SzOk; omega)]
      refine ⟨t ++ (⟨#[z.cps.toList.getD i 0]⟩ : Str), by simp only [set', Option.bind_some], fun _ => ?_⟩
      rw [ht, List.range_succ, List.filter_append, List.filter_cons, if_pos (by simpa using h), atP_app, cat_assoc]
      rfl
    · rw [if_neg (show ¬ decide (((i % w : Nat) : Int) = (c : Int)) = true by simp; omega)]
      refine ⟨t, rfl, fun _ => ?_⟩
      rw [ht, List.range_succ, List.filter_append, List.filter_cons, if_neg (by simpa using h)]
      simp
  rw [e, ht (by rw [rangeD_length]; omega), rangeD_length]
  rfl
theorem Plc_len (n w : Nat) : ∀ o : List Nat, (Plc n w o).length ≤ o.length * n
  | [] => by simp [Plc]
  | c :: o => by
    have h1 := Plc_len n w o
    have h2 := pos_len n w c
    have e : (Plc n w (c :: o)).length = (pos n w c).length + (Plc n w o).length := by simp [Plc]
    rw [e, List.length_cons, Nat.add_mul]
    omega
theorem Plc_snoc {n w : Nat} {o : List Nat} {i c : Nat} (h : o[i]? = some c) : Plc n w (o.take (i + 1)) = Plc n w (o.take i) ++ pos n w c := by
  rw [List.take_add_one, h]
  simp [Plc]
theorem grid_ok {z : Str} {o : List Nat} (hz : z.length ≤ 1000) (ho : o ≠ []) (ho9 : o.length ≤ 100) : law_grid_m z (o.map fun k : Nat => (k : Int)) = some (atP z (Plc z.length o.length o)) := by
  have hl : 0 < o.length := List.length_pos_iff.mpr ho
  unfold law_grid_m
  obtain ⟨t, e, ht⟩ := forS_ex (step := law_grid_l2 z (o.map fun k : Nat => (k : Int))) (fun i t => t = atP z (Plc z.length o.length (o.take i))) (xs := o.map fun k : Nat => (k : Int)) (s0 := ("" : Str)) rfl fun i t x hx hi => by
    rw [List.getElem?_map] at hx
    obtain ⟨c, hc, rfl⟩ := Option.map_eq_some_iff.mp hx
    have hlen : t.length ≤ 200000 := by
      rw [hi, atP_len]
      have h1 := Plc_len z.length o.length (o.take i)
      have h2 : (o.take i).length ≤ 100 := by rw [List.length_take]; omega
      have h3 := Nat.mul_le_mul h2 hz
      omega
    unfold law_grid_l2
    rw [need_of (show SzOk z.length by unfold SzOk; omega), need_of (show RgO 0 (z.length : Int) by unfold RgO; omega), grid_in (w := o.length) (by rw [List.length_map]) hl hlen hz]
    refine ⟨_, rfl, ?_⟩
    rw [hi, Plc_snoc hc, atP_app]
  simp only [set']
  rw [e, ht, List.length_map, List.take_length]
  rfl
/-- the places are each met once -/
theorem Plc_mem {n w : Nat} {o : List Nat} (hw : ∀ c, c < w → c ∈ o) (h0 : 0 < w) {k : Nat} : k < n → k ∈ Plc n w o := fun h =>
  List.mem_flatMap.mpr ⟨k % w, hw _ (Nat.mod_lt k h0), pos_mem.mpr ⟨h, rfl⟩⟩
theorem Plc_lt {n w : Nat} {o : List Nat} {k : Nat} (h : k ∈ Plc n w o) : k < n := by
  obtain ⟨c, _, hc⟩ := List.mem_flatMap.mp h
  exact (pos_mem.mp hc).1
theorem Plc_nodup {n w : Nat} : ∀ {o : List Nat}, o.Nodup → (Plc n w o).Nodup
  | [], _ => by simp [Plc]
  | c :: o, h => by
    have h' := List.nodup_cons.mp h
    show (pos n w c ++ Plc n w o).Nodup
    refine List.nodup_append.mpr ⟨(pos_pw n w c).imp fun {a b} hab => by omega, Plc_nodup h'.2, fun a ha b hb => ?_⟩
    rintro rfl
    obtain ⟨d, hd, hm⟩ := List.mem_flatMap.mp hb
    have e1 := (pos_mem.mp ha).2
    have e2 := (pos_mem.mp hm).2
    exact h'.1 (by rw [← e1, e2]; exact hd)
theorem Plc_perm {n w : Nat} {o : List Nat} (hn : o.Nodup) (hw : ∀ c, c < w → c ∈ o) (h0 : 0 < w) : (Plc n w o).Perm (List.range n) :=
  (List.perm_ext_iff_of_nodup (Plc_nodup hn) List.nodup_range).mpr fun k => ⟨fun h => List.mem_range.mpr (Plc_lt h), fun h => Plc_mem hw h0 (List.mem_range.mp h)⟩
theorem forS_app' {S α : Type} {step : S → α → Option S} : ∀ (xs ys : List α) (s : S), forS step (xs ++ ys) s = (forS step xs s).bind fun t => forS step ys t
  | [], ys, s => rfl
  | x :: xs, ys, s => by
    show (step s x).bind (fun t => forS step (xs ++ ys) t) = ((step s x).bind fun t => forS step xs t).bind fun t => forS step ys t
    cases step s x with
    | none => rfl
    | some t => exact forS_app' xs ys t
theorem un_flat {t : Str} {w : Nat} (hn : t.length ≤ 1000) (h0 : 0 < w) (hw : w ≤ 100) : ∀ (o : List Nat), (∀ c ∈ o, c < w) → ∀ s, forS (ungridded_l2 t (w : Int)) (o.map fun k : Nat => (k : Int)) s = forS (ungridded_l1 t) ((Plc t.length w o).map fun k : Nat => (k : Int)) s
  | [], _, s => rfl
  | c :: o, h, s => by
    have hc := h c (List.mem_cons_self ..)
    have e : Plc t.length w (c :: o) = pos t.length w c ++ Plc t.length w o := rfl
    rw [e, List.map_append, forS_app']
    have hr : RgC3 (c : Int) (t.length : Int) (w : Int) := by
      have h1 := rangeSize_toNat_le (c : Int) (t.length : Int) (w : Int)
      have h2 := rangeSize_toNat (c : Int) (t.length : Int) (w : Int)
      unfold RgC3 Builtin.Range.small
      generalize Builtin.Range.rangeSize (c : Int) (t.length : Int) (w : Int) = q at h1 h2 ⊢
      have hwp : ((w : Int) > 0) := by omega
      simp only [Builtin.Range.rangeFitsLong, Bool.and_eq_true, Bool.or_eq_true, decide_eq_true_eq, beq_iff_eq, if_pos hwp]
      omega
    have e2 : ungridded_l2 t (w : Int) s (c : Int) = forS (ungridded_l1 t) ((pos t.length w c).map fun k : Nat => (k : Int)) s := by
      unfold ungridded_l2
      rw [need_of (show SzOk t.length by unfold SzOk; omega), need_of hr, rangeC_pos h0 hc]
      cases forS (ungridded_l1 t) ((pos t.length w c).map fun k : Nat => (k : Int)) (s.1, s.2) <;> rfl
    show (ungridded_l2 t (w : Int) s (c : Int)).bind (fun r => forS (ungridded_l2 t (w : Int)) (o.map fun k : Nat => (k : Int)) r) = _
    rw [e2]
    congr 1
    funext r
    exact un_flat hn h0 hw o (fun d hd => h d (List.mem_cons_of_mem _ hd)) r
theorem ungridded_ok {t : Str} {o : List Nat} (hz : t.length ≤ 1000) (ho : o.Perm (List.range o.length)) (hne : o ≠ []) (ho9 : o.length ≤ 100) :
    ∃ u, ungridded_m t (o.map fun k : Nat => (k : Int)) = some u ∧ u.length = t.length ∧ atP u (Plc t.length o.length o) = t := by
  have hl : 0 < o.length := List.length_pos_iff.mpr hne
  have hlt : ∀ c ∈ o, c < o.length := fun c hc => List.mem_range.mp (ho.mem_iff.mp hc)
  have hnd : o.Nodup := ho.nodup_iff.mpr List.nodup_range
  have hall : ∀ c, c < o.length → c ∈ o := fun c hc => ho.mem_iff.mpr (List.mem_range.mpr hc)
  have hp := Plc_perm (n := t.length) hnd hall hl
  have hpn := Plc_nodup (n := t.length) (w := o.length) hnd
  have hpl : (Plc t.length o.length o).length = t.length := by rw [hp.length_eq, List.length_range]
  generalize hP : Plc t.length o.length o = P at hp hpn hpl ⊢
  obtain ⟨s, e, h1, h2, h3⟩ := forS_ex (step := ungridded_l1 t) (fun i (s : List Str × Int) => s.1.length = t.length ∧ s.2 = (i : Int) ∧ ∀ j k, j < i → P[j]? = some k → s.1[k]? = some ⟨#[t.cps.toList.getD j 0]⟩)
    (xs := P.map fun k : Nat => (k : Int)) (s0 := (repL [("" : Str)] (t.length : Int), 0)) ⟨by simp [repL], rfl, fun j k hj => by omega⟩ fun i s x hx hi => by
    obtain ⟨a1, a2, a3⟩ := hi
    rw [List.getElem?_map] at hx
    obtain ⟨k, hk, rfl⟩ := Option.map_eq_some_iff.mp hx
    have hi' : i < t.length := by rw [← hpl]; exact (List.getElem?_eq_some_iff.mp hk).1
    have hkn : k < t.length := List.mem_range.mp (hp.mem_iff.mp (List.mem_of_getElem? hk))
    have hg : t.cps.toList[i]? = some (t.cps.toList.getD i 0) := by
      have h2' : i < t.cps.size := hi'
      simp [List.getD_eq_getElem?_getD, h2']
    unfold ungridded_l1
    rw [need_of (show SzOk t.length by unfold SzOk; omega), a2, idx_nat', hg, Option.bind_some, setAt_in (by omega) (by omega), Option.bind_some]
    refine ⟨(s.1.set k ⟨#[t.cps.toList.getD i 0]⟩, (i : Int) + 1), by simp only [set', Int.toNat_natCast], by simpa using a1, by omega, fun j m hj hm => ?_⟩
    by_cases hji : j = i
    · subst hji
      rw [hk] at hm
      cases hm
      exact List.getElem?_set_self (by omega)
    · have hne : k ≠ m := fun hkm => by
        subst hkm
        obtain ⟨q1, q2⟩ := List.getElem?_eq_some_iff.mp hk
        obtain ⟨q3, q4⟩ := List.getElem?_eq_some_iff.mp hm
        exact hji ((List.getElem?_inj q3 hpn).mp (hm.trans hk.symm))
      rw [List.getElem?_set_ne hne]
      exact a3 j m (by omega) hm
  rw [List.length_map, hpl] at h2 h3
  have hmem : ∀ k, k < t.length → k ∈ P := fun k hk => hp.mem_iff.mpr (List.mem_range.mpr hk)
  have hix : ∀ k, k < t.length → P[P.idxOf k]? = some k ∧ P.idxOf k < t.length := fun k hk => by
    have q := List.idxOf_lt_length_of_mem (hmem k hk)
    exact ⟨by rw [List.getElem?_eq_getElem q, List.getElem_idxOf], by rw [← hpl]; exact q⟩
  have es : s.1 = ((List.range t.length).map fun k => t.cps.toList.getD (P.idxOf k) 0).map fun c => (⟨#[c]⟩ : Str) := by
    refine List.ext_getElem? fun k => ?_
    by_cases hk : k < t.length
    · rw [h3 _ k (hix k hk).2 (hix k hk).1]
      simp [hk]
    · rw [List.getElem?_eq_none (by omega), List.getElem?_eq_none (by simp; omega)]
  have hu : (Txt.join ("" : Str) s.1).cps.toList = (List.range t.length).map fun k => t.cps.toList.getD (P.idxOf k) 0 := by
    rw [join_nil, es, List.flatMap_map]
    show (List.flatMap (fun a => [a]) _) = _
    exact List.flatMap_singleton' _
  refine ⟨Txt.join ("" : Str) s.1, ?_, ?_, ?_⟩
  · unfold ungridded_m
    rw [need_of (show SzOk t.length by unfold SzOk; omega), need_of (show RepOk ([("" : Str)] : List Str).length (t.length : Int) by
      unfold RepOk
      simp only [List.length_singleton]
      omega), List.length_map]
    simp only [set']
    rw [un_flat hz hl ho9 o hlt, hP, e, Option.bind_some, need_of (jn_ok (b := 1) (fun y hy => by
      rw [es] at hy
      obtain ⟨c, _, rfl⟩ := List.mem_map.mp hy
      exact Nat.le_refl 1) (by omega))]
  · have := congrArg List.length hu
    simpa [Str.length] using this
  · refine str_ext ?_
    show (P.map fun k => (Txt.join ("" : Str) s.1).cps.toList.getD k 0) = t.cps.toList
    rw [hu]
    have htl : t.cps.toList.length = t.length := Array.length_toList
    refine List.ext_getElem (by rw [List.length_map, hpl, htl]) fun i q1 q2 => ?_
    rw [List.getElem_map]
    have hi : i < P.length := by rw [List.length_map] at q1; exact q1
    have hk : P[i] < t.length := List.mem_range.mp (hp.mem_iff.mp (List.getElem_mem hi))
    have hid : P.idxOf P[i] = i := (List.getElem?_inj (by rw [hpl]; exact (hix _ hk).2) hpn).mp ((hix _ hk).1.trans (List.getElem?_eq_getElem hi).symm)
    have q2' : i < t.cps.size := by simpa using q2
    simp [List.getD_eq_getElem?_getD, hk, hid, q2']
theorem atP_inj {n : Nat} {P : List Nat} (hp : P.Perm (List.range n)) {y z : Str} (hy : y.length = n) (hz : z.length = n) (h : atP y P = atP z P) : y = z := by
  have h' : (P.map fun k => y.cps.toList.getD k 0) = P.map fun k => z.cps.toList.getD k 0 := congrArg (fun x : Str => x.cps.toList) h
  have hm := List.map_inj_left.mp h'
  refine (atP_all y).symm.trans (Eq.trans ?_ (atP_all z))
  rw [hy, hz]
  refine str_ext (List.map_congr_left fun k hk => hm k (hp.mem_iff.mpr hk))
def ABC : List Nat := ("abcdefghijklmnopqrstuvwxyz" : Str).cps.toList
theorem abc_len : ABC.length = 26 := by decide +kernel
theorem abc_ok : ∀ c ∈ ABC, c < 0x110000 := by decide +kernel
theorem flatMap_one (f : Int → Nat) : ∀ ns : List Int, ns.flatMap (fun a => (⟨#[f a]⟩ : Str).cps.toList) = ns.map f
  | [] => rfl
  | x :: ns => by
    rw [List.flatMap_cons, flatMap_one f ns]
    rfl
theorem back_ok {ns : List Int} (hn : ns.length ≤ 100) : ∃ z, law_back_m ns = some z ∧ z.length = ns.length ∧ ∀ c ∈ z.cps.toList, c < 0x110000 := by
  unfold law_back_m
  have e : ∀ x ∈ ns, (need (SzOk (("abcdefghijklmnopqrstuvwxyz" : Str)).length) <| Option.bind (idx (("abcdefghijklmnopqrstuvwxyz" : Str)).cps.toList (x % 26)) fun x1 => some (⟨#[x1]⟩ : Str)) = some (⟨#[ABC.getD (x % 26).toNat 0]⟩ : Str) := fun x _ => by
    rw [need_of (show SzOk (("abcdefghijklmnopqrstuvwxyz" : Str)).length by decide +kernel)]
    have hl := abc_len
    have h1 : 0 ≤ x % 26 := by omega
    have h2 : (x % 26).toNat < ABC.length := by omega
    have h3 : idx ABC (x % 26) = some (ABC.getD (x % 26).toNat 0) := idx_nat h1 (by simp [List.getD_eq_getElem?_getD, h2])
    show (Option.bind (idx ABC (x % 26)) _) = _
    rw [h3]
    rfl
  rw [mapO_eq _ ns e, Option.bind_some, need_of (jn_ok (b := 1) (fun y hy => by
    obtain ⟨c, _, rfl⟩ := List.mem_map.mp hy
    exact Nat.le_refl 1) (by rw [List.length_map]; omega))]
  have hj : (Txt.join ("" : Str) (ns.map fun x : Int => (⟨#[ABC.getD (x % 26).toNat 0]⟩ : Str))).cps.toList = ns.map fun x : Int => ABC.getD (x % 26).toNat 0 := by
    rw [join_nil, List.flatMap_map]
    exact flatMap_one _ ns
  refine ⟨_, rfl, ?_, fun c hc => ?_⟩
  · have := congrArg List.length hj
    simpa [Str.length] using this
  · rw [hj] at hc
    obtain ⟨x, _, rfl⟩ := List.mem_map.mp hc
    have hl := abc_len
    have h2 : (x % 26).toNat < ABC.length := by omega
    have e : ABC.getD (x % 26).toNat 0 = ABC[(x % 26).toNat] := by simp [List.getD_eq_getElem?_getD, h2]
    rw [e]
    exact abc_ok _ (List.getElem_mem h2)
theorem text_ok {row : List Int} {a n : Nat} (h : a + n ≤ row.length) (hn : n ≤ 100) : ∃ z, law_text_m row (a : Int) (n : Int) = some z ∧ z.length = n ∧ ∀ c ∈ z.cps.toList, c < 0x110000 := by
  unfold law_text_m
  rw [need_of (show RgO 0 (n : Int) by unfold RgO; omega), mapO_range n (fun i => row.getD (a + i) 0) fun i hi => by
    have h2 : a + i < row.length := by omega
    rw [show (a : Int) + (i : Int) = ((a + i : Nat) : Int) by omega, idx_nat', List.getElem?_eq_getElem h2]
    simp [List.getD_eq_getElem?_getD, h2]]
  obtain ⟨z, e, hz, hc⟩ := back_ok (ns := (List.range n).map fun i => row.getD (a + i) 0) (by simp; omega)
  refine ⟨z, ?_, by rw [hz]; simp, hc⟩
  rw [Option.bind_some, e]
  rfl
theorem ord_ok {row : List Int} (hr : ∀ x ∈ row, 0 ≤ x) {a n : Nat} (h : a + n ≤ row.length) (hn : n ≤ 100) : ∃ o : List Nat, law_order_m row (a : Int) (n : Int) = some (o.map fun k : Nat => (k : Int)) ∧ o.length = n ∧ o.Perm (List.range o.length) := by
  obtain ⟨o, e, hp⟩ := order_ok row hr a n h (by omega)
  have hl : o.length = n := by rw [hp.length_eq, rangeD_len0']
  have e2 : o = (o.map Int.toNat).map fun k : Nat => (k : Int) := by
    rw [List.map_map]
    refine (List.map_id o).symm.trans (List.map_congr_left fun x hx => ?_)
    have := rangeD_mem (hp.mem_iff.mp hx)
    show x = ((x.toNat : Nat) : Int)
    omega
  refine ⟨o.map Int.toNat, by rw [e, ← e2], by rw [List.length_map, hl], ?_⟩
  rw [List.length_map, hl]
  have hq := hp.map Int.toNat
  rw [rangeD_nat, List.map_map] at hq
  have e3 : (List.range n).map (Int.toNat ∘ fun i : Nat => (i : Int)) = List.range n := by
    refine (List.map_congr_left fun k _ => ?_).trans (List.map_id _)
    rfl
  rw [e3] at hq
  exact hq
/-- a text laid in a grid and taken back, both ways -/
theorem way_ok {z : Str} {o : List Nat} (hz : z.length ≤ 1000) (ho : o.Perm (List.range o.length)) (hne : o ≠ []) (ho9 : o.length ≤ 100) :
    ∃ g u, gridded_m z (o.map fun k : Nat => (k : Int)) = some g ∧ law_grid_m z (o.map fun k : Nat => (k : Int)) = some g ∧ g.length = z.length ∧ g.cps.toList.Perm z.cps.toList ∧
      ungridded_m g (o.map fun k : Nat => (k : Int)) = some z ∧ ungridded_m z (o.map fun k : Nat => (k : Int)) = some u ∧ gridded_m u (o.map fun k : Nat => (k : Int)) = some z := by
  have hl : 0 < o.length := List.length_pos_iff.mpr hne
  have hlt : ∀ c ∈ o, c < o.length := fun c hc => List.mem_range.mp (ho.mem_iff.mp hc)
  have hnd : o.Nodup := ho.nodup_iff.mpr List.nodup_range
  have hall : ∀ c, c < o.length → c ∈ o := fun c hc => ho.mem_iff.mpr (List.mem_range.mpr hc)
  have hp := Plc_perm (n := z.length) hnd hall hl
  have hg : (atP z (Plc z.length o.length o)).length = z.length := by rw [atP_len, hp.length_eq, List.length_range]
  obtain ⟨u, e1, e2, e3⟩ := ungridded_ok hz ho hne ho9
  obtain ⟨v, f1, f2, f3⟩ := ungridded_ok (t := atP z (Plc z.length o.length o)) (by omega) ho hne ho9
  rw [hg] at f2 f3
  have fv : v = z := atP_inj hp f2 rfl f3
  subst fv
  refine ⟨_, u, gridded_ok hz hne ho9 hlt, grid_ok hz hne ho9, hg, ?_, f1, e1, ?_⟩
  · have hq := hp.map fun k => v.cps.toList.getD k 0
    have ha := congrArg (fun x : Str => x.cps.toList) (atP_all v)
    refine List.Perm.trans hq ?_
    rw [show ((List.range v.length).map fun k => v.cps.toList.getD k 0) = v.cps.toList from ha]
  · rw [gridded_ok (by omega) hne ho9 hlt, e2, e3]
theorem tur1 : ∀ h, h < 6 → ∀ w, w < 6 → 2 ≤ h → 2 ≤ w → Plc (h * w) w (List.range w) = (List.range (h * w)).map fun k => k / h + w * (k % h) := by decide +kernel
theorem tur2 : ∀ h, h < 6 → ∀ w, w < 6 → 2 ≤ h → 2 ≤ w → (Plc (h * w) h (List.range h)).map (fun k => (Plc (h * w) w (List.range w)).getD k 0) = List.range (h * w) := by decide +kernel
theorem atP_atP (z : Str) (P Q : List Nat) (h : ∀ k ∈ Q, k < P.length) : atP (atP z P) Q = atP z (Q.map fun k => P.getD k 0) := by
  refine str_ext ?_
  show (Q.map fun k => (P.map fun k => z.cps.toList.getD k 0).getD k 0) = (Q.map fun k => P.getD k 0).map fun k => z.cps.toList.getD k 0
  rw [List.map_map]
  refine List.map_congr_left fun k hk => ?_
  have := h k hk
  simp [List.getD_eq_getElem?_getD, this]
theorem turned_ok {z : Str} {h w : Nat} (h1 : 2 ≤ h) (h2 : h < 6) (w1 : 2 ≤ w) (w2 : w < 6) (hz : z.length = h * w) :
    gridded_m z (rangeD 0 (w : Int)) = some (atP z ((List.range (h * w)).map fun k => k / h + w * (k % h))) ∧
    gridded_m (atP z ((List.range (h * w)).map fun k => k / h + w * (k % h))) (rangeD 0 (h : Int)) = some z ∧
    ungridded_m (atP z ((List.range (h * w)).map fun k => k / h + w * (k % h))) (rangeD 0 (w : Int)) = some z := by
  have hw : h * w ≤ 25 := Nat.mul_le_mul (show h ≤ 5 by omega) (show w ≤ 5 by omega)
  have perm : ∀ m : Nat, (List.range m).Perm (List.range (List.range m).length) := fun m => by rw [List.length_range]
  have hne : ∀ m : Nat, 2 ≤ m → List.range m ≠ [] := fun m hm e => by
    have := congrArg List.length e
    simp at this
    omega
  have key := tur1 h h2 w w2 h1 w1
  obtain ⟨g, u, q1, _, _, _, q5, _, _⟩ := way_ok (z := z) (o := List.range w) (by omega) (perm w) (hne w w1) (by simp; omega)
  have q1' := gridded_ok (z := z) (o := List.range w) (by omega) (hne w w1) (by simp; omega) (fun c hc => by simpa using hc)
  have eg : g = atP z (Plc z.length (List.range w).length (List.range w)) := Option.some.inj (q1.symm.trans q1')
  rw [List.length_range, hz, key] at eg
  subst eg
  rw [rangeD_nat, rangeD_nat]
  refine ⟨q1, ?_, q5⟩
  have lT : (atP z ((List.range (h * w)).map fun k => k / h + w * (k % h))).length = h * w := by rw [atP_len]; simp
  rw [gridded_ok (o := List.range h) (by omega) (hne h h1) (by simp; omega) (fun c hc => by simpa using hc), lT, List.length_range, ← key, atP_atP _ _ _ (fun k hk => by
    rw [key, List.length_map, List.length_range]
    exact Plc_lt hk), tur2 h h2 w w2 h1 w1, ← hz, atP_all]
theorem flatMap_oneN (f : Nat → Nat) : ∀ ns : List Nat, ns.flatMap (fun a => (⟨#[f a]⟩ : Str).cps.toList) = ns.map f
  | [] => rfl
  | x :: ns => by
    rw [List.flatMap_cons, flatMap_oneN f ns]
    rfl
theorem turn_map {z : Str} {h w : Nat} (h1 : 2 ≤ h) (h2 : h < 6) (w1 : 2 ≤ w) (w2 : w < 6) (hz : z.length = h * w) :
    mapO (fun z1 : Int => (need (DivOk z1 (h : Int)) <| need (0 < (h : Int)) <| need (Pl.MulOk (w : Int) (z1 % (h : Int))) <| need (SzOk (z).length) <| Option.bind (idx (z).cps.toList ((z1 / (h : Int)) + ((w : Int) * (z1 % (h : Int))))) fun x6 => some (⟨#[x6]⟩ : Str))) (rangeD 0 ((h * w : Nat) : Int)) = some ((List.range (h * w)).map fun k => (⟨#[z.cps.toList.getD (k / h + w * (k % h)) 0]⟩ : Str)) := by
  have hw : h * w ≤ 25 := Nat.mul_le_mul (show h ≤ 5 by omega) (show w ≤ 5 by omega)
  refine mapO_range (h * w) _ fun i hi => ?_
  have hm : i % h < h := Nat.mod_lt i (by omega)
  have hd : i / h < w := Nat.div_lt_of_lt_mul hi
  have hlt : i / h + w * (i % h) < z.length := by
    rw [hz]
    have a1 : w * (i % h) ≤ w * (h - 1) := Nat.mul_le_mul_left w (by omega)
    have a2 : w * (h - 1) + w = w * h := by
      have : h = (h - 1) + 1 := by omega
      conv => rhs; rw [this, Nat.mul_add, Nat.mul_one]
    rw [Nat.mul_comm h w]
    omega
  have em : (i : Int) % (h : Int) = ((i % h : Nat) : Int) := (Int.natCast_emod i h).symm
  have ed : (i : Int) / (h : Int) = ((i / h : Nat) : Int) := (Int.natCast_ediv i h).symm
  rw [need_of (divS (by omega)), need_of (by omega), em, ed, need_of (mulS (by omega)), need_of (show SzOk z.length by unfold SzOk; omega),
    show ((i / h : Nat) : Int) + (w : Int) * ((i % h : Nat) : Int) = ((i / h + w * (i % h) : Nat) : Int) by push_cast; rfl, idx_nat']
  have h2' : i / h + w * (i % h) < z.cps.size := hlt
  have hg : z.cps.toList[i / h + w * (i % h)]? = some (z.cps.toList.getD (i / h + w * (i % h)) 0) := by
    simp [List.getD_eq_getElem?_getD, h2']
  rw [hg]
  rfl
theorem turn_join (z : Str) (h w : Nat) : Txt.join ("" : Str) ((List.range (h * w)).map fun k => (⟨#[z.cps.toList.getD (k / h + w * (k % h)) 0]⟩ : Str)) = atP z ((List.range (h * w)).map fun k => k / h + w * (k % h)) := by
  refine str_ext ?_
  rw [join_nil, List.flatMap_map, flatMap_oneN]
  show _ = ((List.range (h * w)).map fun k => k / h + w * (k % h)).map _
  rw [List.map_map]
  rfl
theorem signs_lay {z : Str} (h : ∀ c ∈ z.cps.toList, c < 0x110000) : LayS (sortS (signsS z)) := ⟨fun x hx => by
  obtain ⟨c, hc, rfl⟩ := List.mem_map.mp ((sortS_perm _).mem_iff.mp hx)
  have := h c hc
  show (#[c].all fun c => decide (c < 0x110000)) = true
  simp
  exact this⟩
theorem law_true : ∀ ns : List Int, ns.length ≤ 63 → law_m ns = some true := by
  intro ns _
  obtain ⟨row, e, hl, hr⟩ := row_ok ns 66 (by omega)
  have e' : law_row_m ns 66 = some row := e
  have hr0 : ∀ x ∈ row, 0 ≤ x := fun x hx => (hr x hx).1
  have ix : ∀ c : Int, 0 ≤ c → c < 66 → idx row c = some (gI row c) := fun c h0 h1 => idx_in h0 (by omega)
  obtain ⟨n1, hn1, b1, b2⟩ : ∃ n : Nat, 1 + gI row 40 % 40 = (n : Int) ∧ 1 ≤ n ∧ n ≤ 40 := ⟨(1 + gI row 40 % 40).toNat, by omega, by omega, by omega⟩
  obtain ⟨n2, hn2, b3, b4⟩ : ∃ n : Nat, 1 + gI row 59 % 9 = (n : Int) ∧ 1 ≤ n ∧ n ≤ 9 := ⟨(1 + gI row 59 % 9).toNat, by omega, by omega, by omega⟩
  obtain ⟨n3, hn3, b5, b6⟩ : ∃ n : Nat, 1 + gI row 60 % 9 = (n : Int) ∧ 1 ≤ n ∧ n ≤ 9 := ⟨(1 + gI row 60 % 9).toNat, by omega, by omega, by omega⟩
  obtain ⟨h, hh, b7, b8⟩ : ∃ n : Nat, 2 + gI row 61 % 4 = (n : Int) ∧ 2 ≤ n ∧ n < 6 := ⟨(2 + gI row 61 % 4).toNat, by omega, by omega, by omega⟩
  obtain ⟨w, hw, b9, b10⟩ : ∃ n : Nat, 2 + gI row 62 % 4 = (n : Int) ∧ 2 ≤ n ∧ n < 6 := ⟨(2 + gI row 62 % 4).toNat, by omega, by omega, by omega⟩
  have hhw : h * w ≤ 25 := Nat.mul_le_mul (show h ≤ 5 by omega) (show w ≤ 5 by omega)
  obtain ⟨z, ez, lz, cz⟩ := text_ok (row := row) (a := 0) (n := n1) (by omega) (by omega)
  obtain ⟨f, ef, lf, _⟩ := text_ok (row := row) (a := 0) (n := h * w) (by omega) (by omega)
  obtain ⟨o1, eo1, lo1, po1⟩ := ord_ok hr0 (a := 41) (n := n2) (by omega) (by omega)
  obtain ⟨o2, eo2, lo2, po2⟩ := ord_ok hr0 (a := 50) (n := n3) (by omega) (by omega)
  have ne1 : o1 ≠ [] := fun q => by rw [q] at lo1; simp at lo1; omega
  have ne2 : o2 ≠ [] := fun q => by rw [q] at lo2; simp at lo2; omega
  obtain ⟨g, _, w1, w2, w3, w4, w5, _, _⟩ := way_ok (z := z) (by omega) po1 ne1 (by omega)
  obtain ⟨_, u, _, _, _, _, _, v6, v7⟩ := way_ok (z := z) (by omega) po2 ne2 (by omega)
  obtain ⟨g3, _, x1, x2, _, _, x5, _, _⟩ := way_ok (z := g) (by omega) po2 ne2 (by omega)
  obtain ⟨t1, t2, t3⟩ := turned_ok b7 b8 b9 b10 lf
  have ez' : law_text_m row 0 (n1 : Int) = some z := ez
  have ef' : law_text_m row 0 ((h * w : Nat) : Int) = some f := ef
  have eo1' : law_order_m row 41 (n2 : Int) = _ := eo1
  have eo2' : law_order_m row 50 (n3 : Int) = _ := eo2
  have hc : (h : Int) * (w : Int) = ((h * w : Nat) : Int) := by push_cast; rfl
  have m1 : Pl.MulOk (h : Int) (w : Int) := mulS (by omega)
  have s1 : SzOk g.length := by unfold SzOk; omega
  have s2 : SzOk z.length := by unfold SzOk; omega
  have s3 : (signsS g).length < 64 := by rw [signs_len]; omega
  have s4 : (signsS z).length < 64 := by rw [signs_len]; omega
  have s5 : LayS (sortS (signsS g)) := signs_lay fun c hc => cz c (w4.mem_iff.mp hc)
  have s6 : LayS (sortS (signsS z)) := signs_lay cz
  have s7 : sortS (signsS g) = sortS (signsS z) := sortS_congr (w4.map _)
  have r1 : RgO 0 (w : Int) := by unfold RgO; omega
  have r2 : RgO 0 (h : Int) := by unfold RgO; omega
  have r3 : RgO 0 ((h * w : Nat) : Int) := by unfold RgO; omega
  have j1 : JnOk ("" : Str) ((List.range (h * w)).map fun k => (⟨#[f.cps.toList.getD (k / h + w * (k % h)) 0]⟩ : Str)) := jn_ok (b := 1) (fun y hy => by
    obtain ⟨c, _, rfl⟩ := List.mem_map.mp hy
    exact Nat.le_refl 1) (by rw [List.length_map, List.length_range]; omega)
  unfold law_m
  rw [e']
  simp only [Option.bind_some, set_eq, ix 40 (by omega) (by omega), ix 59 (by omega) (by omega), ix 60 (by omega) (by omega), ix 61 (by omega) (by omega), ix 62 (by omega) (by omega), hn1, hn2, hn3, hh, hw, ez', eo1', eo2', w1, w2, w5, v6, v7, x1, x2, x5, hc, ef', need_of m1, need_of s1, need_of s2, need_of s3, need_of s4, need_of s5, need_of s6, s7, need_of r1, need_of r2, need_of r3, t1, t2, t3, turn_map b7 b8 b9 b10 lf, need_of j1, turn_join]
  simp
/-! ### the text -/
def topS (i : Nat) : Stmt := PySem.Challenge.pw_sealskept_k02_whole_grids_of_all_orders.main.body.getD i (.Pass ⟨0, 0, 0, 0⟩)
structure Facts (G : Gb) : Prop where
  f_gridded : At G "gridded" (defArgs (topS 1)) (defBody (topS 1)) (defScope (topS 1)) ["text", "order"]
  f_ungridded : At G "ungridded" (defArgs (topS 2)) (defBody (topS 2)) (defScope (topS 2)) ["text", "order"]
  f_law_mixed : At G "_law_mixed" (defArgs (topS 4)) (defBody (topS 4)) (defScope (topS 4)) ["script", "k"]
  f_law_row : At G "_law_row" (defArgs (topS 5)) (defBody (topS 5)) (defScope (topS 5)) ["script", "many"]
  f_law_is_int : At G "_law_is_int" (defArgs (topS 6)) (defBody (topS 6)) (defScope (topS 6)) ["value"]
  f_law_like : At G "_law_like" (defArgs (topS 7)) (defBody (topS 7)) (defScope (topS 7)) ["value", "due"]
  f_law_back : At G "_law_back" (defArgs (topS 9)) (defBody (topS 9)) (defScope (topS 9)) ["numbers"]
  f_law_text : At G "_law_text" (defArgs (topS 10)) (defBody (topS 10)) (defScope (topS 10)) ["row", "at", "count"]
  f_law_order : At G "_law_order" (defArgs (topS 11)) (defBody (topS 11)) (defScope (topS 11)) ["row", "at", "n"]
  f_law_grid : At G "_law_grid" (defArgs (topS 12)) (defBody (topS 12)) (defScope (topS 12)) ["text", "order"]
  f_law : At G "law" (defArgs (topS 13)) (defBody (topS 13)) (defScope (topS 13)) ["script"]
  b_isinstance : G.mg "isinstance" = none
  b_int : G.mg "int" = none
  b_bool : G.mg "bool" = none
  b_tuple : G.mg "tuple" = none
  b_str : G.mg "str" = none
  b_all : G.mg "all" = none
  b_len : G.mg "len" = none
  b_range : G.mg "range" = none
  b_list : G.mg "list" = none
  b_sorted : G.mg "sorted" = none
/-! the law's comparer -/
def C_is : SC := ⟨["value"], defScope (topS 6), fun _ => true⟩
theorem FS_is : FnScope C_is.N ["value"] (defScope (topS 6)) := ⟨rfl, rfl, rfl, by decide +kernel, rfl, by decide +kernel, by decide +kernel⟩
def isIntD : PyData → Bool
  | .int _ => true
  | _ => false
theorem g_is_isi : Gn C_is "isinstance" := gn (by decide +kernel)
theorem g_is_int : Gn C_is "int" := gn (by decide +kernel)
theorem g_is_bool : Gn C_is "bool" := gn (by decide +kernel)
theorem n_is_v : Nm C_is 0 "value" := nm (by decide +kernel)
theorem ok_isint {G : Gb} (T : Facts G) (v : PyData) : Fn G 1 "_law_is_int" [v] (.bool (isIntD v)) := by
  refine fn_def T.f_law_is_int FS_is rfl (r := .rt (.bool (isIntD v))) ?_ .rt
  show Blk G C_is _ [some (.sh v)] _ _
  cases v with
  | int i => exact blk_ret (st_ret (ev_andT (cIs g_is_isi T.b_isinstance g_is_int T.b_int bb_int (Ev.toB (vr 0 n_is_v rfl)) (show kitB "int" "int" = some true by decide +kernel) (fun _ => rfl)) (ev_one (ev_notB (t := false) (cIs g_is_isi T.b_isinstance g_is_bool T.b_bool bb_bool (Ev.toB (vr 0 n_is_v rfl)) (show kitB "int" "bool" = some false by decide +kernel) (fun _ => rfl))))))
  | bool b => exact blk_ret (st_ret (ev_andT (cIs g_is_isi T.b_isinstance g_is_int T.b_int bb_int (Ev.toB (vr 0 n_is_v rfl)) (show kitB "bool" "int" = some true by decide +kernel) (fun _ => rfl)) (ev_one (ev_notB (t := true) (cIs g_is_isi T.b_isinstance g_is_bool T.b_bool bb_bool (Ev.toB (vr 0 n_is_v rfl)) (show kitB "bool" "bool" = some true by decide +kernel) (fun _ => rfl))))))
  | none => exact blk_ret (st_ret (ev_andF (cIs g_is_isi T.b_isinstance g_is_int T.b_int bb_int (Ev.toB (vr 0 n_is_v rfl)) (show kitB "NoneType" "int" = some false by decide +kernel) (fun _ => rfl))))
  | str s => exact blk_ret (st_ret (ev_andF (cIs g_is_isi T.b_isinstance g_is_int T.b_int bb_int (Ev.toB (vr 0 n_is_v rfl)) (show kitB "str" "int" = some false by decide +kernel) (fun _ => rfl))))
  | list s => exact blk_ret (st_ret (ev_andF (cIs g_is_isi T.b_isinstance g_is_int T.b_int bb_int (Ev.toB (vr 0 n_is_v rfl)) (show kitB "list" "int" = some false by decide +kernel) (fun _ => rfl))))
  | tuple s => exact blk_ret (st_ret (ev_andF (cIs g_is_isi T.b_isinstance g_is_int T.b_int bb_int (Ev.toB (vr 0 n_is_v rfl)) (show kitB "tuple" "int" = some false by decide +kernel) (fun _ => rfl))))
  | dict s => exact blk_ret (st_ret (ev_andF (cIs g_is_isi T.b_isinstance g_is_int T.b_int bb_int (Ev.toB (vr 0 n_is_v rfl)) (show kitB "dict" "int" = some false by decide +kernel) (fun _ => rfl))))
def C_lk : SC := ⟨["value", "due", "k"], defScope (topS 7), fun _ => true⟩
theorem FS_lk : FnScope C_lk.N ["value", "due"] (defScope (topS 7)) := ⟨rfl, rfl, rfl, by decide +kernel, rfl, by decide +kernel, by decide +kernel⟩
theorem g_lk_isi : Gn C_lk "isinstance" := gn (by decide +kernel)
theorem g_lk_bool : Gn C_lk "bool" := gn (by decide +kernel)
theorem g_lk_tuple : Gn C_lk "tuple" := gn (by decide +kernel)
theorem g_lk_str : Gn C_lk "str" := gn (by decide +kernel)
theorem g_lk_len : Gn C_lk "len" := gn (by decide +kernel)
theorem g_lk_all : Gn C_lk "all" := gn (by decide +kernel)
theorem g_lk_range : Gn C_lk "range" := gn (by decide +kernel)
theorem g_lk_is : Gn C_lk "_law_is_int" := gn (by decide +kernel)
theorem n_lk_v : Nm C_lk 0 "value" := nm (by decide +kernel)
theorem n_lk_d : Nm C_lk 1 "due" := nm (by decide +kernel)
theorem ty_of {d : PyData} {T : String} (h : tyD d = T) {b : Bool} {U : String} (q : kitB T U = some b) : kitB (tyD d) U = some b := h ▸ q
theorem lk_if {G : Gb} {k : Nat} (T : Facts G) {ρ : PEnv} {e : Expr} {d : PyData} {x : Str} {U : String} {p1 p2 p3 : Pos} {b : Bool} (h : EvB G C_lk k ρ e d) (g : Gn C_lk x) (m : G.mg x = none) (bb : bootBuiltins x = some (.type U)) (q : kitB (tyD d) U = some b) (hs : ∀ env, starEach [e, .Name x p2] env = (false, eval e env) :: starEach [.Name x p2] env) : Te G C_lk k ρ (.Call (.Name "isinstance" p1) [e, .Name x p2] [] p3) b := te_val (Ev.toB (cIs g_lk_isi T.b_isinstance g m bb h q hs)) (fun _ _ => rfl)
theorem like_ty {v : PyData} {U : String} (h : tyD v ≠ U) (hU : U = "bool" ∨ U = "tuple" ∨ U = "str") : kitB (tyD v) U = some false := by
  rcases hU with rfl | rfl | rfl <;> cases v <;> first | exact absurd rfl h | (simp only [tyD]; decide +kernel)
theorem lk_row {G : Gb} {n : Nat} (ih : ∀ (due v : PyData), dueOk due = true → due.depth ≤ n → Fn G (n + 2) "_law_like" [v, due] (.bool (likeD v due))) : ∀ (vs ds : List PyData), vs.length = ds.length → dueA ds = true → PyData.depthAll ds ≤ n → ∀ (i : Nat) (v d : PyData), vs[i]? = some v → ds[i]? = some d → Fn G (n + 2) "_law_like" [v, d] (.bool (likeD v d))
  | [], _, _, _, _, i, v, d, h1, _ => by cases h1
  | _ :: _, [], h, _, _, _, _, _, _, _ => by cases h
  | x :: vs, y :: ds, h, ho, hd, 0, v, d, h1, h2 => by
    cases h1; cases h2
    exact ih _ _ (and_l ho) (Nat.le_trans (Nat.le_max_left _ _) hd)
  | x :: vs, y :: ds, h, ho, hd, i + 1, v, d, h1, h2 => lk_row ih vs ds (Nat.succ.inj h) (and_r ho) (Nat.le_trans (Nat.le_max_right _ _) hd) i v d h1 h2
section
variable {G : Gb} {k : Nat} {v due : PyData}
abbrev lkE (v due : PyData) : PEnv := [some (.sh v), some (.sh due), none]
theorem lk_v : Ev G C_lk k (lkE v due) (.Name "value" p) v := vr 0 n_lk_v rfl
theorem lk_d : Ev G C_lk k (lkE v due) (.Name "due" p) due := vr 1 n_lk_d rfl
end
theorem lk_body {G : Gb} (T : Facts G) (n : Nat) (ih : ∀ m, m < n → ∀ (due v : PyData), dueOk due = true → due.depth ≤ m → Fn G (m + 2) "_law_like" [v, due] (.bool (likeD v due))) (due v : PyData) (ho : dueOk due = true) (hd : due.depth ≤ n) :
    Blk G C_lk (n + 1) (lkE v due) (defBody (topS 7)) (.rt (.bool (likeD v due))) := by
  cases due with
  | none => exact blk_ret (st_ifT (te_cmp ok_is (Ev.toB lk_d) (Ev.toB ev_none) rfl) (blk_one (st_ret (ev_cmp (ok_is (d := v)) (Ev.toB lk_v) (Ev.toB ev_none) rfl))))
  | bool b =>
    refine blk_cons (ρ1 := lkE v (.bool b)) (st_ifF (te_cmp ok_is (Ev.toB lk_d) (Ev.toB ev_none) rfl) blk_nil) ?_
    refine blk_ret (st_ifT (lk_if T (Ev.toB lk_d) g_lk_bool T.b_bool bb_bool (show kitB "bool" "bool" = some true by decide +kernel) (fun _ => rfl)) (blk_one (st_ret ?_)))
    have no : tyD v ≠ "bool" → likeD v (.bool b) = false := fun h => by cases v <;> first | rfl | exact absurd rfl h
    by_cases hv : tyD v = "bool"
    · cases v with
      | bool c => exact ev_andT (cIs g_lk_isi T.b_isinstance g_lk_bool T.b_bool bb_bool (Ev.toB lk_v) (show kitB "bool" "bool" = some true by decide +kernel) (fun _ => rfl)) (ev_one (ev_cmp ok_eqB (Ev.toB lk_v) (Ev.toB lk_d) rfl))
      | _ => exact absurd hv (by simp [tyD])
    · rw [no hv]
      exact ev_andF (cIs g_lk_isi T.b_isinstance g_lk_bool T.b_bool bb_bool (Ev.toB lk_v) (like_ty hv (.inl rfl)) (fun _ => rfl))
  | int j =>
    refine blk_cons (ρ1 := lkE v (.int j)) (st_ifF (te_cmp ok_is (Ev.toB lk_d) (Ev.toB ev_none) rfl) blk_nil) ?_
    refine blk_cons (ρ1 := lkE v (.int j)) (st_ifF (lk_if T (Ev.toB lk_d) g_lk_bool T.b_bool bb_bool (show kitB "int" "bool" = some false by decide +kernel) (fun _ => rfl)) blk_nil) ?_
    refine blk_cons (ρ1 := lkE v (.int j)) (st_ifF (lk_if T (Ev.toB lk_d) g_lk_tuple T.b_tuple bb_tuple (show kitB "int" "tuple" = some false by decide +kernel) (fun _ => rfl)) blk_nil) ?_
    refine blk_cons (ρ1 := lkE v (.int j)) (st_ifF (lk_if T (Ev.toB lk_d) g_lk_str T.b_str bb_str (show kitB "int" "str" = some false by decide +kernel) (fun _ => rfl)) blk_nil) ?_
    refine blk_ret (st_ret ?_)
    have hi := ok_isint T v
    have le : 1 ≤ n + 1 := Nat.le_add_left 1 n
    have no : isIntD v = false → likeD v (.int j) = false := fun h => by cases v <;> first | rfl | cases h
    cases hv : isIntD v with
    | true =>
      rw [hv] at hi
      cases v with
      | int i => exact ev_andT (cF g_lk_is hi le (ea_cons lk_v ea_nil (fun _ => rfl)) (fun _ => rfl) (fun _ => rfl)) (ev_one (ev_cmp ok_eqI (Ev.toB lk_v) (Ev.toB lk_d) rfl))
      | _ => cases hv
    | false =>
      rw [hv] at hi
      rw [no hv]
      exact ev_andF (cF g_lk_is hi le (ea_cons lk_v ea_nil (fun _ => rfl)) (fun _ => rfl) (fun _ => rfl))
  | str x =>
    refine blk_cons (ρ1 := lkE v (.str x)) (st_ifF (te_cmp ok_is (Ev.toB lk_d) (Ev.toB ev_none) rfl) blk_nil) ?_
    refine blk_cons (ρ1 := lkE v (.str x)) (st_ifF (lk_if T (Ev.toB lk_d) g_lk_bool T.b_bool bb_bool (show kitB "str" "bool" = some false by decide +kernel) (fun _ => rfl)) blk_nil) ?_
    refine blk_cons (ρ1 := lkE v (.str x)) (st_ifF (lk_if T (Ev.toB lk_d) g_lk_tuple T.b_tuple bb_tuple (show kitB "str" "tuple" = some false by decide +kernel) (fun _ => rfl)) blk_nil) ?_
    refine blk_ret (st_ifT (lk_if T (Ev.toB lk_d) g_lk_str T.b_str bb_str (show kitB "str" "str" = some true by decide +kernel) (fun _ => rfl)) (blk_one (st_ret ?_)))
    have no : tyD v ≠ "str" → likeD v (.str x) = false := fun h => by cases v <;> first | rfl | exact absurd rfl h
    by_cases hv : tyD v = "str"
    · cases v with
      | str c => exact ev_andT (cIs g_lk_isi T.b_isinstance g_lk_str T.b_str bb_str (Ev.toB lk_v) (show kitB "str" "str" = some true by decide +kernel) (fun _ => rfl)) (ev_one (ev_cmp ok_eqS (Ev.toB lk_v) (Ev.toB lk_d) rfl))
      | _ => exact absurd hv (by simp [tyD])
    · rw [no hv]
      exact ev_andF (cIs g_lk_isi T.b_isinstance g_lk_str T.b_str bb_str (Ev.toB lk_v) (like_ty hv (.inr (.inr rfl))) (fun _ => rfl))
  | list ds => cases ho
  | dict ds => cases ho
  | tuple ds =>
    refine blk_cons (ρ1 := lkE v (.tuple ds)) (st_ifF (te_cmp ok_is (Ev.toB lk_d) (Ev.toB ev_none) rfl) blk_nil) ?_
    refine blk_cons (ρ1 := lkE v (.tuple ds)) (st_ifF (lk_if T (Ev.toB lk_d) g_lk_bool T.b_bool bb_bool (show kitB "tuple" "bool" = some false by decide +kernel) (fun _ => rfl)) blk_nil) ?_
    refine blk_ret (st_ifT (lk_if T (Ev.toB lk_d) g_lk_tuple T.b_tuple bb_tuple (show kitB "tuple" "tuple" = some true by decide +kernel) (fun _ => rfl)) ?_)
    have no : tyD v ≠ "tuple" → likeD v (.tuple ds) = false := fun h => by cases v <;> first | rfl | exact absurd rfl h
    by_cases hv : tyD v = "tuple"
    · cases v with
      | tuple vs =>
        have tv : Te G C_lk (n + 1) (lkE (.tuple vs) (.tuple ds)) _ true := lk_if T (p1 := ⟨0, 0, 0, 0⟩) (p2 := ⟨0, 0, 0, 0⟩) (p3 := ⟨0, 0, 0, 0⟩) (Ev.toB (lk_v (p := ⟨0, 0, 0, 0⟩))) g_lk_tuple T.b_tuple bb_tuple (show kitB "tuple" "tuple" = some true by decide +kernel) (fun _ => rfl)
        clear tv
        by_cases hl : vs.length = ds.length
        · have e : decide ((vs.length : Int) ≠ (ds.length : Int)) = false := decide_eq_false fun z => z (by rw [hl])
          refine blk_cons (ρ1 := lkE (.tuple vs) (.tuple ds)) (st_ifF (Tw.te (tw_orF (te_not (t := true) (lk_if T (Ev.toB lk_v) g_lk_tuple T.b_tuple bb_tuple (show kitB "tuple" "tuple" = some true by decide +kernel) (fun _ => rfl))) (tw_or1 (Te.to (te_cmp (ok_neI (i := (vs.length : Int)) (j := (ds.length : Int))) (Ev.toB (cB g_lk_len T.b_len bb_len (ok_len rfl) (eab_cons (Ev.toB lk_v) eab_nil (fun _ => rfl)) (fun _ => rfl) (fun _ => rfl))) (Ev.toB (cB g_lk_len T.b_len bb_len (ok_len rfl) (eab_cons (Ev.toB lk_d) eab_nil (fun _ => rfl)) (fun _ => rfl) (fun _ => rfl))) rfl) e)))) blk_nil) ?_
          have el : likeD (.tuple vs) (.tuple ds) = ((rangeD 0 (ds.length : Int)).map (likeI vs ds)).all id := by
            show (decide (vs.length = ds.length) && likeA vs ds) = _
            rw [decide_eq_true hl, likeA_I hl]; rfl
          rw [el]
          have h1 : PyData.depthAll ds + 1 ≤ n := hd
          obtain ⟨m, rfl⟩ : ∃ m, n = m + 1 := ⟨n - 1, by omega⟩
          refine blk_bd (f := id) (xs := ds) 1 (.inl (by rw [show eT id ds = .tuple ds from congrArg PyData.tuple (List.map_id ds)]; rfl)) fun hz => ?_
          · have hr : RgO 0 (ds.length : Int) := by unfold RgO; omega
            refine blk_ret (st_ret (cB g_lk_all T.b_all bb_all (ok_allL _) (eab_cons (Ev.toB (EvN.ev (nLc [("k", 2)] (by decide +kernel) (It'.toB (iR1 g_lk_range T.b_range (Ev.toB (cB g_lk_len T.b_len bb_len (ok_len rfl) (eab_cons (Ev.toB lk_d) eab_nil (fun _ => rfl)) (fun _ => rfl) (fun _ => rfl))) hr (fun _ => rfl))) (lcr_mapM (ea := eI) (eb := eB) (likeI vs ds) (rangeD 0 (ds.length : Int)) ?_) (zz_rg hr (len_m _ _)) (fun _ _ => rfl)))) eab_nil (fun _ => rfl)) (fun _ => rfl) (fun _ => rfl)))
            intro x hx
            obtain ⟨x0, x1⟩ := rangeD_mem hx
            obtain ⟨i, rfl⟩ := Int.eq_ofNat_of_zero_le x0
            have hi : i < ds.length := by omega
            have q1 : vs[i]? = some vs[i] := List.getElem?_eq_getElem (by omega)
            have q2 : ds[i]? = some ds[i] := List.getElem?_eq_getElem hi
            have hlk := lk_row (ih m (Nat.lt_succ_self m)) vs ds hl ho (by omega) i _ _ q1 q2
            have e3 : likeI vs ds (i : Int) = likeD vs[i] ds[i] := by
              unfold likeI
              rw [Int.toNat_natCast, q1, q2]
            rw [e3]
            refine step_one (by decide) (tN 2 (nms (by decide +kernel))) (cF (gn (by decide +kernel)) hlk (by omega) (ea_cons (ev_ixT (Ev.toB (vr 0 (nm (by decide +kernel)) rfl)) (Ev.toB (vr 2 (nm (by decide +kernel)) rfl)) (atI_nat q1) (fun _ _ => rfl)) (ea_cons (ev_ixT (Ev.toB (vr 1 (nm (by decide +kernel)) rfl)) (Ev.toB (vr 2 (nm (by decide +kernel)) rfl)) (atI_nat q2) (fun _ _ => rfl)) ea_nil (fun _ => rfl)) (fun _ => rfl)) (fun _ => rfl) (fun _ => rfl))
        · have e : decide ((vs.length : Int) ≠ (ds.length : Int)) = true := decide_eq_true fun z => hl (by omega)
          have e2 : likeD (.tuple vs) (.tuple ds) = false := by
            show (decide (vs.length = ds.length) && likeA vs ds) = false
            rw [decide_eq_false hl]; rfl
          rw [e2]
          exact blk_ret (st_ifT (Tw.te (tw_orF (te_not (t := true) (lk_if T (Ev.toB lk_v) g_lk_tuple T.b_tuple bb_tuple (show kitB "tuple" "tuple" = some true by decide +kernel) (fun _ => rfl))) (tw_or1 (Te.to (te_cmp (ok_neI (i := (vs.length : Int)) (j := (ds.length : Int))) (Ev.toB (cB g_lk_len T.b_len bb_len (ok_len rfl) (eab_cons (Ev.toB lk_v) eab_nil (fun _ => rfl)) (fun _ => rfl) (fun _ => rfl))) (Ev.toB (cB g_lk_len T.b_len bb_len (ok_len rfl) (eab_cons (Ev.toB lk_d) eab_nil (fun _ => rfl)) (fun _ => rfl) (fun _ => rfl))) rfl) e)))) (blk_one (st_ret ev_bool)))
      | _ => exact absurd hv (by simp [tyD])
    · rw [no hv]
      exact blk_ret (st_ifT (Tw.te (tw_orT (te_not (t := false) (lk_if T (Ev.toB lk_v) g_lk_tuple T.b_tuple bb_tuple (like_ty hv (.inr (.inl rfl))) (fun _ => rfl))))) (blk_one (st_ret ev_bool)))
theorem ok_like {G : Gb} (T : Facts G) : ∀ (n : Nat) (due v : PyData), dueOk due = true → due.depth ≤ n → Fn G (n + 2) "_law_like" [v, due] (.bool (likeD v due)) := fun n => by
  induction n using Nat.strongRecOn with
  | ind n ih =>
    intro due v ho hd
    refine fn_def T.f_law_like FS_lk rfl (r := .rt (.bool (likeD v due))) ?_ .rt
    show Blk G C_lk _ [some (.sh v), some (.sh due), none] _ _
    exact lk_body T n ih due v ho hd

abbrev LV_gridded : Nat := 1
abbrev LW_gridded : Nat := 2
def C_gridded : SC := ⟨["text", "order", "column"], defScope (topS 1), fun _ => true⟩
theorem FS_gridded : FnScope C_gridded.N ["text", "order"] (defScope (topS 1)) := ⟨rfl, rfl, rfl, by decide +kernel, rfl, by decide +kernel, by decide +kernel⟩
theorem n_gridded_order : Nm C_gridded 1 "order" := nm (by decide +kernel)
theorem ok_gridded {G : Gb} (T : Facts G) {text1 : Str} {order1 : (List Int)} {r : Str} (h : gridded_m text1 order1 = some r) : Fn G LW_gridded "gridded" [eS text1, (eT eI) order1] (eS r) := by
  unfold gridded_m at h
  refine fn_def T.f_gridded FS_gridded rfl (r := .rt (eS r)) ?_ .rt
  show Blk G C_gridded _ [some (.sh (eS text1)), some (.sh ((eT eI) order1)), none] _ _
  obtain ⟨ys1, hys1, h⟩ := bind_ex h
  obtain ⟨hnd3, h⟩ := need_ex h
  have h := Option.some.inj h
  subst h
  exact blk_ret (st_ret (ev_joinL (z := ("" : Str)) (ys := ys1) (Ev.toB ev_str) (Ev.toB (EvN.ev (nLc [("column", 2)] (by decide +kernel) (It'.toB (it_tup (vr 1 n_gridded_order rfl))) (lcr_map (ea := eI) (eb := eS) (fun z1 : Int => (need (((order1).length : Int) ≠ 0) <| need (SzOk (text1).length) <| some (stepS text1 z1 ((order1).length : Int)))) (fun z1 y h => by (obtain ⟨hnd1, h⟩ := need_ex h; obtain ⟨hnd2, h⟩ := need_ex h; have h := Option.some.inj h; subst h; exact step_one (by decide) (tN 2 (nms (by decide +kernel))) (ev_stepS (Ev.toB (vr 0 (nm (by decide +kernel)) rfl)) (Ev.toB (vr 2 (nm (by decide +kernel)) rfl)) (Ev.toB (cB (gn (by decide +kernel)) T.b_len bb_len (ok_lenT order1) (eab_cons (Ev.toB (vr 1 (nm (by decide +kernel)) rfl)) eab_nil (fun _ => rfl)) (fun _ => rfl) (fun _ => rfl))) ⟨hnd1, hnd2.z⟩))) _ _ hys1) (zz_fil (Nat.le_of_eq (mapO_len hys1))) (fun _ _ => rfl)))) hnd3 (fun _ => rfl) (fun _ => rfl) rfl))
abbrev LV_ungridded : Nat := 1
abbrev LW_ungridded : Nat := 2
def C_ungridded : SC := ⟨["text", "order", "width", "found", "at", "column", "place"], defScope (topS 2), fun _ => true⟩
theorem FS_ungridded : FnScope C_ungridded.N ["text", "order"] (defScope (topS 2)) := ⟨rfl, rfl, rfl, by decide +kernel, rfl, by decide +kernel, by decide +kernel⟩
theorem g_ungridded_len : Gn C_ungridded "len" := gn (by decide +kernel)
theorem n_ungridded_order : Nm C_ungridded 1 "order" := nm (by decide +kernel)
theorem n_ungridded_text : Nm C_ungridded 0 "text" := nm (by decide +kernel)
theorem l_ungridded_width : NmL C_ungridded 2 "width" := nml (by decide +kernel)
theorem l_ungridded_found : NmL C_ungridded 3 "found" := nml (by decide +kernel)
theorem l_ungridded_at_p : NmL C_ungridded 4 "at" := nml (by decide +kernel)
theorem s_ungridded_column : NmS C_ungridded 5 "column" := nms (by decide +kernel)
theorem n_ungridded_column : Nm C_ungridded 5 "column" := nm (by decide +kernel)
theorem n_ungridded_width : Nm C_ungridded 2 "width" := nm (by decide +kernel)
theorem g_ungridded_range : Gn C_ungridded "range" := gn (by decide +kernel)
theorem s_ungridded_place : NmS C_ungridded 6 "place" := nms (by decide +kernel)
theorem n_ungridded_at_p : Nm C_ungridded 4 "at" := nm (by decide +kernel)
theorem n_ungridded_place : Nm C_ungridded 6 "place" := nm (by decide +kernel)
theorem n_ungridded_found : Nm C_ungridded 3 "found" := nm (by decide +kernel)
theorem s_ungridded_at_p : NmS C_ungridded 4 "at" := nms (by decide +kernel)
theorem ok_ungridded {G : Gb} (T : Facts G) {text1 : Str} {order1 : (List Int)} {r : Str} (h : ungridded_m text1 order1 = some r) : Fn G LW_ungridded "ungridded" [eS text1, (eT eI) order1] (eS r) := by
  unfold ungridded_m at h
  refine fn_def T.f_ungridded FS_ungridded rfl (r := .rt (eS r)) ?_ .rt
  show Blk G C_ungridded _ [some (.sh (eS text1)), some (.sh ((eT eI) order1)), none, none, none, none, none] _ _
  obtain ⟨hnd1, h⟩ := need_ex h
  obtain ⟨hnd2, h⟩ := need_ex h
  obtain ⟨width1, hwidth1, h⟩ := set_ex h
  obtain ⟨found1, hfound1, h⟩ := set_ex h
  obtain ⟨at_p1, hat_p1, h⟩ := set_ex h
  refine blk_cons (ρ1 := [some (.sh (eS text1)), some (.sh ((eT eI) order1)), some (.sh (eI width1)), some (.ow ((eL eS) found1)), some (.sh (eI at_p1)), none, none]) (st_par3 (i := 2) (j := 3) (l := 4) l_ungridded_width.hi l_ungridded_found.hi l_ungridded_at_p.hi (by decide) (by decide) (by decide) l_ungridded_width.hl l_ungridded_found.hl l_ungridded_at_p.hl (Ev.s (Ev.to (cB g_ungridded_len T.b_len bb_len (ok_lenT order1) (eab_cons (Ev.toB (vr 1 n_ungridded_order rfl)) eab_nil (fun _ => rfl)) (fun _ => rfl) (fun _ => rfl)) (congrArg eI hwidth1))) (EvN.s (EvN.to (evn_repX (ea := eS) (xs := ([("" : Str)] : (List Str))) (evn_lst (ea_cons ev_str ea_nil (fun _ => rfl)) (le_sz (by decide : 1 ≤ 100000))) (Ev.toB (cB g_ungridded_len T.b_len bb_len (ok_lenS hnd1) (eab_cons (Ev.toB (vr 0 n_ungridded_text rfl)) eab_nil (fun _ => rfl)) (fun _ => rfl) (fun _ => rfl))) hnd2) (congrArg (eL eS) hfound1))) (Ev.s (Ev.to ev_int (congrArg eI hat_p1))) (fun env h => swp_sc env h (by kernel_rfl)) (fun _ => rfl) (fun _ => rfl) (fun _ => rfl) (fun _ => rfl)) ?_
  obtain ⟨s4, hs4, h⟩ := bind_ex h
  refine blk_cons (ρ1 := [some (.sh (eS text1)), some (.sh ((eT eI) order1)), some (.sh (eI width1)), some (.ow ((eL eS) s4.1)), some (.sh (eI s4.2)), none, none]) (st_for (it_tup (vr 1 n_ungridded_order rfl)) (for_s (R := (fun (s1 : ((List Str) × Int)) => ([some (.sh (eS text1)), some (.sh ((eT eI) order1)), some (.sh (eI width1)), some (.ow ((eL eS) s1.1)), some (.sh (eI s1.2)), none, none] : PEnv))) (ea := eI) (step := (ungridded_l2 text1 width1)) ?_ _ _ _ hs4) (fun _ _ => rfl)) ?_
  · intro s1 x1 o h
    unfold ungridded_l2 at h
    refine ⟨_, [some (.sh (eS text1)), some (.sh ((eT eI) order1)), some (.sh (eI width1)), some (.ow ((eL eS) s1.1)), some (.sh (eI s1.2)), some (.sh (eI x1)), none], (tN 5 s_ungridded_column), ?_⟩
    obtain ⟨hnd3, h⟩ := need_ex h
    obtain ⟨hnd4, h⟩ := need_ex h
    obtain ⟨s3, hs3, h⟩ := bind_ex h
    refine blk_cons (ρ1 := [some (.sh (eS text1)), some (.sh ((eT eI) order1)), some (.sh (eI width1)), some (.ow ((eL eS) s3.1)), some (.sh (eI s3.2)), some (.sh (eI x1)), none]) (st_for (iR3 g_ungridded_range T.b_range (Ev.toB (vr 5 n_ungridded_column rfl)) (Ev.toB (cB g_ungridded_len T.b_len bb_len (ok_lenS hnd3) (eab_cons (Ev.toB (vr 0 n_ungridded_text rfl)) eab_nil (fun _ => rfl)) (fun _ => rfl) (fun _ => rfl))) (Ev.toB (vr 2 n_ungridded_width rfl)) hnd4 (fun _ => rfl) (fun _ => rfl) (fun _ => rfl) (fun _ => rfl)) (for_s (R := (fun (s2 : ((List Str) × Int)) => ([some (.sh (eS text1)), some (.sh ((eT eI) order1)), some (.sh (eI width1)), some (.ow ((eL eS) s2.1)), some (.sh (eI s2.2)), some (.sh (eI x1)), none] : PEnv))) (ea := eI) (step := (ungridded_l1 text1)) ?_ _ _ _ hs3) (fun _ _ => rfl)) ?_
    · intro s2 x2 o h
      unfold ungridded_l1 at h
      refine ⟨_, [some (.sh (eS text1)), some (.sh ((eT eI) order1)), some (.sh (eI width1)), some (.ow ((eL eS) s2.1)), some (.sh (eI s2.2)), some (.sh (eI x1)), some (.sh (eI x2))], (tN 6 s_ungridded_place), ?_⟩
      obtain ⟨hnd5, h⟩ := need_ex h
      obtain ⟨x3, hx3, h⟩ := bind_ex h
      obtain ⟨found2, hfound2, h⟩ := bind_ex h
      refine blk_cons (ρ1 := [some (.sh (eS text1)), some (.sh ((eT eI) order1)), some (.sh (eI width1)), some (.ow ((eL eS) found2)), some (.sh (eI s2.2)), some (.sh (eI x1)), some (.sh (eI x2))]) (sItemX (f := eS) (xs := s2.1) (ys := found2) (v := (⟨#[x3]⟩ : Str)) 3 n_ungridded_found rfl (ev_ixS (Ev.toB (vr 0 n_ungridded_text rfl)) (Ev.toB (vr 4 n_ungridded_at_p rfl)) hnd5.z hx3 (fun _ _ => rfl)) (Ev.toB (vr 6 n_ungridded_place rfl)) hfound2 (fun _ => rfl) (fun _ => rfl) (fun _ => rfl) (fun _ _ => rfl)) ?_
      obtain ⟨at_p2, hat_p2, h⟩ := set_ex h
      refine blk_cons (ρ1 := [some (.sh (eS text1)), some (.sh ((eT eI) order1)), some (.sh (eI width1)), some (.ow ((eL eS) found2)), some (.sh (eI at_p2)), some (.sh (eI x1)), some (.sh (eI x2))]) (sAug (d := eI at_p2) 4 s_ungridded_at_p rfl (Ev.toB ev_int) (OpOk.to (ok_iadd (i := s2.2) (j := 1)) (congrArg eI hat_p2))) ?_
      have h := Option.some.inj h
      subst h
      exact Blk.out blk_nil (.nx (.keep (.keep (.keep (.keep (.keep (.keep (.drop .nil))))))))
    · have h := Option.some.inj h
      subst h
      exact Blk.out blk_nil (.nx (.keep (.keep (.keep (.keep (.keep (.drop (.keep .nil))))))))
  · refine Blk.weak (ρ1 := [some (.sh (eS text1)), some (.sh ((eT eI) order1)), some (.sh (eI width1)), some (.sh ((eL eS) s4.1)), some (.sh (eI s4.2)), none, none]) ?_ (.keep (.keep (.keep (.frz (.keep (.keep (.keep .nil)))))))
    obtain ⟨hnd6, h⟩ := need_ex h
    have h := Option.some.inj h
    subst h
    exact blk_ret (st_ret (ev_joinL (z := ("" : Str)) (ys := s4.1) (Ev.toB ev_str) (Ev.toB (vr 3 n_ungridded_found rfl)) hnd6 (fun _ => rfl) (fun _ => rfl) rfl))
abbrev LV_law_mixed : Nat := 1
abbrev LW_law_mixed : Nat := 2
def C_law_mixed : SC := ⟨["script", "k", "cell", "first", "second", "third"], defScope (topS 4), fun _ => true⟩
theorem FS_law_mixed : FnScope C_law_mixed.N ["script", "k"] (defScope (topS 4)) := ⟨rfl, rfl, rfl, by decide +kernel, rfl, by decide +kernel, by decide +kernel⟩
theorem s_law_mixed_cell : NmS C_law_mixed 2 "cell" := nms (by decide +kernel)
theorem g_law_mixed_len : Gn C_law_mixed "len" := gn (by decide +kernel)
theorem n_law_mixed_script : Nm C_law_mixed 0 "script" := nm (by decide +kernel)
theorem n_law_mixed_k : Nm C_law_mixed 1 "k" := nm (by decide +kernel)
theorem g_law_mixed_int : Gn C_law_mixed "int" := gn (by decide +kernel)
theorem n_law_mixed_cell : Nm C_law_mixed 2 "cell" := nm (by decide +kernel)
theorem s_law_mixed_first : NmS C_law_mixed 3 "first" := nms (by decide +kernel)
theorem n_law_mixed_first : Nm C_law_mixed 3 "first" := nm (by decide +kernel)
theorem s_law_mixed_second : NmS C_law_mixed 4 "second" := nms (by decide +kernel)
theorem n_law_mixed_second : Nm C_law_mixed 4 "second" := nm (by decide +kernel)
theorem s_law_mixed_third : NmS C_law_mixed 5 "third" := nms (by decide +kernel)
theorem n_law_mixed_third : Nm C_law_mixed 5 "third" := nm (by decide +kernel)
theorem ok_law_mixed {G : Gb} (T : Facts G) {script1 : (List Int)} {k1 : Int} {r : Int} (h : law_mixed_m script1 k1 = some r) : Fn G LW_law_mixed "_law_mixed" [(eL eI) script1, eI k1] (eI r) := by
  unfold law_mixed_m at h
  refine fn_def T.f_law_mixed FS_law_mixed rfl (r := .rt (eI r)) ?_ .rt
  show Blk G C_law_mixed _ [some (.sh ((eL eI) script1)), some (.sh (eI k1)), none, none, none, none] _ _
  obtain ⟨cell1, hcell1, h⟩ := set_ex h
  refine blk_cons (ρ1 := [some (.sh ((eL eI) script1)), some (.sh (eI k1)), some (.sh (eI cell1)), none, none, none]) (sSet (d := eI cell1) 2 s_law_mixed_cell (Ev.to ev_int (congrArg eI hcell1)) (fun _ _ => rfl)) ?_
  obtain ⟨j1, hj1, h⟩ := bind_ex h
  refine blk_cons (ρ1 := [some (.sh ((eL eI) script1)), some (.sh (eI k1)), some (.sh (eI j1)), none, none, none]) (st_ifJ hj1 (te_cmp (ok_gt (i := ((script1).length : Int)) (j := 0)) (Ev.toB (cB g_law_mixed_len T.b_len bb_len (ok_lenL script1) (eab_cons (Ev.toB (vr 0 n_law_mixed_script rfl)) eab_nil (fun _ => rfl)) (fun _ => rfl) (fun _ => rfl))) (Ev.toB ev_int) rfl) ?_ ?_) ?_
  · intro h
    obtain ⟨hnd2, h⟩ := need_ex h
    obtain ⟨x2, hx2, h⟩ := bind_ex h
    obtain ⟨cell2, hcell2, h⟩ := set_ex h
    refine blk_cons (ρ1 := [some (.sh ((eL eI) script1)), some (.sh (eI k1)), some (.sh (eI cell2)), none, none, none]) (sSet (d := eI cell2) 2 s_law_mixed_cell (Ev.to (ev_ix (Ev.toB (vr 0 n_law_mixed_script rfl)) (Ev.toB (ev_op (ok_mod hnd2) (Ev.toB (vr 1 n_law_mixed_k rfl)) (Ev.toB (cB g_law_mixed_len T.b_len bb_len (ok_lenL script1) (eab_cons (Ev.toB (vr 0 n_law_mixed_script rfl)) eab_nil (fun _ => rfl)) (fun _ => rfl) (fun _ => rfl))))) (atI_map eI hx2) (fun _ _ => rfl)) (congrArg eI hcell2)) (fun _ _ => rfl)) ?_
    have h := Option.some.inj h
    subst h
    exact Blk.out blk_nil (.nx (.keep (.keep (.keep (.keep (.keep (.keep .nil)))))))
  · intro h
    have h := Option.some.inj h
    subst h
    exact Blk.out blk_nil (.nx (.keep (.keep (.keep (.keep (.keep (.keep .nil)))))))
  · obtain ⟨first1, hfirst1, h⟩ := set_ex h
    refine blk_cons (ρ1 := [some (.sh ((eL eI) script1)), some (.sh (eI k1)), some (.sh (eI j1)), some (.sh (eI first1)), none, none]) (sSet (d := eI first1) 3 s_law_mixed_first (Ev.to (ev_op (ok_mod (by decide)) (Ev.toB (cT g_law_mixed_int T.b_int bb_int (ok_intI (i := (((j1 * 48271) + (k1 * 69621)) + 8191))) (eab_cons (Ev.toB (ev_op ok_add (Ev.toB (ev_op ok_add (Ev.toB (ev_op (ok_mul (mul_r (by decide))) (Ev.toB (vr 2 n_law_mixed_cell rfl)) (Ev.toB ev_int))) (Ev.toB (ev_op (ok_mul (mul_r (by decide))) (Ev.toB (vr 1 n_law_mixed_k rfl)) (Ev.toB ev_int))))) (Ev.toB ev_int))) eab_nil (fun _ => rfl)) (fun _ => rfl) (fun _ => rfl))) (Ev.toB ev_int)) (congrArg eI hfirst1)) (fun _ _ => rfl)) ?_
    obtain ⟨hnd3, h⟩ := need_ex h
    obtain ⟨second1, hsecond1, h⟩ := set_ex h
    refine blk_cons (ρ1 := [some (.sh ((eL eI) script1)), some (.sh (eI k1)), some (.sh (eI j1)), some (.sh (eI first1)), some (.sh (eI second1)), none]) (sSet (d := eI second1) 4 s_law_mixed_second (Ev.to (ev_op (ok_mod (by decide)) (Ev.toB (cT g_law_mixed_int T.b_int bb_int (ok_intI (i := (((first1 * first1) + (first1 / 7)) + (k1 * 16807)))) (eab_cons (Ev.toB (ev_op ok_add (Ev.toB (ev_op ok_add (Ev.toB (ev_op (ok_mul hnd3) (Ev.toB (vr 3 n_law_mixed_first rfl)) (Ev.toB (vr 3 n_law_mixed_first rfl)))) (Ev.toB (ev_op (ok_fdiv (div_c (by decide))) (Ev.toB (vr 3 n_law_mixed_first rfl)) (Ev.toB ev_int))))) (Ev.toB (ev_op (ok_mul (mul_r (by decide))) (Ev.toB (vr 1 n_law_mixed_k rfl)) (Ev.toB ev_int))))) eab_nil (fun _ => rfl)) (fun _ => rfl) (fun _ => rfl))) (Ev.toB ev_int)) (congrArg eI hsecond1)) (fun _ _ => rfl)) ?_
    obtain ⟨hnd4, h⟩ := need_ex h
    obtain ⟨third1, hthird1, h⟩ := set_ex h
    refine blk_cons (ρ1 := [some (.sh ((eL eI) script1)), some (.sh (eI k1)), some (.sh (eI j1)), some (.sh (eI first1)), some (.sh (eI second1)), some (.sh (eI third1))]) (sSet (d := eI third1) 5 s_law_mixed_third (Ev.to (ev_op (ok_mod (by decide)) (Ev.toB (cT g_law_mixed_int T.b_int bb_int (ok_intI (i := (((second1 * second1) + (second1 / 11)) + 40692))) (eab_cons (Ev.toB (ev_op ok_add (Ev.toB (ev_op ok_add (Ev.toB (ev_op (ok_mul hnd4) (Ev.toB (vr 4 n_law_mixed_second rfl)) (Ev.toB (vr 4 n_law_mixed_second rfl)))) (Ev.toB (ev_op (ok_fdiv (div_c (by decide))) (Ev.toB (vr 4 n_law_mixed_second rfl)) (Ev.toB ev_int))))) (Ev.toB ev_int))) eab_nil (fun _ => rfl)) (fun _ => rfl) (fun _ => rfl))) (Ev.toB ev_int)) (congrArg eI hthird1)) (fun _ _ => rfl)) ?_
    have h := Option.some.inj h
    subst h
    exact blk_ret (st_ret (ev_op (ok_mod (by decide)) (Ev.toB (ev_op (ok_fdiv (div_c (by decide))) (Ev.toB (vr 5 n_law_mixed_third rfl)) (Ev.toB ev_int))) (Ev.toB ev_int)))
abbrev LV_law_row : Nat := 3
abbrev LW_law_row : Nat := 4
def C_law_row : SC := ⟨["script", "many", "big", "row", "k"], defScope (topS 5), fun _ => true⟩
theorem FS_law_row : FnScope C_law_row.N ["script", "many"] (defScope (topS 5)) := ⟨rfl, rfl, rfl, by decide +kernel, rfl, by decide +kernel, by decide +kernel⟩
theorem s_law_row_big : NmS C_law_row 2 "big" := nms (by decide +kernel)
theorem g_law_row_len : Gn C_law_row "len" := gn (by decide +kernel)
theorem n_law_row_script : Nm C_law_row 0 "script" := nm (by decide +kernel)
theorem s_law_row_row : NmS C_law_row 3 "row" := nms (by decide +kernel)
theorem n_law_row_many : Nm C_law_row 1 "many" := nm (by decide +kernel)
theorem g_law_row_range : Gn C_law_row "range" := gn (by decide +kernel)
theorem s_law_row_k : NmS C_law_row 4 "k" := nms (by decide +kernel)
theorem n_law_row_big : Nm C_law_row 2 "big" := nm (by decide +kernel)
theorem g_law_row_int : Gn C_law_row "int" := gn (by decide +kernel)
theorem n_law_row_row : Nm C_law_row 3 "row" := nm (by decide +kernel)
theorem g_law_row_law_mixed : Gn C_law_row "_law_mixed" := gn (by decide +kernel)
theorem n_law_row_k : Nm C_law_row 4 "k" := nm (by decide +kernel)
theorem ok_law_row {G : Gb} (T : Facts G) {script1 : (List Int)} {many1 : Int} {r : (List Int)} (h : law_row_m script1 many1 = some r) : Fn G LW_law_row "_law_row" [(eL eI) script1, eI many1] ((eL eI) r) := by
  unfold law_row_m at h
  refine fn_def T.f_law_row FS_law_row rfl (r := .rt ((eL eI) r)) ?_ .rt
  show Blk G C_law_row _ [some (.sh ((eL eI) script1)), some (.sh (eI many1)), none, none, none] _ _
  obtain ⟨big1, hbig1, h⟩ := set_ex h
  refine blk_cons (ρ1 := [some (.sh ((eL eI) script1)), some (.sh (eI many1)), some (.sh (eI big1)), none, none]) (sSet (d := eI big1) 2 s_law_row_big (Ev.to ev_int (congrArg eI hbig1)) (fun _ _ => rfl)) ?_
  obtain ⟨b1, hb1, h⟩ := bind_ex h
  obtain ⟨j1, hj1, h⟩ := bind_ex h
  refine blk_cons (ρ1 := [some (.sh ((eL eI) script1)), some (.sh (eI many1)), some (.sh (eI j1)), none, none]) (st_ifJ hj1 (Tw.te (tw_andO hb1 (te_cmp (ok_gt (i := ((script1).length : Int)) (j := 0)) (Ev.toB (cB g_law_row_len T.b_len bb_len (ok_lenL script1) (eab_cons (Ev.toB (vr 0 n_law_row_script rfl)) eab_nil (fun _ => rfl)) (fun _ => rfl) (fun _ => rfl))) (Ev.toB ev_int) rfl) (fun h => by (obtain ⟨x1, hx1, h⟩ := bind_ex h; have h := Option.some.inj h; subst h; exact (tw_and1 (te_cmp (ok_ge (i := x1) (j := 1000000000000000000)) (Ev.toB (ev_ix (Ev.toB (vr 0 n_law_row_script rfl)) (Ev.toB ev_int) (atI_map eI hx1) (fun _ _ => rfl))) (Ev.toB (Ev.to (ev_op (ok_pow (by decide)) (Ev.toB ev_int) (Ev.toB ev_int)) (congrArg PyData.int (by decide)))) rfl)))))) ?_ ?_) ?_
  · intro h
    obtain ⟨x3, hx3, h⟩ := bind_ex h
    obtain ⟨big2, hbig2, h⟩ := set_ex h
    refine blk_cons (ρ1 := [some (.sh ((eL eI) script1)), some (.sh (eI many1)), some (.sh (eI big2)), none, none]) (sSet (d := eI big2) 2 s_law_row_big (Ev.to (ev_ix (Ev.toB (vr 0 n_law_row_script rfl)) (Ev.toB ev_int) (atI_map eI hx3) (fun _ _ => rfl)) (congrArg eI hbig2)) (fun _ _ => rfl)) ?_
    have h := Option.some.inj h
    subst h
    exact Blk.out blk_nil (.nx (.keep (.keep (.keep (.keep (.keep .nil))))))
  · intro h
    have h := Option.some.inj h
    subst h
    exact Blk.out blk_nil (.nx (.keep (.keep (.keep (.keep (.keep .nil))))))
  · obtain ⟨row1, hrow1, h⟩ := set_ex h
    refine blk_cons (ρ1 := [some (.sh ((eL eI) script1)), some (.sh (eI many1)), some (.sh (eI j1)), some (.ow ((eL eI) row1)), none]) (sOwn (d := (eL eI) row1) 3 s_law_row_row (EvN.to (evn_lst ea_nil (le_sz (by decide : 0 ≤ 100000))) (congrArg (eL eI) hrow1)) (fun _ _ => rfl)) ?_
    obtain ⟨hnd1, h⟩ := need_ex h
    obtain ⟨s2, hs2, h⟩ := bind_ex h
    refine blk_cons (ρ1 := [some (.sh ((eL eI) script1)), some (.sh (eI many1)), some (.sh (eI s2.2)), some (.ow ((eL eI) s2.1)), none]) (st_for (iR1 g_law_row_range T.b_range (Ev.toB (vr 1 n_law_row_many rfl)) hnd1 (fun _ => rfl)) (for_s (R := (fun (s1 : ((List Int) × Int)) => ([some (.sh ((eL eI) script1)), some (.sh (eI many1)), some (.sh (eI s1.2)), some (.ow ((eL eI) s1.1)), none] : PEnv))) (ea := eI) (step := (law_row_l1 script1)) ?_ _ _ _ hs2) (fun _ _ => rfl)) ?_
    · intro s1 x4 o h
      unfold law_row_l1 at h
      refine ⟨_, [some (.sh ((eL eI) script1)), some (.sh (eI many1)), some (.sh (eI s1.2)), some (.ow ((eL eI) s1.1)), some (.sh (eI x4))], (tN 4 s_law_row_k), ?_⟩
      obtain ⟨j2, hj2, h⟩ := bind_ex h
      refine blk_cons (ρ1 := [some (.sh ((eL eI) script1)), some (.sh (eI many1)), some (.sh (eI j2.2)), some (.ow ((eL eI) j2.1)), some (.sh (eI x4))]) (st_ifJ hj2 (te_cmp (ok_gt (i := s1.2) (j := 0)) (Ev.toB (vr 2 n_law_row_big rfl)) (Ev.toB ev_int) rfl) ?_ ?_) ?_
      · intro h
        obtain ⟨hnd2, h⟩ := need_ex h
        obtain ⟨row2, hrow2, h⟩ := set_ex h
        refine blk_cons (ρ1 := [some (.sh ((eL eI) script1)), some (.sh (eI many1)), some (.sh (eI s1.2)), some (.ow ((eL eI) row2)), some (.sh (eI x4))]) (sAppX (f := eI) (xs := s1.1) (v := (s1.2 % 1000)) hrow2 3 n_law_row_row rfl (ev_op (ok_mod (by decide)) (Ev.toB (cT g_law_row_int T.b_int bb_int (ok_intI (i := s1.2)) (eab_cons (Ev.toB (vr 2 n_law_row_big rfl)) eab_nil (fun _ => rfl)) (fun _ => rfl) (fun _ => rfl))) (Ev.toB ev_int)) hnd2 (fun _ => rfl) (fun _ => rfl) (fun _ => rfl) rfl) ?_
        obtain ⟨big3, hbig3, h⟩ := set_ex h
        refine blk_cons (ρ1 := [some (.sh ((eL eI) script1)), some (.sh (eI many1)), some (.sh (eI big3)), some (.ow ((eL eI) row2)), some (.sh (eI x4))]) (sSet (d := eI big3) 2 s_law_row_big (Ev.to (ev_op (ok_fdiv (div_c (by decide))) (Ev.toB (vr 2 n_law_row_big rfl)) (Ev.toB ev_int)) (congrArg eI hbig3)) (fun _ _ => rfl)) ?_
        have h := Option.some.inj h
        subst h
        exact Blk.out blk_nil (.nx (.keep (.keep (.keep (.keep (.keep .nil))))))
      · intro h
        obtain ⟨law_mi1, hlaw_mi1, h⟩ := bind_ex h
        obtain ⟨hnd3, h⟩ := need_ex h
        obtain ⟨row3, hrow3, h⟩ := set_ex h
        refine blk_cons (ρ1 := [some (.sh ((eL eI) script1)), some (.sh (eI many1)), some (.sh (eI s1.2)), some (.ow ((eL eI) row3)), some (.sh (eI x4))]) (sAppX (f := eI) (xs := s1.1) (v := law_mi1) hrow3 3 n_law_row_row rfl (cF g_law_row_law_mixed (ok_law_mixed T hlaw_mi1) (by decide : LW_law_mixed ≤ LV_law_row) (ea_cons (vr 0 n_law_row_script rfl) (ea_cons (vr 4 n_law_row_k rfl) ea_nil (fun _ => rfl)) (fun _ => rfl)) (fun _ => rfl) (fun _ => rfl)) hnd3 (fun _ => rfl) (fun _ => rfl) (fun _ => rfl) rfl) ?_
        have h := Option.some.inj h
        subst h
        exact Blk.out blk_nil (.nx (.keep (.keep (.keep (.keep (.keep .nil))))))
      · have h := Option.some.inj h
        subst h
        exact Blk.out blk_nil (.nx (.keep (.keep (.keep (.keep (.drop .nil))))))
    · refine Blk.weak (ρ1 := [some (.sh ((eL eI) script1)), some (.sh (eI many1)), some (.sh (eI s2.2)), some (.sh ((eL eI) s2.1)), none]) ?_ (.keep (.keep (.keep (.frz (.keep .nil)))))
      have h := Option.some.inj h
      subst h
      exact blk_ret (st_ret (vr 3 n_law_row_row rfl))
abbrev LV_law_back : Nat := 1
abbrev LW_law_back : Nat := 2
def C_law_back : SC := ⟨["numbers", "number"], defScope (topS 9), fun _ => true⟩
theorem FS_law_back : FnScope C_law_back.N ["numbers"] (defScope (topS 9)) := ⟨rfl, rfl, rfl, by decide +kernel, rfl, by decide +kernel, by decide +kernel⟩
theorem n_law_back_numbers : Nm C_law_back 0 "numbers" := nm (by decide +kernel)
theorem ok_law_back {G : Gb} (T : Facts G) {numbers1 : (List Int)} {r : Str} (h : law_back_m numbers1 = some r) : Fn G LW_law_back "_law_back" [(eL eI) numbers1] (eS r) := by
  unfold law_back_m at h
  refine fn_def T.f_law_back FS_law_back rfl (r := .rt (eS r)) ?_ .rt
  show Blk G C_law_back _ [some (.sh ((eL eI) numbers1)), none] _ _
  obtain ⟨ys1, hys1, h⟩ := bind_ex h
  obtain ⟨hnd2, h⟩ := need_ex h
  have h := Option.some.inj h
  subst h
  exact blk_ret (st_ret (ev_joinL (z := ("" : Str)) (ys := ys1) (Ev.toB ev_str) (Ev.toB (EvN.ev (nLc [("number", 1)] (by decide +kernel) (It'.toB (it_list (vr 0 n_law_back_numbers rfl))) (lcr_map (ea := eI) (eb := eS) (fun z1 : Int => (need (SzOk (("abcdefghijklmnopqrstuvwxyz" : Str)).length) <| Option.bind (idx (("abcdefghijklmnopqrstuvwxyz" : Str)).cps.toList (z1 % 26)) fun x1 => some (⟨#[x1]⟩ : Str))) (fun z1 y h => by (obtain ⟨hnd1, h⟩ := need_ex h; obtain ⟨x1, hx1, h⟩ := bind_ex h; have h := Option.some.inj h; subst h; exact step_one (by decide) (tN 1 (nms (by decide +kernel))) (ev_ixS (Ev.toB ev_str) (Ev.toB (ev_op (ok_mod (by decide)) (Ev.toB (cT (gn (by decide +kernel)) T.b_int bb_int (ok_intI (i := z1)) (eab_cons (Ev.toB (vr 1 (nm (by decide +kernel)) rfl)) eab_nil (fun _ => rfl)) (fun _ => rfl) (fun _ => rfl))) (Ev.toB ev_int))) hnd1.z hx1 (fun _ _ => rfl)))) _ _ hys1) (zz_fil (Nat.le_of_eq (mapO_len hys1))) (fun _ _ => rfl)))) hnd2 (fun _ => rfl) (fun _ => rfl) rfl))
abbrev LV_law_text : Nat := 3
abbrev LW_law_text : Nat := 4
def C_law_text : SC := ⟨["row", "at", "count", "k"], defScope (topS 10), fun _ => true⟩
theorem FS_law_text : FnScope C_law_text.N ["row", "at", "count"] (defScope (topS 10)) := ⟨rfl, rfl, rfl, by decide +kernel, rfl, by decide +kernel, by decide +kernel⟩
theorem g_law_text_law_back : Gn C_law_text "_law_back" := gn (by decide +kernel)
theorem n_law_text_count : Nm C_law_text 2 "count" := nm (by decide +kernel)
theorem g_law_text_range : Gn C_law_text "range" := gn (by decide +kernel)
theorem ok_law_text {G : Gb} (T : Facts G) {row1 : (List Int)} {at_p1 : Int} {count1 : Int} {r : Str} (h : law_text_m row1 at_p1 count1 = some r) : Fn G LW_law_text "_law_text" [(eL eI) row1, eI at_p1, eI count1] (eS r) := by
  unfold law_text_m at h
  refine fn_def T.f_law_text FS_law_text rfl (r := .rt (eS r)) ?_ .rt
  show Blk G C_law_text _ [some (.sh ((eL eI) row1)), some (.sh (eI at_p1)), some (.sh (eI count1)), none] _ _
  obtain ⟨hnd1, h⟩ := need_ex h
  obtain ⟨ys1, hys1, h⟩ := bind_ex h
  obtain ⟨law_ba1, hlaw_ba1, h⟩ := bind_ex h
  have h := Option.some.inj h
  subst h
  exact blk_ret (st_ret (cF g_law_text_law_back (ok_law_back T hlaw_ba1) (by decide : LW_law_back ≤ LV_law_text) (ea_cons (EvN.ev (nLc [("k", 3)] (by decide +kernel) (It'.toB (iR1 g_law_text_range T.b_range (Ev.toB (vr 2 n_law_text_count rfl)) hnd1 (fun _ => rfl))) (lcr_map (ea := eI) (eb := eI) (fun z1 : Int => (Option.bind (idx row1 (at_p1 + z1)) fun x1 => some x1)) (fun z1 y h => by (obtain ⟨x1, hx1, h⟩ := bind_ex h; have h := Option.some.inj h; subst h; exact step_one (by decide) (tN 3 (nms (by decide +kernel))) (cT (gn (by decide +kernel)) T.b_int bb_int (ok_intI (i := x1)) (eab_cons (Ev.toB (ev_ix (Ev.toB (vr 0 (nm (by decide +kernel)) rfl)) (Ev.toB (ev_op ok_add (Ev.toB (vr 1 (nm (by decide +kernel)) rfl)) (Ev.toB (vr 3 (nm (by decide +kernel)) rfl)))) (atI_map eI hx1) (fun _ _ => rfl))) eab_nil (fun _ => rfl)) (fun _ => rfl) (fun _ => rfl)))) _ _ hys1) (zz_rg hnd1 (Nat.le_of_eq (mapO_len hys1))) (fun _ _ => rfl))) ea_nil (fun _ => rfl)) (fun _ => rfl) (fun _ => rfl)))
abbrev LV_law_order : Nat := 1
abbrev LW_law_order : Nat := 2
def C_law_order : SC := ⟨["row", "at", "n", "left", "found", "k", "one", "other"], defScope (topS 11), fun _ => true⟩
theorem FS_law_order : FnScope C_law_order.N ["row", "at", "n"] (defScope (topS 11)) := ⟨rfl, rfl, rfl, by decide +kernel, rfl, by decide +kernel, by decide +kernel⟩
theorem g_law_order_list : Gn C_law_order "list" := gn (by decide +kernel)
theorem n_law_order_n : Nm C_law_order 2 "n" := nm (by decide +kernel)
theorem g_law_order_range : Gn C_law_order "range" := gn (by decide +kernel)
theorem l_law_order_left : NmL C_law_order 3 "left" := nml (by decide +kernel)
theorem l_law_order_found : NmL C_law_order 4 "found" := nml (by decide +kernel)
theorem s_law_order_k : NmS C_law_order 5 "k" := nms (by decide +kernel)
theorem n_law_order_left : Nm C_law_order 3 "left" := nm (by decide +kernel)
theorem g_law_order_int : Gn C_law_order "int" := gn (by decide +kernel)
theorem n_law_order_row : Nm C_law_order 0 "row" := nm (by decide +kernel)
theorem n_law_order_at_p : Nm C_law_order 1 "at" := nm (by decide +kernel)
theorem n_law_order_k : Nm C_law_order 5 "k" := nm (by decide +kernel)
theorem g_law_order_len : Gn C_law_order "len" := gn (by decide +kernel)
theorem s_law_order_one : NmS C_law_order 6 "one" := nms (by decide +kernel)
theorem n_law_order_one : Nm C_law_order 6 "one" := nm (by decide +kernel)
theorem n_law_order_found : Nm C_law_order 4 "found" := nm (by decide +kernel)
theorem ok_law_order {G : Gb} (T : Facts G) {row1 : (List Int)} {at_p1 : Int} {n1 : Int} {r : (List Int)} (h : law_order_m row1 at_p1 n1 = some r) : Fn G LW_law_order "_law_order" [(eL eI) row1, eI at_p1, eI n1] ((eL eI) r) := by
  unfold law_order_m at h
  refine fn_def T.f_law_order FS_law_order rfl (r := .rt ((eL eI) r)) ?_ .rt
  show Blk G C_law_order _ [some (.sh ((eL eI) row1)), some (.sh (eI at_p1)), some (.sh (eI n1)), none, none, none, none, none] _ _
  obtain ⟨hnd1, h⟩ := need_ex h
  obtain ⟨left1, hleft1, h⟩ := set_ex h
  obtain ⟨found1, hfound1, h⟩ := set_ex h
  refine blk_cons (ρ1 := [some (.sh ((eL eI) row1)), some (.sh (eI at_p1)), some (.sh (eI n1)), some (.sh ((eL eI) left1)), some (.ow ((eL eI) found1)), none, none, none]) (st_par (i := 3) (j := 4) l_law_order_left.hi l_law_order_found.hi (by decide) l_law_order_left.hl l_law_order_found.hl (Ev.s (Ev.to (EvN.ev (nRg1 g_law_order_list T.b_list g_law_order_range T.b_range (Ev.toB (vr 2 n_law_order_n rfl)) hnd1 (fun _ => rfl) (fun _ => rfl))) (congrArg (eL eI) hleft1))) (EvN.s (EvN.to (evn_lst ea_nil (le_sz (by decide : 0 ≤ 100000))) (congrArg (eL eI) hfound1))) (fun env h => swp_sc env h (by kernel_rfl)) (fun _ => rfl) (fun _ => rfl) (fun _ => rfl)) ?_
  obtain ⟨hnd2, h⟩ := need_ex h
  obtain ⟨s2, hs2, h⟩ := bind_ex h
  refine blk_cons (ρ1 := [some (.sh ((eL eI) row1)), some (.sh (eI at_p1)), some (.sh (eI n1)), some (.sh ((eL eI) s2.2)), some (.ow ((eL eI) s2.1)), none, none, none]) (st_for (iR1 g_law_order_range T.b_range (Ev.toB (vr 2 n_law_order_n rfl)) hnd2 (fun _ => rfl)) (for_s (R := (fun (s1 : ((List Int) × (List Int))) => ([some (.sh ((eL eI) row1)), some (.sh (eI at_p1)), some (.sh (eI n1)), some (.sh ((eL eI) s1.2)), some (.ow ((eL eI) s1.1)), none, none, none] : PEnv))) (ea := eI) (step := (law_order_l1 row1 at_p1)) ?_ _ _ _ hs2) (fun _ _ => rfl)) ?_
  · intro s1 x1 o h
    unfold law_order_l1 at h
    refine ⟨_, [some (.sh ((eL eI) row1)), some (.sh (eI at_p1)), some (.sh (eI n1)), some (.sh ((eL eI) s1.2)), some (.ow ((eL eI) s1.1)), some (.sh (eI x1)), none, none], (tN 5 s_law_order_k), ?_⟩
    obtain ⟨x2, hx2, h⟩ := bind_ex h
    obtain ⟨hnd3, h⟩ := need_ex h
    obtain ⟨x3, hx3, h⟩ := bind_ex h
    obtain ⟨one1, hone1, h⟩ := set_ex h
    refine blk_cons (ρ1 := [some (.sh ((eL eI) row1)), some (.sh (eI at_p1)), some (.sh (eI n1)), some (.sh ((eL eI) s1.2)), some (.ow ((eL eI) s1.1)), some (.sh (eI x1)), some (.sh (eI one1)), none]) (sSet (d := eI one1) 6 s_law_order_one (Ev.to (ev_ix (Ev.toB (vr 3 n_law_order_left rfl)) (Ev.toB (ev_op (ok_mod hnd3) (Ev.toB (cT g_law_order_int T.b_int bb_int (ok_intI (i := x2)) (eab_cons (Ev.toB (ev_ix (Ev.toB (vr 0 n_law_order_row rfl)) (Ev.toB (ev_op ok_add (Ev.toB (vr 1 n_law_order_at_p rfl)) (Ev.toB (vr 5 n_law_order_k rfl)))) (atI_map eI hx2) (fun _ _ => rfl))) eab_nil (fun _ => rfl)) (fun _ => rfl) (fun _ => rfl))) (Ev.toB (cB g_law_order_len T.b_len bb_len (ok_lenL s1.2) (eab_cons (Ev.toB (vr 3 n_law_order_left rfl)) eab_nil (fun _ => rfl)) (fun _ => rfl) (fun _ => rfl))))) (atI_map eI hx3) (fun _ _ => rfl)) (congrArg eI hone1)) (fun _ _ => rfl)) ?_
    obtain ⟨hnd4, h⟩ := need_ex h
    obtain ⟨found2, hfound2, h⟩ := set_ex h
    refine blk_cons (ρ1 := [some (.sh ((eL eI) row1)), some (.sh (eI at_p1)), some (.sh (eI n1)), some (.sh ((eL eI) s1.2)), some (.ow ((eL eI) found2)), some (.sh (eI x1)), some (.sh (eI one1)), none]) (sAppX (f := eI) (xs := s1.1) (v := one1) hfound2 4 n_law_order_found rfl (vr 6 n_law_order_one rfl) hnd4 (fun _ => rfl) (fun _ => rfl) (fun _ => rfl) rfl) ?_
    obtain ⟨left2, hleft2, h⟩ := set_ex h
    refine blk_cons (ρ1 := [some (.sh ((eL eI) row1)), some (.sh (eI at_p1)), some (.sh (eI n1)), some (.sh ((eL eI) left2)), some (.ow ((eL eI) found2)), some (.sh (eI x1)), some (.sh (eI one1)), none]) (sLcS 3 l_law_order_left [("other", 7)] (swp_local (by decide +kernel)) (by decide +kernel) (It'.toB (it_list (vr 3 n_law_order_left rfl))) (LcR.to (lcr_filT (ea := eI) (eb := eI) (fun z2 : Int => (decide (z2 ≠ one1))) (fun z2 : Int => z2) (fun z2 => step_if (by decide) (tN 7 (nms (by decide +kernel))) (te_cmp (ok_neI (i := z2) (j := one1)) (Ev.toB (vr 7 (nm (by decide +kernel)) rfl)) (Ev.toB (vr 6 (nm (by decide +kernel)) rfl)) rfl) (fun _ => (vr 7 (nm (by decide +kernel)) rfl))) _) (congrArg (List.map eI) hleft2)) (zz_to hleft2 (zz_fil (len_f _ _ _))) (fun _ _ => rfl)) ?_
    have h := Option.some.inj h
    subst h
    exact Blk.out blk_nil (.nx (.keep (.keep (.keep (.keep (.keep (.drop (.drop (.keep .nil)))))))))
  · refine Blk.weak (ρ1 := [some (.sh ((eL eI) row1)), some (.sh (eI at_p1)), some (.sh (eI n1)), some (.sh ((eL eI) s2.2)), some (.sh ((eL eI) s2.1)), none, none, none]) ?_ (.keep (.keep (.keep (.keep (.frz (.keep (.keep (.keep .nil))))))))
    have h := Option.some.inj h
    subst h
    exact blk_ret (st_ret (vr 4 n_law_order_found rfl))
abbrev LV_law_grid : Nat := 1
abbrev LW_law_grid : Nat := 2
def C_law_grid : SC := ⟨["text", "order", "found", "column", "k"], defScope (topS 12), fun _ => true⟩
theorem FS_law_grid : FnScope C_law_grid.N ["text", "order"] (defScope (topS 12)) := ⟨rfl, rfl, rfl, by decide +kernel, rfl, by decide +kernel, by decide +kernel⟩
theorem s_law_grid_found : NmS C_law_grid 2 "found" := nms (by decide +kernel)
theorem n_law_grid_order : Nm C_law_grid 1 "order" := nm (by decide +kernel)
theorem s_law_grid_column : NmS C_law_grid 3 "column" := nms (by decide +kernel)
theorem g_law_grid_len : Gn C_law_grid "len" := gn (by decide +kernel)
theorem n_law_grid_text : Nm C_law_grid 0 "text" := nm (by decide +kernel)
theorem g_law_grid_range : Gn C_law_grid "range" := gn (by decide +kernel)
theorem s_law_grid_k : NmS C_law_grid 4 "k" := nms (by decide +kernel)
theorem g_law_grid_int : Gn C_law_grid "int" := gn (by decide +kernel)
theorem n_law_grid_k : Nm C_law_grid 4 "k" := nm (by decide +kernel)
theorem n_law_grid_column : Nm C_law_grid 3 "column" := nm (by decide +kernel)
theorem n_law_grid_found : Nm C_law_grid 2 "found" := nm (by decide +kernel)
theorem ok_law_grid {G : Gb} (T : Facts G) {text1 : Str} {order1 : (List Int)} {r : Str} (h : law_grid_m text1 order1 = some r) : Fn G LW_law_grid "_law_grid" [eS text1, (eT eI) order1] (eS r) := by
  unfold law_grid_m at h
  refine fn_def T.f_law_grid FS_law_grid rfl (r := .rt (eS r)) ?_ .rt
  show Blk G C_law_grid _ [some (.sh (eS text1)), some (.sh ((eT eI) order1)), none, none, none] _ _
  obtain ⟨found1, hfound1, h⟩ := set_ex h
  refine blk_cons (ρ1 := [some (.sh (eS text1)), some (.sh ((eT eI) order1)), some (.sh (eS found1)), none, none]) (sSet (d := eS found1) 2 s_law_grid_found (Ev.to ev_str (congrArg eS hfound1)) (fun _ _ => rfl)) ?_
  obtain ⟨s4, hs4, h⟩ := bind_ex h
  refine blk_cons (ρ1 := [some (.sh (eS text1)), some (.sh ((eT eI) order1)), some (.sh (eS s4)), none, none]) (st_for (it_tup (vr 1 n_law_grid_order rfl)) (for_s (R := (fun (s1 : (Str)) => ([some (.sh (eS text1)), some (.sh ((eT eI) order1)), some (.sh (eS s1)), none, none] : PEnv))) (ea := eI) (step := (law_grid_l2 text1 order1)) ?_ _ _ _ hs4) (fun _ _ => rfl)) ?_
  · intro s1 x1 o h
    unfold law_grid_l2 at h
    refine ⟨_, [some (.sh (eS text1)), some (.sh ((eT eI) order1)), some (.sh (eS s1)), some (.sh (eI x1)), none], (tN 3 s_law_grid_column), ?_⟩
    obtain ⟨hnd1, h⟩ := need_ex h
    obtain ⟨hnd2, h⟩ := need_ex h
    obtain ⟨s3, hs3, h⟩ := bind_ex h
    refine blk_cons (ρ1 := [some (.sh (eS text1)), some (.sh ((eT eI) order1)), some (.sh (eS s3)), some (.sh (eI x1)), none]) (st_for (iR1 g_law_grid_range T.b_range (Ev.toB (cB g_law_grid_len T.b_len bb_len (ok_lenS hnd1) (eab_cons (Ev.toB (vr 0 n_law_grid_text rfl)) eab_nil (fun _ => rfl)) (fun _ => rfl) (fun _ => rfl))) hnd2 (fun _ => rfl)) (for_s (R := (fun (s2 : (Str)) => ([some (.sh (eS text1)), some (.sh ((eT eI) order1)), some (.sh (eS s2)), some (.sh (eI x1)), none] : PEnv))) (ea := eI) (step := (law_grid_l1 text1 order1 x1)) ?_ _ _ _ hs3) (fun _ _ => rfl)) ?_
    · intro s2 x2 o h
      unfold law_grid_l1 at h
      refine ⟨_, [some (.sh (eS text1)), some (.sh ((eT eI) order1)), some (.sh (eS s2)), some (.sh (eI x1)), some (.sh (eI x2))], (tN 4 s_law_grid_k), ?_⟩
      obtain ⟨hnd3, h⟩ := need_ex h
      obtain ⟨j1, hj1, h⟩ := bind_ex h
      refine blk_cons (ρ1 := [some (.sh (eS text1)), some (.sh ((eT eI) order1)), some (.sh (eS j1)), some (.sh (eI x1)), some (.sh (eI x2))]) (st_ifJ hj1 (te_cmp (ok_eqI (i := (x2 % ((order1).length : Int))) (j := x1)) (Ev.toB (ev_op (ok_mod hnd3) (Ev.toB (cT g_law_grid_int T.b_int bb_int (ok_intI (i := x2)) (eab_cons (Ev.toB (vr 4 n_law_grid_k rfl)) eab_nil (fun _ => rfl)) (fun _ => rfl) (fun _ => rfl))) (Ev.toB (cB g_law_grid_len T.b_len bb_len (ok_lenT order1) (eab_cons (Ev.toB (vr 1 n_law_grid_order rfl)) eab_nil (fun _ => rfl)) (fun _ => rfl) (fun _ => rfl))))) (Ev.toB (vr 3 n_law_grid_column rfl)) rfl) ?_ ?_) ?_
      · intro h
        obtain ⟨hnd6, h⟩ := need_ex h
        obtain ⟨x4, hx4, h⟩ := bind_ex h
        obtain ⟨hnd7, h⟩ := need_ex h
        obtain ⟨found2, hfound2, h⟩ := set_ex h
        refine blk_cons (ρ1 := [some (.sh (eS text1)), some (.sh ((eT eI) order1)), some (.sh (eS found2)), some (.sh (eI x1)), some (.sh (eI x2))]) (sSet (d := eS found2) 2 s_law_grid_found (Ev.to (ev_op (ok_catS hnd7.z) (Ev.toB (vr 2 n_law_grid_found rfl)) (Ev.toB (ev_ixS (Ev.toB (vr 0 n_law_grid_text rfl)) (Ev.toB (vr 4 n_law_grid_k rfl)) hnd6.z hx4 (fun _ _ => rfl)))) (congrArg eS hfound2)) (fun _ _ => rfl)) ?_
        have h := Option.some.inj h
        subst h
        exact Blk.out blk_nil (.nx (.keep (.keep (.keep (.keep (.keep .nil))))))
      · intro h
        have h := Option.some.inj h
        subst h
        exact Blk.out blk_nil (.nx (.keep (.keep (.keep (.keep (.keep .nil))))))
      · have h := Option.some.inj h
        subst h
        exact Blk.out blk_nil (.nx (.keep (.keep (.keep (.keep (.drop .nil))))))
    · have h := Option.some.inj h
      subst h
      exact Blk.out blk_nil (.nx (.keep (.keep (.keep (.drop (.keep .nil))))))
  · have h := Option.some.inj h
    subst h
    exact blk_ret (st_ret (vr 2 n_law_grid_found rfl))
abbrev LV_law : Nat := 5
abbrev LW_law : Nat := 6
def C_law : SC := ⟨["script", "row", "text", "one", "two", "hidden", "both", "high", "wide", "full", "turned", "k"], defScope (topS 13), fun _ => true⟩
theorem FS_law : FnScope C_law.N ["script"] (defScope (topS 13)) := ⟨rfl, rfl, rfl, by decide +kernel, rfl, by decide +kernel, by decide +kernel⟩
theorem g_law_law_row : Gn C_law "_law_row" := gn (by decide +kernel)
theorem n_law_script : Nm C_law 0 "script" := nm (by decide +kernel)
theorem s_law_row : NmS C_law 1 "row" := nms (by decide +kernel)
theorem g_law_law_text : Gn C_law "_law_text" := gn (by decide +kernel)
theorem n_law_row : Nm C_law 1 "row" := nm (by decide +kernel)
theorem g_law_int : Gn C_law "int" := gn (by decide +kernel)
theorem s_law_text : NmS C_law 2 "text" := nms (by decide +kernel)
theorem g_law_tuple : Gn C_law "tuple" := gn (by decide +kernel)
theorem g_law_law_order : Gn C_law "_law_order" := gn (by decide +kernel)
theorem l_law_one : NmL C_law 3 "one" := nml (by decide +kernel)
theorem l_law_two : NmL C_law 4 "two" := nml (by decide +kernel)
theorem g_law_gridded : Gn C_law "gridded" := gn (by decide +kernel)
theorem n_law_text : Nm C_law 2 "text" := nm (by decide +kernel)
theorem n_law_one : Nm C_law 3 "one" := nm (by decide +kernel)
theorem s_law_hidden : NmS C_law 5 "hidden" := nms (by decide +kernel)
theorem g_law_isinstance : Gn C_law "isinstance" := gn (by decide +kernel)
theorem n_law_hidden : Nm C_law 5 "hidden" := nm (by decide +kernel)
theorem g_law_str : Gn C_law "str" := gn (by decide +kernel)
theorem g_law_law_grid : Gn C_law "_law_grid" := gn (by decide +kernel)
theorem g_law_ungridded : Gn C_law "ungridded" := gn (by decide +kernel)
theorem n_law_two : Nm C_law 4 "two" := nm (by decide +kernel)
theorem g_law_sorted : Gn C_law "sorted" := gn (by decide +kernel)
theorem g_law_list : Gn C_law "list" := gn (by decide +kernel)
theorem s_law_both : NmS C_law 6 "both" := nms (by decide +kernel)
theorem n_law_both : Nm C_law 6 "both" := nm (by decide +kernel)
theorem s_law_high : NmS C_law 7 "high" := nms (by decide +kernel)
theorem s_law_wide : NmS C_law 8 "wide" := nms (by decide +kernel)
theorem n_law_high : Nm C_law 7 "high" := nm (by decide +kernel)
theorem n_law_wide : Nm C_law 8 "wide" := nm (by decide +kernel)
theorem s_law_full : NmS C_law 9 "full" := nms (by decide +kernel)
theorem n_law_full : Nm C_law 9 "full" := nm (by decide +kernel)
theorem g_law_range : Gn C_law "range" := gn (by decide +kernel)
theorem s_law_turned : NmS C_law 10 "turned" := nms (by decide +kernel)
theorem n_law_turned : Nm C_law 10 "turned" := nm (by decide +kernel)
theorem blk_law {G : Gb} (T : Facts G) {script1 : List Int} {r : Bool} (h : law_m script1 = some r) : Blk G C_law LV_law (startE C_law.N [eL eI script1]) (defBody (topS 13)) (.rt (eB r)) := by
  unfold law_m at h
  show Blk G C_law _ [some (.sh ((eL eI) script1)), none, none, none, none, none, none, none, none, none, none, none] _ _
  obtain ⟨law_ro1, hlaw_ro1, h⟩ := bind_ex h
  obtain ⟨row1, hrow1, h⟩ := set_ex h
  refine blk_cons (ρ1 := [some (.sh ((eL eI) script1)), some (.sh ((eL eI) row1)), none, none, none, none, none, none, none, none, none, none]) (sSet (d := (eL eI) row1) 1 s_law_row (Ev.to (cF g_law_law_row (ok_law_row T hlaw_ro1) (by decide : LW_law_row ≤ LV_law) (ea_cons (vr 0 n_law_script rfl) (ea_cons ev_int ea_nil (fun _ => rfl)) (fun _ => rfl)) (fun _ => rfl) (fun _ => rfl)) (congrArg (eL eI) hrow1)) (fun _ _ => rfl)) ?_
  obtain ⟨x1, hx1, h⟩ := bind_ex h
  obtain ⟨law_te1, hlaw_te1, h⟩ := bind_ex h
  obtain ⟨text1, htext1, h⟩ := set_ex h
  refine blk_cons (ρ1 := [some (.sh ((eL eI) script1)), some (.sh ((eL eI) row1)), some (.sh (eS text1)), none, none, none, none, none, none, none, none, none]) (sSet (d := eS text1) 2 s_law_text (Ev.to (cF g_law_law_text (ok_law_text T hlaw_te1) (by decide : LW_law_text ≤ LV_law) (ea_cons (vr 1 n_law_row rfl) (ea_cons ev_int (ea_cons (ev_op ok_add (Ev.toB ev_int) (Ev.toB (ev_op (ok_mod (by decide)) (Ev.toB (cT g_law_int T.b_int bb_int (ok_intI (i := x1)) (eab_cons (Ev.toB (ev_ix (Ev.toB (vr 1 n_law_row rfl)) (Ev.toB ev_int) (atI_map eI hx1) (fun _ _ => rfl))) eab_nil (fun _ => rfl)) (fun _ => rfl) (fun _ => rfl))) (Ev.toB ev_int)))) ea_nil (fun _ => rfl)) (fun _ => rfl)) (fun _ => rfl)) (fun _ => rfl) (fun _ => rfl)) (congrArg eS htext1)) (fun _ _ => rfl)) ?_
  obtain ⟨x2, hx2, h⟩ := bind_ex h
  obtain ⟨law_or1, hlaw_or1, h⟩ := bind_ex h
  obtain ⟨x3, hx3, h⟩ := bind_ex h
  obtain ⟨law_or2, hlaw_or2, h⟩ := bind_ex h
  obtain ⟨one1, hone1, h⟩ := set_ex h
  obtain ⟨two1, htwo1, h⟩ := set_ex h
  refine blk_cons (ρ1 := [some (.sh ((eL eI) script1)), some (.sh ((eL eI) row1)), some (.sh (eS text1)), some (.sh ((eT eI) one1)), some (.sh ((eT eI) two1)), none, none, none, none, none, none, none]) (st_par (i := 3) (j := 4) l_law_one.hi l_law_two.hi (by decide) l_law_one.hl l_law_two.hl (Ev.s (Ev.to (cT g_law_tuple T.b_tuple bb_tuple (ok_tupL law_or1) (eab_cons (Ev.toB (cF g_law_law_order (ok_law_order T hlaw_or1) (by decide : LW_law_order ≤ LV_law) (ea_cons (vr 1 n_law_row rfl) (ea_cons ev_int (ea_cons (ev_op ok_add (Ev.toB ev_int) (Ev.toB (ev_op (ok_mod (by decide)) (Ev.toB (cT g_law_int T.b_int bb_int (ok_intI (i := x2)) (eab_cons (Ev.toB (ev_ix (Ev.toB (vr 1 n_law_row rfl)) (Ev.toB ev_int) (atI_map eI hx2) (fun _ _ => rfl))) eab_nil (fun _ => rfl)) (fun _ => rfl) (fun _ => rfl))) (Ev.toB ev_int)))) ea_nil (fun _ => rfl)) (fun _ => rfl)) (fun _ => rfl)) (fun _ => rfl) (fun _ => rfl))) eab_nil (fun _ => rfl)) (fun _ => rfl) (fun _ => rfl)) (congrArg (eT eI) hone1))) (Ev.s (Ev.to (cT g_law_tuple T.b_tuple bb_tuple (ok_tupL law_or2) (eab_cons (Ev.toB (cF g_law_law_order (ok_law_order T hlaw_or2) (by decide : LW_law_order ≤ LV_law) (ea_cons (vr 1 n_law_row rfl) (ea_cons ev_int (ea_cons (ev_op ok_add (Ev.toB ev_int) (Ev.toB (ev_op (ok_mod (by decide)) (Ev.toB (cT g_law_int T.b_int bb_int (ok_intI (i := x3)) (eab_cons (Ev.toB (ev_ix (Ev.toB (vr 1 n_law_row rfl)) (Ev.toB ev_int) (atI_map eI hx3) (fun _ _ => rfl))) eab_nil (fun _ => rfl)) (fun _ => rfl) (fun _ => rfl))) (Ev.toB ev_int)))) ea_nil (fun _ => rfl)) (fun _ => rfl)) (fun _ => rfl)) (fun _ => rfl) (fun _ => rfl))) eab_nil (fun _ => rfl)) (fun _ => rfl) (fun _ => rfl)) (congrArg (eT eI) htwo1))) (fun env h => swp_sc env h (by kernel_rfl)) (fun _ => rfl) (fun _ => rfl) (fun _ => rfl)) ?_
  obtain ⟨gridde1, hgridde1, h⟩ := bind_ex h
  obtain ⟨hidden1, hhidden1, h⟩ := set_ex h
  refine blk_cons (ρ1 := [some (.sh ((eL eI) script1)), some (.sh ((eL eI) row1)), some (.sh (eS text1)), some (.sh ((eT eI) one1)), some (.sh ((eT eI) two1)), some (.sh (eS hidden1)), none, none, none, none, none, none]) (sSet (d := eS hidden1) 5 s_law_hidden (Ev.to (cF g_law_gridded (ok_gridded T hgridde1) (by decide : LW_gridded ≤ LV_law) (ea_cons (vr 2 n_law_text rfl) (ea_cons (vr 3 n_law_one rfl) ea_nil (fun _ => rfl)) (fun _ => rfl)) (fun _ => rfl) (fun _ => rfl)) (congrArg eS hhidden1)) (fun _ _ => rfl)) ?_
  obtain ⟨b2, hb2, h⟩ := bind_ex h
  refine blk_ifx h (Tw.te (tw_orO hb2 (te_not (te_val (Ev.toB (cIs g_law_isinstance T.b_isinstance g_law_str T.b_str bb_str (Ev.toB (vr 5 n_law_hidden rfl)) (show kitB "str" "str" = some true by decide +kernel) (fun _ => rfl))) (fun _ _ => rfl))) (fun h => by (obtain ⟨law_gr1, hlaw_gr1, h⟩ := bind_ex h; obtain ⟨b1, hb1, h⟩ := bind_ex h; have h := Option.some.inj h; subst h; exact (tw_orO hb1 (te_cmp (ok_neS (i := hidden1) (j := law_gr1)) (Ev.toB (vr 5 n_law_hidden rfl)) (Ev.toB (cF g_law_law_grid (ok_law_grid T hlaw_gr1) (by decide : LW_law_grid ≤ LV_law) (ea_cons (vr 2 n_law_text rfl) (ea_cons (vr 3 n_law_one rfl) ea_nil (fun _ => rfl)) (fun _ => rfl)) (fun _ => rfl) (fun _ => rfl))) rfl) (fun h => by (obtain ⟨ungrid1, hungrid1, h⟩ := bind_ex h; have h := Option.some.inj h; subst h; exact (tw_or1 (te_cmp (ok_neS (i := ungrid1) (j := text1)) (Ev.toB (cF g_law_ungridded (ok_ungridded T hungrid1) (by decide : LW_ungridded ≤ LV_law) (ea_cons (vr 5 n_law_hidden rfl) (ea_cons (vr 3 n_law_one rfl) ea_nil (fun _ => rfl)) (fun _ => rfl)) (fun _ => rfl) (fun _ => rfl))) (Ev.toB (vr 2 n_law_text rfl)) rfl))))))))) ?_ ?_
  · intro h
    have h := Option.some.inj h
    subst h
    exact blkx_ret (st_ret ev_bool)
  · intro h
    obtain ⟨ungrid2, hungrid2, h⟩ := bind_ex h
    obtain ⟨gridde2, hgridde2, h⟩ := bind_ex h
    obtain ⟨b3, hb3, h⟩ := bind_ex h
    refine blk_ifx h (Tw.te (tw_orO hb3 (te_cmp (ok_neS (i := gridde2) (j := text1)) (Ev.toB (cF g_law_gridded (ok_gridded T hgridde2) (by decide : LW_gridded ≤ LV_law) (ea_cons (cF g_law_ungridded (ok_ungridded T hungrid2) (by decide : LW_ungridded ≤ LV_law) (ea_cons (vr 2 n_law_text rfl) (ea_cons (vr 4 n_law_two rfl) ea_nil (fun _ => rfl)) (fun _ => rfl)) (fun _ => rfl) (fun _ => rfl)) (ea_cons (vr 4 n_law_two rfl) ea_nil (fun _ => rfl)) (fun _ => rfl)) (fun _ => rfl) (fun _ => rfl))) (Ev.toB (vr 2 n_law_text rfl)) rfl) (fun h => by (obtain ⟨hnd1, h⟩ := need_ex h; obtain ⟨hnd2, h⟩ := need_ex h; obtain ⟨hnd3, h⟩ := need_ex h; obtain ⟨hnd4, h⟩ := need_ex h; obtain ⟨hnd5, h⟩ := need_ex h; obtain ⟨hnd6, h⟩ := need_ex h; have h := Option.some.inj h; subst h; exact (tw_or1 (te_cmp (ok_neLS hnd5 hnd6) (Ev.toB (EvN.ev (nB g_law_sorted T.b_sorted bb_sorted (new_sortS (xs := (signsS hidden1)) hnd2) (eab_cons (Ev.toB (EvN.ev (nT g_law_list T.b_list bb_list (new_listS hnd1.z) (eab_cons (Ev.toB (vr 5 n_law_hidden rfl)) eab_nil (fun _ => rfl)) (fun _ => rfl) (fun _ => rfl)))) eab_nil (fun _ => rfl)) (fun _ => rfl) (fun _ => rfl)))) (Ev.toB (EvN.ev (nB g_law_sorted T.b_sorted bb_sorted (new_sortS (xs := (signsS text1)) hnd4) (eab_cons (Ev.toB (EvN.ev (nT g_law_list T.b_list bb_list (new_listS hnd3.z) (eab_cons (Ev.toB (vr 2 n_law_text rfl)) eab_nil (fun _ => rfl)) (fun _ => rfl) (fun _ => rfl)))) eab_nil (fun _ => rfl)) (fun _ => rfl) (fun _ => rfl)))) rfl)))))) ?_ ?_
    · intro h
      have h := Option.some.inj h
      subst h
      exact blkx_ret (st_ret ev_bool)
    · intro h
      obtain ⟨gridde3, hgridde3, h⟩ := bind_ex h
      obtain ⟨both1, hboth1, h⟩ := set_ex h
      refine blk_cons (ρ1 := [some (.sh ((eL eI) script1)), some (.sh ((eL eI) row1)), some (.sh (eS text1)), some (.sh ((eT eI) one1)), some (.sh ((eT eI) two1)), some (.sh (eS hidden1)), some (.sh (eS both1)), none, none, none, none, none]) (sSet (d := eS both1) 6 s_law_both (Ev.to (cF g_law_gridded (ok_gridded T hgridde3) (by decide : LW_gridded ≤ LV_law) (ea_cons (vr 5 n_law_hidden rfl) (ea_cons (vr 4 n_law_two rfl) ea_nil (fun _ => rfl)) (fun _ => rfl)) (fun _ => rfl) (fun _ => rfl)) (congrArg eS hboth1)) (fun _ _ => rfl)) ?_
      obtain ⟨law_gr2, hlaw_gr2, h⟩ := bind_ex h
      obtain ⟨b4, hb4, h⟩ := bind_ex h
      refine blk_ifx h (Tw.te (tw_orO hb4 (te_cmp (ok_neS (i := both1) (j := law_gr2)) (Ev.toB (vr 6 n_law_both rfl)) (Ev.toB (cF g_law_law_grid (ok_law_grid T hlaw_gr2) (by decide : LW_law_grid ≤ LV_law) (ea_cons (vr 5 n_law_hidden rfl) (ea_cons (vr 4 n_law_two rfl) ea_nil (fun _ => rfl)) (fun _ => rfl)) (fun _ => rfl) (fun _ => rfl))) rfl) (fun h => by (obtain ⟨ungrid3, hungrid3, h⟩ := bind_ex h; obtain ⟨ungrid4, hungrid4, h⟩ := bind_ex h; have h := Option.some.inj h; subst h; exact (tw_or1 (te_cmp (ok_neS (i := ungrid4) (j := text1)) (Ev.toB (cF g_law_ungridded (ok_ungridded T hungrid4) (by decide : LW_ungridded ≤ LV_law) (ea_cons (cF g_law_ungridded (ok_ungridded T hungrid3) (by decide : LW_ungridded ≤ LV_law) (ea_cons (vr 6 n_law_both rfl) (ea_cons (vr 4 n_law_two rfl) ea_nil (fun _ => rfl)) (fun _ => rfl)) (fun _ => rfl) (fun _ => rfl)) (ea_cons (vr 3 n_law_one rfl) ea_nil (fun _ => rfl)) (fun _ => rfl)) (fun _ => rfl) (fun _ => rfl))) (Ev.toB (vr 2 n_law_text rfl)) rfl)))))) ?_ ?_
      · intro h
        have h := Option.some.inj h
        subst h
        exact blkx_ret (st_ret ev_bool)
      · intro h
        obtain ⟨x4, hx4, h⟩ := bind_ex h
        obtain ⟨x5, hx5, h⟩ := bind_ex h
        obtain ⟨high1, hhigh1, h⟩ := set_ex h
        obtain ⟨wide1, hwide1, h⟩ := set_ex h
        refine blk_cons (ρ1 := [some (.sh ((eL eI) script1)), some (.sh ((eL eI) row1)), some (.sh (eS text1)), some (.sh ((eT eI) one1)), some (.sh ((eT eI) two1)), some (.sh (eS hidden1)), some (.sh (eS both1)), some (.sh (eI high1)), some (.sh (eI wide1)), none, none, none]) (st_unp2 s_law_high s_law_wide (Ev.s (Ev.to (ev_op ok_add (Ev.toB ev_int) (Ev.toB (ev_op (ok_mod (by decide)) (Ev.toB (cT g_law_int T.b_int bb_int (ok_intI (i := x4)) (eab_cons (Ev.toB (ev_ix (Ev.toB (vr 1 n_law_row rfl)) (Ev.toB ev_int) (atI_map eI hx4) (fun _ _ => rfl))) eab_nil (fun _ => rfl)) (fun _ => rfl) (fun _ => rfl))) (Ev.toB ev_int)))) (congrArg eI hhigh1))) (Ev.s (Ev.to (ev_op ok_add (Ev.toB ev_int) (Ev.toB (ev_op (ok_mod (by decide)) (Ev.toB (cT g_law_int T.b_int bb_int (ok_intI (i := x5)) (eab_cons (Ev.toB (ev_ix (Ev.toB (vr 1 n_law_row rfl)) (Ev.toB ev_int) (atI_map eI hx5) (fun _ _ => rfl))) eab_nil (fun _ => rfl)) (fun _ => rfl) (fun _ => rfl))) (Ev.toB ev_int)))) (congrArg eI hwide1))) (fun env h => swp_sc env h (by kernel_rfl)) (fun _ => rfl) (fun _ => rfl)) ?_
        obtain ⟨hnd7, h⟩ := need_ex h
        obtain ⟨law_te2, hlaw_te2, h⟩ := bind_ex h
        obtain ⟨full1, hfull1, h⟩ := set_ex h
        refine blk_cons (ρ1 := [some (.sh ((eL eI) script1)), some (.sh ((eL eI) row1)), some (.sh (eS text1)), some (.sh ((eT eI) one1)), some (.sh ((eT eI) two1)), some (.sh (eS hidden1)), some (.sh (eS both1)), some (.sh (eI high1)), some (.sh (eI wide1)), some (.sh (eS full1)), none, none]) (sSet (d := eS full1) 9 s_law_full (Ev.to (cF g_law_law_text (ok_law_text T hlaw_te2) (by decide : LW_law_text ≤ LV_law) (ea_cons (vr 1 n_law_row rfl) (ea_cons ev_int (ea_cons (ev_op (ok_mul hnd7) (Ev.toB (vr 7 n_law_high rfl)) (Ev.toB (vr 8 n_law_wide rfl))) ea_nil (fun _ => rfl)) (fun _ => rfl)) (fun _ => rfl)) (fun _ => rfl) (fun _ => rfl)) (congrArg eS hfull1)) (fun _ _ => rfl)) ?_
        obtain ⟨hnd8, h⟩ := need_ex h
        obtain ⟨gridde4, hgridde4, h⟩ := bind_ex h
        obtain ⟨turned1, hturned1, h⟩ := set_ex h
        refine blk_cons (ρ1 := [some (.sh ((eL eI) script1)), some (.sh ((eL eI) row1)), some (.sh (eS text1)), some (.sh ((eT eI) one1)), some (.sh ((eT eI) two1)), some (.sh (eS hidden1)), some (.sh (eS both1)), some (.sh (eI high1)), some (.sh (eI wide1)), some (.sh (eS full1)), some (.sh (eS turned1)), none]) (sSet (d := eS turned1) 10 s_law_turned (Ev.to (cF g_law_gridded (ok_gridded T hgridde4) (by decide : LW_gridded ≤ LV_law) (ea_cons (vr 9 n_law_full rfl) (ea_cons (eRgT1 g_law_tuple T.b_tuple g_law_range T.b_range (Ev.toB (vr 8 n_law_wide rfl)) hnd8 (fun _ => rfl) (fun _ => rfl)) ea_nil (fun _ => rfl)) (fun _ => rfl)) (fun _ => rfl) (fun _ => rfl)) (congrArg eS hturned1)) (fun _ _ => rfl)) ?_
        obtain ⟨hnd9, h⟩ := need_ex h
        obtain ⟨hnd10, h⟩ := need_ex h
        obtain ⟨ys1, hys1, h⟩ := bind_ex h
        obtain ⟨hnd15, h⟩ := need_ex h
        refine blk_ifx h (te_cmp (ok_neS (i := turned1) (j := (Txt.join ("" : Str) ys1))) (Ev.toB (vr 10 n_law_turned rfl)) (Ev.toB (ev_joinL (z := ("" : Str)) (ys := ys1) (Ev.toB ev_str) (Ev.toB (EvN.ev (nLc [("k", 11)] (by decide +kernel) (It'.toB (iR1 g_law_range T.b_range (Ev.toB (ev_op (ok_mul hnd9) (Ev.toB (vr 7 n_law_high rfl)) (Ev.toB (vr 8 n_law_wide rfl)))) hnd10 (fun _ => rfl))) (lcr_map (ea := eI) (eb := eS) (fun z1 : Int => (need (DivOk z1 high1) <| need (0 < high1) <| need (Pl.MulOk wide1 (z1 % high1)) <| need (SzOk (full1).length) <| Option.bind (idx (full1).cps.toList ((z1 / high1) + (wide1 * (z1 % high1)))) fun x6 => some (⟨#[x6]⟩ : Str))) (fun z1 y h => by (obtain ⟨hnd11, h⟩ := need_ex h; obtain ⟨hnd12, h⟩ := need_ex h; obtain ⟨hnd13, h⟩ := need_ex h; obtain ⟨hnd14, h⟩ := need_ex h; obtain ⟨x6, hx6, h⟩ := bind_ex h; have h := Option.some.inj h; subst h; exact step_one (by decide) (tN 11 (nms (by decide +kernel))) (ev_ixS (Ev.toB (vr 9 (nm (by decide +kernel)) rfl)) (Ev.toB (ev_op ok_add (Ev.toB (ev_op (ok_fdiv hnd11) (Ev.toB (cT (gn (by decide +kernel)) T.b_int bb_int (ok_intI (i := z1)) (eab_cons (Ev.toB (vr 11 (nm (by decide +kernel)) rfl)) eab_nil (fun _ => rfl)) (fun _ => rfl) (fun _ => rfl))) (Ev.toB (vr 7 (nm (by decide +kernel)) rfl)))) (Ev.toB (ev_op (ok_mul hnd13) (Ev.toB (vr 8 (nm (by decide +kernel)) rfl)) (Ev.toB (ev_op (ok_mod hnd12) (Ev.toB (cT (gn (by decide +kernel)) T.b_int bb_int (ok_intI (i := z1)) (eab_cons (Ev.toB (vr 11 (nm (by decide +kernel)) rfl)) eab_nil (fun _ => rfl)) (fun _ => rfl) (fun _ => rfl))) (Ev.toB (vr 7 (nm (by decide +kernel)) rfl)))))))) hnd14.z hx6 (fun _ _ => rfl)))) _ _ hys1) (zz_rg hnd10 (Nat.le_of_eq (mapO_len hys1))) (fun _ _ => rfl)))) hnd15 (fun _ => rfl) (fun _ => rfl) rfl)) rfl) ?_ ?_
        · intro h
          have h := Option.some.inj h
          subst h
          exact blkx_ret (st_ret ev_bool)
        · intro h
          obtain ⟨hnd16, h⟩ := need_ex h
          obtain ⟨gridde5, hgridde5, h⟩ := bind_ex h
          obtain ⟨b5, hb5, h⟩ := bind_ex h
          have h := Option.some.inj h
          subst h
          exact blk_ret (st_ret (ev_andO hb5 (ev_cmp (ok_eqS (i := gridde5) (j := full1)) (Ev.toB (cF g_law_gridded (ok_gridded T hgridde5) (by decide : LW_gridded ≤ LV_law) (ea_cons (vr 10 n_law_turned rfl) (ea_cons (eRgT1 g_law_tuple T.b_tuple g_law_range T.b_range (Ev.toB (vr 7 n_law_high rfl)) hnd16 (fun _ => rfl) (fun _ => rfl)) ea_nil (fun _ => rfl)) (fun _ => rfl)) (fun _ => rfl) (fun _ => rfl))) (Ev.toB (vr 9 n_law_full rfl)) rfl) (fun h => by (obtain ⟨hnd17, h⟩ := need_ex h; obtain ⟨ungrid5, hungrid5, h⟩ := bind_ex h; have h := Option.some.inj h; subst h; exact (ev_one (ev_cmp (ok_eqS (i := ungrid5) (j := full1)) (Ev.toB (cF g_law_ungridded (ok_ungridded T hungrid5) (by decide : LW_ungridded ≤ LV_law) (ea_cons (vr 10 n_law_turned rfl) (ea_cons (eRgT1 g_law_tuple T.b_tuple g_law_range T.b_range (Ev.toB (vr 8 n_law_wide rfl)) hnd17 (fun _ => rfl) (fun _ => rfl)) ea_nil (fun _ => rfl)) (fun _ => rfl)) (fun _ => rfl) (fun _ => rfl))) (Ev.toB (vr 9 n_law_full rfl)) rfl))))))
/-! ### the head -/
def d_gridded : He.DefD := ⟨("gridded", none), "gridded", "gridded", defArgs (topS 1), defBody (topS 1), defScope (topS 1), [], []⟩
def d_ungridded : He.DefD := ⟨("ungridded", none), "ungridded", "ungridded", defArgs (topS 2), defBody (topS 2), defScope (topS 2), [], []⟩
def d_law_mixed : He.DefD := ⟨("_law_mixed", none), "_law_mixed", "_law_mixed", defArgs (topS 4), defBody (topS 4), defScope (topS 4), [], []⟩
def d_law_row : He.DefD := ⟨("_law_row", none), "_law_row", "_law_row", defArgs (topS 5), defBody (topS 5), defScope (topS 5), [], []⟩
def d_law_is_int : He.DefD := ⟨("_law_is_int", none), "_law_is_int", "_law_is_int", defArgs (topS 6), defBody (topS 6), defScope (topS 6), [], []⟩
def d_law_like : He.DefD := ⟨("_law_like", none), "_law_like", "_law_like", defArgs (topS 7), defBody (topS 7), defScope (topS 7), [], []⟩
def d_law_back : He.DefD := ⟨("_law_back", none), "_law_back", "_law_back", defArgs (topS 9), defBody (topS 9), defScope (topS 9), [], []⟩
def d_law_text : He.DefD := ⟨("_law_text", none), "_law_text", "_law_text", defArgs (topS 10), defBody (topS 10), defScope (topS 10), [], []⟩
def d_law_order : He.DefD := ⟨("_law_order", none), "_law_order", "_law_order", defArgs (topS 11), defBody (topS 11), defScope (topS 11), [], []⟩
def d_law_grid : He.DefD := ⟨("_law_grid", none), "_law_grid", "_law_grid", defArgs (topS 12), defBody (topS 12), defScope (topS 12), [], []⟩
def d_law : He.DefD := ⟨("law", none), "law", "law", defArgs (topS 13), defBody (topS 13), defScope (topS 13), [], []⟩
def fnL : List He.DefD := [d_gridded, d_ungridded, d_law_mixed, d_law_row, d_law_is_int, d_law_like, d_law_back, d_law_text, d_law_order, d_law_grid, d_law]
def faL : List He.Fa := [.glo "gridded", .glo "ungridded", .glo "_law_mixed", .glo "_law_row", .glo "_law_is_int", .glo "_law_like", .glo "_law_back", .glo "_law_text", .glo "_law_order", .glo "_law_grid", .glo "law", .free "isinstance", .free "int", .free "bool", .free "tuple", .free "str", .free "all", .free "len", .free "range", .free "list", .free "sorted"]
abbrev RR : PySem.W.OpenRow := PySem.W.OpenLaw.row PySem.Challenge.rw_sealskept_k02_whole_grids_of_all_orders
abbrev hk : PySem.W.Hook := He.hookD 4 faL fnL
def ob (s : PySem.W.SharedT) : He.AlD := He.obsDG 4 faL fnL (HandSHeadRun.getT s)
theorem ob_eq (s : PySem.W.SharedT) : ob s = hk.obs s.abs := He.obsDG_eq (HandSHeadRun.getT_eq s)
def loose0 : List PySem.Str := ["gridded", "ungridded", "_law_mixed", "_law_row", "_law_is_int", "_law_like", "_law_nums", "_law_back", "_law_text", "_law_order", "_law_grid"]
theorem runs (w : World) : HandSHeadRun.RunEq RR (PySem.W.view RR.prog [13]) hk ob 3000 (loose0) w := by
  intro os
  kernel_rfl
theorem facts {P : Program} {w : World} {K : PySem.W.Frag} {h : Heap} {mg : Str → Option Value} {base : Heap} (X : K.In h) (Gn : h.Ns mainGlobals mg) (c : He.SaysD faL fnL K) : Facts ⟨P, w, K, mg, base⟩ := by
  obtain ⟨fd0, F0⟩ := c.def_ 0 (d := d_gridded) rfl
  obtain ⟨fd1, F1⟩ := c.def_ 1 (d := d_ungridded) rfl
  obtain ⟨fd2, F2⟩ := c.def_ 2 (d := d_law_mixed) rfl
  obtain ⟨fd3, F3⟩ := c.def_ 3 (d := d_law_row) rfl
  obtain ⟨fd4, F4⟩ := c.def_ 4 (d := d_law_is_int) rfl
  obtain ⟨fd5, F5⟩ := c.def_ 5 (d := d_law_like) rfl
  obtain ⟨fd6, F6⟩ := c.def_ 6 (d := d_law_back) rfl
  obtain ⟨fd7, F7⟩ := c.def_ 7 (d := d_law_text) rfl
  obtain ⟨fd8, F8⟩ := c.def_ 8 (d := d_law_order) rfl
  obtain ⟨fd9, F9⟩ := c.def_ 9 (d := d_law_grid) rfl
  obtain ⟨fd10, F10⟩ := c.def_ 10 (d := d_law) rfl
  exact ⟨⟨_, fd0, F0, He.glo_ok X Gn (c.fact 0 (f := .glo "gridded") rfl), F0.bindsN fun _ _ _ _ _ _ us hl => match us, hl with | [_, _], _ => rfl⟩, ⟨_, fd1, F1, He.glo_ok X Gn (c.fact 1 (f := .glo "ungridded") rfl), F1.bindsN fun _ _ _ _ _ _ us hl => match us, hl with | [_, _], _ => rfl⟩, ⟨_, fd2, F2, He.glo_ok X Gn (c.fact 2 (f := .glo "_law_mixed") rfl), F2.bindsN fun _ _ _ _ _ _ us hl => match us, hl with | [_, _], _ => rfl⟩, ⟨_, fd3, F3, He.glo_ok X Gn (c.fact 3 (f := .glo "_law_row") rfl), F3.bindsN fun _ _ _ _ _ _ us hl => match us, hl with | [_, _], _ => rfl⟩, ⟨_, fd4, F4, He.glo_ok X Gn (c.fact 4 (f := .glo "_law_is_int") rfl), F4.bindsN fun _ _ _ _ _ _ us hl => match us, hl with | [_], _ => rfl⟩, ⟨_, fd5, F5, He.glo_ok X Gn (c.fact 5 (f := .glo "_law_like") rfl), F5.bindsN fun _ _ _ _ _ _ us hl => match us, hl with | [_, _], _ => rfl⟩, ⟨_, fd6, F6, He.glo_ok X Gn (c.fact 6 (f := .glo "_law_back") rfl), F6.bindsN fun _ _ _ _ _ _ us hl => match us, hl with | [_], _ => rfl⟩, ⟨_, fd7, F7, He.glo_ok X Gn (c.fact 7 (f := .glo "_law_text") rfl), F7.bindsN fun _ _ _ _ _ _ us hl => match us, hl with | [_, _, _], _ => rfl⟩, ⟨_, fd8, F8, He.glo_ok X Gn (c.fact 8 (f := .glo "_law_order") rfl), F8.bindsN fun _ _ _ _ _ _ us hl => match us, hl with | [_, _, _], _ => rfl⟩, ⟨_, fd9, F9, He.glo_ok X Gn (c.fact 9 (f := .glo "_law_grid") rfl), F9.bindsN fun _ _ _ _ _ _ us hl => match us, hl with | [_, _], _ => rfl⟩, ⟨_, fd10, F10, He.glo_ok X Gn (c.fact 10 (f := .glo "law") rfl), F10.bindsN fun _ _ _ _ _ _ us hl => match us, hl with | [_], _ => rfl⟩, He.free_ok X Gn (c.fact 11 (f := .free "isinstance") rfl), He.free_ok X Gn (c.fact 12 (f := .free "int") rfl), He.free_ok X Gn (c.fact 13 (f := .free "bool") rfl), He.free_ok X Gn (c.fact 14 (f := .free "tuple") rfl), He.free_ok X Gn (c.fact 15 (f := .free "str") rfl), He.free_ok X Gn (c.fact 16 (f := .free "all") rfl), He.free_ok X Gn (c.fact 17 (f := .free "len") rfl), He.free_ok X Gn (c.fact 18 (f := .free "range") rfl), He.free_ok X Gn (c.fact 19 (f := .free "list") rfl), He.free_ok X Gn (c.fact 20 (f := .free "sorted") rfl)⟩
theorem lawFn {P : Program} {w : World} {K : PySem.W.Frag} {h : Heap} {mg : Str → Option Value} {f : Addr} (hl : ∀ ns : List Int, ns.length ≤ 63 → law_m ns = some true) (X : K.In h) (Gn : h.Ns mainGlobals mg) (hfa : mg ("law" : Str) = some (.ref f)) (c : He.SaysD faL fnL K) :
    ∃ fd : FuncData, (∀ (s : Shared) (v : Value), BindsTo s fd ⟨[v], []⟩ [("script", v)]) ∧ ∀ base : Heap, K.In base → base.Ns mainGlobals mg → FnOk P w K mg base CX0 (LV_law + 1) f fd ["script"] (spLaw K) := by
  obtain ⟨fd, F⟩ := c.def_ 10 (d := d_law) rfl
  have e := hfa.symm.trans (He.glo_ok X Gn (c.fact 10 (f := .glo "law") rfl))
  cases e
  have b := FunD.bindsA (ps := ["script"]) F fun _ _ _ _ _ _ us hl => match us, hl with | [_], _ => rfl
  exact ⟨fd, fun s v => b s [v] rfl, fun base _ _ => fn_law (G := ⟨P, w, K, mg, base⟩) F FS_law rfl fun ns h => blk_law (facts X Gn c) (hl ns h)⟩
end K02
open PySem PySem.W PySem.Calls PyProof.Rows
theorem PySem.Challenge.cw_sealskept_k02_whole_grids_of_all_orders_holds : PySem.Challenge.rw_sealskept_k02_whole_grids_of_all_orders.Holds := by
  w_on; o_law
  refine HandSHeadRun.head_any (r := OpenLaw.row PySem.Challenge.rw_sealskept_k02_whole_grids_of_all_orders) (q := view (OpenLaw.row PySem.Challenge.rw_sealskept_k02_whole_grids_of_all_orders).prog [13]) (H := K02.hk) (ob := K02.ob) (M := 3000) (loose := K02.loose0) (d := HandSHeadRun.topDef (OpenLaw.row PySem.Challenge.rw_sealskept_k02_whole_grids_of_all_orders).prog 13) (kwd := []) K02.ob_eq
    (by kernel_rfl) (fun s => by kernel_rfl) K02.runs (by kernel_rfl) (by kernel_rfl) (by kernel_rfl) (by rfl) (by first | assumption | decide +kernel) (by decide +kernel) ⟨rfl, rfl, rfl, rfl, rfl, by decide +kernel⟩ ?hw ?hc
  case hw => w_witness2
  case hc =>
    refine L2.walk_ofE (l := PySem.Challenge.rw_sealskept_k02_whole_grids_of_all_orders) (n := 63) (k := K02.LV_law + 1) (x := "script") (CX := L2.CX0) rfl (by decide) (by kernel_rfl) ⟨rfl, by decide, by decide⟩ ?F (fun _ _ _ _ z => z)
    intro w mg fa h Y G hmg0
    obtain ⟨K, KX, c⟩ := Y
    have hmg : mg ("law" : PySem.Str) = some (.ref fa) := by
      have e : (HandSHeadRun.topDef (OpenLaw.row PySem.Challenge.rw_sealskept_k02_whole_grids_of_all_orders).prog 13).name = ("law" : PySem.Str) := by kernel_rfl
      rw [← e]
      exact hmg0
    obtain ⟨fd, hb, hF⟩ := K02.lawFn (P := PySem.Challenge.rw_sealskept_k02_whole_grids_of_all_orders.prog) (w := w) K02.law_true KX G hmg c
    exact ⟨K, fd, Pl.spLaw K, KX, hb, fun H a ns hl _ hS => ⟨a, ns, hl, rfl, hS, fun _ => rfl⟩, hF⟩
