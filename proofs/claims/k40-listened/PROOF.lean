import PyProof.Rows.All
import Wide.All
import OpenK.AllK
import Wide.FinOn
import KE.KStateDown
import Lean
import HandS.Base
import HandS.Call
import HandS.Ends
import HandS.More
import HandS.Words
import HandS.WordsExc
import HandS.Defaults
import HandS.Head0
import HandS.Head1
import HandS.Head2
import HandS.HeadEnd
import HandS.HeadHook1
import HandS.HeadHook2
import HandS.Conv
import HandS.Deep
import HandS.IsInst
import HandS.List
import HandS.Rev
import HandS.SortInts
import HandS.Strs
import HandS.Style
import HandS.Text
import HandS.TupAny
import HandS.TupMul
import HandS.Walk
import HandS.Wide
import HandS.WideBits
import HandS.Zip
import HandS.Zip0
import KE.DataCmp
import KE.DataMinMax
import KE.KTupSum
import KE.SortData
import PyProof.Draws
import PyProof.EnumMake
import PySem.Challenge.RW_sealskept_k40_whole_listened_bases
set_option Elab.async false
set_option linter.all false
set_option maxRecDepth 100000
set_option maxHeartbeats 0
/-! Pl, part A: plain data over the abstract heap; the frozen part F of it; environments of plain data. -/
namespace Pl
open PySem PySem.Spec PyProof.Rows L2

abbrev KK := PySem.W.Frag
def keyD : Key → PyData
  | .inl i => .int i
  | .inr x => .str x

mutual
/-- v stands for the plain datum d, by what the frozen part F (and the written part K) says -/
inductive Rp (K : KK) (F : Hp) : V → PyData → Prop
  | non : Rp K F .non .none
  | bl (b : Bool) : Rp K F (.bl b) (.bool b)
  | int (i : Int) : Rp K F (.int i) (.int i)
  | str (x : Str) : Rp K F (.str x) (.str x)
  | lst {a : Addr} {xs : List V} {ds : List PyData} : SqL K F a xs → RpA K F xs ds → Rp K F (.ref a) (.list ds)
  | tup {a : Addr} {xs : List V} {ds : List PyData} : SqT K F a xs → RpA K F xs ds → Rp K F (.ref a) (.tuple ds)
  | dK {a : Addr} {kvs : List (Key × V)} {ds : List (PyData × PyData)} : F a = some (.dK kvs) → RpK K F kvs ds → Rp K F (.ref a) (.dict ds)
  | dT {a : Addr} {kvs : List (List Key × V)} {ds : List (PyData × PyData)} : F a = some (.dT kvs) → RpT K F kvs ds → Rp K F (.ref a) (.dict ds)
inductive RpA (K : KK) (F : Hp) : List V → List PyData → Prop
  | nil : RpA K F [] []
  | cons {v : V} {vs : List V} {d : PyData} {ds : List PyData} : Rp K F v d → RpA K F vs ds → RpA K F (v :: vs) (d :: ds)
inductive RpK (K : KK) (F : Hp) : List (Key × V) → List (PyData × PyData) → Prop
  | nil : RpK K F [] []
  | cons {k : Key} {v : V} {vs : List (Key × V)} {d : PyData} {ds : List (PyData × PyData)} : Rp K F v d → RpK K F vs ds → RpK K F ((k, v) :: vs) ((keyD k, d) :: ds)
inductive RpT (K : KK) (F : Hp) : List (List Key × V) → List (PyData × PyData) → Prop
  | nil : RpT K F [] []
  | cons {k : List Key} {v : V} {vs : List (List Key × V)} {d : PyData} {ds : List (PyData × PyData)} : Rp K F v d → RpT K F vs ds → RpT K F ((k, v) :: vs) ((.tuple (k.map keyD), d) :: ds)
end

theorem same_tup {K : KK} {H H' : Hp} {a : Addr} {xs : List V} (e : Same H H') (h : SqT K H a xs) : SqT K H' a xs := by
  rcases h with (h | ⟨o, h⟩) | h
  · exact .inl (.inl (e _ _ h))
  · exact .inl (.inr ⟨o, e _ _ h⟩)
  · exact .inr h

section
variable {K : KK} {F F' : Hp}
theorem Rp.mono (s : Same F F') {v : V} {d : PyData} (h : Rp K F v d) : Rp K F' v d :=
  Rp.rec (motive_1 := fun v d _ => Rp K F' v d) (motive_2 := fun vs ds _ => RpA K F' vs ds) (motive_3 := fun vs ds _ => RpK K F' vs ds) (motive_4 := fun vs ds _ => RpT K F' vs ds)
    .non .bl .int .str (fun q _ r => .lst (s.seq q) r) (fun q _ r => .tup (same_tup s q) r) (fun q _ r => .dK (s _ _ q) r) (fun q _ r => .dT (s _ _ q) r)
    .nil (fun _ _ r t => .cons r t) .nil (fun _ _ r t => .cons r t) .nil (fun _ _ r t => .cons r t) h
theorem RpA.mono (s : Same F F') : ∀ {vs : List V} {ds : List PyData}, RpA K F vs ds → RpA K F' vs ds
  | _, _, .nil => .nil
  | _, _, .cons r t => .cons (r.mono s) (RpA.mono s t)
theorem RpK.mono (s : Same F F') : ∀ {vs : List (Key × V)} {ds : List (PyData × PyData)}, RpK K F vs ds → RpK K F' vs ds
  | _, _, .nil => .nil
  | _, _, .cons r t => .cons (r.mono s) (RpK.mono s t)
theorem RpT.mono (s : Same F F') : ∀ {vs : List (List Key × V)} {ds : List (PyData × PyData)}, RpT K F vs ds → RpT K F' vs ds
  | _, _, .nil => .nil
  | _, _, .cons r t => .cons (r.mono s) (RpT.mono s t)
theorem RpA.length : ∀ {vs : List V} {ds : List PyData}, RpA K F vs ds → vs.length = ds.length
  | _, _, .nil => rfl
  | _, _, .cons _ t => congrArg (· + 1) (RpA.length t)
theorem RpA.get : ∀ {vs : List V} {ds : List PyData} {i : Nat} {v : V}, RpA K F vs ds → vs[i]? = some v → ∃ d, ds[i]? = some d ∧ Rp K F v d
  | _, _, _, _, .nil, e => by simp at e
  | _, _, 0, _, .cons r _, e => by simp at e; subst e; exact ⟨_, rfl, r⟩
  | _, _, i + 1, v, .cons _ t, e => by
    obtain ⟨d, h1, h2⟩ := RpA.get (i := i) (v := v) t (by simpa using e)
    exact ⟨d, by simpa using h1, h2⟩
theorem RpA.at : ∀ {vs : List V} {ds : List PyData} {i : Nat} {d : PyData}, RpA K F vs ds → ds[i]? = some d → ∃ v, vs[i]? = some v ∧ Rp K F v d
  | _, _, _, _, .nil, e => by simp at e
  | _, _, 0, _, .cons r _, e => by simp at e; subst e; exact ⟨_, rfl, r⟩
  | _, _, i + 1, d, .cons _ t, e => by
    obtain ⟨v, h1, h2⟩ := RpA.at (i := i) (d := d) t (by simpa using e)
    exact ⟨v, by simpa using h1, h2⟩
theorem RpA.append : ∀ {vs ws : List V} {ds es : List PyData}, RpA K F vs ds → RpA K F ws es → RpA K F (vs ++ ws) (ds ++ es)
  | _, _, _, _, .nil, s => s
  | _, _, _, _, .cons r t, s => .cons r (RpA.append t s)
theorem RpA.take : ∀ {vs : List V} {ds : List PyData} (n : Nat), RpA K F vs ds → RpA K F (vs.take n) (ds.take n)
  | _, _, 0, _ => .nil
  | _, _, _ + 1, .nil => .nil
  | _, _, n + 1, .cons r t => .cons r (RpA.take n t)
theorem RpA.drop : ∀ {vs : List V} {ds : List PyData} (n : Nat), RpA K F vs ds → RpA K F (vs.drop n) (ds.drop n)
  | _, _, 0, r => r
  | _, _, _ + 1, .nil => .nil
  | _, _, n + 1, .cons _ t => RpA.drop n t
theorem RpA.set {v : V} {d : PyData} (r : Rp K F v d) : ∀ {vs : List V} {ds : List PyData} (i : Nat), RpA K F vs ds → RpA K F (vs.set i v) (ds.set i d)
  | _, _, _, .nil => .nil
  | _, _, 0, .cons _ t => .cons r t
  | _, _, i + 1, .cons q t => .cons q (RpA.set r i t)
theorem RpA.rev {vs : List V} {ds : List PyData} (h : RpA K F vs ds) : RpA K F vs.reverse ds.reverse := by
  have aux : ∀ {vs : List V} {ds : List PyData}, RpA K F vs ds → RpA K F vs.reverse ds.reverse := by
    intro vs
    induction vs with
    | nil => intro ds h; cases h; exact .nil
    | cons v vs ih =>
      intro ds h
      cases h with
      | cons r t =>
        rw [List.reverse_cons, List.reverse_cons]
        exact RpA.append (ih t) (.cons r .nil)
  exact aux h
theorem RpA.rep {vs : List V} {ds : List PyData} (h : RpA K F vs ds) : ∀ k : Nat, RpA K F (List.replicate k vs).flatten (List.replicate k ds).flatten
  | 0 => .nil
  | k + 1 => by
    rw [List.replicate_succ, List.replicate_succ, List.flatten_cons, List.flatten_cons]
    exact h.append (RpA.rep h k)
theorem RpA.ints : ∀ {vs : List V} {ns : List Int}, RpA K F vs (ns.map .int) → vs = ns.map V.int
  | _, [], .nil => rfl
  | _, n :: ns, .cons r t => by
    cases r
    rw [RpA.ints (ns := ns) t]
    rfl
theorem RpA.ofInts (ns : List Int) : RpA K F (ns.map V.int) (ns.map .int) := by
  induction ns with
  | nil => exact .nil
  | cons n ns ih => exact .cons (.int n) ih
theorem RpA.bools : ∀ {vs : List V} {ns : List Bool}, RpA K F vs (ns.map .bool) → vs = ns.map V.bl
  | _, [], .nil => rfl
  | _, n :: ns, .cons r t => by
    cases r
    rw [RpA.bools (ns := ns) t]
    rfl
theorem RpA.strs : ∀ {vs : List V} {ns : List Str}, RpA K F vs (ns.map .str) → vs = ns.map V.str
  | _, [], .nil => rfl
  | _, n :: ns, .cons r t => by
    cases r
    rw [RpA.strs (ns := ns) t]
    rfl
theorem RpA.ofStrs (ns : List Str) : RpA K F (ns.map V.str) (ns.map .str) := by
  induction ns with
  | nil => exact .nil
  | cons n ns ih => exact .cons (.str n) ih
end

/-! ### data without dicts, without lists -/
mutual
def noDct : PyData → Bool
  | .list xs => noDctA xs
  | .tuple xs => noDctA xs
  | .dict _ => false
  | _ => true
def noDctA : List PyData → Bool
  | [] => true
  | d :: ds => noDct d && noDctA ds
end
mutual
/-- nothing in it can be changed -/
def flat : PyData → Bool
  | .list _ => false
  | .tuple xs => flatA xs
  | .dict _ => false
  | _ => true
def flatA : List PyData → Bool
  | [] => true
  | d :: ds => flat d && flatA ds
end
theorem and_l {a b : Bool} (h : (a && b) = true) : a = true := (Bool.and_eq_true_iff.mp h).1
theorem and_r {a b : Bool} (h : (a && b) = true) : b = true := (Bool.and_eq_true_iff.mp h).2
theorem Rp.dp {K : KK} {F : Hp} {v : V} {d : PyData} (h : Rp K F v d) : noDct d = true → Dp K F v d :=
  Rp.rec (motive_1 := fun v d _ => noDct d = true → Dp K F v d) (motive_2 := fun vs ds _ => noDctA ds = true → DpAll K F vs ds) (motive_3 := fun vs ds _ => True) (motive_4 := fun vs ds _ => True)
    (fun _ => .non) (fun b _ => .bl b) (fun i _ => .int i) (fun x _ => .str x) (fun q _ r e => .lst q (r e)) (fun q _ r e => .tup q (r e)) (fun _ _ _ e => nomatch e) (fun _ _ _ e => nomatch e)
    (fun _ => .nil) (fun _ _ r t e => .cons (r (and_l e)) (t (and_r e))) trivial (fun _ _ _ _ => trivial) trivial (fun _ _ _ _ => trivial) h
/-- data that is flat stands by the tuples alone -/
theorem Rp.narrow {K : KK} {F F' : Hp} (s : ∀ a xs, SqT K F a xs → SqT K F' a xs) {v : V} {d : PyData} (h : Rp K F v d) : flat d = true → Rp K F' v d :=
  Rp.rec (motive_1 := fun v d _ => flat d = true → Rp K F' v d) (motive_2 := fun vs ds _ => flatA ds = true → RpA K F' vs ds) (motive_3 := fun vs ds _ => True) (motive_4 := fun vs ds _ => True)
    (fun _ => .non) (fun b _ => .bl b) (fun i _ => .int i) (fun x _ => .str x) (fun _ _ _ e => nomatch e) (fun q _ r e => .tup (s _ _ q) (r e)) (fun _ _ _ e => nomatch e) (fun _ _ _ e => nomatch e)
    (fun _ => .nil) (fun _ _ r t e => .cons (r (and_l e)) (t (and_r e))) trivial (fun _ _ _ _ => trivial) trivial (fun _ _ _ _ => trivial) h

/-! ### how the heaps grow -/
/-- what no slot owns -/
def stays : HO → Bool
  | .tup _ => true
  | .frz _ _ => true
  | _ => false
structure Ext (F H F' H' : Hp) : Prop where
  hs : Same H H'
  fs : Same F F'
  sub : Same F' H'
  new : ∀ a o, F' a = some o → F a = some o ∨ H a = none ∨ stays o = true
theorem Ext.refl {F H : Hp} (s : Same F H) : Ext F H F H := ⟨Same.refl _, Same.refl _, s, fun _ _ e => .inl e⟩
theorem Ext.trans {F H F1 H1 F2 H2 : Hp} (a : Ext F H F1 H1) (b : Ext F1 H1 F2 H2) : Ext F H F2 H2 :=
  ⟨a.hs.trans b.hs, a.fs.trans b.fs, b.sub, fun p o e => (b.new p o e).elim (a.new p o) fun q => .inr (q.imp a.hs.free id)⟩
theorem same_upd {H : Hp} {p : Addr} {o : HO} (h : H p = none) : Same H (upd H p o) := fun b x e => by
  rw [upd_ne (ne_of_none e h)]
  exact e
theorem none_of_sub {F H : Hp} {p : Addr} (s : Same F H) (h : H p = none) : F p = none := s.free h
/-- an object laid and frozen at once -/
theorem Ext.lay {F H : Hp} {p : Addr} {o : HO} (s : Same F H) (h : H p = none) : Ext F H (upd F p o) (upd H p o) :=
  ⟨same_upd h, same_upd (s.free h), fun b x e => by
    by_cases hb : b = p
    · subst hb; rw [upd_same] at e ⊢; exact e
    · rw [upd_ne hb] at e ⊢; exact s _ _ e, fun b x e => by
    by_cases hb : b = p
    · subst hb; exact .inr (.inl h)
    · rw [upd_ne hb] at e; exact .inl e⟩
/-- an object laid, not frozen -/
theorem Ext.put {F H : Hp} {p : Addr} {o : HO} (s : Same F H) (h : H p = none) : Ext F H F (upd H p o) :=
  ⟨same_upd h, Same.refl _, s.trans (same_upd h), fun _ _ e => .inl e⟩
/-- a new object frozen -/
theorem Ext.freeze {F H F' H' : Hp} {p : Addr} {o : HO} (e : Ext F H F' H') (h : H p = none) (h' : H' p = some o) (hf : F' p = none) : Ext F H (upd F' p o) H' :=
  ⟨e.hs, e.fs.trans (same_upd hf), fun b x q => by
    by_cases hb : b = p
    · subst hb; rw [upd_same] at q; cases q; exact h'
    · rw [upd_ne hb] at q; exact e.sub _ _ q, fun b x q => by
    by_cases hb : b = p
    · subst hb; exact .inr (.inl h)
    · rw [upd_ne hb] at q; exact e.new _ _ q⟩

/-! ### what stands at an owned address -/
inductive OwnAt (K : KK) (F : Hp) : HO → PyData → Prop
  | lst {xs : List V} {ds : List PyData} : RpA K F xs ds → OwnAt K F (.lst xs) (.list ds)
  | dK {kvs : List (Key × V)} {ds : List (PyData × PyData)} : RpK K F kvs ds → OwnAt K F (.dK kvs) (.dict ds)
  | dT {kvs : List (List Key × V)} {ds : List (PyData × PyData)} : RpT K F kvs ds → OwnAt K F (.dT kvs) (.dict ds)
section
variable {K : KK} {F F' H H' : Hp} {o : HO} {d : PyData} {v : V} {a : Addr}
theorem OwnAt.mono (s : Same F F') (h : OwnAt K F o d) : OwnAt K F' o d := by
  cases h with
  | lst r => exact .lst (r.mono s)
  | dK r => exact .dK (r.mono s)
  | dT r => exact .dT (r.mono s)
theorem OwnAt.rp (h : OwnAt K F o d) (s : Same F F') (e : F' a = some o) : Rp K F' (.ref a) d := by
  cases h with
  | lst r => exact .lst (.inl (.inl e)) (r.mono s)
  | dK r => exact .dK e (r.mono s)
  | dT r => exact .dT e (r.mono s)
/-- borrowed: by the frozen part, or an owned object whose parts are by the frozen part -/
def RpB (K : KK) (F H : Hp) (v : V) (d : PyData) : Prop := Rp K F v d ∨ ∃ a o, v = .ref a ∧ H a = some o ∧ OwnAt K F o d
theorem Rp.b (h : Rp K F v d) : RpB K F H v d := .inl h
theorem RpB.ext (h : RpB K F H v d) (e : Ext F H F' H') : RpB K F' H' v d := by
  rcases h with h | ⟨a, o, e1, e2, h⟩
  · exact .inl (h.mono e.fs)
  · exact .inr ⟨a, o, e1, e.hs _ _ e2, h.mono e.fs⟩
theorem RpB.full (h : RpB K F H v d) (s : Same F H) : Rp K H v d := by
  rcases h with h | ⟨a, o, e1, e2, h⟩
  · exact h.mono s
  · subst e1; exact h.rp s e2
theorem RpB.int {i : Int} (h : RpB K F H v (.int i)) : v = .int i := by
  rcases h with h | ⟨a, o, e1, e2, h⟩
  · cases h; rfl
  · cases h
theorem RpB.bool {b : Bool} (h : RpB K F H v (.bool b)) : v = .bl b := by
  rcases h with h | ⟨a, o, e1, e2, h⟩
  · cases h; rfl
  · cases h
theorem RpB.str {x : Str} (h : RpB K F H v (.str x)) : v = .str x := by
  rcases h with h | ⟨a, o, e1, e2, h⟩
  · cases h; rfl
  · cases h
theorem RpB.lst {ds : List PyData} (h : RpB K F H v (.list ds)) (s : Same F H) : ∃ a xs, v = .ref a ∧ SqL K H a xs ∧ RpA K F xs ds := by
  rcases h with h | ⟨a, o, e1, e2, h⟩
  · cases h with
    | lst q r => exact ⟨_, _, rfl, s.seq q, r⟩
  · cases h with
    | lst r => exact ⟨a, _, e1, .inl (.inl e2), r⟩
theorem RpB.tup {ds : List PyData} (h : RpB K F H v (.tuple ds)) (s : Same F H) : ∃ a xs, v = .ref a ∧ SqT K H a xs ∧ RpA K F xs ds := by
  rcases h with h | ⟨a, o, e1, e2, h⟩
  · cases h with
    | tup q r => exact ⟨_, _, rfl, same_tup s q, r⟩
  · cases h
end
mutual
inductive RpBA (K : KK) (F H : Hp) : List V → List PyData → Prop
  | nil : RpBA K F H [] []
  | cons {v : V} {vs : List V} {d : PyData} {ds : List PyData} : RpB K F H v d → RpBA K F H vs ds → RpBA K F H (v :: vs) (d :: ds)
end
theorem RpBA.ext {K : KK} {F F' H H' : Hp} (e : Ext F H F' H') : ∀ {vs : List V} {ds : List PyData}, RpBA K F H vs ds → RpBA K F' H' vs ds
  | _, _, .nil => .nil
  | _, _, .cons r t => .cons (r.ext e) (RpBA.ext e t)
theorem RpBA.full {K : KK} {F H : Hp} (s : Same F H) : ∀ {vs : List V} {ds : List PyData}, RpBA K F H vs ds → RpA K H vs ds
  | _, _, .nil => .nil
  | _, _, .cons r t => .cons (r.full s) (RpBA.full s t)
theorem RpA.ba {K : KK} {F H : Hp} : ∀ {vs : List V} {ds : List PyData}, RpA K F vs ds → RpBA K F H vs ds
  | _, _, .nil => .nil
  | _, _, .cons r t => .cons (.inl r) (RpA.ba t)

/-! ### environments -/
/-- a slot: a shared (frozen) datum, or an object that this slot alone owns -/
inductive SV where
  | sh (d : PyData)
  | ow (d : PyData)
abbrev PEnv := List (Option SV)

structure SRel (K : KK) (F0 H0 : Hp) (ρ : PEnv) (σ : L2.St) (F H : Hp) : Prop where
  ext : Ext F0 H0 F H
  len : σ.length = ρ.length
  sh : ∀ (i : Nat) d, ρ[i]? = some (some (.sh d)) → ∃ v, σ[i]? = some (some v) ∧ Rp K F v d
  ow : ∀ (i : Nat) d, ρ[i]? = some (some (.ow d)) → ∃ a o, σ[i]? = some (some (.ref a)) ∧ H a = some o ∧ OwnAt K F o d ∧ F a = none ∧ H0 a = none
  apart : ∀ (i j : Nat) d d' a, i ≠ j → ρ[i]? = some (some (.ow d)) → ρ[j]? = some (some (.ow d')) → σ[i]? = some (some (.ref a)) → σ[j]? = some (some (.ref a)) → False
section
variable {K : KK} {F0 H0 F H F' H' : Hp} {ρ ρ' : PEnv} {σ : L2.St}
/-- behind an expression -/
theorem SRel.go (S : SRel K F0 H0 ρ σ F H) (e : Ext F H F' H') : SRel K F0 H0 ρ σ F' H' where
  ext := S.ext.trans e
  len := S.len
  sh := fun i d h => let ⟨v, h1, h2⟩ := S.sh i d h; ⟨v, h1, h2.mono e.fs⟩
  ow := fun i d h => by
    obtain ⟨a, o, h1, h2, h3, h4, h5⟩ := S.ow i d h
    refine ⟨a, o, h1, e.hs _ _ h2, h3.mono e.fs, ?_, h5⟩
    cases q : F' a with
    | none => rfl
    | some u =>
      rcases e.new a u q with z | z | z
      · rw [h4] at z; cases z
      · rw [h2] at z; cases z
      · have z2 := (e.hs _ _ h2).symm.trans (e.sub _ _ q)
        cases z2
        cases h3 <;> cases z
  apart := S.apart
/-- a slot set to a shared datum -/
theorem SRel.put (S : SRel K F0 H0 ρ σ F H) {i : Nat} {v : V} {d : PyData} (r : Rp K F v d) : SRel K F0 H0 (ρ.set i (some (.sh d))) (σ.set i (some v)) F H where
  ext := S.ext
  len := by rw [List.length_set, List.length_set, S.len]
  sh := fun j d' h => by
    by_cases hj : i = j
    · subst hj
      by_cases hl : i < ρ.length
      · rw [List.getElem?_set_self hl] at h
        cases h
        exact ⟨v, List.getElem?_set_self (by rw [S.len]; exact hl), r⟩
      · rw [List.getElem?_eq_none (by simpa using hl)] at h; cases h
    · rw [List.getElem?_set_ne hj] at h ⊢
      exact S.sh j d' h
  ow := fun j d' h => by
    by_cases hj : i = j
    · subst hj
      by_cases hl : i < ρ.length
      · rw [List.getElem?_set_self hl] at h; cases h
      · rw [List.getElem?_eq_none (by simpa using hl)] at h; cases h
    · rw [List.getElem?_set_ne hj] at h ⊢
      exact S.ow j d' h
  apart := fun j k d1 d2 a hjk h1 h2 h3 h4 => by
    have nj : i ≠ j := fun e => by
      subst e
      by_cases hl : i < ρ.length
      · rw [List.getElem?_set_self hl] at h1; cases h1
      · rw [List.getElem?_eq_none (by simpa using hl)] at h1; cases h1
    have nk : i ≠ k := fun e => by
      subst e
      by_cases hl : i < ρ.length
      · rw [List.getElem?_set_self hl] at h2; cases h2
      · rw [List.getElem?_eq_none (by simpa using hl)] at h2; cases h2
    rw [List.getElem?_set_ne nj] at h1 h3
    rw [List.getElem?_set_ne nk] at h2 h4
    exact S.apart j k d1 d2 a hjk h1 h2 h3 h4
/-- a slot set to a new object that it owns -/
theorem SRel.own (S : SRel K F0 H0 ρ σ F H) (e : Ext F H F' H') {i : Nat} {a : Addr} {o : HO} {d : PyData} (hn : H a = none) (ha : H' a = some o) (hf : F' a = none) (r : OwnAt K F' o d) :
    SRel K F0 H0 (ρ.set i (some (.ow d))) (σ.set i (some (.ref a))) F' H' := by
  have S' := S.go e
  have old : ∀ (j : Nat) (d' : PyData), ρ[j]? = some (some (.ow d')) → σ[j]? = some (some (.ref a)) → False := fun j d' h1 h2 => by
    obtain ⟨b, u, q1, q2, _⟩ := S.ow j d' h1
    rw [q1] at h2
    cases h2
    rw [hn] at q2; cases q2
  refine ⟨S'.ext, by rw [List.length_set, List.length_set, S.len], fun j d' h => ?_, fun j d' h => ?_, fun j k d1 d2 b hjk h1 h2 h3 h4 => ?_⟩
  · by_cases hj : i = j
    · subst hj
      by_cases hl : i < ρ.length
      · rw [List.getElem?_set_self hl] at h; cases h
      · rw [List.getElem?_eq_none (by simpa using hl)] at h; cases h
    · rw [List.getElem?_set_ne hj] at h ⊢
      exact S'.sh j d' h
  · by_cases hj : i = j
    · subst hj
      by_cases hl : i < ρ.length
      · rw [List.getElem?_set_self hl] at h
        cases h
        exact ⟨a, o, List.getElem?_set_self (by rw [S.len]; exact hl), ha, r, hf, S.ext.hs.free hn⟩
      · rw [List.getElem?_eq_none (by simpa using hl)] at h; cases h
    · rw [List.getElem?_set_ne hj] at h ⊢
      exact S'.ow j d' h
  · have hl : ∀ (k : Nat) d, (ρ.set i (some (.ow d)))[k]? = none ∨ k < ρ.length := fun k d => by
      by_cases z : k < ρ.length
      · exact .inr z
      · exact .inl (List.getElem?_eq_none (by simpa using z))
    by_cases hj : i = j
    · subst hj
      have hk : i ≠ k := hjk
      rw [List.getElem?_set_ne hk] at h2 h4
      have li : i < ρ.length := by
        rcases hl i d with z | z
        · rw [z] at h1; cases h1
        · exact z
      rw [List.getElem?_set_self (by rw [S.len]; exact li)] at h3
      cases h3
      exact old k d2 h2 h4
    · rw [List.getElem?_set_ne hj] at h1 h3
      by_cases hk : i = k
      · subst hk
        have li : i < ρ.length := by
          rcases hl i d with z | z
          · rw [z] at h2; cases h2
          · exact z
        rw [List.getElem?_set_self (by rw [S.len]; exact li)] at h4
        cases h4
        exact old j d1 h1 h3
      · rw [List.getElem?_set_ne hk] at h2 h4
        exact S.apart j k d1 d2 b hjk h1 h2 h3 h4
/-- the object of an owned slot changed -/
theorem SRel.mut (S : SRel K F0 H0 ρ σ F H) {i : Nat} {a : Addr} {o : HO} {d d' : PyData} (h : ρ[i]? = some (some (.ow d))) (hs : σ[i]? = some (some (.ref a))) (r : OwnAt K F o d') :
    SRel K F0 H0 (ρ.set i (some (.ow d'))) σ F (upd H a o) := by
  obtain ⟨b, u, q1, q2, q3, q4, q5⟩ := S.ow i d h
  rw [hs] at q1
  cases q1
  have li : i < ρ.length := (List.getElem?_eq_some_iff.mp h).1
  have ow' : ∀ (j : Nat) (e : PyData), (ρ.set i (some (.ow d')))[j]? = some (some (.ow e)) → ∃ e', ρ[j]? = some (some (.ow e')) := fun j e q => by
    by_cases hj : i = j
    · subst hj; exact ⟨d, h⟩
    · rw [List.getElem?_set_ne hj] at q; exact ⟨e, q⟩
  refine ⟨⟨fun b x e => ?_, S.ext.fs, fun b x e => ?_, S.ext.new⟩, by rw [List.length_set]; exact S.len, fun j e q => ?_, fun j e q => ?_, fun j k d1 d2 b hjk h1 h2 h3 h4 => ?_⟩
  · rw [upd_ne (ne_of_none e q5)]; exact S.ext.hs _ _ e
  · rw [upd_ne (ne_of_none e q4)]; exact S.ext.sub _ _ e
  · by_cases hj : i = j
    · subst hj; rw [List.getElem?_set_self li] at q; cases q
    · rw [List.getElem?_set_ne hj] at q; exact S.sh j e q
  · by_cases hj : i = j
    · subst hj
      rw [List.getElem?_set_self li] at q
      cases q
      exact ⟨a, o, hs, upd_same, r, q4, q5⟩
    · rw [List.getElem?_set_ne hj] at q
      obtain ⟨b, u', p1, p2, p3, p4, p5⟩ := S.ow j e q
      have nb : b ≠ a := fun z => by
        subst z
        exact S.apart i j d e b hj h q hs p1
      exact ⟨b, u', p1, by rw [upd_ne nb]; exact p2, p3, p4, p5⟩
  · obtain ⟨e1, z1⟩ := ow' j d1 h1
    obtain ⟨e2, z2⟩ := ow' k d2 h2
    exact S.apart j k e1 e2 b hjk z1 z2 h3 h4
/-- an environment that claims less: slots forgotten, owned ones frozen -/
inductive Cov : PEnv → PEnv → Prop
  | nil : Cov [] []
  | keep {x : Option SV} {ρ ρ' : PEnv} : Cov ρ ρ' → Cov (x :: ρ) (x :: ρ')
  | drop {x : Option SV} {ρ ρ' : PEnv} : Cov ρ ρ' → Cov (x :: ρ) (none :: ρ')
  | frz {d : PyData} {ρ ρ' : PEnv} : Cov ρ ρ' → Cov (some (.ow d) :: ρ) (some (.sh d) :: ρ')
theorem Cov.refl : ∀ ρ : PEnv, Cov ρ ρ
  | [] => .nil
  | _ :: ρ => .keep (Cov.refl ρ)
theorem Cov.length : ∀ {ρ ρ' : PEnv}, Cov ρ ρ' → ρ.length = ρ'.length
  | _, _, .nil => rfl
  | _, _, .keep c => congrArg (· + 1) (Cov.length c)
  | _, _, .drop c => congrArg (· + 1) (Cov.length c)
  | _, _, .frz c => congrArg (· + 1) (Cov.length c)
theorem Cov.sh : ∀ {ρ ρ' : PEnv} {i : Nat} {d : PyData}, Cov ρ ρ' → ρ'[i]? = some (some (.sh d)) → ρ[i]? = some (some (.sh d)) ∨ ρ[i]? = some (some (.ow d))
  | _, _, 0, _, .keep _, h => .inl (by simpa using h)
  | _, _, 0, _, .drop _, h => by simp at h
  | _, _, 0, _, .frz _, h => by simp at h; subst h; exact .inr rfl
  | _, _, i + 1, d, .keep c, h => by simpa using Cov.sh (i := i) (d := d) c (by simpa using h)
  | _, _, i + 1, d, .drop c, h => by simpa using Cov.sh (i := i) (d := d) c (by simpa using h)
  | _, _, i + 1, d, .frz c, h => by simpa using Cov.sh (i := i) (d := d) c (by simpa using h)
theorem Cov.ow : ∀ {ρ ρ' : PEnv} {i : Nat} {d : PyData}, Cov ρ ρ' → ρ'[i]? = some (some (.ow d)) → ρ[i]? = some (some (.ow d))
  | _, _, 0, _, .keep _, h => by simpa using h
  | _, _, 0, _, .drop _, h => by simp at h
  | _, _, 0, _, .frz _, h => by simp at h
  | _, _, i + 1, d, .keep c, h => by simpa using Cov.ow (i := i) (d := d) c (by simpa using h)
  | _, _, i + 1, d, .drop c, h => by simpa using Cov.ow (i := i) (d := d) c (by simpa using h)
  | _, _, i + 1, d, .frz c, h => by simpa using Cov.ow (i := i) (d := d) c (by simpa using h)
/-- the owned slots that ρ' has as shared ones, frozen -/
noncomputable def frzH (ρ ρ' : PEnv) (σ : L2.St) (F H : Hp) : Hp := fun a =>
  open Classical in if ∃ (i : Nat) (d : PyData), ρ[i]? = some (some (.ow d)) ∧ ρ'[i]? = some (some (.sh d)) ∧ σ[i]? = some (some (.ref a)) then H a else F a
theorem SRel.weak (S : SRel K F0 H0 ρ σ F H) (c : Cov ρ ρ') : ∃ F', Same F F' ∧ SRel K F0 H0 ρ' σ F' H := by
  have hF : ∀ a, frzH ρ ρ' σ F H a = F a ∨ (frzH ρ ρ' σ F H a = H a ∧ F a = none ∧ H0 a = none ∧ (∃ o, H a = some o) ∧ ∃ (i : Nat) (d : PyData), ρ[i]? = some (some (.ow d)) ∧ ρ'[i]? = some (some (.sh d)) ∧ σ[i]? = some (some (.ref a))) := fun a => by
    unfold frzH
    split
    · rename_i h
      obtain ⟨i, d, h1, h2, h3⟩ := h
      obtain ⟨b, u, q1, q2, _, q4, q5⟩ := S.ow i d h1
      rw [h3] at q1
      cases q1
      exact .inr ⟨rfl, q4, q5, ⟨u, q2⟩, i, d, h1, h2, h3⟩
    · exact .inl rfl
  have sF : Same F (frzH ρ ρ' σ F H) := fun a o e => by
    rcases hF a with z | ⟨_, z, _⟩
    · rw [z]; exact e
    · rw [e] at z; cases z
  refine ⟨frzH ρ ρ' σ F H, sF, ⟨⟨S.ext.hs, S.ext.fs.trans sF, fun a o e => ?_, fun a o e => ?_⟩, S.len.trans c.length, fun i d h => ?_, fun i d h => ?_, fun i j d d' a hij h1 h2 h3 h4 => ?_⟩⟩
  · rcases hF a with z | ⟨z, _⟩
    · rw [z] at e; exact S.ext.sub _ _ e
    · rw [z] at e; exact e
  · rcases hF a with z | ⟨_, _, z, _⟩
    · rw [z] at e; exact S.ext.new _ _ e
    · exact .inr (.inl z)
  · rcases c.sh h with q | q
    · obtain ⟨v, h1, h2⟩ := S.sh i d q
      exact ⟨v, h1, h2.mono sF⟩
    · obtain ⟨a, o, h1, h2, h3, h4, h5⟩ := S.ow i d q
      refine ⟨_, h1, h3.rp sF ?_⟩
      unfold frzH
      rw [if_pos ⟨i, d, q, h, h1⟩]
      exact h2
  · have q := c.ow h
    obtain ⟨a, o, h1, h2, h3, h4, h5⟩ := S.ow i d q
    refine ⟨a, o, h1, h2, h3.mono sF, ?_, h5⟩
    rcases hF a with z | ⟨_, _, _, _, j, e, p1, p2, p3⟩
    · rw [z]; exact h4
    · exfalso
      by_cases hij : i = j
      · subst hij
        rw [h] at p2; cases p2
      · exact S.apart i j d e a hij q p1 h1 p3
  · exact S.apart i j d d' a hij (c.ow h1) (c.ow h2) h3 h4
end
end Pl
/-! Pl, part B: contexts; expressions that evaluate to plain data. -/
namespace Pl
open PySem PySem.Spec PyProof.Rows L2

structure Gb where
  P : Program
  w : World
  K : KK
  mg : Str → Option Value
  base : Heap
/-- the names by slot, the scope, the names that may be stored through cells -/
structure SC where
  N : List Str
  sc : Scope
  fs : Str → Bool
structure CxOk (G : Gb) (C : SC) (k : Nat) (X : Cx) : Prop where
  eP : X.prog = G.P
  ew : X.w = G.w
  eK : X.K = G.K
  em : X.mg = G.mg
  eb : X.base = G.base
  eN : X.N = C.N
  es : X.env.scope = C.sc
  calm : X.calm = true
  room : Room k X.A
  nd : C.N.Nodup
  fn : ∀ x, C.fs x = true → X.fn x = true
  xe : X.xe = fun _ _ => False

def tEv (K : KK) (ρ : PEnv) (d : PyData) : TE := fun σ H Q => ∃ F0 H0 F, SRel K F0 H0 ρ σ F H ∧ ∀ v F' H', Ext F H F' H' → Rp K F' v d → Q v H'
def tEvB (K : KK) (ρ : PEnv) (d : PyData) : TE := fun σ H Q => ∃ F0 H0 F, SRel K F0 H0 ρ σ F H ∧ ∀ v F' H', Ext F H F' H' → RpB K F' H' v d → Q v H'
def tEvN (K : KK) (ρ : PEnv) (d : PyData) : TE := fun σ H Q => ∃ F0 H0 F, SRel K F0 H0 ρ σ F H ∧ ∀ a o F' H', Ext F H F' H' → H a = none → H' a = some o → F' a = none → OwnAt K F' o d → Q (.ref a) H'
def tTe (K : KK) (ρ : PEnv) (b : Bool) : TT := fun σ H Q => ∃ F0 H0 F, SRel K F0 H0 ρ σ F H ∧ ∀ F' H', Ext F H F' H' → Q b H'
def tEA (K : KK) (ρ : PEnv) (ds : List PyData) : TA := fun σ H Q => ∃ F0 H0 F, SRel K F0 H0 ρ σ F H ∧ ∀ vs F' H', Ext F H F' H' → RpA K F' vs ds → Q vs H'
def tEAB (K : KK) (ρ : PEnv) (ds : List PyData) : TA := fun σ H Q => ∃ F0 H0 F, SRel K F0 H0 ρ σ F H ∧ ∀ vs F' H', Ext F H F' H' → RpBA K F' H' vs ds → Q vs H'

section
variable (G : Gb) (C : SC) (k : Nat) (ρ : PEnv)
/-- e evaluates to the datum d -/
def Ev (e : Expr) (d : PyData) : Prop := ∀ X, CxOk G C k X → PE X e (tEv G.K ρ d)
def EvB (e : Expr) (d : PyData) : Prop := ∀ X, CxOk G C k X → PE X e (tEvB G.K ρ d)
/-- e evaluates to a new object with the content d -/
def EvN (e : Expr) (d : PyData) : Prop := ∀ X, CxOk G C k X → PE X e (tEvN G.K ρ d)
def Te (e : Expr) (b : Bool) : Prop := ∀ X, CxOk G C k X → PT X e (tTe G.K ρ b)
def Tw (e : Expr) (b : Bool) : Prop := ∀ X, CxOk G C k X → PW X e (tTe G.K ρ b)
def EA (es : List Expr) (ds : List PyData) : Prop := ∀ X, CxOk G C k X → PA X es (tEA G.K ρ ds)
def EAB (es : List Expr) (ds : List PyData) : Prop := ∀ X, CxOk G C k X → PA X es (tEAB G.K ρ ds)
/-- an operator on data -/
def OpOk (f : Value → Value → Sem Value) (d e r : PyData) : Prop := ∀ X, CxOk G C k X → OpR X f fun x y H Q => ∃ F, Same F H ∧ RpB G.K F H x d ∧ RpB G.K F H y e ∧ ∀ v F' H', Ext F H F' H' → Rp G.K F' v r → Q v H'
def OpNew (f : Value → Value → Sem Value) (d e r : PyData) : Prop := ∀ X, CxOk G C k X → OpR X f fun x y H Q => ∃ F, Same F H ∧ RpB G.K F H x d ∧ RpB G.K F H y e ∧ ∀ a o F' H', Ext F H F' H' → H a = none → H' a = some o → F' a = none → OwnAt G.K F' o r → Q (.ref a) H'
def UnOk (f : Value → Sem Value) (d r : PyData) : Prop := ∀ X, CxOk G C k X → UnR X f fun x H Q => ∃ F, Same F H ∧ RpB G.K F H x d ∧ ∀ v F' H', Ext F H F' H' → Rp G.K F' v r → Q v H'
/-- a call of a built-in by values -/
def CallOk (f : Value) (ds : List PyData) (r : PyData) : Prop := ∀ X, CxOk G C k X → CallR X f fun xs H Q => ∃ F, Same F H ∧ RpBA G.K F H xs ds ∧ ∀ v F' H', Ext F H F' H' → Rp G.K F' v r → Q v H'
def CallNew (f : Value) (ds : List PyData) (r : PyData) : Prop := ∀ X, CxOk G C k X → CallR X f fun xs H Q => ∃ F, Same F H ∧ RpBA G.K F H xs ds ∧ ∀ a o F' H', Ext F H F' H' → H a = none → H' a = some o → F' a = none → OwnAt G.K F' o r → Q (.ref a) H'
end

section
variable {X : Cx} {e : Expr}
theorem pe_imp {t t' : TE} (h : PE X e t) (i : ∀ σ H Q, t' σ H Q → t σ H Q) : PE X e t' := ⟨fun pins s σ H Q I q => h.run pins s σ H Q I (i σ H Q q)⟩
theorem pt_imp {t t' : TT} (h : PT X e t) (i : ∀ σ H Q, t' σ H Q → t σ H Q) : PT X e t' := ⟨fun pins s σ H Q I q => h.run pins s σ H Q I (i σ H Q q)⟩
theorem pw_imp {t t' : TT} (h : PW X e t) (i : ∀ σ H Q, t' σ H Q → t σ H Q) : PW X e t' := ⟨fun w pins s σ H Q I q => h.run w pins s σ H Q I (i σ H Q q)⟩
theorem pa_imp {es : List Expr} {t t' : TA} (h : PA X es t) (i : ∀ σ H Q, t' σ H Q → t σ H Q) : PA X es t' := ⟨fun p pins s σ H Q I q => h.run p pins s σ H Q I (i σ H Q q)⟩
theorem op_imp {f : Value → Value → Sem Value} {r r' : R2} (h : OpR X f r) (i : ∀ x y H Q, r' x y H Q → r x y H Q) : OpR X f r' := fun pins s σ H x y v u Q I rx ry q => h pins s σ H x y v u Q I rx ry (i x y H Q q)
theorem un_imp {f : Value → Sem Value} {r r' : V → Hp → VK → Prop} (h : UnR X f r) (i : ∀ x H Q, r' x H Q → r x H Q) : UnR X f r' := fun pins s σ H x v Q I rx q => h pins s σ H x v Q I rx (i x H Q q)
theorem call_imp {f : Value} {r r' : List V → Hp → VK → Prop} (h : CallR X f r) (i : ∀ xs H Q, r' xs H Q → r xs H Q) : CallR X f r' := fun pins s σ H xs us Q I rx q => h pins s σ H xs us Q I rx (i xs H Q q)
end

section
variable {G : Gb} {C : SC} {k : Nat} {ρ : PEnv} {e a b c : Expr} {es : List Expr} {d d' d1 d2 d3 : PyData} {ds : List PyData} {pos : Pos} {t u : Bool}
theorem Ev.toB (h : Ev G C k ρ e d) : EvB G C k ρ e d := fun X hX => pe_imp (h X hX) fun σ H Q ⟨F0, H0, F, S, q⟩ => ⟨F0, H0, F, S, fun v F' H' x r => q v F' H' x (.inl r)⟩
theorem EvN.ev (h : EvN G C k ρ e d) : Ev G C k ρ e d := fun X hX => pe_imp (h X hX) fun σ H Q ⟨F0, H0, F, S, q⟩ => ⟨F0, H0, F, S, fun a o F' H' x hn ha hf r =>
  q _ _ H' (x.freeze hn ha hf) (r.rp (same_upd hf) upd_same)⟩
/-! ### names, constants -/
theorem ev_name (i : Nat) {x : Str} (hi : C.N[i]? = some x) (hv : C.sc.names.lookup x = some .local ∨ C.sc.names.lookup x = some .cell ∨ C.sc.names.lookup x = some .free) (h : ρ[i]? = some (some (.sh d)))
    (hd : (x == ("__debug__" : Str)) = false) (hc : (x == ("__classdict__" : Str)) = false) : Ev G C k ρ (.Name x pos) d := fun X hX => by
  refine pe_imp (pe_var (i := i) (by rw [hX.eN]; exact hi) (by unfold Vis; rw [hX.es]; exact hv) hd hc) fun σ H Q ⟨F0, H0, F, S, q⟩ => ?_
  obtain ⟨v, h1, h2⟩ := S.sh i d h
  exact ⟨v, h1, q v F H (Ext.refl S.ext.sub) h2⟩
theorem evb_own (i : Nat) {x : Str} (hi : C.N[i]? = some x) (hv : C.sc.names.lookup x = some .local ∨ C.sc.names.lookup x = some .cell ∨ C.sc.names.lookup x = some .free) (h : ρ[i]? = some (some (.ow d)))
    (hd : (x == ("__debug__" : Str)) = false) (hc : (x == ("__classdict__" : Str)) = false) : EvB G C k ρ (.Name x pos) d := fun X hX => by
  refine pe_imp (pe_var (i := i) (by rw [hX.eN]; exact hi) (by unfold Vis; rw [hX.es]; exact hv) hd hc) fun σ H Q ⟨F0, H0, F, S, q⟩ => ?_
  obtain ⟨a, o, h1, h2, h3, _⟩ := S.ow i d h
  exact ⟨.ref a, h1, q _ F H (Ext.refl S.ext.sub) (.inr ⟨a, o, rfl, h2, h3⟩)⟩
theorem ev_const {v : V} (hp : ∀ X, PE X e (tC v)) (hr : ∀ K F, Rp K F v d) : Ev G C k ρ e d := fun X _ => pe_imp (hp X) fun σ H Q ⟨F0, H0, F, S, q⟩ => q v F H (Ext.refl S.ext.sub) (hr _ _)
theorem ev_int {i : Int} {j} : Ev G C k ρ (.Constant (.int i) j pos) (.int i) := ev_const (fun _ => pe_int) fun _ _ => .int i
theorem ev_bool {i : Bool} {j} : Ev G C k ρ (.Constant (.bool i) j pos) (.bool i) := ev_const (fun _ => pe_bl) fun _ _ => .bl i
theorem ev_none {j} : Ev G C k ρ (.Constant .none j pos) .none := ev_const (fun _ => pe_non) fun _ _ => .non
theorem ev_str {x : Str} {j} : Ev G C k ρ (.Constant (.str x) j pos) (.str x) := ev_const (fun _ => pe_str) fun _ _ => .str x
/-- a constant of the module -/
theorem ev_glob {x : Str} {v : V} {w : Value} (hg : C.sc.names.lookup x = some .globalImplicit) (hm : G.mg x = some w) (r : RelV v w) (hr : ∀ F, Rp G.K F v d) (hd : (x == ("__debug__" : Str)) = false) : Ev G C k ρ (.Name x pos) d := fun X hX =>
  pe_imp (pe_glob (by unfold Gl Env.kindOf; rw [hX.es]; exact hg) (by rw [hX.em]; exact hm) r hd) fun σ H Q ⟨F0, H0, F, S, q⟩ => q v F H (Ext.refl S.ext.sub) (hr _)
/-! ### operators -/
theorem ev_op {op : Operator} (ho : OpOk G C k (binaryOp op) d1 d2 d) (ha : EvB G C k ρ a d1) (hb : EvB G C k ρ b d2) : Ev G C k ρ (.BinOp a op b pos) d := fun X hX =>
  pe_imp (pe_op (ho X hX) (ha X hX) (hb X hX)) fun σ H Q ⟨F0, H0, F, S, q⟩ => ⟨F0, H0, F, S, fun x F1 H1 e1 r1 => ⟨F0, H0, F1, S.go e1, fun y F2 H2 e2 r2 => ⟨F2, e2.sub, r1.ext e2, r2, fun v F3 H3 e3 r3 => q v F3 H3 ((e1.trans e2).trans e3) r3⟩⟩⟩
theorem evn_op {op : Operator} (ho : OpNew G C k (binaryOp op) d1 d2 d) (ha : EvB G C k ρ a d1) (hb : EvB G C k ρ b d2) : EvN G C k ρ (.BinOp a op b pos) d := fun X hX =>
  pe_imp (pe_op (ho X hX) (ha X hX) (hb X hX)) fun σ H Q ⟨F0, H0, F, S, q⟩ => ⟨F0, H0, F, S, fun x F1 H1 e1 r1 => ⟨F0, H0, F1, S.go e1, fun y F2 H2 e2 r2 => ⟨F2, e2.sub, r1.ext e2, r2, fun p o F3 H3 e3 hn ha hf r3 =>
    q p o F3 H3 ((e1.trans e2).trans e3) ((e1.trans e2).hs.free hn) ha hf r3⟩⟩⟩
theorem ev_un {op : UnaryOp} (ho : UnOk G C k (unaryOp op) d1 d) (ha : EvB G C k ρ a d1) : Ev G C k ρ (.UnaryOp op a pos) d := fun X hX =>
  pe_imp (pe_un (ho X hX) (ha X hX)) fun σ H Q ⟨F0, H0, F, S, q⟩ => ⟨F0, H0, F, S, fun x F1 H1 e1 r1 => ⟨F1, e1.sub, r1, fun v F2 H2 e2 r2 => q v F2 H2 (e1.trans e2) r2⟩⟩
theorem ev_cmp {op : CmpOp} (ho : OpOk G C k (compareOp op) d1 d2 d) (ha : EvB G C k ρ a d1) (hb : EvB G C k ρ b d2) (hm : behindInMarks op b = false) : Ev G C k ρ (.Compare a [op] [b] pos) d := fun X hX =>
  pe_imp (pe_cmpR (ho X hX) (ha X hX) (hb X hX) hm) fun σ H Q ⟨F0, H0, F, S, q⟩ => ⟨F0, H0, F, S, fun x F1 H1 e1 r1 => ⟨F0, H0, F1, S.go e1, fun y F2 H2 e2 r2 => ⟨F2, e2.sub, r1.ext e2, r2, fun v F3 H3 e3 r3 => q v F3 H3 ((e1.trans e2).trans e3) r3⟩⟩⟩
theorem te_cmp {op : CmpOp} (ho : OpOk G C k (compareOp op) d1 d2 (.bool t)) (ha : EvB G C k ρ a d1) (hb : EvB G C k ρ b d2) (hm : behindInMarks op b = false) : Te G C k ρ (.Compare a [op] [b] pos) t := fun X hX =>
  pt_imp (pt_cmpR (ho X hX) (ha X hX) (hb X hX) hm) fun σ H Q ⟨F0, H0, F, S, q⟩ => ⟨F0, H0, F, S, fun x F1 H1 e1 r1 => ⟨F0, H0, F1, S.go e1, fun y F2 H2 e2 r2 => ⟨F2, e2.sub, r1.ext e2, r2, fun v F3 H3 e3 r3 => by
    cases r3
    exact ⟨t, rfl, q F3 H3 ((e1.trans e2).trans e3)⟩⟩⟩⟩
/-- a op b op c: both asked, or the first alone -/
theorem ev_chain {op op' : CmpOp} (ho : OpOk G C k (compareOp op) d1 d2 (.bool true)) (ho' : OpOk G C k (compareOp op') d2 d3 d) (ha : EvB G C k ρ a d1) (hb : EvB G C k ρ b d2) (hc : EvB G C k ρ c d3) (hm : lastMarks [op, op'] [b, c] = false) :
    Ev G C k ρ (.Compare a [op, op'] [b, c] pos) d := fun X hX =>
  pe_imp (pe_chain (ho X hX) (ho' X hX) (ha X hX) (hb X hX) (hc X hX) hm) fun σ H Q ⟨F0, H0, F, S, q⟩ => ⟨F0, H0, F, S, fun x F1 H1 e1 r1 => ⟨F0, H0, F1, S.go e1, fun y F2 H2 e2 r2 => ⟨F2, e2.sub, r1.ext e2, r2, fun v F3 H3 e3 r3 => by
    cases r3
    refine ⟨true, rfl, iteT ⟨F0, H0, F3, ((S.go e1).go e2).go e3, fun z F4 H4 e4 r4 => ⟨F4, e4.sub, (r2.ext e3).ext e4, r4, fun v F5 H5 e5 r5 => q v F5 H5 (((((e1.trans e2).trans e3).trans e4)).trans e5) r5⟩⟩⟩⟩⟩⟩
theorem ev_chainF {op op' : CmpOp} (ho : OpOk G C k (compareOp op) d1 d2 (.bool false)) (ha : EvB G C k ρ a d1) (hb : EvB G C k ρ b d2) (hc : ∀ X, CxOk G C k X → ∃ t, PE X c t) (ho' : ∀ X, CxOk G C k X → ∃ r, OpR X (compareOp op') r) (hm : lastMarks [op, op'] [b, c] = false) :
    Ev G C k ρ (.Compare a [op, op'] [b, c] pos) (.bool false) := fun X hX => by
  obtain ⟨t, hc⟩ := hc X hX
  obtain ⟨r, ho'⟩ := ho' X hX
  exact pe_imp (pe_chain (ho X hX) ho' (ha X hX) (hb X hX) hc hm) fun σ H Q ⟨F0, H0, F, S, q⟩ => ⟨F0, H0, F, S, fun x F1 H1 e1 r1 => ⟨F0, H0, F1, S.go e1, fun y F2 H2 e2 r2 => ⟨F2, e2.sub, r1.ext e2, r2, fun v F3 H3 e3 r3 => by
    cases r3
    exact ⟨false, rfl, iteF (q _ F3 H3 ((e1.trans e2).trans e3) (.bl false))⟩⟩⟩⟩
/-! ### tests -/
/-- a value as a test -/
theorem te_val (h : EvB G C k ρ e (.bool t)) (he : ∀ env whole, isTrue e env whole = (do let v ← whole; standAt e.pos; holding [v] (truthy v))) : Te G C k ρ e t := fun X hX =>
  pt_imp (pt_val (h X hX) (he _)) fun σ H Q ⟨F0, H0, F, S, q⟩ => ⟨F0, H0, F, S, fun x F1 H1 e1 r1 => by
    rw [r1.bool]
    exact ⟨t, rfl, q F1 H1 e1⟩⟩
/-- the truth of a datum -/
def truD : PyData → Option Bool
  | .none => some false
  | .bool b => some b
  | .int i => some (i != 0)
  | .list xs => some (!xs.isEmpty)
  | .tuple xs => some (!xs.isEmpty)
  | _ => none
theorem isEmpty_eq {K : KK} {F : Hp} {vs : List V} {ds : List PyData} (r : RpA K F vs ds) : vs.isEmpty = ds.isEmpty := by cases r <;> rfl
theorem te_truth (h : EvB G C k ρ e d) (ht : truD d = some t) (he : ∀ env whole, isTrue e env whole = (do let v ← whole; standAt e.pos; holding [v] (truthy v))) : Te G C k ρ e t := fun X hX => by
  refine pt_imp (pt_truth (h X hX) (he _)) fun σ H Q ⟨F0, H0, F, S, q⟩ => ⟨F0, H0, F, S, fun x F1 H1 e1 r1 => ⟨t, ?_, q F1 H1 e1⟩⟩
  rw [hX.eK]
  cases d with
  | none =>
    cases ht
    rcases r1 with r | ⟨_, _, _, _, r⟩
    · cases r; rfl
    · cases r
  | bool b =>
    cases ht
    rw [r1.bool]; rfl
  | int i =>
    cases ht
    rw [r1.int]; rfl
  | list ds =>
    cases ht
    obtain ⟨p, xs, rfl, h1, h2⟩ := r1.lst e1.sub
    exact .inl ⟨xs, h1, by rw [isEmpty_eq h2]⟩
  | tuple ds =>
    cases ht
    obtain ⟨p, xs, rfl, h1, h2⟩ := r1.tup e1.sub
    exact .inr (.inl ⟨xs, h1, by rw [isEmpty_eq h2]⟩)
  | _ => cases ht
theorem te_not (h : Te G C k ρ e t) : Te G C k ρ (.UnaryOp .Not e pos) (!t) := fun X hX => pt_imp (pt_not (h X hX)) fun σ H Q ⟨F0, H0, F, S, q⟩ => ⟨F0, H0, F, S, fun F1 H1 e1 => q F1 H1 e1⟩
theorem Tw.te (h : Tw G C k ρ e t) : Te G C k ρ e t := fun X hX => (h X hX).pt
theorem tw_and1 (h : Te G C k ρ e t) : Tw G C k ρ (.BoolOp .And [e] pos) t := fun X hX => pw_and1 (h X hX)
theorem tw_or1 (h : Te G C k ρ e t) : Tw G C k ρ (.BoolOp .Or [e] pos) t := fun X hX => pw_or1 (h X hX)
/-- a test of which nothing is known, not reached -/
def tNo : TT := fun _ _ _ => False
theorem pt_no {X : Cx} : PT X e tNo := ⟨fun _ _ _ _ _ _ h => h.elim⟩
theorem pw_no {X : Cx} : PW X e tNo := ⟨fun _ _ _ _ _ _ _ h => h.elim⟩
def tNoE : TE := fun _ _ _ => False
theorem pe_no {X : Cx} : PE X e tNoE := ⟨fun _ _ _ _ _ _ h => h.elim⟩
theorem tw_andT {rest : List Expr} (ha : Te G C k ρ a true) (hb : Tw G C k ρ (.BoolOp .And (b :: rest) pos) t) : Tw G C k ρ (.BoolOp .And (a :: b :: rest) pos) t := fun X hX =>
  pw_imp (pw_and (ha X hX) (hb X hX)) fun σ H Q ⟨F0, H0, F, S, q⟩ => ⟨F0, H0, F, S, fun F1 H1 e1 => iteT ⟨F0, H0, F1, S.go e1, fun F2 H2 e2 => q F2 H2 (e1.trans e2)⟩⟩
theorem tw_andF {rest : List Expr} (ha : Te G C k ρ a false) : Tw G C k ρ (.BoolOp .And (a :: b :: rest) pos) false := fun X hX =>
  pw_imp (pw_and (ha X hX) pw_no) fun σ H Q ⟨F0, H0, F, S, q⟩ => ⟨F0, H0, F, S, fun F1 H1 e1 => iteF (q F1 H1 e1)⟩
theorem tw_orF {rest : List Expr} (ha : Te G C k ρ a false) (hb : Tw G C k ρ (.BoolOp .Or (b :: rest) pos) t) : Tw G C k ρ (.BoolOp .Or (a :: b :: rest) pos) t := fun X hX =>
  pw_imp (pw_or (ha X hX) (hb X hX)) fun σ H Q ⟨F0, H0, F, S, q⟩ => ⟨F0, H0, F, S, fun F1 H1 e1 => iteF ⟨F0, H0, F1, S.go e1, fun F2 H2 e2 => q F2 H2 (e1.trans e2)⟩⟩
theorem tw_orT {rest : List Expr} (ha : Te G C k ρ a true) : Tw G C k ρ (.BoolOp .Or (a :: b :: rest) pos) true := fun X hX =>
  pw_imp (pw_or (ha X hX) pw_no) fun σ H Q ⟨F0, H0, F, S, q⟩ => ⟨F0, H0, F, S, fun F1 H1 e1 => iteT (q F1 H1 e1)⟩
/-! ### and, or, not as values (bools) -/
theorem ev_one {op} (h : Ev G C k ρ e d) : Ev G C k ρ (.BoolOp op [e] pos) d := fun X hX => pe_one (h X hX)
theorem ev_andT {rest : List Expr} (ha : Ev G C k ρ a (.bool true)) (hb : Ev G C k ρ (.BoolOp .And (b :: rest) pos) d) : Ev G C k ρ (.BoolOp .And (a :: b :: rest) pos) d := fun X hX =>
  pe_imp (pe_and (ha X hX) (hb X hX)) fun σ H Q ⟨F0, H0, F, S, q⟩ => ⟨F0, H0, F, S, fun x F1 H1 e1 r1 => by cases r1; exact ⟨true, rfl, iteT ⟨F0, H0, F1, S.go e1, fun v F2 H2 e2 r2 => q v F2 H2 (e1.trans e2) r2⟩⟩⟩
theorem ev_andF {rest : List Expr} (ha : Ev G C k ρ a (.bool false)) : Ev G C k ρ (.BoolOp .And (a :: b :: rest) pos) (.bool false) := fun X hX =>
  pe_imp (pe_and (ha X hX) pe_no) fun σ H Q ⟨F0, H0, F, S, q⟩ => ⟨F0, H0, F, S, fun x F1 H1 e1 r1 => by cases r1; exact ⟨false, rfl, iteF (q _ F1 H1 e1 (.bl false))⟩⟩
theorem ev_orF {rest : List Expr} (ha : Ev G C k ρ a (.bool false)) (hb : Ev G C k ρ (.BoolOp .Or (b :: rest) pos) d) : Ev G C k ρ (.BoolOp .Or (a :: b :: rest) pos) d := fun X hX =>
  pe_imp (pe_or (ha X hX) (hb X hX)) fun σ H Q ⟨F0, H0, F, S, q⟩ => ⟨F0, H0, F, S, fun x F1 H1 e1 r1 => by cases r1; exact ⟨false, rfl, iteF ⟨F0, H0, F1, S.go e1, fun v F2 H2 e2 r2 => q v F2 H2 (e1.trans e2) r2⟩⟩⟩
theorem ev_orT {rest : List Expr} (ha : Ev G C k ρ a (.bool true)) : Ev G C k ρ (.BoolOp .Or (a :: b :: rest) pos) (.bool true) := fun X hX =>
  pe_imp (pe_or (ha X hX) pe_no) fun σ H Q ⟨F0, H0, F, S, q⟩ => ⟨F0, H0, F, S, fun x F1 H1 e1 r1 => by cases r1; exact ⟨true, rfl, iteT (q _ F1 H1 e1 (.bl true))⟩⟩
theorem ev_notB (ha : Ev G C k ρ a (.bool t)) : Ev G C k ρ (.UnaryOp .Not a pos) (.bool (!t)) := fun X hX =>
  pe_imp (pe_not (ha X hX)) fun σ H Q ⟨F0, H0, F, S, q⟩ => ⟨F0, H0, F, S, fun x F1 H1 e1 r1 => by cases r1; exact ⟨t, rfl, q _ F1 H1 e1 (.bl _)⟩⟩
theorem ev_ifT (hc : Te G C k ρ c true) (ha : Ev G C k ρ a d) : Ev G C k ρ (.IfExp c a b pos) d := fun X hX =>
  pe_imp (pe_ifExp (hc X hX) (ha X hX) pe_no) fun σ H Q ⟨F0, H0, F, S, q⟩ => ⟨F0, H0, F, S, fun F1 H1 e1 => iteT ⟨F0, H0, F1, S.go e1, fun v F2 H2 e2 r2 => q v F2 H2 (e1.trans e2) r2⟩⟩
theorem ev_ifF (hc : Te G C k ρ c false) (hb : Ev G C k ρ b d) : Ev G C k ρ (.IfExp c a b pos) d := fun X hX =>
  pe_imp (pe_ifExp (hc X hX) pe_no (hb X hX)) fun σ H Q ⟨F0, H0, F, S, q⟩ => ⟨F0, H0, F, S, fun F1 H1 e1 => iteF ⟨F0, H0, F1, S.go e1, fun v F2 H2 e2 r2 => q v F2 H2 (e1.trans e2) r2⟩⟩
/-! ### argument lists, displays -/
theorem ea_nil : EA G C k ρ [] [] := fun X hX => pa_imp pa_nil fun σ H Q ⟨F0, H0, F, S, q⟩ => q [] F H (Ext.refl S.ext.sub) .nil
theorem ea_cons (ha : Ev G C k ρ e d) (hr : EA G C k ρ es ds) (hs : ∀ env, starEach (e :: es) env = (false, eval e env) :: starEach es env) : EA G C k ρ (e :: es) (d :: ds) := fun X hX =>
  pa_imp (pa_cons (ha X hX) (hr X hX) (hs _)) fun σ H Q ⟨F0, H0, F, S, q⟩ => ⟨F0, H0, F, S, fun v F1 H1 e1 r1 => ⟨F0, H0, F1, S.go e1, fun vs F2 H2 e2 r2 => q _ F2 H2 (e1.trans e2) (.cons (r1.mono e2.fs) r2)⟩⟩
theorem eab_nil : EAB G C k ρ [] [] := fun X hX => pa_imp pa_nil fun σ H Q ⟨F0, H0, F, S, q⟩ => q [] F H (Ext.refl S.ext.sub) .nil
theorem eab_cons (ha : EvB G C k ρ e d) (hr : EAB G C k ρ es ds) (hs : ∀ env, starEach (e :: es) env = (false, eval e env) :: starEach es env) : EAB G C k ρ (e :: es) (d :: ds) := fun X hX =>
  pa_imp (pa_cons (ha X hX) (hr X hX) (hs _)) fun σ H Q ⟨F0, H0, F, S, q⟩ => ⟨F0, H0, F, S, fun v F1 H1 e1 r1 => ⟨F0, H0, F1, S.go e1, fun vs F2 H2 e2 r2 => q _ F2 H2 (e1.trans e2) (.cons (r1.ext e2) r2)⟩⟩
theorem EA.toB (h : EA G C k ρ es ds) : EAB G C k ρ es ds := fun X hX => pa_imp (h X hX) fun σ H Q ⟨F0, H0, F, S, q⟩ => ⟨F0, H0, F, S, fun vs F1 H1 e1 r1 => q vs F1 H1 e1 r1.ba⟩
theorem ev_tup {m} (h : EA G C k ρ es ds) (hl : ds.length ≤ sizeLine) : Ev G C k ρ (.Tuple es m pos) (.tuple ds) := fun X hX =>
  pe_imp (pe_tup (h X hX)) fun σ H Q ⟨F0, H0, F, S, q⟩ => ⟨F0, H0, F, S, fun vs F1 H1 e1 r1 => ⟨by rw [r1.length]; exact hl, fun p hp => q _ _ _ (e1.trans (Ext.lay e1.sub hp)) (.tup (.inl (.inl upd_same)) (r1.mono (same_upd (e1.sub.free hp))))⟩⟩
theorem evn_lst (h : EA G C k ρ es ds) (hl : ds.length ≤ sizeLine) : EvN G C k ρ (.List es pos) (.list ds) := fun X hX =>
  pe_imp (pe_lst (h X hX)) fun σ H Q ⟨F0, H0, F, S, q⟩ => ⟨F0, H0, F, S, fun vs F1 H1 e1 r1 => ⟨by rw [r1.length]; exact hl, fun p hp => q p _ F1 _ (e1.trans (Ext.put e1.sub hp)) (e1.hs.free hp) upd_same (e1.sub.free hp) (.lst r1)⟩⟩
/-! ### calls of built-ins -/
theorem ev_callB {x : Str} {id : String} {p : Pos} (hc : CallOk G C k (.builtin id) ds d) (hg : C.sc.names.lookup x = some .globalImplicit) (hm : G.mg x = none) (hv : bootBuiltins x = some (.builtin id)) (ha : EAB G C k ρ (e :: es) ds)
    (hn : x ≠ "__name__") (hdb : (x == ("__debug__" : Str)) = false) (he : ∀ env, starEach (e :: es) env = (false, eval e env) :: starEach es env) (hpl : ∀ env, (backTo pos (starEach es env)).any (·.1) = false) :
    Ev G C k ρ (.Call (.Name x p) (e :: es) [] pos) d := fun X hX =>
  pe_imp (pe_callB (hc X hX) (by unfold Gl Env.kindOf; rw [hX.es]; exact hg) (by rw [hX.em]; exact hm) hv (ha X hX) hn hdb (he _) (hpl _)) fun σ H Q ⟨F0, H0, F, S, q⟩ => ⟨F0, H0, F, S, fun vs F1 H1 e1 r1 => ⟨F1, e1.sub, r1, fun v F2 H2 e2 r2 => q v F2 H2 (e1.trans e2) r2⟩⟩
theorem evn_callB {x : Str} {id : String} {p : Pos} (hc : CallNew G C k (.builtin id) ds d) (hg : C.sc.names.lookup x = some .globalImplicit) (hm : G.mg x = none) (hv : bootBuiltins x = some (.builtin id)) (ha : EAB G C k ρ (e :: es) ds)
    (hn : x ≠ "__name__") (hdb : (x == ("__debug__" : Str)) = false) (he : ∀ env, starEach (e :: es) env = (false, eval e env) :: starEach es env) (hpl : ∀ env, (backTo pos (starEach es env)).any (·.1) = false) :
    EvN G C k ρ (.Call (.Name x p) (e :: es) [] pos) d := fun X hX =>
  pe_imp (pe_callB (hc X hX) (by unfold Gl Env.kindOf; rw [hX.es]; exact hg) (by rw [hX.em]; exact hm) hv (ha X hX) hn hdb (he _) (hpl _)) fun σ H Q ⟨F0, H0, F, S, q⟩ => ⟨F0, H0, F, S, fun vs F1 H1 e1 r1 => ⟨F1, e1.sub, r1, fun p o F2 H2 e2 hn ha hf r2 => q p o F2 H2 (e1.trans e2) (e1.hs.free hn) ha hf r2⟩⟩
theorem ev_callT {x : Str} {T : String} {p : Pos} (hc : CallOk G C k (.type T) ds d) (hg : C.sc.names.lookup x = some .globalImplicit) (hm : G.mg x = none) (hv : bootBuiltins x = some (.type T)) (ha : EAB G C k ρ (e :: es) ds)
    (hn : x ≠ "__name__") (hdb : (x == ("__debug__" : Str)) = false) (he : ∀ env, starEach (e :: es) env = (false, eval e env) :: starEach es env) (hpl : ∀ env, (backTo pos (starEach es env)).any (·.1) = false) :
    Ev G C k ρ (.Call (.Name x p) (e :: es) [] pos) d := fun X hX =>
  pe_imp (pe_callTy (hc X hX) (by unfold Gl Env.kindOf; rw [hX.es]; exact hg) (by rw [hX.em]; exact hm) hv (ha X hX) hn hdb (he _) (hpl _)) fun σ H Q ⟨F0, H0, F, S, q⟩ => ⟨F0, H0, F, S, fun vs F1 H1 e1 r1 => ⟨F1, e1.sub, r1, fun v F2 H2 e2 r2 => q v F2 H2 (e1.trans e2) r2⟩⟩
theorem evn_callT {x : Str} {T : String} {p : Pos} (hc : CallNew G C k (.type T) ds d) (hg : C.sc.names.lookup x = some .globalImplicit) (hm : G.mg x = none) (hv : bootBuiltins x = some (.type T)) (ha : EAB G C k ρ (e :: es) ds)
    (hn : x ≠ "__name__") (hdb : (x == ("__debug__" : Str)) = false) (he : ∀ env, starEach (e :: es) env = (false, eval e env) :: starEach es env) (hpl : ∀ env, (backTo pos (starEach es env)).any (·.1) = false) :
    EvN G C k ρ (.Call (.Name x p) (e :: es) [] pos) d := fun X hX =>
  pe_imp (pe_callTy (hc X hX) (by unfold Gl Env.kindOf; rw [hX.es]; exact hg) (by rw [hX.em]; exact hm) hv (ha X hX) hn hdb (he _) (hpl _)) fun σ H Q ⟨F0, H0, F, S, q⟩ => ⟨F0, H0, F, S, fun vs F1 H1 e1 r1 => ⟨F1, e1.sub, r1, fun p o F2 H2 e2 hn ha hf r2 => q p o F2 H2 (e1.trans e2) (e1.hs.free hn) ha hf r2⟩⟩
end
end Pl
/-! Pl, part C: the operators and built-ins on plain data. -/
namespace Pl
open PySem PySem.Spec PyProof.Rows L2

section
variable {G : Gb} {C : SC} {k : Nat}
/-! ### whole numbers -/
theorem ok_int2 {f : Value → Value → Sem Value} {P : Int → Int → Prop} {g : Int → Int → V} {i j : Int} {d : PyData} (h : ∀ X : Cx, OpR X f (rI P g)) (hp : P i j) (hd : ∀ K F, Rp K F (g i j) d) : OpOk G C k f (.int i) (.int j) d := fun X hX =>
  op_imp (h X) fun x y H Q ⟨F, sF, rx, ry, q⟩ => ⟨i, j, rx.int, ry.int, hp, q _ F H (Ext.refl sF) (hd _ _)⟩
theorem ok_int0 {f : Value → Value → Sem Value} {g : Int → Int → V} {i j : Int} {d : PyData} (h : ∀ X : Cx, OpR X f (rI0 g)) (hd : ∀ K F, Rp K F (g i j) d) : OpOk G C k f (.int i) (.int j) d := fun X hX =>
  op_imp (h X) fun x y H Q ⟨F, sF, rx, ry, q⟩ => ⟨i, j, rx.int, ry.int, q _ F H (Ext.refl sF) (hd _ _)⟩
theorem ok_add {i j : Int} : OpOk G C k (binaryOp .Add) (.int i) (.int j) (.int (i + j)) := ok_int0 (fun _ => op_add) fun _ _ => .int _
theorem ok_sub {i j : Int} : OpOk G C k (binaryOp .Sub) (.int i) (.int j) (.int (i - j)) := ok_int0 (fun _ => op_sub) fun _ _ => .int _
/-- a product's size -/
def MulOk (i j : Int) : Prop := CMul i j ∨ CMulW i j
theorem ok_mul {i j : Int} (h : MulOk i j) : OpOk G C k (binaryOp .Mult) (.int i) (.int j) (.int (i * j)) := by
  rcases h with h | h
  · exact ok_int2 (fun _ => op_mul) h fun _ _ => .int _
  · exact ok_int2 (fun _ => op_mulW) h fun _ _ => .int _
def DivOk (i j : Int) : Prop := 0 < j ∧ (j < 1073741824 ∨ j.natAbs.log2 < 9000)
theorem ok_fdiv {i j : Int} (h : DivOk i j) : OpOk G C k (binaryOp .FloorDiv) (.int i) (.int j) (.int (i / j)) := by
  obtain ⟨h0, h | h⟩ := h
  · exact ok_int2 (P := CDiv) (fun _ => op_fdiv) ⟨h0, h⟩ fun _ _ => .int _
  · exact ok_int2 (P := CDivW) (fun _ => op_fdivW) ⟨h0, h⟩ fun _ _ => .int _
theorem ok_fdivN {i j : Int} (h : j ≠ 0 ∧ j.natAbs < 1073741824) : OpOk G C k (binaryOp .FloorDiv) (.int i) (.int j) (.int (i.fdiv j)) := ok_int2 (fun _ => op_fdivN) h fun _ _ => .int _
theorem ok_mod {i j : Int} (h : 0 < j) : OpOk G C k (binaryOp .Mod) (.int i) (.int j) (.int (i % j)) := ok_int2 (fun _ => op_mod) h fun _ _ => .int _
theorem ok_modN {i j : Int} (h : j ≠ 0) : OpOk G C k (binaryOp .Mod) (.int i) (.int j) (.int (i.fmod j)) := ok_int2 (fun _ => op_modN) h fun _ _ => .int _
theorem ok_pow {i j : Int} (h : CPow i j) : OpOk G C k (binaryOp .Pow) (.int i) (.int j) (.int (i ^ j.toNat)) := ok_int2 (fun _ => op_pow) h fun _ _ => .int _
theorem ok_shl {i j : Int} (h : CPow i j) : OpOk G C k (binaryOp .LShift) (.int i) (.int j) (.int (i * 2 ^ j.toNat)) := ok_int2 (fun _ => op_shl) h fun _ _ => .int _
theorem ok_shr {i j : Int} (h : 0 ≤ j) : OpOk G C k (binaryOp .RShift) (.int i) (.int j) (.int (i / 2 ^ j.toNat)) := ok_int2 (fun _ => op_shr) h fun _ _ => .int _
theorem ok_and {i j : Int} : OpOk G C k (binaryOp .BitAnd) (.int i) (.int j) (.int (Builtin.bitAnd i j)) := ok_int0 (fun _ => op_and) fun _ _ => .int _
theorem ok_or {i j : Int} : OpOk G C k (binaryOp .BitOr) (.int i) (.int j) (.int (Builtin.bitOr i j)) := ok_int0 (fun _ => op_or) fun _ _ => .int _
theorem ok_xor {i j : Int} : OpOk G C k (binaryOp .BitXor) (.int i) (.int j) (.int (Builtin.bitXor i j)) := ok_int0 (fun _ => op_xor) fun _ _ => .int _
theorem ok_neg {i : Int} : UnOk G C k (unaryOp .USub) (.int i) (.int (-i)) := fun X hX => un_imp un_neg fun x H Q ⟨F, sF, rx, q⟩ => ⟨i, rx.int, q _ F H (Ext.refl sF) (.int _)⟩
theorem ok_inv {i : Int} : UnOk G C k (unaryOp .Invert) (.int i) (.int (Builtin.bitNot i)) := fun X hX => un_imp un_inv fun x H Q ⟨F, sF, rx, q⟩ => ⟨i, rx.int, q _ F H (Ext.refl sF) (.int _)⟩
/-! in place -/
theorem ok_iadd {i j : Int} : OpOk G C k (inplaceOp .Add) (.int i) (.int j) (.int (i + j)) := ok_int0 (fun _ => iop_add) fun _ _ => .int _
theorem ok_isub {i j : Int} : OpOk G C k (inplaceOp .Sub) (.int i) (.int j) (.int (i - j)) := ok_int0 (fun _ => iop_sub) fun _ _ => .int _
theorem ok_imul {i j : Int} (h : CMul i j) : OpOk G C k (inplaceOp .Mult) (.int i) (.int j) (.int (i * j)) := ok_int2 (fun _ => iop_mul) h fun _ _ => .int _
theorem ok_ifdiv {i j : Int} (h : CDiv i j) : OpOk G C k (inplaceOp .FloorDiv) (.int i) (.int j) (.int (i / j)) := ok_int2 (fun _ => iop_fdiv) h fun _ _ => .int _
theorem ok_imod {i j : Int} (h : 0 < j) : OpOk G C k (inplaceOp .Mod) (.int i) (.int j) (.int (i % j)) := ok_int2 (fun _ => iop_mod) h fun _ _ => .int _
theorem ok_ior {i j : Int} : OpOk G C k (inplaceOp .BitOr) (.int i) (.int j) (.int (Builtin.bitOr i j)) := ok_int0 (fun _ => iop_or) fun _ _ => .int _
theorem ok_ixor {i j : Int} : OpOk G C k (inplaceOp .BitXor) (.int i) (.int j) (.int (Builtin.bitXor i j)) := ok_int0 (fun _ => iop_xor) fun _ _ => .int _
/-! ### comparisons -/
theorem ok_lt {i j : Int} : OpOk G C k (compareOp .Lt) (.int i) (.int j) (.bool (decide (i < j))) := ok_int0 (fun _ => op_lt) fun _ _ => .bl _
theorem ok_le {i j : Int} : OpOk G C k (compareOp .LtE) (.int i) (.int j) (.bool (decide (i ≤ j))) := ok_int0 (fun _ => op_le) fun _ _ => .bl _
theorem ok_gt {i j : Int} : OpOk G C k (compareOp .Gt) (.int i) (.int j) (.bool (decide (j < i))) := ok_int0 (fun _ => op_gt) fun _ _ => .bl _
theorem ok_ge {i j : Int} : OpOk G C k (compareOp .GtE) (.int i) (.int j) (.bool (decide (j ≤ i))) := ok_int0 (fun _ => op_ge) fun _ _ => .bl _
/-- what can be compared by == at any depth -/
def Eqb (d : PyData) : Prop := noDct d = true ∧ SeqAt.shaped d = true
theorem ok_eq {d e : PyData} (hd : Eqb d) (he : Eqb e) : OpOk G C k (compareOp .Eq) d e (.bool (PyData.eqv d e)) := fun X hX => by
  refine op_imp (op_eqD hX.room.units) fun x y H Q ⟨F, sF, rx, ry, q⟩ => ?_
  rw [hX.eK]
  exact ⟨d, e, (rx.full sF).dp hd.1, (ry.full sF).dp he.1, hd.2, he.2, q _ F H (Ext.refl sF) (.bl _)⟩
theorem ok_ne {d e : PyData} (hd : Eqb d) (he : Eqb e) : OpOk G C k (compareOp .NotEq) d e (.bool (!PyData.eqv d e)) := fun X hX => by
  refine op_imp (op_neD hX.room.units) fun x y H Q ⟨F, sF, rx, ry, q⟩ => ?_
  rw [hX.eK]
  exact ⟨d, e, (rx.full sF).dp hd.1, (ry.full sF).dp he.1, hd.2, he.2, q _ F H (Ext.refl sF) (.bl _)⟩
theorem ok_eqI {i j : Int} : OpOk G C k (compareOp .Eq) (.int i) (.int j) (.bool (decide (i = j))) := fun X hX => by
  refine op_imp op_eq fun x y H Q ⟨F, sF, rx, ry, q⟩ => ?_
  rw [rx.int, ry.int]
  refine ⟨rfl, ?_⟩
  rw [dec_int, Bool.beq_eq_decide_eq]
  exact q _ F H (Ext.refl sF) (.bl _)
theorem ok_neI {i j : Int} : OpOk G C k (compareOp .NotEq) (.int i) (.int j) (.bool (decide (i ≠ j))) := fun X hX => by
  refine op_imp op_ne fun x y H Q ⟨F, sF, rx, ry, q⟩ => ?_
  rw [rx.int, ry.int]
  refine ⟨rfl, ?_⟩
  rw [dec_int, Bool.beq_eq_decide_eq, ← decide_not]
  exact q _ F H (Ext.refl sF) (.bl _)
theorem ok_eqS {i j : Str} : OpOk G C k (compareOp .Eq) (.str i) (.str j) (.bool (decide (i = j))) := fun X hX => by
  refine op_imp op_eq fun x y H Q ⟨F, sF, rx, ry, q⟩ => ?_
  rw [rx.str, ry.str]
  refine ⟨rfl, ?_⟩
  rw [dec_str, Bool.beq_eq_decide_eq]
  exact q _ F H (Ext.refl sF) (.bl _)
theorem ok_neS {i j : Str} : OpOk G C k (compareOp .NotEq) (.str i) (.str j) (.bool (decide (i ≠ j))) := fun X hX => by
  refine op_imp op_ne fun x y H Q ⟨F, sF, rx, ry, q⟩ => ?_
  rw [rx.str, ry.str]
  refine ⟨rfl, ?_⟩
  rw [dec_str, Bool.beq_eq_decide_eq, ← decide_not]
  exact q _ F H (Ext.refl sF) (.bl _)
theorem ok_eqB {i j : Bool} : OpOk G C k (compareOp .Eq) (.bool i) (.bool j) (.bool (i == j)) := fun X hX => by
  refine op_imp op_eq fun x y H Q ⟨F, sF, rx, ry, q⟩ => ?_
  rw [rx.bool, ry.bool]
  refine ⟨rfl, ?_⟩
  rw [dec_bl]
  exact q _ F H (Ext.refl sF) (.bl _)
theorem ok_neB {i j : Bool} : OpOk G C k (compareOp .NotEq) (.bool i) (.bool j) (.bool (!(i == j))) := fun X hX => by
  refine op_imp op_ne fun x y H Q ⟨F, sF, rx, ry, q⟩ => ?_
  rw [rx.bool, ry.bool]
  refine ⟨rfl, ?_⟩
  rw [dec_bl]
  exact q _ F H (Ext.refl sF) (.bl _)
theorem RpB.none {K : KK} {F H : Hp} {v : V} (h : RpB K F H v .none) : v = .non := by
  rcases h with h | ⟨a, o, e1, e2, h⟩
  · cases h; rfl
  · cases h
def isNoneD : PyData → Bool
  | .none => true
  | _ => false
theorem RpB.isNone {K : KK} {F H : Hp} {v : V} {d : PyData} (h : RpB K F H v d) : decide (v = .non) = isNoneD d := by
  rcases h with h | ⟨a, o, e1, e2, h⟩
  · cases h <;> rfl
  · subst e1; cases h <;> rfl
theorem ok_is {d : PyData} : OpOk G C k (compareOp .Is) d .none (.bool (isNoneD d)) := fun X hX => op_imp op_isN fun x y H Q ⟨F, sF, rx, ry, q⟩ => ⟨ry.none, by rw [rx.isNone]; exact q _ F H (Ext.refl sF) (.bl _)⟩
theorem ok_isnot {d : PyData} : OpOk G C k (compareOp .IsNot) d .none (.bool (!isNoneD d)) := fun X hX => op_imp op_notN fun x y H Q ⟨F, sF, rx, ry, q⟩ => ⟨ry.none, by rw [rx.isNone]; exact q _ F H (Ext.refl sF) (.bl _)⟩
/-! order of data -/
section
variable {d e : PyData}
theorem room65 {A : Around} (h : Room k A) {d e : PyData} (hd : SeqAt.shaped d = true) : A.units + min d.depth e.depth < cLine := by
  have h1 := h.units
  have h2 : d.depth ≤ 64 := of_decide_eq_true (and_r (show (d.canLay0 && decide (d.depth ≤ 64)) = true from hd))
  omega
theorem ok_cmpD {op : CmpOp} {b : Bool} (hd : Eqb d) (he : Eqb e) (h : ∀ (prog : Program) (w : World) (A : Around) (E : Value → Shared → Prop) (s : Shared) (a c : Value) (as bs : List Addr) (Q : Value → Shared → Prop), Reads s.heap a d as → Reads s.heap c e bs → A.units + min d.depth e.depth < cLine → Q (.bool b) s →
    wpAny (model prog w) A (compareOp op a c) Q E s) : OpOk G C k (compareOp op) d e (.bool b) := fun X hX => by
  intro pins s σ H x y v u Q I rx ry ⟨F, sF, bx, by_, q⟩
  rw [← hX.eK] at bx by_
  obtain ⟨as, r1⟩ := Dp.reads I d x v ((bx.full sF).dp hd.1) rx
  obtain ⟨bs, r2⟩ := Dp.reads I e y u ((by_.full sF).dp he.1) ry
  exact h _ _ _ _ _ _ _ _ _ _ r1 r2 (room65 hX.room hd.2) ⟨.bl b, H, I, rfl, q _ F H (Ext.refl sF) (.bl b)⟩
theorem ok_ltD (hd : Eqb d) (he : Eqb e) (h : PySem.W.alike d e = true) (hn : d ≠ .none) : OpOk G C k (compareOp .Lt) d e (.bool (PySem.W.dataLt d e)) := ok_cmpD hd he fun _ _ _ _ _ _ _ _ _ _ r1 r2 hu q => PySem.W.lt_data r1 r2 h hn hu q
theorem ok_gtD (hd : Eqb d) (he : Eqb e) (h : PySem.W.alike d e = true) (hn : d ≠ .none) : OpOk G C k (compareOp .Gt) d e (.bool (PySem.W.dataLt e d)) := ok_cmpD hd he fun _ _ _ _ _ _ _ _ _ _ r1 r2 hu q => PySem.W.gt_data r1 r2 h hn hu q
theorem ok_leD (hd : Eqb d) (he : Eqb e) (h : PySem.W.alike d e = true) (hn : d ≠ .none) : OpOk G C k (compareOp .LtE) d e (.bool (!PySem.W.dataLt e d)) := ok_cmpD hd he fun _ _ _ _ _ _ _ _ _ _ r1 r2 hu q => PySem.W.le_data r1 r2 h hn hu q
theorem ok_geD (hd : Eqb d) (he : Eqb e) (h : PySem.W.alike d e = true) (hn : d ≠ .none) : OpOk G C k (compareOp .GtE) d e (.bool (!PySem.W.dataLt d e)) := ok_cmpD hd he fun _ _ _ _ _ _ _ _ _ _ r1 r2 hu q => PySem.W.ge_data r1 r2 h hn hu q
end
/-! in, not in -/
theorem depth_le {d : PyData} (hd : SeqAt.shaped d = true) : d.depth ≤ 64 := of_decide_eq_true (and_r (show (d.canLay0 && decide (d.depth ≤ 64)) = true from hd))
theorem ok_inL {d : PyData} {ds : List PyData} (hd : Eqb d) (he : Eqb (.list ds)) : OpOk G C k (compareOp .In) d (.list ds) (.bool (ds.any fun z => PyData.eqv z d)) := fun X hX => by
  intro pins s σ H x y v u Q I rx ry ⟨F, sF, bx, by_, q⟩
  rw [← hX.eK] at bx by_
  obtain ⟨as, r1⟩ := Dp.reads I d x v ((bx.full sF).dp hd.1) rx
  obtain ⟨bs, r2⟩ := Dp.reads I (.list ds) y u ((by_.full sF).dp he.1) ry
  have hu := hX.room.un
  exact SeqAt.in_list_reads r2 r1 (SeqAt.canLay_of_shaped he.2) (SeqAt.canLay_of_shaped hd.2) (room_in_shaped hd.2 (by omega)) ⟨.bl _, H, I, rfl, q _ F H (Ext.refl sF) (.bl _)⟩
theorem ok_notInL {d : PyData} {ds : List PyData} (hd : Eqb d) (he : Eqb (.list ds)) : OpOk G C k (compareOp .NotIn) d (.list ds) (.bool (!ds.any fun z => PyData.eqv z d)) := fun X hX => by
  intro pins s σ H x y v u Q I rx ry ⟨F, sF, bx, by_, q⟩
  rw [← hX.eK] at bx by_
  obtain ⟨as, r1⟩ := Dp.reads I d x v ((bx.full sF).dp hd.1) rx
  obtain ⟨bs, r2⟩ := Dp.reads I (.list ds) y u ((by_.full sF).dp he.1) ry
  have hu := hX.room.un
  exact SeqAt.notIn_list_reads r2 r1 (SeqAt.canLay_of_shaped he.2) (SeqAt.canLay_of_shaped hd.2) (room_in_shaped hd.2 (by omega)) ⟨.bl _, H, I, rfl, q _ F H (Ext.refl sF) (.bl _)⟩
theorem ok_inT {d : PyData} {ds : List PyData} (hd : Eqb d) (he : Eqb (.tuple ds)) : OpOk G C k (compareOp .In) d (.tuple ds) (.bool (ds.any fun z => PyData.eqv z d)) := fun X hX => by
  intro pins s σ H x y v u Q I rx ry ⟨F, sF, bx, by_, q⟩
  rw [← hX.eK] at bx by_
  obtain ⟨as, r1⟩ := Dp.reads I d x v ((bx.full sF).dp hd.1) rx
  obtain ⟨bs, r2⟩ := Dp.reads I (.tuple ds) y u ((by_.full sF).dp he.1) ry
  have hu := hX.room.un
  exact SeqAt.in_tuple_reads r2 r1 (SeqAt.canLay_of_shaped he.2) (SeqAt.canLay_of_shaped hd.2) (room_in_shaped hd.2 (by omega)) ⟨.bl _, H, I, rfl, q _ F H (Ext.refl sF) (.bl _)⟩
theorem ok_notInT {d : PyData} {ds : List PyData} (hd : Eqb d) (he : Eqb (.tuple ds)) : OpOk G C k (compareOp .NotIn) d (.tuple ds) (.bool (!ds.any fun z => PyData.eqv z d)) := fun X hX => by
  intro pins s σ H x y v u Q I rx ry ⟨F, sF, bx, by_, q⟩
  rw [← hX.eK] at bx by_
  obtain ⟨as, r1⟩ := Dp.reads I d x v ((bx.full sF).dp hd.1) rx
  obtain ⟨bs, r2⟩ := Dp.reads I (.tuple ds) y u ((by_.full sF).dp he.1) ry
  have hu := hX.room.un
  exact SeqAt.notIn_tuple_reads r2 r1 (SeqAt.canLay_of_shaped he.2) (SeqAt.canLay_of_shaped hd.2) (room_in_shaped hd.2 (by omega)) ⟨.bl _, H, I, rfl, q _ F H (Ext.refl sF) (.bl _)⟩
end
end Pl
/-! Pl, part D: sequences. -/
namespace Pl
open PySem PySem.Spec PyProof.Rows L2

section
variable {X : Cx}
/-- list + list, however they stand -/
def rCatL (K : KK) : R2 := fun x y H Q => ∃ l b xs zs, x = .ref l ∧ y = .ref b ∧ SqL K H l xs ∧ SqL K H b zs ∧ xs.length + zs.length ≤ sizeLine ∧ ∀ p, H p = none → Q (.ref p) (upd H p (.lst (xs ++ zs)))
theorem op_catL : OpR X (binaryOp .Add) (rCatL X.K) := by
  intro pins s σ H x y v u Q I rx ry h
  obtain ⟨l, b, xs, zs, rfl, rfl, hH, hB, hz, q⟩ := h
  cases rx
  cases ry
  obtain ⟨its, r, ⟨⟨cls, dd, data, sl⟩, n, ho, hc, hd0, hd⟩, z⟩ := I.list hH
  obtain ⟨its2, r2, ⟨⟨cls2, dd2, data2, sl2⟩, n2, ho2, hc2, hd02, hd2⟩, z2⟩ := I.list hB
  simp only at hc hd hc2 hd2
  subst hc hd hc2 hd2
  have h1 := r.length
  have h2 := r2.length
  have e : its.toArray ++ its2.toArray = (its ++ its2).toArray := by simp
  refine concat_meets ⟨_, ho, rfl⟩ ⟨_, ho2, rfl⟩ noFill_list_add seq_list_add PySem.F.slot_list_add PySem.F.entry_list_add (PySem.F.args_list_add_2 _ _) (list_addW l b its.toArray its2.toArray n n2 dd dd2 sl sl2 (by rw [List.size_toArray, List.size_toArray]; omega)) ⟨ho, ho2, ?_⟩
  rw [e]
  exact ⟨.ref _, _, I.lnew (t' := s.toks) (r.append r2) (by rw [List.length_append]; omega), rfl, q _ I.fresh⟩
/-- sum of a tuple of ints -/
theorem cr_sumT (hc : X.calm = true) : CallR X (.builtin "sum") (fun vs H Q => ∃ (a : Addr) (ns : List Int), vs = [V.ref a] ∧ SqT X.K H a (ns.map V.int) ∧ Q (.int ns.sum) H) := by
  intro pins s σ H vs us Q I r h
  obtain ⟨a, ns, rfl, hs, q⟩ := h
  obtain ⟨its, rv, hl, _⟩ := I.tuple hs
  rw [Vals.ref1 r]
  have hi := rv.ints
  obtain ⟨xs, e⟩ := hi.allInts.items
  have hn : numsOf (intItems xs).toList = ns := by rw [← e]; exact hi.numsOf
  rw [nums_intItems] at hn
  obtain ⟨o, ho, hcl, n, hd⟩ := hl
  have ht : s.heap.IsTuple a (intItems xs) := ⟨o, ho, hcl, n, by rw [hd, e]⟩
  refine PySem.W.ktm_sumG (I.ok.hd hc) ht fun h' tk t' hk => ?_
  refine ⟨.int ns.sum, H, I.kept hk, ⟨t', ?_⟩, q⟩
  rw [preSum_eq, List.take_of_length_le (by simp), hn]
end

section
variable {G : Gb} {C : SC} {k : Nat} {ρ : PEnv}
theorem ok_cat {ds es : List PyData} (hl : ds.length + es.length ≤ sizeLine) : OpOk G C k (binaryOp .Add) (.tuple ds) (.tuple es) (.tuple (ds ++ es)) := fun X hX => by
  refine op_imp op_catA fun x y H Q ⟨F, sF, rx, ry, q⟩ => ?_
  rw [hX.eK]
  obtain ⟨a, xs, rfl, h1, r1⟩ := rx.tup sF
  obtain ⟨b, ys, rfl, h2, r2⟩ := ry.tup sF
  have l1 := r1.length
  have l2 := r2.length
  rcases rx with rx | ⟨_, _, _, _, rx⟩
  · rcases ry with ry | ⟨_, _, _, _, ry⟩
    · refine ⟨a, b, xs, ys, rfl, rfl, h1, h2, by omega, fun e => ?_, fun _ e => ?_, fun _ _ p hp => ?_⟩
      · subst e
        cases r1
        exact q _ F H (Ext.refl sF) ry
      · subst e
        cases r2
        rw [List.append_nil] at q
        exact q _ F H (Ext.refl sF) rx
      · exact q _ _ _ (Ext.lay sF hp) (.tup (.inl (.inl upd_same)) ((r1.append r2).mono (same_upd (sF.free hp))))
    · cases ry
  · cases rx
theorem new_cat {ds es : List PyData} (hl : ds.length + es.length ≤ sizeLine) : OpNew G C k (binaryOp .Add) (.list ds) (.list es) (.list (ds ++ es)) := fun X hX => by
  refine op_imp op_catL fun x y H Q ⟨F, sF, rx, ry, q⟩ => ?_
  rw [hX.eK]
  obtain ⟨a, xs, rfl, h1, r1⟩ := rx.lst sF
  obtain ⟨b, ys, rfl, h2, r2⟩ := ry.lst sF
  have l1 := r1.length
  have l2 := r2.length
  exact ⟨a, b, xs, ys, rfl, rfl, h1, h2, by omega, fun p hp => q p _ F _ (Ext.put sF hp) hp upd_same (sF.free hp) (.lst (r1.append r2))⟩
theorem rep_length {α : Type} (n : Nat) (l : List α) : (List.replicate n l).flatten.length = n * l.length := by
  rw [List.length_flatten, List.map_replicate, List.sum_replicate_nat]
/-- [..] * n -/
theorem evn_rep {a b : Expr} {ds : List PyData} {n : Int} {pos : Pos} (ha : EvN G C k ρ a (.list ds)) (hb : EvB G C k ρ b (.int n)) (h1 : -(2 ^ 63) ≤ n) (h2 : n < 2 ^ 63) (hl : ds.length * n.toNat ≤ sizeLine) :
    EvN G C k ρ (.BinOp a .Mult b pos) (.list (List.replicate n.toNat ds).flatten) := fun X hX =>
  pe_imp (pe_op op_rep (ha X hX) (hb X hX)) fun σ H Q ⟨F0, H0, F, S, q⟩ => ⟨F0, H0, F, S, fun p o F1 H1 e1 hn hp hf r1 => ⟨F0, H0, F1, S.go e1, fun y F2 H2 e2 r2 => by
    cases r1 with
    | lst r1 =>
      have l1 := r1.length
      refine ⟨p, n, _, rfl, r2.int, e2.hs _ _ hp, h1, h2, by rw [l1]; exact hl, fun p2 hp2 => ?_⟩
      have e := e1.trans e2
      refine q p2 _ F2 _ (e.trans (Ext.put e2.sub hp2)) (e.hs.free hp2) upd_same (e2.sub.free hp2) (.lst (RpA.rep (r1.mono e2.fs) _))⟩⟩
/-! ### texts -/
theorem ok_catS {x y : Str} (hl : x.length + y.length ≤ sizeLine) : OpOk G C k (binaryOp .Add) (.str x) (.str y) (.str (x ++ y)) := fun X hX =>
  op_imp op_add_str fun _ _ H Q ⟨F, sF, rx, ry, q⟩ => ⟨x, y, rx.str, ry.str, hl, q _ F H (Ext.refl sF) (.str _)⟩
/-! ### subscripts -/
theorem ev_ix {a b : Expr} {ds : List PyData} {i : Int} {d : PyData} {pos : Pos} (ha : EvB G C k ρ a (.list ds)) (hb : EvB G C k ρ b (.int i)) (h : atI ds i = some d) (hs : PlainIx b) : Ev G C k ρ (.Subscript a b pos) d := fun X hX =>
  pe_imp (pe_ix ix_list (ha X hX) (hb X hX) hs) fun σ H Q ⟨F0, H0, F, S, q⟩ => ⟨F0, H0, F, S, fun x F1 H1 e1 r1 => ⟨F0, H0, F1, S.go e1, fun y F2 H2 e2 r2 => by
    obtain ⟨p, xs, rfl, h1, h2⟩ := (r1.ext e2).lst e2.sub
    obtain ⟨j, hj, hjd, hlt, hlo, hhi⟩ := atI_get h
    obtain ⟨v, hv, rv⟩ := h2.at hjd
    refine ⟨p, xs, i, v, rfl, r2.int, by rw [hX.eK]; exact h1, ?_, q v F2 H2 (e1.trans e2) rv⟩
    unfold atI at h ⊢
    rw [h2.length]
    cases e : ixN ds.length i with
    | none => rw [e] at h; cases h
    | some m =>
      obtain ⟨z, _⟩ := ixN_seq e
      rw [hj] at z
      cases z
      exact hv⟩⟩
theorem ev_ixT {a b : Expr} {ds : List PyData} {i : Int} {d : PyData} {pos : Pos} (ha : EvB G C k ρ a (.tuple ds)) (hb : EvB G C k ρ b (.int i)) (h : atI ds i = some d) (hs : PlainIx b) : Ev G C k ρ (.Subscript a b pos) d := fun X hX =>
  pe_imp (pe_ix ix_tup (ha X hX) (hb X hX) hs) fun σ H Q ⟨F0, H0, F, S, q⟩ => ⟨F0, H0, F, S, fun x F1 H1 e1 r1 => ⟨F0, H0, F1, S.go e1, fun y F2 H2 e2 r2 => by
    obtain ⟨p, xs, rfl, h1, h2⟩ := (r1.ext e2).tup e2.sub
    obtain ⟨j, hj, hjd, hlt, hlo, hhi⟩ := atI_get h
    obtain ⟨v, hv, rv⟩ := h2.at hjd
    refine ⟨p, xs, i, v, rfl, r2.int, by rw [hX.eK]; exact h1, ?_, q v F2 H2 (e1.trans e2) rv⟩
    unfold atI at h ⊢
    rw [h2.length]
    cases e : ixN ds.length i with
    | none => rw [e] at h; cases h
    | some m =>
      obtain ⟨z, _⟩ := ixN_seq e
      rw [hj] at z
      cases z
      exact hv⟩⟩
theorem ev_ixS {a b : Expr} {z : Str} {i : Int} {c : Nat} {pos : Pos} (ha : EvB G C k ρ a (.str z)) (hb : EvB G C k ρ b (.int i)) (hz : z.length ≤ sizeLine) (h : atI z.cps.toList i = some c) (hs : PlainIx b) : Ev G C k ρ (.Subscript a b pos) (.str ⟨#[c]⟩) := fun X hX =>
  pe_imp (pe_ix ix_str (ha X hX) (hb X hX) hs) fun σ H Q ⟨F0, H0, F, S, q⟩ => ⟨F0, H0, F, S, fun x F1 H1 e1 r1 => ⟨F0, H0, F1, S.go e1, fun y F2 H2 e2 r2 =>
    ⟨z, i, c, r1.str, r2.int, hz, h, q _ F2 H2 (e1.trans e2) (.str _)⟩⟩⟩
/-! slices -/
/-- a part of a slice: left out, or an int -/
def EP' (G : Gb) (C : SC) (k : Nat) (ρ : PEnv) (e : Option Expr) (o : Option Int) : Prop := ∀ X, CxOk G C k X → PO X e fun σ H Q => ∃ F0 H0 F, SRel G.K F0 H0 ρ σ F H ∧ ∀ F' H', Ext F H F' H' → Q o H'
theorem po_imp {X : Cx} {e : Option Expr} {t t' : TO} (h : PO X e t) (i : ∀ σ H Q, t' σ H Q → t σ H Q) : PO X e t' := ⟨fun pins s σ H Q I q => h.run pins s σ H Q I (i σ H Q q)⟩
theorem ep_none : EP' G C k ρ none none := fun X hX => po_imp po_none fun σ H Q ⟨F0, H0, F, S, q⟩ => q F H (Ext.refl S.ext.sub)
theorem ep_some {e : Expr} {i : Int} (h : EvB G C k ρ e (.int i)) : EP' G C k ρ (some e) (some i) := fun X hX => po_imp (po_some (h X hX)) fun σ H Q ⟨F0, H0, F, S, q⟩ => ⟨F0, H0, F, S, fun x F1 H1 e1 r1 => ⟨i, r1.int, q F1 H1 e1⟩⟩
/-- xs[lo:hi] -/
def cutD {α : Type} (xs : List α) (lo hi : Option Int) : List α := (xs.drop (HT.sIx xs.length 0 lo)).take (HT.sIx xs.length xs.length hi - HT.sIx xs.length 0 lo)
theorem cutD_length {α : Type} (xs : List α) (lo hi : Option Int) : (cutD xs lo hi).length ≤ xs.length := by
  unfold cutD
  rw [List.length_take, List.length_drop]
  omega
theorem RpA.cut {K : KK} {F : Hp} {vs : List V} {ds : List PyData} (r : RpA K F vs ds) (lo hi : Option Int) : RpA K F (cutV vs lo hi) (cutD ds lo hi) := by
  unfold cutV cutD
  rw [r.length]
  exact (r.drop _).take _
theorem evn_slice {e : Expr} {lo hi : Option Expr} {l u : Option Int} {ds : List PyData} {p2 pos : Pos} (he : EvB G C k ρ e (.list ds)) (hl : EP' G C k ρ lo l) (hu : EP' G C k ρ hi u) : EvN G C k ρ (.Subscript e (.Slice lo hi none p2) pos) (.list (cutD ds l u)) := fun X hX =>
  pe_imp (pe_slice sl_list (he X hX) (hl X hX) (hu X hX)) fun σ H Q ⟨F0, H0, F, S, q⟩ => ⟨F0, H0, F, S, fun x F1 H1 e1 r1 => ⟨F0, H0, F1, S.go e1, fun F2 H2 e2 => ⟨F0, H0, F2, (S.go e1).go e2, fun F3 H3 e3 => by
    have e23 := e2.trans e3
    obtain ⟨p, xs, rfl, h1, h2⟩ := (r1.ext e23).lst e3.sub
    have e := e1.trans e23
    exact ⟨p, xs, rfl, by rw [hX.eK]; exact h1, fun p2 hp2 => q p2 _ F3 _ (e.trans (Ext.put e3.sub hp2)) (e.hs.free hp2) upd_same (e3.sub.free hp2) (.lst (h2.cut _ _))⟩⟩⟩⟩
theorem cut_whole {α : Type} {xs : List α} {lo hi : Option Int} (h : HT.sIx xs.length 0 lo = 0 ∧ HT.sIx xs.length xs.length hi = xs.length) : cutD xs lo hi = xs := by
  unfold cutD
  rw [h.1, h.2, List.drop_zero, Nat.sub_zero, List.take_length]
theorem ev_sliceT {e : Expr} {lo hi : Option Expr} {l u : Option Int} {ds : List PyData} {p2 pos : Pos} (he : Ev G C k ρ e (.tuple ds)) (hl : EP' G C k ρ lo l) (hu : EP' G C k ρ hi u) : Ev G C k ρ (.Subscript e (.Slice lo hi none p2) pos) (.tuple (cutD ds l u)) := fun X hX =>
  pe_imp (pe_slice sl_tupA (he X hX) (hl X hX) (hu X hX)) fun σ H Q ⟨F0, H0, F, S, q⟩ => ⟨F0, H0, F, S, fun x F1 H1 e1 r1 => ⟨F0, H0, F1, S.go e1, fun F2 H2 e2 => ⟨F0, H0, F2, (S.go e1).go e2, fun F3 H3 e3 => by
    have e23 := e2.trans e3
    have r3 := r1.mono e23.fs
    obtain ⟨p, xs, rfl, h1, h2⟩ := (Rp.b (H := H3) r3).tup e3.sub
    have e := e1.trans e23
    have hl := h2.length
    refine ⟨p, xs, rfl, by rw [hX.eK]; exact h1, fun hw => ?_, fun hw p2 hp2 => ?_⟩
    · rw [hl] at hw
      rw [cut_whole hw] at q
      exact q _ F3 H3 e r3
    · exact q _ _ _ (e.trans (Ext.lay e3.sub hp2)) (.tup (.inl (.inl upd_same)) ((h2.cut _ _).mono (same_upd (e3.sub.free hp2))))⟩⟩⟩
end
end Pl
/-! Pl, part E: built-in functions on plain data. -/
namespace Pl
open PySem PySem.Spec PyProof.Rows L2

section
variable {G : Gb} {C : SC} {k : Nat} {ρ : PEnv}
theorem ba1 {K : KK} {F H : Hp} {xs : List V} {d : PyData} (h : RpBA K F H xs [d]) : ∃ x, xs = [x] ∧ RpB K F H x d := by
  cases h with
  | cons r t => cases t; exact ⟨_, rfl, r⟩
theorem ba2 {K : KK} {F H : Hp} {xs : List V} {d e : PyData} (h : RpBA K F H xs [d, e]) : ∃ x y, xs = [x, y] ∧ RpB K F H x d ∧ RpB K F H y e := by
  cases h with
  | cons r t => obtain ⟨y, rfl, r2⟩ := ba1 t; exact ⟨_, y, rfl, r, r2⟩
/-- how many items -/
def lenD : PyData → Option Int
  | .list xs => some xs.length
  | .tuple xs => some xs.length
  | .str z => if z.length ≤ sizeLine then some z.length else none
  | _ => none
theorem ok_len {d : PyData} {n : Int} (h : lenD d = some n) : CallOk G C k (.builtin "len") [d] (.int n) := fun X hX => by
  refine call_imp call_len fun xs H Q ⟨F, sF, r, q⟩ => ?_
  rw [hX.eK]
  obtain ⟨x, rfl, rx⟩ := ba1 r
  cases d with
  | list ds =>
    cases h
    obtain ⟨p, ys, rfl, h1, h2⟩ := rx.lst sF
    exact ⟨_, ds.length, rfl, .inl ⟨ys, h1, h2.length.symm⟩, q _ F H (Ext.refl sF) (.int _)⟩
  | tuple ds =>
    cases h
    obtain ⟨p, ys, rfl, h1, h2⟩ := rx.tup sF
    exact ⟨_, ds.length, rfl, .inr ⟨ys, h1, h2.length.symm⟩, q _ F H (Ext.refl sF) (.int _)⟩
  | str z =>
    have h' : (if z.length ≤ sizeLine then some (z.length : Int) else none) = some n := h
    by_cases hz : z.length ≤ sizeLine
    · rw [if_pos hz] at h'
      cases h'
      rw [rx.str]
      exact ⟨_, z.length, rfl, ⟨hz, rfl⟩, q _ F H (Ext.refl sF) (.int _)⟩
    · rw [if_neg hz] at h'
      cases h'
  | _ => cases h
theorem ok_abs {i : Int} : CallOk G C k (.builtin "abs") [.int i] (.int (if i < 0 then -i else i)) := fun X hX => by
  refine call_imp call_abs fun xs H Q ⟨F, sF, r, q⟩ => ?_
  obtain ⟨x, rfl, rx⟩ := ba1 r
  rw [rx.int]
  exact ⟨i, rfl, q _ F H (Ext.refl sF) (.int _)⟩
theorem ok_max2 {i j : Int} : CallOk G C k (.builtin "max") [.int i, .int j] (.int (if j > i then j else i)) := fun X hX => by
  refine call_imp (call_max2 hX.calm) fun xs H Q ⟨F, sF, r, q⟩ => ?_
  obtain ⟨x, y, rfl, rx, ry⟩ := ba2 r
  rw [rx.int, ry.int]
  exact ⟨i, j, rfl, q _ F H (Ext.refl sF) (.int _)⟩
theorem ok_min2 {i j : Int} : CallOk G C k (.builtin "min") [.int i, .int j] (.int (if j < i then j else i)) := fun X hX => by
  refine call_imp (call_min2 hX.calm) fun xs H Q ⟨F, sF, r, q⟩ => ?_
  obtain ⟨x, y, rfl, rx, ry⟩ := ba2 r
  rw [rx.int, ry.int]
  exact ⟨i, j, rfl, q _ F H (Ext.refl sF) (.int _)⟩
theorem ok_intI {i : Int} : CallOk G C k (.type "int") [.int i] (.int i) := fun X hX => by
  refine call_imp call_int1 fun xs H Q ⟨F, sF, r, q⟩ => ?_
  obtain ⟨x, rfl, rx⟩ := ba1 r
  rw [rx.int]
  exact .inl ⟨i, rfl, q _ F H (Ext.refl sF) (.int _)⟩
theorem ok_intB {b : Bool} : CallOk G C k (.type "int") [.bool b] (.int (if b then 1 else 0)) := fun X hX => by
  refine call_imp call_int1 fun xs H Q ⟨F, sF, r, q⟩ => ?_
  obtain ⟨x, rfl, rx⟩ := ba1 r
  rw [rx.bool]
  exact .inr ⟨b, rfl, q _ F H (Ext.refl sF) (.int _)⟩
theorem ok_strI {i : Int} (h : i.natAbs.log2 < 1920) : CallOk G C k (.type "str") [.int i] (.str (toString i)) := fun X hX => by
  refine call_imp call_str_int fun xs H Q ⟨F, sF, r, q⟩ => ?_
  obtain ⟨x, rfl, rx⟩ := ba1 r
  rw [rx.int]
  exact ⟨i, rfl, h, q _ F H (Ext.refl sF) (.str _)⟩
theorem ok_sumL {ns : List Int} : CallOk G C k (.builtin "sum") [.list (ns.map .int)] (.int ns.sum) := fun X hX => by
  refine call_imp (cr_sum hX.calm) fun xs H Q ⟨F, sF, r, q⟩ => ?_
  rw [hX.eK]
  obtain ⟨x, rfl, rx⟩ := ba1 r
  obtain ⟨p, ys, rfl, h1, h2⟩ := rx.lst sF
  rw [h2.ints] at h1
  exact ⟨p, ns, rfl, h1, q _ F H (Ext.refl sF) (.int _)⟩
theorem ok_sumT {ns : List Int} : CallOk G C k (.builtin "sum") [.tuple (ns.map .int)] (.int ns.sum) := fun X hX => by
  refine call_imp (cr_sumT hX.calm) fun xs H Q ⟨F, sF, r, q⟩ => ?_
  rw [hX.eK]
  obtain ⟨x, rfl, rx⟩ := ba1 r
  obtain ⟨p, ys, rfl, h1, h2⟩ := rx.tup sF
  rw [h2.ints] at h1
  exact ⟨p, ns, rfl, h1, q _ F H (Ext.refl sF) (.int _)⟩
theorem ok_any {bs : List Bool} : CallOk G C k (.builtin "any") [.list (bs.map .bool)] (.bool (bs.any id)) := fun X hX => by
  refine call_imp (cr_any hX.calm) fun xs H Q ⟨F, sF, r, q⟩ => ?_
  unfold rAny
  rw [hX.eK]
  obtain ⟨x, rfl, rx⟩ := ba1 r
  obtain ⟨p, ys, rfl, h1, h2⟩ := rx.lst sF
  rw [h2.bools] at h1
  exact ⟨p, bs, rfl, h1, q _ F H (Ext.refl sF) (.bl _)⟩
theorem ok_all {bs : List Bool} : CallOk G C k (.builtin "all") [.list (bs.map .bool)] (.bool (bs.all id)) := fun X hX => by
  refine call_imp (cr_all hX.calm) fun xs H Q ⟨F, sF, r, q⟩ => ?_
  unfold rAll
  rw [hX.eK]
  obtain ⟨x, rfl, rx⟩ := ba1 r
  obtain ⟨p, ys, rfl, h1, h2⟩ := rx.lst sF
  rw [h2.bools] at h1
  exact ⟨p, bs, rfl, h1, q _ F H (Ext.refl sF) (.bl _)⟩
theorem ok_tupleL {ds : List PyData} : CallOk G C k (.type "tuple") [.list ds] (.tuple ds) := fun X hX => by
  refine call_imp call_tuple_of fun xs H Q ⟨F, sF, r, q⟩ => ?_
  rw [hX.eK]
  obtain ⟨x, rfl, rx⟩ := ba1 r
  obtain ⟨p, ys, rfl, h1, h2⟩ := rx.lst sF
  exact ⟨p, ys, rfl, .inl ⟨h1, fun l hl => q _ _ _ (Ext.lay sF hl) (.tup (.inl (.inl upd_same)) (h2.mono (same_upd (sF.free hl))))⟩⟩
theorem ok_tupleT {ds : List PyData} : CallOk G C k (.type "tuple") [.tuple ds] (.tuple ds) := fun X hX => by
  refine call_imp call_tuple_of fun xs H Q ⟨F, sF, r, q⟩ => ?_
  rw [hX.eK]
  obtain ⟨x, rfl, rx⟩ := ba1 r
  obtain ⟨p, ys, rfl, h1, h2⟩ := rx.tup sF
  rcases rx with rx | ⟨_, _, _, _, rx⟩
  · exact ⟨p, ys, rfl, .inr ⟨h1, q _ F H (Ext.refl sF) rx⟩⟩
  · cases rx
theorem new_listL {ds : List PyData} : CallNew G C k (.type "list") [.list ds] (.list ds) := fun X hX => by
  refine call_imp call_list_of fun xs H Q ⟨F, sF, r, q⟩ => ?_
  rw [hX.eK]
  obtain ⟨x, rfl, rx⟩ := ba1 r
  obtain ⟨p, ys, rfl, h1, h2⟩ := rx.lst sF
  exact ⟨p, ys, rfl, .inl h1, fun l hl => q l _ F _ (Ext.put sF hl) hl upd_same (sF.free hl) (.lst h2)⟩
theorem new_listT {ds : List PyData} : CallNew G C k (.type "list") [.tuple ds] (.list ds) := fun X hX => by
  refine call_imp call_list_of fun xs H Q ⟨F, sF, r, q⟩ => ?_
  rw [hX.eK]
  obtain ⟨x, rfl, rx⟩ := ba1 r
  obtain ⟨p, ys, rfl, h1, h2⟩ := rx.tup sF
  exact ⟨p, ys, rfl, .inr h1, fun l hl => q l _ F _ (Ext.put sF hl) hl upd_same (sF.free hl) (.lst h2)⟩
/-! sorted -/
theorem vals_snd {R : Value → V × PyData → Prop} (hR : ∀ v p, R v p → RelV p.1 v) : ∀ {us : List Value} {ps : List (V × PyData)}, PySem.W.EachIs R us ps → Vals (ps.map (·.1)) us
  | _, _, .nil => .nil
  | _, _, .cons r t => .cons (hR _ _ r) (vals_snd hR t)
theorem each_zip {K : KK} {F : Hp} : ∀ {xs : List V} {ds : List PyData} {us : List Value}, RpA K F xs ds → Vals xs us → PySem.W.EachIs (fun v (p : V × PyData) => RelV p.1 v ∧ Rp K F p.1 p.2) us (xs.zip ds)
  | _, _, _, .nil, .nil => .nil
  | _, _, _, .cons r t, .cons q u => .cons ⟨q, r⟩ (each_zip t u)
theorem each_all {R : Value → V × PyData → Prop} {P : V × PyData → Prop} (h : ∀ v p, R v p → P p) : ∀ {us : List Value} {ps : List (V × PyData)}, PySem.W.EachIs R us ps → ∀ p ∈ ps, P p
  | _, _, .nil, _, m => nomatch m
  | _, _, .cons r t, p, m => by
    rcases List.mem_cons.mp m with e | m
    · subst e; exact h _ _ r
    · exact each_all h t p m
theorem rpa_of {K : KK} {F : Hp} : ∀ (ps : List (V × PyData)), (∀ p ∈ ps, Rp K F p.1 p.2) → RpA K F (ps.map (·.1)) (ps.map (·.2))
  | [], _ => .nil
  | p :: ps, h => .cons (h p List.mem_cons_self) (rpa_of ps fun q m => h q (List.mem_cons_of_mem _ m))
theorem zip_snd {α β : Type} : ∀ {xs : List α} {ys : List β}, xs.length = ys.length → (xs.zip ys).map (·.2) = ys
  | [], [], _ => rfl
  | x :: xs, y :: ys, h => by
    show y :: (xs.zip ys).map (·.2) = _
    rw [zip_snd (by simpa using h)]
  | [], _ :: _, h => by simp at h
  | _ :: _, [], h => by simp at h
theorem noDct_mem : ∀ {ds : List PyData}, noDctA ds = true → ∀ d ∈ ds, noDct d = true
  | [], _, _, m => nomatch m
  | d :: ds, h, e, m => by
    rcases List.mem_cons.mp m with z | m
    · subst z; exact and_l h
    · exact noDct_mem (and_r h) e m
/-- what can be sorted -/
structure Sortb (ds : List PyData) : Prop where
  nd : noDctA ds = true
  al : PySem.W.AllAlike ds
  sb : PySem.W.Sortable ds
  dp : ∀ d ∈ ds, d.depth ≤ 64
/-- sorted(ds) -/
def sortD (ds : List PyData) : List PyData := ds.mergeSort (fun a b => !PySem.W.dataLt b a)
theorem map_merge (ps : List (V × PyData)) : (ps.mergeSort (PySem.W.dataLe false (·.2))).map (·.2) = sortD (ps.map (·.2)) := by
  unfold sortD
  rw [List.map_mergeSort]
  intro a ha b hb
  rw [PySem.W.dataLe_eq]
  rfl
theorem sorted_run {X : Cx} (hX : CxOk G C k X) {ds : List PyData} (hs : Sortb ds) {pins : List (Addr × Obj)} {σ : L2.St} {H F : Hp} {s : Shared} {a : Addr} {xs : List V} {its : List Value} {Q : VK} (I : Inv X pins σ H s) (sF : Same F H) (h2 : RpA G.K F xs ds) (rv : Vals xs its) (hz : xs.length ≤ sizeLine) (hl : s.heap.IsList a its.toArray)
    (q : ∀ (a : Addr) (o : HO) (F' H' : Hp), Ext F H F' H' → H a = none → H' a = some o → F' a = none → OwnAt G.K F' o (.list (sortD ds)) → Q (.ref a) H') :
    wpAny (model X.prog X.w) X.A (call (.builtin "sorted") [.ref a]) (EP X pins σ Q) X.xe s := by
  have e := each_zip h2 rv
  have hlen := h2.length
  have hsnd : (xs.zip ds).map (·.2) = ds := zip_snd hlen
  have hzl : (xs.zip ds).length = xs.length := by rw [List.length_zip]; omega
  have nd : ∀ p ∈ xs.zip ds, noDct p.2 = true := fun p hp => noDct_mem hs.nd _ (by rw [← hsnd]; exact List.mem_map_of_mem hp)
  have er : PySem.W.EachIs (fun v (p : V × PyData) => ∃ as, Reads s.heap v p.2 as) its (xs.zip ds) := by
    have aux : ∀ {us : List Value} {ps : List (V × PyData)}, (∀ p ∈ ps, noDct p.2 = true) → PySem.W.EachIs (fun v (p : V × PyData) => RelV p.1 v ∧ Rp G.K F p.1 p.2) us ps → PySem.W.EachIs (fun v (p : V × PyData) => ∃ as, Reads s.heap v p.2 as) us ps := by
      intro us ps hn h
      induction h with
      | nil => exact .nil
      | cons r t ih =>
        refine .cons ?_ (ih fun p hp => hn p (List.mem_cons_of_mem _ hp))
        have r2 := r.2.mono sF
        rw [← hX.eK] at r2
        exact Dp.reads I _ _ _ (r2.dp (hn _ List.mem_cons_self)) r.1
    exact aux nd e
  have hr := hX.room.units
  refine PySem.W.sorted_data (bs := xs.zip ds) (enc := (·.2)) hl e er (by rw [hsnd]; exact hs.al) (by rw [hsnd]; exact hs.sb) (by rw [hzl]; exact hz) (fun p hp => ?_) fun out ho ho2 => ?_
  · have hd := hs.dp p.2 (by rw [← hsnd]; exact List.mem_map_of_mem hp)
    have := hX.room.un
    omega
  · obtain ⟨ep, he'⟩ := PyProof.Rows.sortedAll_at s.heap its out.toArray
    have hn : H (s.heap.objs.size + 1) = none := I.hok.fresh (Nat.le_succ _)
    generalize hps : (xs.zip ds).mergeSort (PySem.W.dataLe false (·.2)) = ps at ho2
    have hv : Vals (ps.map (·.1)) out := vals_snd (fun v p r => r.1) ho2
    have hr2 : RpA G.K F (ps.map (·.1)) (ps.map (·.2)) := rpa_of _ (each_all (fun v p r => r.2) ho2)
    have hps2 : ps.map (·.2) = sortD ds := by rw [← hps, map_merge, hsnd]
    rw [hps2] at hr2
    have hll : (ps.map (·.1)).length ≤ sizeLine := by rw [hv.length, ho, hzl]; exact hz
    exact ⟨.ref _, upd H (s.heap.objs.size + 1) (.lst (ps.map (·.1))), I.laid (t' := s.toks) (fun _ _ => PyProof.Rows.sortedAll_old) (Nat.le_succ _) ⟨hll, out, ep, hv, by simpa using he'⟩, rfl,
      q _ _ F _ (Ext.put sF hn) hn upd_same (sF.free hn) (.lst hr2)⟩
theorem new_sorted {ds : List PyData} (hs : Sortb ds) : CallNew G C k (.builtin "sorted") [.list ds] (.list (sortD ds)) := fun X hX => by
  intro pins s σ H xs us Q I r ⟨F, sF, rb, q⟩
  obtain ⟨x, rfl, rx⟩ := ba1 rb
  obtain ⟨p, ys, rfl, h1, h2⟩ := rx.lst sF
  rw [← hX.eK] at h1
  obtain ⟨its, rv, hl, hz⟩ := I.list h1
  rw [Vals.ref1 r]
  exact sorted_run hX hs I sF h2 rv hz hl.isList q
end
end Pl
/-! Pl, part F: targets, what is walked, comprehensions. -/
namespace Pl
open PySem PySem.Spec PyProof.Rows L2

/-- every list and tuple is of a bounded length -/
def Bd (K : KK) (H : Hp) : Prop := ∀ a xs, SqL K H a xs ∨ SqT K H a xs → xs.length ≤ sizeLine
theorem Inv.bd {X : Cx} {pins : List (Addr × Obj)} {σ : L2.St} {H : Hp} {s : Shared} (I : L2.Inv X pins σ H s) : Bd X.K H := fun a xs h => by
  rcases h with h | h
  · obtain ⟨_, _, _, z⟩ := I.list h; exact z
  · obtain ⟨_, _, _, z⟩ := I.tuple h; exact z
section
variable {X : Cx} {e : Expr}
theorem pe_bd {t : TE} (h : PE X e t) : PE X e (fun σ H Q => t σ H fun v H' => Bd X.K H' → Q v H') := ⟨fun pins s σ H Q I q => thn (h.run pins s σ H _ I q) fun u s' ⟨v, H', I', r, q'⟩ => ⟨v, H', I', r, q' (Inv.bd I')⟩⟩
theorem pe_un {ι : Type} {P : ι → Prop} {t : ι → TE} (h : ∀ i, P i → PE X e (t i)) : PE X e (fun σ H Q => ∃ i, P i ∧ t i σ H Q) := ⟨fun pins s σ H Q I ⟨i, p, q⟩ => (h i p).run pins s σ H Q I q⟩
theorem pg_un {ι : Type} {P : ι → Prop} {t : ι → TG} (h : ∀ i, P i → PG X e (t i)) : PG X e (fun v σ H Q => ∃ i, P i ∧ t i v σ H Q) := ⟨fun pins s σ H v u Q I r ⟨i, p, q⟩ => (h i p).run pins s σ H v u Q I r q⟩
theorem pts_un {ι : Type} {es : List Expr} {P : ι → Prop} {t : ι → TT} (h : ∀ i, P i → PTs X es (t i)) : PTs X es (fun σ H Q => ∃ i, P i ∧ t i σ H Q) := ⟨fun pins s σ H Q I ⟨i, p, q⟩ => (h i p).run pins s σ H Q I q⟩
theorem pg_imp {t t' : TG} (h : PG X e t) (i : ∀ v σ H Q, t' v σ H Q → t v σ H Q) : PG X e t' := ⟨fun pins s σ H v u Q I r q => h.run pins s σ H v u Q I r (i v σ H Q q)⟩
theorem pgs_imp {es : List Expr} {t t' : TGs} (h : PGs X es t) (i : ∀ v σ H Q, t' v σ H Q → t v σ H Q) : PGs X es t' := ⟨fun pins s σ H v u Q I r q => h.run pins s σ H v u Q I r (i v σ H Q q)⟩
theorem pts_imp {es : List Expr} {t t' : TT} (h : PTs X es t) (i : ∀ σ H Q, t' σ H Q → t σ H Q) : PTs X es t' := ⟨fun pins s σ H Q I q => h.run pins s σ H Q I (i σ H Q q)⟩
theorem pi_imp {tg : Expr} {t t' : TI} (h : PI X tg e t) (i : ∀ σ H Q, t' σ H Q → t σ H Q) : PI X tg e t' := ⟨fun pins s σ H Q I q => h.run pins s σ H Q I (i σ H Q q)⟩
theorem pi_un {tg : Expr} {ι : Type} {P : ι → Prop} {t : ι → TI} (h : ∀ i, P i → PI X tg e (t i)) : PI X tg e (fun σ H Q => ∃ i, P i ∧ t i σ H Q) := ⟨fun pins s σ H Q I ⟨i, p, q⟩ => (h i p).run pins s σ H Q I q⟩
end

/-! ### targets -/
/-- slots that may have changed -/
def Off (is : List Nat) (σ σ' : L2.St) : Prop := σ'.length = σ.length ∧ ∀ j, j ∉ is → σ'[j]? = σ[j]?
def tTg (K : KK) (ρ : PEnv) (is : List Nat) (d : PyData) (ρ' : PEnv) : TG := fun v σ H Q => ∃ F0 H0 F, SRel K F0 H0 ρ σ F H ∧ Rp K F v d ∧ ∀ σ', Off is σ σ' → SRel K F0 H0 ρ' σ' F H → Q σ' H
def tTgs (K : KK) (ρ : PEnv) (is : List Nat) (ds : List PyData) (ρ' : PEnv) : TGs := fun vs σ H Q => ∃ F0 H0 F, SRel K F0 H0 ρ σ F H ∧ RpA K F vs ds ∧ ∀ σ', Off is σ σ' → SRel K F0 H0 ρ' σ' F H → Q σ' H
def Tg (G : Gb) (C : SC) (k : Nat) (ρ : PEnv) (tg : Expr) (is : List Nat) (d : PyData) (ρ' : PEnv) : Prop := ∀ X, CxOk G C k X → PG X tg (tTg G.K ρ is d ρ')
def Tgs (G : Gb) (C : SC) (k : Nat) (ρ : PEnv) (tgs : List Expr) (is : List Nat) (ds : List PyData) (ρ' : PEnv) : Prop := ∀ X, CxOk G C k X → PGs X tgs (tTgs G.K ρ is ds ρ')
def wipeE (ρ : PEnv) : List Nat → PEnv
  | [] => ρ
  | v :: vs => (wipeE ρ vs).set v none
theorem Cov.wipe (ρ : PEnv) : ∀ vs : List Nat, ∀ i : Nat, ∀ x, (wipeE ρ vs)[i]? = some (some x) → ρ[i]? = some (some x) ∧ i ∉ vs
  | [], i, x, h => ⟨h, by simp⟩
  | v :: vs, i, x, h => by
    unfold wipeE at h
    by_cases hi : v = i
    · subst hi
      by_cases hv : v < (wipeE ρ vs).length
      · rw [List.getElem?_set_self hv] at h; cases h
      · rw [List.getElem?_eq_none (by simpa using hv)] at h; cases h
    · rw [List.getElem?_set_ne hi] at h
      obtain ⟨h1, h2⟩ := Cov.wipe ρ vs i x h
      exact ⟨h1, by simp only [List.mem_cons, not_or]; exact ⟨fun e => hi e.symm, h2⟩⟩
theorem wipeE_length (ρ : PEnv) : ∀ vs : List Nat, (wipeE ρ vs).length = ρ.length
  | [] => rfl
  | v :: vs => by unfold wipeE; rw [List.length_set, wipeE_length ρ vs]
theorem wipe_at {σ : L2.St} : ∀ {vs : List Nat} {i : Nat}, i ∉ vs → (wipe σ vs)[i]? = σ[i]?
  | [], _, _ => rfl
  | v :: vs, i, h => by
    simp only [List.mem_cons, not_or] at h
    unfold wipe
    rw [List.getElem?_set_ne (fun e => h.1 e.symm)]
    exact wipe_at h.2
theorem wipe_in {σ : L2.St} : ∀ {vs : List Nat} {i : Nat}, i ∈ vs → i < σ.length → (wipe σ vs)[i]? = some none
  | v :: vs, i, h, hl => by
    unfold wipe
    by_cases hv : v = i
    · subst hv
      rw [List.getElem?_set_self (by rw [wipe_length]; exact hl)]
    · rw [List.getElem?_set_ne hv]
      exact wipe_in (List.mem_of_ne_of_mem (fun e => hv e.symm) h) hl
theorem wipe_eq {σ σ' : L2.St} {vs : List Nat} (hl : σ'.length = σ.length) (h : ∀ j, j ∉ vs → σ'[j]? = σ[j]?) : wipe σ' vs = wipe σ vs := by
  refine List.ext_getElem? fun i => ?_
  by_cases hi : i ∈ vs
  · by_cases hlt : i < σ.length
    · rw [wipe_in hi hlt, wipe_in hi (by rw [hl]; exact hlt)]
    · rw [List.getElem?_eq_none (by rw [wipe_length]; omega), List.getElem?_eq_none (by rw [wipe_length]; omega)]
  · rw [wipe_at hi, wipe_at hi, h i hi]
theorem SRel.wipe {K : KK} {F0 H0 F H : Hp} {ρ : PEnv} {σ : L2.St} (S : SRel K F0 H0 ρ σ F H) (vs : List Nat) : SRel K F0 H0 (wipeE ρ vs) (L2.wipe σ vs) F H where
  ext := S.ext
  len := by rw [wipe_length, wipeE_length, S.len]
  sh := fun i d h => by
    obtain ⟨h1, h2⟩ := Cov.wipe ρ vs i _ h
    obtain ⟨v, q1, q2⟩ := S.sh i d h1
    exact ⟨v, by rw [wipe_at h2]; exact q1, q2⟩
  ow := fun i d h => by
    obtain ⟨h1, h2⟩ := Cov.wipe ρ vs i _ h
    obtain ⟨a, o, q1, q2⟩ := S.ow i d h1
    exact ⟨a, o, by rw [wipe_at h2]; exact q1, q2⟩
  apart := fun i j d d' a hij h1 h2 h3 h4 => by
    obtain ⟨p1, n1⟩ := Cov.wipe ρ vs i _ h1
    obtain ⟨p2, n2⟩ := Cov.wipe ρ vs j _ h2
    rw [wipe_at n1] at h3
    rw [wipe_at n2] at h4
    exact S.apart i j d d' a hij p1 p2 h3 h4

section
variable {G : Gb} {C : SC} {k : Nat} {ρ ρ1 ρ2 : PEnv} {e tg : Expr} {es : List Expr} {d : PyData} {ds : List PyData} {pos : Pos}
theorem tg_name (i : Nat) {x : Str} (hi : C.N[i]? = some x) (hx : C.sc.names.lookup x = some .local ∨ C.sc.names.lookup x = some .cell) (hf : C.fs x = true ∨ C.sc.names.lookup x = some .local) :
    Tg G C k ρ (.Name x pos) [i] d (ρ.set i (some (.sh d))) := fun X hX => by
  refine pg_imp (pg_name (i := i) (by rw [hX.eN]; exact hX.nd) (by rw [hX.eN]; exact hi) (by unfold L2.Loc; rw [hX.es]; exact hx) ?_) fun v σ H Q ⟨F0, H0, F, S, r, q⟩ => ?_
  · rcases hf with h | h
    · exact .inl (hX.fn _ h)
    · exact .inr (by rw [hX.es]; exact h)
  · exact q _ ⟨by rw [List.length_set], fun j hj => List.getElem?_set_ne (fun z => hj (by simp [z]))⟩ (S.put r)
theorem tgs_nil : Tgs G C k ρ [] [] [] ρ := fun X hX => pgs_imp pgs_nil fun vs σ H Q ⟨F0, H0, F, S, r, q⟩ => by
  cases r
  exact ⟨rfl, q σ ⟨rfl, fun _ _ => rfl⟩ S⟩
theorem tgs_cons {is js : List Nat} (h1 : Tg G C k ρ e is d ρ1) (h2 : Tgs G C k ρ1 es js ds ρ2) (hs : ∀ env, (assignEach (e :: es) env).map (·.2) = assign e env :: (assignEach es env).map (·.2)) : Tgs G C k ρ (e :: es) (is ++ js) (d :: ds) ρ2 := fun X hX =>
  pgs_imp (pgs_cons (h1 X hX) (h2 X hX) (hs _)) fun vs σ H Q ⟨F0, H0, F, S, r, q⟩ => by
    cases r with
    | cons r t =>
      exact ⟨_, _, rfl, F0, H0, F, S, r, fun σ1 o1 S1 => ⟨F0, H0, F, S1, t, fun σ2 o2 S2 => q σ2 ⟨o2.1.trans o1.1, fun j hj => (o2.2 j fun z => hj (List.mem_append_right _ z)).trans (o1.2 j fun z => hj (List.mem_append_left _ z))⟩ S2⟩⟩
theorem tg_tup {n m : Nat} {is : List Nat} (h : Tgs G C k ρ es is ds ρ1) (hl : ds.length = n) (hn : ∀ env, (assignEach es env).length = n) (hst : ∀ env, (assignEach es env).findIdx? (·.1) = none) : Tg G C k ρ (.Tuple es m pos) is (.tuple ds) ρ1 := fun X hX =>
  pg_imp (pg_tup hX.calm (h X hX) (hn _) (hst _)) fun v σ H Q ⟨F0, H0, F, S, r, q⟩ => by
    obtain ⟨a, xs, rfl, h1, h2⟩ := (Rp.b (H := H) r).tup S.ext.sub
    exact ⟨a, xs, rfl, by rw [hX.eK]; exact h1, by rw [h2.length]; exact hl, F0, H0, F, S, h2, q⟩
end

/-! ### what is walked -/
/-- at each turn the next of ds, while the heap grows -/
def Sup (K : KK) (J : It) (ds : List PyData) (P : Hp → Hp → Prop) : Prop := ∀ F H, P F H → Same F H →
  (∀ i d, ds[i]? = some d → J.go i H ∧ ∀ x H', J.yld i H x H' → ∃ F', Ext F H F' H' ∧ Rp K F' x d) ∧ J.stop ds.length H
/-- walked while all that is frozen stays -/
def tIt (K : KK) (ρ : PEnv) (ds : List PyData) (z : Prop) : TI := fun σ H R => ∃ F0 H0 F, SRel K F0 H0 ρ σ F H ∧ ∀ J F' H', Ext F H F' H' → z → Sup K J ds (fun F2 _ => Same F' F2) → R J H'
/-- walked while all objects stay -/
def tItB (K : KK) (ρ : PEnv) (ds : List PyData) (z : Prop) : TI := fun σ H R => ∃ F0 H0 F, SRel K F0 H0 ρ σ F H ∧ ∀ J F' H', Ext F H F' H' → z → Sup K J ds (fun F2 H2 => Ext F' H' F2 H2) → R J H'
def It' (G : Gb) (C : SC) (k : Nat) (ρ : PEnv) (tg e : Expr) (ds : List PyData) (z : Prop) : Prop := ∀ X, CxOk G C k X → PI X tg e (tIt G.K ρ ds z)
def ItB (G : Gb) (C : SC) (k : Nat) (ρ : PEnv) (tg e : Expr) (ds : List PyData) (z : Prop) : Prop := ∀ X, CxOk G C k X → PI X tg e (tItB G.K ρ ds z)
section
variable {K : KK} {F F' H H' : Hp} {J : It} {ds : List PyData}
theorem sup_walk {n : Nat} {Gp : Hp → Prop} {Y : Nat → Hp → V → Hp → Prop} (w : Walk J n Gp Y) (hn : n = ds.length) {P : Hp → Hp → Prop} (hg : ∀ F H, P F H → Same F H → Gp H)
    (hy : ∀ F H i x d H', P F H → Same F H → ds[i]? = some d → Y i H x H' → ∃ F', Ext F H F' H' ∧ Rp K F' x d) : Sup K J ds P := fun F H p sF => by
  subst hn
  refine ⟨fun i d hd => ?_, w.stops H (hg F H p sF)⟩
  have hi : i < ds.length := (List.getElem?_eq_some_iff.mp hd).1
  exact ⟨w.goes i H hi (hg F H p sF), fun x H' y => hy F H i x d H' p sF hd (w.yields i H x H' hi (hg F H p sF) y)⟩
end
section
variable {G : Gb} {C : SC} {k : Nat} {ρ ρ1 ρ2 : PEnv} {e tg : Expr} {es : List Expr} {d : PyData} {ds : List PyData} {pos p : Pos}
theorem It'.toB {z : Prop} (h : It' G C k ρ tg e ds z) : ItB G C k ρ tg e ds z := fun X hX => pi_imp (h X hX) fun σ H R ⟨F0, H0, F, S, q⟩ => ⟨F0, H0, F, S, fun J F' H' x bd s => q J F' H' x bd fun F2 H2 e2 sF => s F2 H2 e2.fs sF⟩
/-- over a list, a tuple -/
theorem it_list (h : Ev G C k ρ e (.list ds)) : It' G C k ρ tg e ds (ds.length ≤ sizeLine) := fun X hX =>
  pi_imp (pi_list (pe_bd (h X hX))) fun σ H R ⟨F0, H0, F, S, q⟩ => ⟨F0, H0, F, S, fun v F1 H1 e1 r1 bd => by
    rw [hX.eK] at bd ⊢
    cases r1 with
    | @lst a xs _ h1 h2 =>
      refine ⟨_, rfl, ⟨_, e1.sub.seq h1⟩, q _ F1 H1 e1 (by rw [← h2.length]; exact bd _ _ (.inl (e1.sub.seq h1))) (sup_walk (walk_list (xs := xs)) h2.length (fun F2 H2 s sF => (s.trans sF).seq h1) fun F2 H2 i x d H' s sF hd y => ?_)⟩
      obtain ⟨rfl, hx⟩ := y
      obtain ⟨d', hd', r⟩ := h2.get hx
      rw [hd] at hd'
      cases hd'
      exact ⟨F2, Ext.refl sF, r.mono s⟩⟩
theorem it_tup (h : Ev G C k ρ e (.tuple ds)) : It' G C k ρ tg e ds (ds.length ≤ sizeLine) := fun X hX =>
  pi_imp (pi_tup (pe_bd (h X hX))) fun σ H R ⟨F0, H0, F, S, q⟩ => ⟨F0, H0, F, S, fun v F1 H1 e1 r1 bd => by
    rw [hX.eK] at bd ⊢
    cases r1 with
    | @tup a xs _ h1 h2 =>
      refine ⟨_, rfl, ⟨_, same_tup e1.sub h1⟩, q _ F1 H1 e1 (by rw [← h2.length]; exact bd _ _ (.inr (same_tup e1.sub h1))) (sup_walk (walk_tup (xs := xs)) h2.length (fun F2 H2 s sF => same_tup (s.trans sF) h1) fun F2 H2 i x d H' s sF hd y => ?_)⟩
      obtain ⟨rfl, hx⟩ := y
      obtain ⟨d', hd', r⟩ := h2.get hx
      rw [hd] at hd'
      cases hd'
      exact ⟨F2, Ext.refl sF, r.mono s⟩⟩
/-- over an owned list, while all objects stay (a comprehension) -/
theorem itb_list (h : EvB G C k ρ e (.list ds)) : ItB G C k ρ tg e ds (ds.length ≤ sizeLine) := fun X hX =>
  pi_imp (pi_list (pe_bd (h X hX))) fun σ H R ⟨F0, H0, F, S, q⟩ => ⟨F0, H0, F, S, fun v F1 H1 e1 r1 bd => by
    rw [hX.eK] at bd ⊢
    obtain ⟨a, xs, rfl, h1, h2⟩ := r1.lst e1.sub
    refine ⟨_, rfl, ⟨_, h1⟩, q _ F1 H1 e1 (by rw [← h2.length]; exact bd _ _ (.inl h1)) (sup_walk (walk_list (xs := xs)) h2.length (fun F2 H2 s sF => s.hs.seq h1) fun F2 H2 i x d H' s sF hd y => ?_)⟩
    obtain ⟨rfl, hx⟩ := y
    obtain ⟨d', hd', r⟩ := h2.get hx
    rw [hd] at hd'
    cases hd'
    exact ⟨F2, Ext.refl sF, r.mono s.fs⟩⟩
/-- lo, lo + 1, .. below hi -/
def rangeD (lo hi : Int) : List Int := (List.range (hi - lo).toNat).map fun (i : Nat) => lo + (i : Int)
theorem rangeD_get {lo hi : Int} {i : Nat} {d : PyData} (h : ((rangeD lo hi).map PyData.int)[i]? = some d) : d = .int (lo + i) := by
  unfold rangeD at h
  rw [List.map_map, List.getElem?_map] at h
  cases e : (List.range (hi - lo).toNat)[i]? with
  | none => rw [e] at h; cases h
  | some j =>
    rw [e] at h
    have hj : j = i := by
      obtain ⟨h1, h2⟩ := List.getElem?_eq_some_iff.mp e
      simpa using h2.symm
    subst hj
    cases h
    rfl
theorem rangeD_len {lo hi : Int} : (hi - lo).toNat = ((rangeD lo hi).map PyData.int).length := by unfold rangeD; simp
theorem it_range1 {a : Expr} {j : Int} (hg : C.sc.names.lookup ("range" : Str) = some .globalImplicit) (hm : G.mg "range" = none) (ha : EvB G C k ρ a (.int j)) (h1 : -(2 ^ 62) ≤ j) (h2 : j < 2 ^ 62) (hs : ∀ env, starEach [a] env = [(false, eval a env)]) :
    It' G C k ρ tg (.Call (.Name "range" p) [a] [] pos) ((rangeD 0 j).map .int) True := fun X hX =>
  pi_imp (pi_range1 (by unfold Gl Env.kindOf; rw [hX.es]; exact hg) (by rw [hX.em]; exact hm) (pa_cons (pe_bd (ha X hX)) pa_nil (by rw [hs]; rfl)) (hs _)) fun σ H R ⟨F0, H0, F, S, q⟩ => ⟨F0, H0, F, S, fun v F1 H1 e1 r1 bd => by
    rw [hX.eK] at bd
    rw [r1.int]
    refine ⟨j, rfl, h1, h2, q _ F1 H1 e1 trivial (sup_walk walk_range (by rw [← rangeD_len, Int.sub_zero]) (fun _ _ _ _ => trivial) fun F2 H2 i x d H' s sF hd y => ?_)⟩
    obtain ⟨rfl, rfl⟩ := y
    rw [rangeD_get hd]
    exact ⟨F2, Ext.refl sF, .int _⟩⟩
theorem it_range2 {a b : Expr} {i j : Int} (hg : C.sc.names.lookup ("range" : Str) = some .globalImplicit) (hm : G.mg "range" = none) (ha : EvB G C k ρ a (.int i)) (hb : EvB G C k ρ b (.int j)) (h1 : -(2 ^ 62) ≤ i ∧ i < 2 ^ 62 ∧ -(2 ^ 62) ≤ j ∧ j < 2 ^ 62)
    (hs : ∀ env, starEach [a, b] env = [(false, eval a env), (false, eval b env)]) (hs2 : ∀ env, starEach [b] env = [(false, eval b env)]) :
    It' G C k ρ tg (.Call (.Name "range" p) [a, b] [] pos) ((rangeD i j).map .int) True := fun X hX =>
  pi_imp (pi_range2 (by unfold Gl Env.kindOf; rw [hX.es]; exact hg) (by rw [hX.em]; exact hm) (pa_cons (ha X hX) (pa_cons (pe_bd (hb X hX)) pa_nil (by rw [hs2]; rfl)) (by rw [hs, hs2])) (hs _) (hs2 _)) fun σ H R ⟨F0, H0, F, S, q⟩ => ⟨F0, H0, F, S, fun v F1 H1 e1 r1 => ⟨F0, H0, F1, S.go e1, fun w F2 H2 e2 r2 bd => by
    rw [hX.eK] at bd
    rw [r1.int, r2.int]
    refine ⟨i, j, rfl, h1, q _ F2 H2 (e1.trans e2) trivial (sup_walk walk_range rangeD_len (fun _ _ _ _ => trivial) fun F3 H3 m x d H' s sF hd y => ?_)⟩
    obtain ⟨rfl, rfl⟩ := y
    rw [rangeD_get hd]
    exact ⟨F3, Ext.refl sF, .int _⟩⟩⟩
end

/-! ### comprehensions -/
/-- the block's names -/
def SC.blk (C : SC) (scope : Scope) : SC := ⟨C.N, relS scope C.sc, fun x => scope.names.lookup x == some .cell⟩
def Ts (G : Gb) (C : SC) (k : Nat) (ρ : PEnv) (es : List Expr) (b : Bool) : Prop := ∀ X, CxOk G C k X → PTs X es (tTe G.K ρ b)
/-- one item: it gives y, or nothing -/
def LcStep (G : Gb) (C : SC) (k : Nat) (ρ : PEnv) (vs : List Nat) (tg : Expr) (ifs : List Expr) (elt : Expr) (d : PyData) (o : Option PyData) : Prop :=
  ∃ is ρ', (∀ i ∈ is, i ∈ vs) ∧ Tg G C k ρ tg is d ρ' ∧ ((∃ y, o = some y ∧ Ts G C k ρ' ifs true ∧ Ev G C k ρ' elt y) ∨ (o = none ∧ Ts G C k ρ' ifs false))
section
variable {G : Gb} {C : SC} {k : Nat} {ρ ρ1 ρ2 : PEnv} {e tg : Expr} {es : List Expr} {d : PyData} {ds : List PyData} {pos p : Pos}
theorem ts_nil : Ts G C k ρ [] true := fun X hX => pts_imp pts_nil fun σ H Q ⟨F0, H0, F, S, q⟩ => q F H (Ext.refl S.ext.sub)
theorem ts_one {b : Bool} (h : Te G C k ρ e b) : Ts G C k ρ [e] b := fun X hX => pts_one (h X hX)
theorem CxOk.blk {X : Cx} (hX : CxOk G C k X) {s : Shared} {H : Hp} {scope : Scope} {cl : List (Str × Addr)} {Ca : Addr} {fp : List Addr} : CxOk G (C.blk scope) k (X.blk s H scope (compEnvC scope cl Ca X.env) fp) :=
  ⟨hX.eP, hX.ew, hX.eK, hX.em, hX.eb, hX.eN, by show relS scope X.env.scope = relS scope C.sc; rw [hX.es], hX.calm, hX.room, hX.nd, fun x h => h, rfl⟩
/-- all items of a comprehension -/
inductive LcR (G : Gb) (C : SC) (k : Nat) (ρ : PEnv) (vs : List Nat) (tg : Expr) (ifs : List Expr) (elt : Expr) : List PyData → List PyData → Prop
  | nil : LcR G C k ρ vs tg ifs elt [] []
  | keep {d y : PyData} {ds ys : List PyData} : LcStep G C k ρ vs tg ifs elt d (some y) → LcR G C k ρ vs tg ifs elt ds ys → LcR G C k ρ vs tg ifs elt (d :: ds) (y :: ys)
  | skip {d : PyData} {ds ys : List PyData} : LcStep G C k ρ vs tg ifs elt d none → LcR G C k ρ vs tg ifs elt ds ys → LcR G C k ρ vs tg ifs elt (d :: ds) ys
theorem Ext.growD {F H F1 H1 : Hp} {D : Addr} {o o' : HO} (e : Ext F H F1 H1) (hn : H D = none) (hf : F1 D = none) (hD : H1 D = some o) : Ext F H F1 (upd H1 D o') :=
  ⟨fun a x q => by rw [upd_ne (ne_of_none q hn)]; exact e.hs _ _ q, e.fs, fun a x q => by rw [upd_ne (ne_of_none q hf)]; exact e.sub _ _ q, e.new⟩
/-- the block's readings, whatever the item -/
def gU (G : Gb) (C : SC) (k : Nat) (scope : Scope) (ρ : PEnv) (own : List (Str × Nat)) (tg : Expr) : TG := fun v σ H Q => ∃ i : PyData × List Nat × PEnv, (Tg G (C.blk scope) k (wipeE ρ (own.map (·.2))) tg i.2.1 i.1 i.2.2) ∧ tTg G.K (wipeE ρ (own.map (·.2))) i.2.1 i.1 i.2.2 v σ H Q
def ttU (G : Gb) (C : SC) (k : Nat) (scope : Scope) (ifs : List Expr) : TT := fun σ H Q => ∃ i : PEnv × Bool, Ts G (C.blk scope) k i.1 ifs i.2 ∧ tTe G.K i.1 i.2 σ H Q
def teU (G : Gb) (C : SC) (k : Nat) (scope : Scope) (elt : Expr) : TE := fun σ H Q => ∃ i : PEnv × PyData, Ev G (C.blk scope) k i.1 elt i.2 ∧ tEv G.K i.1 i.2 σ H Q
/-- [elt for tg in iter if ..] -/
theorem lc_read {elt iter : Expr} {ifs : List Expr} {scope : Scope} {own : List (Str × Nat)} {ys : List PyData} (ok : BlkOk C.N C.sc scope own) {z : Prop} (hi : ItB G C k ρ tg iter ds z)
    (hs : LcR G (C.blk scope) k (wipeE ρ (own.map (·.2))) (own.map (·.2)) tg ifs elt ds ys) (hzz : z → ys.length ≤ sizeLine) {σ : L2.St} {H : Hp} {Q : VK} (h : tEvN G.K ρ (.list ys) σ H Q) :
    tLc (tItB G.K ρ ds z) (gU G C k scope ρ own tg) (ttU G C k scope ifs) (teU G C k scope elt) (own.map (·.2)) σ H Q := by
  obtain ⟨F0, H0, F, S, q⟩ := h
  refine ⟨F0, H0, F, S, fun J F1 H1 e1 hz0 sup D hD => ?_⟩
  have hz := hzz hz0
  have S1 := S.go e1
  have fD : F1 D = none := e1.sub.free hD
  refine ⟨fun i m H => m = ds.length - i ∧ i ≤ ds.length ∧ ∃ F2 acc done rest, Ext F1 H1 F2 H ∧ H D = some (.lst acc) ∧ F2 D = none ∧ RpA G.K F2 acc done ∧ LcR G (C.blk scope) k (wipeE ρ (own.map (·.2))) (own.map (·.2)) tg ifs elt (ds.drop i) rest ∧ done ++ rest = ys,
    ⟨ds.length, by simp, Nat.zero_le _, F1, [], [], ys, Ext.put e1.sub hD, upd_same, fD, .nil, by simpa using hs, rfl⟩, ?_⟩
  rintro i m H2 ⟨rfl, hi2, F2, acc, done, rest, e2, hD2, fD2, ra, lr, hys⟩
  obtain ⟨go, stop⟩ := sup F2 H2 e2 e2.sub
  by_cases hlt : i < ds.length
  · have hd : ds[i]? = some ds[i] := List.getElem?_eq_getElem hlt
    obtain ⟨g1, g2⟩ := go i _ hd
    refine .inr ⟨g1, fun H' => i + 1 ≤ ds.length ∧ ∃ F2 acc done rest, Ext F1 H1 F2 H' ∧ H' D = some (.lst acc) ∧ F2 D = none ∧ RpA G.K F2 acc done ∧ LcR G (C.blk scope) k (wipeE ρ (own.map (·.2))) (own.map (·.2)) tg ifs elt (ds.drop (i + 1)) rest ∧ done ++ rest = ys,
      fun H' ⟨h1, h2⟩ => ⟨ds.length - (i + 1), by omega, rfl, h1, h2⟩, fun x H3 y => ?_⟩
    obtain ⟨F3, e3, rx⟩ := g2 x H3 y
    have e13 := e2.trans e3
    have noD : ∀ {Fa Ha Fb Hb : Hp}, Ext Fa Ha Fb Hb → Fa D = none → (∃ o, Ha D = some (.lst o)) → Fb D = none := fun {Fa Ha Fb Hb} ee h1 ⟨o, h2⟩ => by
      cases z : Fb D with
      | none => rfl
      | some u =>
        rcases ee.new D u z with w | w | w
        · rw [h1] at w; cases w
        · rw [h2] at w; cases w
        · have z2 := (ee.hs _ _ h2).symm.trans (ee.sub _ _ z)
          cases z2
          cases w
    have hdrop : ds.drop i = ds[i] :: ds.drop (i + 1) := List.drop_eq_getElem_cons hlt
    rw [hdrop] at lr
    have wp : ∀ {is : List Nat} {σ' : L2.St}, (∀ i ∈ is, i ∈ own.map (·.2)) → Off is (L2.wipe σ (own.map (·.2))) σ' → L2.wipe σ' (own.map (·.2)) = L2.wipe σ (own.map (·.2)) := fun {is σ'} hsub off =>
      wipe_eq (off.1.trans (wipe_length _ _)) fun j hj => by rw [off.2 j fun z => hj (hsub j z), wipe_at hj]
    cases lr with
    | @keep _ y' _ rest' hst lr' =>
      obtain ⟨is, ρ', hsub, htg, ⟨y2, hy2, hts, hev⟩ | ⟨hn, _⟩⟩ := hst
      · cases hy2
        refine ⟨(ds[i], is, ρ'), htg, F0, H0, F3, (S1.go e13).wipe _, rx, fun σ' off S' => ⟨wp hsub off, ?_⟩⟩
        refine ⟨(ρ', true), hts, F0, H0, F3, S', fun F4 H4 e4 => iteT ⟨(ρ', y'), hev, F0, H0, F4, S'.go e4, fun v F5 H5 e5 r5 => ?_⟩⟩
        have e25 := (e3.trans e4).trans e5
        have hD5 := e25.hs _ _ hD2
        have fD5 := noD e25 fD2 ⟨_, hD2⟩
        have hl := ra.length
        refine ⟨acc, hD5, ?_, hlt, F5, acc ++ [v], done ++ [y'], rest', (e2.trans e25).growD hD fD5 hD5, upd_same, fD5, (ra.mono e25.fs).append (.cons r5 .nil), lr', by rw [List.append_assoc]; exact hys⟩
        have hl2 := congrArg List.length hys
        rw [List.length_append, List.length_cons] at hl2
        omega
      · cases hn
    | skip hst lr' =>
      obtain ⟨is, ρ', hsub, htg, ⟨y2, hy2, _⟩ | ⟨_, hts⟩⟩ := hst
      · cases hy2
      · refine ⟨(ds[i], is, ρ'), htg, F0, H0, F3, (S1.go e13).wipe _, rx, fun σ' off S' => ⟨wp hsub off, ?_⟩⟩
        refine ⟨(ρ', false), hts, F0, H0, F3, S', fun F4 H4 e4 => iteF ?_⟩
        have e24 := e3.trans e4
        exact ⟨hlt, F4, acc, done, rest, e2.trans e24, e24.hs _ _ hD2, noD e24 fD2 ⟨_, hD2⟩, ra.mono e24.fs, lr', hys⟩
  · have e : i = ds.length := by omega
    subst e
    rw [List.drop_length] at lr
    cases lr
    rw [List.append_nil] at hys
    subst hys
    exact .inl ⟨stop, q D _ F2 H2 (e1.trans e2) (e1.hs.free hD) hD2 fD2 (.lst ra)⟩
theorem evn_lc {elt iter : Expr} {ifs : List Expr} {scope : Scope} {own : List (Str × Nat)} {ys : List PyData} (ok : BlkOk C.N C.sc scope own) {z : Prop} (hi : ItB G C k ρ tg iter ds z)
    (hs : LcR G (C.blk scope) k (wipeE ρ (own.map (·.2))) (own.map (·.2)) tg ifs elt ds ys) (hzz : z → ys.length ≤ sizeLine) (hfs : ∀ env x, foldedSetIterable iter env x = pure x) :
    EvN G C k ρ (.ListComp elt [⟨tg, iter, ifs, 0⟩] scope pos) (.list ys) := fun X hX =>
  pe_imp (pe_lc (own := own) (g := gU G C k scope ρ own tg) (tt := ttU G C k scope ifs) (te := teU G C k scope elt)
    hX.calm (by rw [hX.eN]; exact hX.nd) (hi X hX) (by rw [hX.eN, hX.es]; exact ok) (fun s H Ca cl fp => pg_un fun i h => h _ hX.blk) (fun s H Ca cl fp => pts_un fun i h => h _ hX.blk) (fun s H Ca cl fp => pe_un fun i h => h _ hX.blk) (hfs _)) fun σ H Q h => lc_read ok hi hs hzz h
end
end Pl
/-! Pl, part G: calls of the text's own defs; statements; defs. -/
namespace Pl
open PySem PySem.Spec PyProof.Rows L2

/-- what a call with the data ds promises: the datum d -/
def spV (K : KK) (ds : List PyData) (d : PyData) : Sp := fun vs H Q _ => ∃ F, Same F H ∧ RpA K F vs ds ∧ ∀ v F' H', Ext F H F' H' → Rp K F' v d → Q v H'
/-- the def x called with ds hands back d -/
def Fn (G : Gb) (j : Nat) (x : Str) (ds : List PyData) (d : PyData) : Prop := ∃ f fd ps, FnOk G.P G.w G.K G.mg G.base CX0 j f fd ps (spV G.K ds d) ∧ G.mg x = some (.ref f) ∧ PySem.W.keepIn G.K (.ref f) = true ∧ Binds G.K fd ps []
theorem Fn.mono {G : Gb} {j j' : Nat} {x : Str} {ds : List PyData} {d : PyData} (h : Fn G j x ds d) (l : j ≤ j') : Fn G j' x ds d := let ⟨f, fd, ps, h1, h2, h3, h4⟩ := h; ⟨f, fd, ps, h1.mono l, h2, h3, h4⟩

/-- F1 and the tuples of F' -/
noncomputable def addT (F1 F' : Hp) : Hp := fun a => match F1 a with
  | some o => some o
  | none => match F' a with
    | some u => if stays u = true then some u else none
    | none => none
theorem addT_of {F1 F' : Hp} {a : Addr} {o : HO} (h : addT F1 F' a = some o) : F1 a = some o ∨ (F' a = some o ∧ stays o = true) := by
  unfold addT at h
  cases e : F1 a with
  | some u => rw [e] at h; exact .inl h
  | none =>
    rw [e] at h
    cases e' : F' a with
    | none => rw [e'] at h; cases h
    | some u =>
      rw [e'] at h
      by_cases c : stays u = true
      · have h' : (if stays u = true then some u else none) = some o := h
        rw [if_pos c] at h'
        cases h'
        exact .inr ⟨rfl, c⟩
      · have h' : (if stays u = true then some u else none) = some o := h
        rw [if_neg c] at h'
        cases h'
theorem addT_l {F1 F' : Hp} : Same F1 (addT F1 F') := fun a o e => by unfold addT; rw [e]
theorem addT_tup {F1 F' H' : Hp} (s1 : Same F1 H') (s2 : Same F' H') {a : Addr} {o : HO} (c : stays o = true) (h : F' a = some o) : addT F1 F' a = some o := by
  unfold addT
  cases e : F1 a with
  | some u =>
    have h1 := s1 _ _ e
    rw [s2 _ _ h] at h1
    cases h1
    rfl
  | none =>
    rw [h]
    exact if_pos c
section
variable {G : Gb} {C : SC} {k j : Nat} {ρ ρ1 ρ2 : PEnv} {e tg : Expr} {es : List Expr} {d : PyData} {ds : List PyData} {pos p : Pos}
/-- f(..), shared arguments -/
theorem ev_call {x : Str} (h : Fn G j x ds d) (hj : j ≤ k) (hg : C.sc.names.lookup x = some .globalImplicit) (ha : EA G C k ρ (e :: es) ds) (hdb : (x == ("__debug__" : Str)) = false) (he : ∀ env, starEach (e :: es) env = (false, eval e env) :: starEach es env) (hpl : ∀ env, (backTo pos (starEach es env)).any (·.1) = false) :
    Ev G C k ρ (.Call (.Name x p) (e :: es) [] pos) d := fun X hX => by
  obtain ⟨f, fd, ps, h1, h2, h3, h4⟩ := h
  refine pe_imp (pe_call (CX := CX0) (E := E0) (dvs := []) (by rw [hX.eP, hX.ew, hX.eK, hX.em, hX.eb]; exact h1) (hX.room.mono hj) (by unfold Gl Env.kindOf; rw [hX.es]; exact hg) (by rw [hX.em]; exact h2) (by rw [hX.eK]; exact h3) (by rw [hX.eK]; exact h4) .nil pass0 (ha X hX) hdb (he _) (hpl _))
    fun σ H Q ⟨F0, H0, F, S, q⟩ => ⟨F0, H0, F, S, fun vs F1 H1 e1 r1 => ?_⟩
  show spV G.K ds d (vs ++ []) H1 Q E0
  rw [List.append_nil]
  exact ⟨F1, e1.sub, r1, fun v F2 H2 e2 r2 => q v F2 H2 (e1.trans e2) r2⟩
/-- f(..), arguments that may be owned; the answer is flat -/
theorem ev_callB' {x : Str} (h : Fn G j x ds d) (hfl : flat d = true) (hj : j ≤ k) (hg : C.sc.names.lookup x = some .globalImplicit) (ha : EAB G C k ρ (e :: es) ds) (hdb : (x == ("__debug__" : Str)) = false) (he : ∀ env, starEach (e :: es) env = (false, eval e env) :: starEach es env) (hpl : ∀ env, (backTo pos (starEach es env)).any (·.1) = false) :
    Ev G C k ρ (.Call (.Name x p) (e :: es) [] pos) d := fun X hX => by
  obtain ⟨f, fd, ps, h1, h2, h3, h4⟩ := h
  refine pe_imp (pe_call (CX := CX0) (E := E0) (dvs := []) (by rw [hX.eP, hX.ew, hX.eK, hX.em, hX.eb]; exact h1) (hX.room.mono hj) (by unfold Gl Env.kindOf; rw [hX.es]; exact hg) (by rw [hX.em]; exact h2) (by rw [hX.eK]; exact h3) (by rw [hX.eK]; exact h4) .nil pass0 (ha X hX) hdb (he _) (hpl _))
    fun σ H Q ⟨F0, H0, F, S, q⟩ => ⟨F0, H0, F, S, fun vs F1 H1 e1 r1 => ?_⟩
  show spV G.K ds d (vs ++ []) H1 Q E0
  rw [List.append_nil]
  refine ⟨H1, Same.refl _, r1.full e1.sub, fun v F2 H2 e2 r2 => ?_⟩
  have s1 : Same F1 H2 := e1.sub.trans e2.hs
  have x : Ext F1 H1 (addT F1 F2) H2 := ⟨e2.hs, addT_l, fun a o z => by
    rcases addT_of z with z | ⟨z, _⟩
    · exact s1 _ _ z
    · exact e2.sub _ _ z, fun a o z => by
    rcases addT_of z with z | ⟨z, w⟩
    · exact .inl z
    · exact .inr (.inr w)⟩
  refine q v _ H2 (e1.trans x) (r2.narrow (fun a xs t => ?_) hfl)
  rcases t with (t | ⟨o, t⟩) | t
  · exact .inl (.inl (addT_tup s1 e2.sub rfl t))
  · exact .inl (.inr ⟨o, addT_tup s1 e2.sub rfl t⟩)
  · exact .inr t
end
end Pl
/-! Pl, part H: statements, loops, defs. -/
namespace Pl
open PySem PySem.Spec PyProof.Rows L2

/-- how a block ends -/
inductive Out where
  | nx (ρ : PEnv)
  | rt (d : PyData)
  | bk (ρ : PEnv)
  | ct (ρ : PEnv)
/-- what is wanted of the end -/
def OutK (K : KK) (F0 H0 Fa : Hp) (D : Ends) : Out → Prop
  | .nx ρ => ∀ σ F H, SRel K F0 H0 ρ σ F H → Same Fa F → D.nx σ H
  | .rt d => ∀ v F H, Ext F0 H0 F H → Rp K F v d → D.rt v H
  | .bk ρ => ∀ σ F H, SRel K F0 H0 ρ σ F H → Same Fa F → D.bk σ H
  | .ct ρ => ∀ σ F H, SRel K F0 H0 ρ σ F H → Same Fa F → D.ct σ H
theorem OutK.mono {K : KK} {F0 H0 Fa Fb : Hp} {D : Ends} (s : Same Fa Fb) : ∀ {r : Out}, OutK K F0 H0 Fa D r → OutK K F0 H0 Fb D r
  | .nx _, h => fun σ F H S t => h σ F H S (s.trans t)
  | .rt _, h => h
  | .bk _, h => fun σ F H S t => h σ F H S (s.trans t)
  | .ct _, h => fun σ F H S t => h σ F H S (s.trans t)
def tOut (K : KK) (ρ : PEnv) (r : Out) : TS := fun D σ H => ∃ F0 H0 F, SRel K F0 H0 ρ σ F H ∧ OutK K F0 H0 F D r
def St1 (G : Gb) (C : SC) (k : Nat) (ρ : PEnv) (st : Stmt) (r : Out) : Prop := ∀ X, CxOk G C k X → PS X st (tOut G.K ρ r)
def Blk (G : Gb) (C : SC) (k : Nat) (ρ : PEnv) (sts : List Stmt) (r : Out) : Prop := ∀ X, CxOk G C k X → PSs X sts (tOut G.K ρ r)
/-- an end that claims less -/
inductive OutCov : Out → Out → Prop
  | nx {ρ ρ' : PEnv} : Cov ρ ρ' → OutCov (.nx ρ) (.nx ρ')
  | rt {d : PyData} : OutCov (.rt d) (.rt d)
  | bk {ρ ρ' : PEnv} : Cov ρ ρ' → OutCov (.bk ρ) (.bk ρ')
  | ct {ρ ρ' : PEnv} : Cov ρ ρ' → OutCov (.ct ρ) (.ct ρ')
theorem OutCov.k {K : KK} {F0 H0 Fa : Hp} {D : Ends} {r r' : Out} (c : OutCov r r') (h : OutK K F0 H0 Fa D r') : OutK K F0 H0 Fa D r := by
  cases c with
  | nx c => exact fun σ F H S t => let ⟨F', s, S'⟩ := S.weak c; h σ F' H S' (t.trans s)
  | rt => exact h
  | bk c => exact fun σ F H S t => let ⟨F', s, S'⟩ := S.weak c; h σ F' H S' (t.trans s)
  | ct c => exact fun σ F H S t => let ⟨F', s, S'⟩ := S.weak c; h σ F' H S' (t.trans s)
section
variable {X : Cx}
theorem ps_imp {st : Stmt} {t t' : TS} (h : PS X st t) (i : ∀ D σ H, t' D σ H → t D σ H) : PS X st t' := ⟨fun pins s σ H D I q => h.run pins s σ H D I (i D σ H q)⟩
theorem pss_imp {sts : List Stmt} {t t' : TS} (h : PSs X sts t) (i : ∀ D σ H, t' D σ H → t D σ H) : PSs X sts t' := ⟨fun pins s σ H D I q => h.run pins s σ H D I (i D σ H q)⟩
theorem pss_un {sts : List Stmt} {ι : Type} {P : ι → Prop} {t : ι → TS} (h : ∀ i, P i → PSs X sts (t i)) : PSs X sts (fun D σ H => ∃ i, P i ∧ t i D σ H) := ⟨fun pins s σ H D I ⟨i, p, q⟩ => (h i p).run pins s σ H D I q⟩
theorem pt_un {e : Expr} {ι : Type} {P : ι → Prop} {t : ι → TT} (h : ∀ i, P i → PT X e (t i)) : PT X e (fun σ H Q => ∃ i, P i ∧ t i σ H Q) := ⟨fun pins s σ H Q I ⟨i, p, q⟩ => (h i p).run pins s σ H Q I q⟩
end
section
variable {G : Gb} {C : SC} {k j : Nat} {ρ ρ1 ρ2 : PEnv} {e tg c : Expr} {es : List Expr} {d d1 d2 : PyData} {ds : List PyData} {pos p : Pos} {st : Stmt} {ss a b : List Stmt} {r r' : Out}
/-! ### blocks -/
theorem blk_nil : Blk G C k ρ [] (.nx ρ) := fun X hX => pss_imp pss_nil fun D σ H ⟨F0, H0, F, S, q⟩ => q σ F H S (Same.refl _)
theorem blk_cons (h1 : St1 G C k ρ st (.nx ρ1)) (h2 : Blk G C k ρ1 ss r) : Blk G C k ρ (st :: ss) r := fun X hX =>
  pss_imp (pss_cons (h1 X hX) (h2 X hX)) fun D σ H ⟨F0, H0, F, S, q⟩ => ⟨F0, H0, F, S, fun σ1 F1 H1 S1 t => ⟨F0, H0, F1, S1, q.mono t⟩⟩
theorem blk_one (h : St1 G C k ρ st r) : Blk G C k ρ [st] r := fun X hX => pss_one (h X hX)
theorem blk_ret (h : St1 G C k ρ st (.rt d)) : Blk G C k ρ (st :: ss) (.rt d) := fun X hX =>
  pss_imp (pss_cons (h X hX) pss_never) fun D σ H ⟨F0, H0, F, S, q⟩ => ⟨F0, H0, F, S, q⟩
theorem blk_brk (h : St1 G C k ρ st (.bk ρ1)) : Blk G C k ρ (st :: ss) (.bk ρ1) := fun X hX =>
  pss_imp (pss_cons (h X hX) pss_never) fun D σ H ⟨F0, H0, F, S, q⟩ => ⟨F0, H0, F, S, q⟩
theorem blk_cont (h : St1 G C k ρ st (.ct ρ1)) : Blk G C k ρ (st :: ss) (.ct ρ1) := fun X hX =>
  pss_imp (pss_cons (h X hX) pss_never) fun D σ H ⟨F0, H0, F, S, q⟩ => ⟨F0, H0, F, S, q⟩
theorem Blk.weak (h : Blk G C k ρ1 ss r) (cv : Cov ρ ρ1) : Blk G C k ρ ss r := fun X hX =>
  pss_imp (h X hX) fun D σ H ⟨F0, H0, F, S, q⟩ => let ⟨F', s, S'⟩ := S.weak cv; ⟨F0, H0, F', S', q.mono s⟩
theorem Blk.out (h : Blk G C k ρ ss r) (cv : OutCov r r') : Blk G C k ρ ss r' := fun X hX =>
  pss_imp (h X hX) fun D σ H ⟨F0, H0, F, S, q⟩ => ⟨F0, H0, F, S, cv.k q⟩
theorem St1.weak (h : St1 G C k ρ1 st r) (cv : Cov ρ ρ1) : St1 G C k ρ st r := fun X hX =>
  ps_imp (h X hX) fun D σ H ⟨F0, H0, F, S, q⟩ => let ⟨F', s, S'⟩ := S.weak cv; ⟨F0, H0, F', S', q.mono s⟩
theorem St1.out (h : St1 G C k ρ st r) (cv : OutCov r r') : St1 G C k ρ st r' := fun X hX =>
  ps_imp (h X hX) fun D σ H ⟨F0, H0, F, S, q⟩ => ⟨F0, H0, F, S, cv.k q⟩
/-! ### simple statements -/
theorem st_ret (h : Ev G C k ρ e d) : St1 G C k ρ (.Return (some e) pos) (.rt d) := fun X hX =>
  ps_imp (ps_ret (h X hX)) fun D σ H ⟨F0, H0, F, S, q⟩ => ⟨F0, H0, F, S, fun v F1 H1 e1 r1 => q v F1 H1 (S.ext.trans e1) r1⟩
theorem st_retN : St1 G C k ρ (.Return none pos) (.rt .none) := fun X hX => ps_imp ps_retN fun D σ H ⟨F0, H0, F, S, q⟩ => q .non F H S.ext .non
theorem st_pass : St1 G C k ρ (.Pass pos) (.nx ρ) := fun X hX => ps_imp ps_pass fun D σ H ⟨F0, H0, F, S, q⟩ => q σ F H S (Same.refl _)
theorem st_break : St1 G C k ρ (.Break pos) (.bk ρ) := fun X hX => ps_imp ps_break fun D σ H ⟨F0, H0, F, S, q⟩ => q σ F H S (Same.refl _)
theorem st_cont : St1 G C k ρ (.Continue pos) (.ct ρ) := fun X hX => ps_imp ps_continue fun D σ H ⟨F0, H0, F, S, q⟩ => q σ F H S (Same.refl _)
/-- x = e, e a shared datum -/
theorem st_set (i : Nat) {x : Str} {pos' : Pos} (hi : C.N[i]? = some x) (hx : C.sc.names.lookup x = some .local ∨ C.sc.names.lookup x = some .cell) (hf : C.fs x = true ∨ C.sc.names.lookup x = some .local) (he : Ev G C k ρ e d) (hs : ∀ env : Env, env.scope = C.sc → swapsWith e (some (.Name x pos')) pos.line env = pure false) :
    St1 G C k ρ (.Assign [.Name x pos'] e pos) (.nx (ρ.set i (some (.sh d)))) := fun X hX =>
  ps_imp (ps_set (i := i) (by rw [hX.eN]; exact hX.nd) (by rw [hX.eN]; exact hi) (by unfold L2.Loc; rw [hX.es]; exact hx) (he X hX) (hs _ hX.es) (hf.imp (hX.fn _) fun h => by rw [hX.es]; exact h)) fun D σ H ⟨F0, H0, F, S, q⟩ =>
    ⟨F0, H0, F, S, fun v F1 H1 e1 r1 => q _ F1 H1 ((S.go e1).put r1) e1.fs⟩
/-- x = e, e a new object, owned -/
theorem st_own (i : Nat) {x : Str} {pos' : Pos} (hi : C.N[i]? = some x) (hx : C.sc.names.lookup x = some .local ∨ C.sc.names.lookup x = some .cell) (hf : C.fs x = true ∨ C.sc.names.lookup x = some .local) (he : EvN G C k ρ e d) (hs : ∀ env : Env, env.scope = C.sc → swapsWith e (some (.Name x pos')) pos.line env = pure false) :
    St1 G C k ρ (.Assign [.Name x pos'] e pos) (.nx (ρ.set i (some (.ow d)))) := fun X hX =>
  ps_imp (ps_set (i := i) (by rw [hX.eN]; exact hX.nd) (by rw [hX.eN]; exact hi) (by unfold L2.Loc; rw [hX.es]; exact hx) (he X hX) (hs _ hX.es) (hf.imp (hX.fn _) fun h => by rw [hX.es]; exact h)) fun D σ H ⟨F0, H0, F, S, q⟩ =>
    ⟨F0, H0, F, S, fun p o F1 H1 e1 hn ho hf r1 => q _ F1 H1 (S.own e1 hn ho hf r1) e1.fs⟩
/-- target = e -/
theorem st_asg {is : List Nat} (he : Ev G C k ρ e d) (hg : Tg G C k ρ tg is d ρ1) (hs : ∀ env, swapsWithSole [tg] e pos.line env = pure false) (hw : ∀ env, swappedStores [tg] e env = pure none) (h1 : ∀ env, (assignEach [tg] env).map (·.2) = [assign tg env]) :
    St1 G C k ρ (.Assign [tg] e pos) (.nx ρ1) := fun X hX =>
  ps_imp (ps_asg (he X hX) (hg X hX) (hs _) (hw _) (h1 _)) fun D σ H ⟨F0, H0, F, S, q⟩ => ⟨F0, H0, F, S, fun v F1 H1 e1 r1 => ⟨F0, H0, F1, S.go e1, r1, fun σ' _ S' => q σ' F1 H1 S' e1.fs⟩⟩
/-- x op= e -/
theorem st_aug (i : Nat) {x : Str} {op : Operator} {pos' : Pos} (hi : C.N[i]? = some x) (hx : C.sc.names.lookup x = some .local ∨ C.sc.names.lookup x = some .cell) (hf : C.fs x = true ∨ C.sc.names.lookup x = some .local) (h : ρ[i]? = some (some (.sh d1))) (he : EvB G C k ρ e d2) (ho : OpOk G C k (inplaceOp op) d1 d2 d) :
    St1 G C k ρ (.AugAssign (.Name x pos') op e pos) (.nx (ρ.set i (some (.sh d)))) := fun X hX =>
  ps_imp (ps_aug (i := i) (by rw [hX.eN]; exact hX.nd) (by rw [hX.eN]; exact hi) (by unfold L2.Loc; rw [hX.es]; exact hx) (he X hX) (fun pins s σ H x y v u Q I r1 r2 q => ho X hX pins s σ H x y v u Q I r1 r2 q) (hf.imp (hX.fn _) fun h => by rw [hX.es]; exact h)) fun D σ H ⟨F0, H0, F, S, q⟩ => by
    obtain ⟨v, h1, h2⟩ := S.sh i d1 h
    exact ⟨v, h1, F0, H0, F, S, fun w F1 H1 e1 r1 => ⟨F1, e1.sub, .inl (h2.mono e1.fs), r1, fun z F2 H2 e2 r2 => q _ F2 H2 ((S.go (e1.trans e2)).put r2) (e1.trans e2).fs⟩⟩
/-! ### if -/
theorem st_ifT (hc : Te G C k ρ c true) (ha : Blk G C k ρ a r) : St1 G C k ρ (.If c a b pos) r := fun X hX =>
  ps_imp (ps_if (hc X hX) (ha X hX) pss_never) fun D σ H ⟨F0, H0, F, S, q⟩ => ⟨F0, H0, F, S, fun F1 H1 e1 => iteT ⟨F0, H0, F1, S.go e1, q.mono e1.fs⟩⟩
theorem st_ifF (hc : Te G C k ρ c false) (hb : Blk G C k ρ b r) : St1 G C k ρ (.If c a b pos) r := fun X hX =>
  ps_imp (ps_if (hc X hX) pss_never (hb X hX)) fun D σ H ⟨F0, H0, F, S, q⟩ => ⟨F0, H0, F, S, fun F1 H1 e1 => iteF ⟨F0, H0, F1, S.go e1, q.mono e1.fs⟩⟩
/-! ### lists that are changed -/
theorem vis_of {X : Cx} (hX : CxOk G C k X) {x : Str} (hx : C.sc.names.lookup x = some .local ∨ C.sc.names.lookup x = some .cell ∨ C.sc.names.lookup x = some .free) : Vis X.env.scope x := by unfold Vis; rw [hX.es]; exact hx
/-- x.append(e) -/
theorem st_append (i : Nat) {x : Str} {p1 ap cp : Pos} (hi : C.N[i]? = some x) (hx : C.sc.names.lookup x = some .local ∨ C.sc.names.lookup x = some .cell ∨ C.sc.names.lookup x = some .free) (h : ρ[i]? = some (some (.ow (.list ds)))) (he : Ev G C k ρ e d) (hl : ds.length < sizeLine)
    (hd : (x == ("__debug__" : Str)) = false) (hc : (x == ("__classdict__" : Str)) = false) (hsw : ∀ env, swapsWith (.Call (.Attribute (.Name x p1) "append" ap) [e] [] cp) none pos.line env = pure false)
    (hs : ∀ env, starEach [e] env = [(false, eval e env)]) (hab : ∀ env, attributeBase (.Name x p1) "append" env (eval (.Name x p1) env) = eval (.Name x p1) env) (hln : (ap.endLine == cp.line) = true) :
    St1 G C k ρ (.Expr (.Call (.Attribute (.Name x p1) "append" ap) [e] [] cp) pos) (.nx (ρ.set i (some (.ow (.list (ds ++ [d])))))) := fun X hX => by
  refine ps_imp (ps_expr (pe_bm PySem.F.plainAttrs_list PySem.F.slot_list_append PySem.F.type_list_append mt_append (pe_var (i := i) (by rw [hX.eN]; exact hi) (vis_of hX hx) hd hc) (pa_cons (he X hX) pa_nil (by rw [hs]; rfl)) (hab _) (by rw [hs]; rfl) hln (by rw [hs]; rfl) rfl) (hsw _)) fun D σ H ⟨F0, H0, F, S, q⟩ => ?_
  obtain ⟨a, o, h1, h2, h3, h4, h5⟩ := S.ow i _ h
  cases h3 with
  | @lst xs _ r =>
    refine ⟨.ref a, h1, .inl ⟨rfl, xs, .inl (.inl h2)⟩, F0, H0, F, S, fun v F1 H1 e1 r1 => ⟨a, xs, v, rfl, rfl, e1.hs _ _ h2, by rw [r.length]; exact hl, q σ F1 _ ((S.go e1).mut h h1 (.lst ((r.mono e1.fs).append (.cons r1 .nil)))) e1.fs⟩⟩
/-- x = [..], as the comprehension stores it: owned -/
theorem st_setLc (i : Nat) {x : Str} {py : Pos} {elt iter : Expr} {ifs : List Expr} {scope : Scope} {own : List (Str × Nat)} {spos : Pos} {ys : List PyData} (hi : C.N[i]? = some x) (hx : C.sc.names.lookup x = some .local) (hsw : ∀ env : Env, env.scope = C.sc → swapsWith (.ListComp elt [⟨tg, iter, ifs, 0⟩] scope pos) (some (.Name x py)) spos.line env = pure true)
    (ok : BlkOk C.N C.sc scope own) {z : Prop} (hit : ItB G C k ρ tg iter ds z) (hs : LcR G (C.blk scope) k (wipeE ρ (own.map (·.2))) (own.map (·.2)) tg ifs elt ds ys) (hzz : z → ys.length ≤ sizeLine) (hfs : ∀ env x, foldedSetIterable iter env x = pure x) :
    St1 G C k ρ (.Assign [.Name x py] (.ListComp elt [⟨tg, iter, ifs, 0⟩] scope pos) spos) (.nx (ρ.set i (some (.ow (.list ys))))) := fun X hX =>
  ps_imp (ps_setLc (i := i) (own := own) (g := gU G C k scope ρ own tg) (tt := ttU G C k scope ifs) (te := teU G C k scope elt) hX.calm (by rw [hX.eN]; exact hX.nd) (by rw [hX.eN]; exact hi) (by rw [hX.es]; exact hx) (hsw _ hX.es) (hit X hX) (by rw [hX.eN, hX.es]; exact ok)
    (fun s H Ca cl fp => pg_un fun i h => h _ hX.blk) (fun s H Ca cl fp => pts_un fun i h => h _ hX.blk) (fun s H Ca cl fp => pe_un fun i h => h _ hX.blk) (hfs _)) fun D σ H ⟨F0, H0, F, S, q⟩ =>
      lc_read ok hit hs hzz ⟨F0, H0, F, S, fun a o F1 H1 e1 hn ha hf r => q _ F1 H1 (S.own e1 hn ha hf r) e1.fs⟩
/-- .. shared at once -/
theorem st_setLcS (i : Nat) {x : Str} {py : Pos} {elt iter : Expr} {ifs : List Expr} {scope : Scope} {own : List (Str × Nat)} {spos : Pos} {ys : List PyData} (hi : C.N[i]? = some x) (hx : C.sc.names.lookup x = some .local) (hsw : ∀ env : Env, env.scope = C.sc → swapsWith (.ListComp elt [⟨tg, iter, ifs, 0⟩] scope pos) (some (.Name x py)) spos.line env = pure true)
    (ok : BlkOk C.N C.sc scope own) {z : Prop} (hit : ItB G C k ρ tg iter ds z) (hs : LcR G (C.blk scope) k (wipeE ρ (own.map (·.2))) (own.map (·.2)) tg ifs elt ds ys) (hzz : z → ys.length ≤ sizeLine) (hfs : ∀ env x, foldedSetIterable iter env x = pure x) :
    St1 G C k ρ (.Assign [.Name x py] (.ListComp elt [⟨tg, iter, ifs, 0⟩] scope pos) spos) (.nx (ρ.set i (some (.sh (.list ys))))) := fun X hX =>
  ps_imp (ps_setLc (i := i) (own := own) (g := gU G C k scope ρ own tg) (tt := ttU G C k scope ifs) (te := teU G C k scope elt) hX.calm (by rw [hX.eN]; exact hX.nd) (by rw [hX.eN]; exact hi) (by rw [hX.es]; exact hx) (hsw _ hX.es) (hit X hX) (by rw [hX.eN, hX.es]; exact ok)
    (fun s H Ca cl fp => pg_un fun i h => h _ hX.blk) (fun s H Ca cl fp => pts_un fun i h => h _ hX.blk) (fun s H Ca cl fp => pe_un fun i h => h _ hX.blk) (hfs _)) fun D σ H ⟨F0, H0, F, S, q⟩ =>
      lc_read ok hit hs hzz ⟨F0, H0, F, S, fun a o F1 H1 e1 hn ha hf r => q _ _ H1 ((S.go (e1.freeze hn ha hf)).put (r.rp (same_upd hf) upd_same)) (e1.freeze hn ha hf).fs⟩
/-- x[e1] = e -/
theorem st_setitem (i : Nat) {x : Str} {ei : Expr} {n : Int} {m : Nat} {p1 p2 : Pos} (hi : C.N[i]? = some x) (hx : C.sc.names.lookup x = some .local ∨ C.sc.names.lookup x = some .cell ∨ C.sc.names.lookup x = some .free) (h : ρ[i]? = some (some (.ow (.list ds)))) (he : Ev G C k ρ e d) (hei : EvB G C k ρ ei (.int n)) (hm : ixN ds.length n = some m)
    (hd : (x == ("__debug__" : Str)) = false) (hc : (x == ("__classdict__" : Str)) = false) (hs : ∀ env, swapsWithSole [.Subscript (.Name x p1) ei p2] e pos.line env = pure false) (hw : ∀ env, swappedStores [.Subscript (.Name x p1) ei p2] e env = pure none) (h1 : ∀ env, (assignEach [.Subscript (.Name x p1) ei p2] env).map (·.2) = [assign (.Subscript (.Name x p1) ei p2) env])
    (ha : ∀ env v, assign (.Subscript (.Name x p1) ei p2) env v = (do
      let ov ← holding [v] (eval (.Name x p1) env)
      let iv ← holding [v, ov] (eval ei env)
      standAt p2
      holding [v, ov, iv] (setItem ov iv v)
      release [v, ov, iv] [])) :
    St1 G C k ρ (.Assign [.Subscript (.Name x p1) ei p2] e pos) (.nx (ρ.set i (some (.ow (.list (ds.set m d)))))) := fun X hX => by
  refine ps_imp (ps_asg (he X hX) (pg_sub (pe_var (i := i) (by rw [hX.eN]; exact hi) (vis_of hX hx) hd hc) (hei X hX) set_list (ha _)) (hs _) (hw _) (h1 _)) fun D σ H ⟨F0, H0, F, S, q⟩ => ⟨F0, H0, F, S, fun v F1 H1 e1 r1 => ?_⟩
  obtain ⟨a, o, h1, h2, h3, h4, h5⟩ := S.ow i _ h
  cases h3 with
  | @lst xs _ r =>
    refine ⟨.ref a, h1, F0, H0, F1, S.go e1, fun y F2 H2 e2 r2 => ⟨a, xs, n, m, rfl, r2.int, (e1.trans e2).hs _ _ h2, by rw [r.length]; exact hm, q σ F2 _ ((S.go (e1.trans e2)).mut h h1 (.lst (RpA.set (r1.mono e2.fs) m (r.mono (e1.trans e2).fs)))) (e1.trans e2).fs⟩⟩
/-! ### loops -/
/-- the turns of a for -/
inductive ForR (G : Gb) (C : SC) (k : Nat) (tg : Expr) (body : List Stmt) : List PyData → PEnv → Out → Prop
  | done {ρ : PEnv} : ForR G C k tg body [] ρ (.nx ρ)
  | nx {d : PyData} {ds : List PyData} {ρ ρt ρ1 : PEnv} {is : List Nat} {r : Out} : Tg G C k ρ tg is d ρt → Blk G C k ρt body (.nx ρ1) → ForR G C k tg body ds ρ1 r → ForR G C k tg body (d :: ds) ρ r
  | ct {d : PyData} {ds : List PyData} {ρ ρt ρ1 : PEnv} {is : List Nat} {r : Out} : Tg G C k ρ tg is d ρt → Blk G C k ρt body (.ct ρ1) → ForR G C k tg body ds ρ1 r → ForR G C k tg body (d :: ds) ρ r
  | bk {d : PyData} {ds : List PyData} {ρ ρt ρ1 : PEnv} {is : List Nat} : Tg G C k ρ tg is d ρt → Blk G C k ρt body (.bk ρ1) → ForR G C k tg body (d :: ds) ρ (.nx ρ1)
  | rt {d : PyData} {ds : List PyData} {ρ ρt : PEnv} {is : List Nat} {v : PyData} : Tg G C k ρ tg is d ρt → Blk G C k ρt body (.rt v) → ForR G C k tg body (d :: ds) ρ (.rt v)
  | weak {ds : List PyData} {ρ ρ1 : PEnv} {r : Out} : Cov ρ ρ1 → ForR G C k tg body ds ρ1 r → ForR G C k tg body ds ρ r
/-- its first step -/
def ForH (G : Gb) (C : SC) (k : Nat) (tg : Expr) (body : List Stmt) (ds : List PyData) (ρ : PEnv) (r : Out) : Prop := match ds with
  | [] => r = .nx ρ
  | d :: ds => ∃ is ρt, Tg G C k ρ tg is d ρt ∧ ((∃ ρ1, (Blk G C k ρt body (.nx ρ1) ∨ Blk G C k ρt body (.ct ρ1)) ∧ ForR G C k tg body ds ρ1 r) ∨ (∃ ρ1, Blk G C k ρt body (.bk ρ1) ∧ r = .nx ρ1) ∨ ∃ v, Blk G C k ρt body (.rt v) ∧ r = .rt v)
theorem ForR.peel {body : List Stmt} {F0 H0 F H : Hp} {σ : L2.St} (h : ForR G C k tg body ds ρ r) : SRel G.K F0 H0 ρ σ F H → ∃ ρ' F', Same F F' ∧ SRel G.K F0 H0 ρ' σ F' H ∧ ForH G C k tg body ds ρ' r := by
  induction h generalizing F with
  | done => exact fun S => ⟨_, F, Same.refl _, S, rfl⟩
  | nx t b f _ => exact fun S => ⟨_, F, Same.refl _, S, _, _, t, .inl ⟨_, .inl b, f⟩⟩
  | ct t b f _ => exact fun S => ⟨_, F, Same.refl _, S, _, _, t, .inl ⟨_, .inr b, f⟩⟩
  | bk t b => exact fun S => ⟨_, F, Same.refl _, S, _, _, t, .inr (.inl ⟨_, b, rfl⟩)⟩
  | rt t b => exact fun S => ⟨_, F, Same.refl _, S, _, _, t, .inr (.inr ⟨_, b, rfl⟩)⟩
  | weak c _ ih =>
    intro S
    obtain ⟨F1, s1, S1⟩ := S.weak c
    obtain ⟨ρ', F', s2, S2, h⟩ := ih S1
    exact ⟨ρ', F', s1.trans s2, S2, h⟩
/-- for -/
theorem st_for {iter : Expr} {body : List Stmt} {z : Prop} (hi : It' G C k ρ tg iter ds z) (h : ForR G C k tg body ds ρ r) (hfs : ∀ env x, foldedSetIterable iter env x = pure x) : St1 G C k ρ (.For tg iter body [] pos) r := fun X hX => by
  refine ps_imp (ps_for (g := fun v σ H Q => ∃ i : PEnv × PyData × List Nat × PEnv, (Tg G C k i.1 tg i.2.2.1 i.2.1 i.2.2.2) ∧ tTg G.K i.1 i.2.2.1 i.2.1 i.2.2.2 v σ H Q) (tb := fun D σ H => ∃ i : PEnv × Out, Blk G C k i.1 body i.2 ∧ tOut G.K i.1 i.2 D σ H)
    (by rw [hX.xe]; exact PassesOwn.never) hX.calm (hi X hX) (pg_un fun i h => h X hX) (pss_un fun i h => h X hX) (hfs _)) fun D σ H ⟨F0, H0, F, S, q⟩ => ⟨F0, H0, F, S, fun J F1 H1 e1 _ sup => ?_⟩
  refine ⟨fun i m σ H => m = ds.length - i ∧ i ≤ ds.length ∧ ∃ ρi Fi, ForR G C k tg body (ds.drop i) ρi r ∧ SRel G.K F0 H0 ρi σ Fi H ∧ Same F1 Fi, ⟨ds.length, by simp, Nat.zero_le _, ρ, F1, by simpa using h, S.go e1, Same.refl _⟩, ?_⟩
  rintro i m σ H2 ⟨rfl, hi2, ρi, Fi, hf, Si, si⟩
  obtain ⟨ρ', F', s2, S2, hh⟩ := hf.peel Si
  have sF := si.trans s2
  obtain ⟨go, stop⟩ := sup F' H2 sF S2.ext.sub
  by_cases hlt : i < ds.length
  · have hd : ds[i]? = some ds[i] := List.getElem?_eq_getElem hlt
    have hdrop : ds.drop i = ds[i] :: ds.drop (i + 1) := List.drop_eq_getElem_cons hlt
    rw [hdrop] at hh
    obtain ⟨is, ρt, ht, hb⟩ := hh
    obtain ⟨g1, g2⟩ := go i _ hd
    refine .inr ⟨g1, fun σ H => i + 1 ≤ ds.length ∧ ∃ ρi Fi, ForR G C k tg body (ds.drop (i + 1)) ρi r ∧ SRel G.K F0 H0 ρi σ Fi H ∧ Same F1 Fi, fun σ' H' ⟨h1, h2⟩ => ⟨ds.length - (i + 1), by omega, rfl, h1, h2⟩, fun x H3 y => ?_⟩
    obtain ⟨F3, e3, rx⟩ := g2 x H3 y
    refine ⟨(ρ', ds[i], is, ρt), ht, F0, H0, F3, S2.go e3, rx, fun σ' off S' => ?_⟩
    have sF3 := sF.trans e3.fs
    rcases hb with ⟨ρ1, hb | hb, hf'⟩ | ⟨ρ1, hb, rfl⟩ | ⟨v, hb, rfl⟩
    · exact ⟨(ρt, _), hb, F0, H0, F3, S', fun σ4 F4 H4 S4 t => ⟨hlt, ρ1, F4, hf', S4, sF3.trans t⟩⟩
    · exact ⟨(ρt, _), hb, F0, H0, F3, S', fun σ4 F4 H4 S4 t => ⟨hlt, ρ1, F4, hf', S4, sF3.trans t⟩⟩
    · exact ⟨(ρt, _), hb, F0, H0, F3, S', fun σ4 F4 H4 S4 t => q σ4 F4 H4 S4 (e1.fs.trans (sF3.trans t))⟩
    · exact ⟨(ρt, _), hb, F0, H0, F3, S', q⟩
  · have e : i = ds.length := by omega
    subst e
    rw [List.drop_length] at hh
    have hh' : r = .nx ρ' := hh
    subst hh'
    exact .inl ⟨stop, q σ F' H2 S2 (e1.fs.trans sF)⟩
/-- the turns of a while, at most n -/
inductive WhileR (G : Gb) (C : SC) (k : Nat) (c : Expr) (body : List Stmt) : Nat → PEnv → Out → Prop
  | done {n : Nat} {ρ : PEnv} : Te G C k ρ c false → WhileR G C k c body n ρ (.nx ρ)
  | nx {n : Nat} {ρ ρ1 : PEnv} {r : Out} : Te G C k ρ c true → Blk G C k ρ body (.nx ρ1) → WhileR G C k c body n ρ1 r → WhileR G C k c body (n + 1) ρ r
  | ct {n : Nat} {ρ ρ1 : PEnv} {r : Out} : Te G C k ρ c true → Blk G C k ρ body (.ct ρ1) → WhileR G C k c body n ρ1 r → WhileR G C k c body (n + 1) ρ r
  | bk {n : Nat} {ρ ρ1 : PEnv} : Te G C k ρ c true → Blk G C k ρ body (.bk ρ1) → WhileR G C k c body n ρ (.nx ρ1)
  | rt {n : Nat} {ρ : PEnv} {v : PyData} : Te G C k ρ c true → Blk G C k ρ body (.rt v) → WhileR G C k c body n ρ (.rt v)
  | weak {n : Nat} {ρ ρ1 : PEnv} {r : Out} : Cov ρ ρ1 → WhileR G C k c body n ρ1 r → WhileR G C k c body n ρ r
def WhileH (G : Gb) (C : SC) (k : Nat) (c : Expr) (body : List Stmt) (n : Nat) (ρ : PEnv) (r : Out) : Prop := (Te G C k ρ c false ∧ r = .nx ρ) ∨ (Te G C k ρ c true ∧
  ((∃ m ρ1, m < n ∧ (Blk G C k ρ body (.nx ρ1) ∨ Blk G C k ρ body (.ct ρ1)) ∧ WhileR G C k c body m ρ1 r) ∨ (∃ ρ1, Blk G C k ρ body (.bk ρ1) ∧ r = .nx ρ1) ∨ ∃ v, Blk G C k ρ body (.rt v) ∧ r = .rt v))
theorem WhileR.peel {body : List Stmt} {n : Nat} {F0 H0 F H : Hp} {σ : L2.St} (h : WhileR G C k c body n ρ r) : SRel G.K F0 H0 ρ σ F H → ∃ ρ' F', Same F F' ∧ SRel G.K F0 H0 ρ' σ F' H ∧ WhileH G C k c body n ρ' r := by
  induction h generalizing F with
  | done t => exact fun S => ⟨_, F, Same.refl _, S, .inl ⟨t, rfl⟩⟩
  | nx t b f _ => exact fun S => ⟨_, F, Same.refl _, S, .inr ⟨t, .inl ⟨_, _, Nat.lt_succ_self _, .inl b, f⟩⟩⟩
  | ct t b f _ => exact fun S => ⟨_, F, Same.refl _, S, .inr ⟨t, .inl ⟨_, _, Nat.lt_succ_self _, .inr b, f⟩⟩⟩
  | bk t b => exact fun S => ⟨_, F, Same.refl _, S, .inr ⟨t, .inr (.inl ⟨_, b, rfl⟩)⟩⟩
  | rt t b => exact fun S => ⟨_, F, Same.refl _, S, .inr ⟨t, .inr (.inr ⟨_, b, rfl⟩)⟩⟩
  | weak c _ ih =>
    intro S
    obtain ⟨F1, s1, S1⟩ := S.weak c
    obtain ⟨ρ', F', s2, S2, h⟩ := ih S1
    exact ⟨ρ', F', s1.trans s2, S2, h⟩
/-- while -/
theorem st_while {body : List Stmt} {n : Nat} (h : WhileR G C k c body n ρ r) : St1 G C k ρ (.While c body [] pos) r := fun X hX => by
  refine ps_imp (ps_while (tc := fun σ H Q => ∃ i : PEnv × Bool, Te G C k i.1 c i.2 ∧ tTe G.K i.1 i.2 σ H Q) (tb := fun D σ H => ∃ i : PEnv × Out, Blk G C k i.1 body i.2 ∧ tOut G.K i.1 i.2 D σ H)
    (by rw [hX.xe]; exact PassesOwn.never) (pt_un fun i h => h X hX) (pss_un fun i h => h X hX)) fun D σ H ⟨F0, H0, F, S, q⟩ => ?_
  refine ⟨fun m σ H => ∃ ρi Fi, WhileR G C k c body m ρi r ∧ SRel G.K F0 H0 ρi σ Fi H ∧ Same F Fi, ⟨n, ρ, F, h, S, Same.refl _⟩, ?_⟩
  rintro m σ H2 ⟨ρi, Fi, hf, Si, si⟩
  obtain ⟨ρ', F', s2, S2, hh⟩ := hf.peel Si
  have sF := si.trans s2
  rcases hh with ⟨ht, rfl⟩ | ⟨ht, hb⟩
  · exact ⟨(ρ', false), ht, F0, H0, F', S2, fun F1 H1 e1 => iteF (q σ F1 H1 (S2.go e1) (sF.trans e1.fs))⟩
  · refine ⟨(ρ', true), ht, F0, H0, F', S2, fun F1 H1 e1 => iteT ⟨fun σ H => ∃ m', m' < m ∧ ∃ ρi Fi, WhileR G C k c body m' ρi r ∧ SRel G.K F0 H0 ρi σ Fi H ∧ Same F Fi, fun σ' H' z => z, ?_⟩⟩
    have S3 := S2.go e1
    have sF3 := sF.trans e1.fs
    rcases hb with ⟨m', ρ1, hm, hb | hb, hf'⟩ | ⟨ρ1, hb, rfl⟩ | ⟨v, hb, rfl⟩
    · exact ⟨(ρ', _), hb, F0, H0, F1, S3, fun σ4 F4 H4 S4 t => ⟨m', hm, ρ1, F4, hf', S4, sF3.trans t⟩⟩
    · exact ⟨(ρ', _), hb, F0, H0, F1, S3, fun σ4 F4 H4 S4 t => ⟨m', hm, ρ1, F4, hf', S4, sF3.trans t⟩⟩
    · exact ⟨(ρ', _), hb, F0, H0, F1, S3, fun σ4 F4 H4 S4 t => q σ4 F4 H4 S4 (sF3.trans t)⟩
    · exact ⟨(ρ', _), hb, F0, H0, F1, S3, q⟩
end
/-! ### defs -/
def startE (N : List Str) (ds : List PyData) : PEnv := ds.map (fun d => some (.sh d)) ++ List.replicate (N.length - ds.length) none
theorem start_rel {K : KK} {F H : Hp} {N : List Str} {vs : List V} {ds : List PyData} (s : Same F H) (r : RpA K F vs ds) : SRel K F H (startE N ds) (L2.start N vs) F H := by
  have hl := r.length
  refine ⟨Ext.refl s, by unfold L2.start startE; simp [hl], fun i d h => ?_, fun i d h => ?_, fun i j d d' a _ h => ?_⟩
  · unfold startE at h
    by_cases hi : i < ds.length
    · rw [List.getElem?_append_left (by simpa using hi), List.getElem?_map, List.getElem?_eq_getElem hi] at h
      cases h
      obtain ⟨v, h1, h2⟩ := r.at (List.getElem?_eq_getElem hi)
      refine ⟨v, ?_, h2⟩
      unfold L2.start
      rw [List.getElem?_append_left (by rw [List.length_map, hl]; exact hi), List.getElem?_map, h1]
      rfl
    · rw [List.getElem?_append_right (by simpa using hi), List.getElem?_replicate] at h
      split at h <;> cases h
  · exfalso
    unfold startE at h
    by_cases hi : i < ds.length
    · rw [List.getElem?_append_left (by simpa using hi), List.getElem?_map, List.getElem?_eq_getElem hi] at h
      cases h
    · rw [List.getElem?_append_right (by simpa using hi), List.getElem?_replicate] at h
      split at h <;> cases h
  · exfalso
    unfold startE at h
    by_cases hi : i < ds.length
    · rw [List.getElem?_append_left (by simpa using hi), List.getElem?_map, List.getElem?_eq_getElem hi] at h
      cases h
    · rw [List.getElem?_append_right (by simpa using hi), List.getElem?_replicate] at h
      split at h <;> cases h
/-- where the def x stands -/
structure At (G : Gb) (x : Str) (params : Arguments) (body : List Stmt) (scope : Scope) (ps : List Str) : Prop where
  ex : ∃ f fd, FunD G.K x x params body scope [] [] f fd ∧ G.mg x = some (.ref f) ∧ Binds G.K fd ps []
/-- how a def ends -/
inductive Ends' : Out → PyData → Prop
  | rt {d : PyData} : Ends' (.rt d) d
  | nx {ρ : PEnv} : Ends' (.nx ρ) .none
theorem fn_def {G : Gb} {x : Str} {params : Arguments} {body : List Stmt} {scope : Scope} {N ps : List Str} {k : Nat} {ds : List PyData} {r : Out} {d : PyData} (F : At G x params body scope ps) (S : FnScope N ps scope) (hl : ds.length = ps.length)
    (hb : Blk G ⟨N, scope, fun _ => true⟩ k (startE N ds) body r) (he : Ends' r d) : Fn G (k + 1) x ds d := by
  obtain ⟨f, fd, F, hm, hB⟩ := F.ex
  refine ⟨f, fd, ps, F.ok S (fun vs H Q E h => ?_) (fun cdv A outer s H vs Q E hr h => ?_), hm, F.kp, hB⟩
  · obtain ⟨F', _, r, _⟩ := h
    rw [r.length]; exact hl
  · obtain ⟨F', sF, ra, q⟩ := h
    have hX : CxOk G ⟨N, scope, fun _ => true⟩ k (cxOf CX0 G.P G.w G.K G.mg G.base N x scope f cdv A outer s H E).nox :=
      ⟨rfl, rfl, rfl, rfl, rfl, rfl, rfl, rfl, hr, S.nd, fun _ _ => rfl, rfl⟩
    refine ⟨_, (hb _ hX).nox, F', H, F', start_rel sF ra, ?_⟩
    cases he with
    | rt => exact fun v F2 H2 e2 r2 => q v F2 H2 e2 r2
    | nx => exact fun σ F2 H2 S2 _ => q .non F2 H2 S2.ext .non
end Pl
/-! Pl, part I: enumerate, zip, reversed; isinstance. -/
namespace Pl
open PySem PySem.Spec PyProof.Rows L2

section
variable {prog : Program} {w : World} {A : Around} {E : Value → Shared → Prop} {s : Shared}
theorem drawsT (hh : A.handled = none) (it l : Addr) (hne : l ≠ it) (vs : Array Value) : Draws prog w A it [it, l] vs.size (fun i v => vs[i]? = some v) (fun i h => h.IsTupleIter it l i ∧ h.IsTuple l vs) :=
  ⟨fun _ _ z => z.1.elim fun o q => ⟨o, q.1⟩, fun _ _ _ z hk => ⟨z.1.at fun o e => hk it (by simp) o e, z.2.at fun o e => hk l (by simp) o e⟩,
   fun i s Q E hi z hQ => RZ.nextOf_tuple_item z.1 z.2 (x := vs[i]) (by simp [hi]) fun h' hit hs => hQ _ h' s.toks (by simp [hi]) ⟨hit, z.2.at fun o e => (hs.2 l hne).trans e⟩ hs,
   fun s Q E z hE => RZ.nextOf_tuple_end hh z.1 z.2 (by simp) hE⟩
theorem enumNewT (l : Addr) (vs : Array Value) : Meets (Builtin.«enumerate.__new__» ⟨[.type "enumerate", .ref l], []⟩) (fun _ R s => s.heap.IsTuple l vs ∧
      R (.ok (.ret (.ref (s.heap.push { cls := .type "tuple_iterator", data := .fields #[.ref l, .int 0 0] }).objs.size)))
        { s with heap := (s.heap.push { cls := .type "tuple_iterator", data := .fields #[.ref l, .int 0 0] }).push { cls := .type "enumerate", data := .fields #[.none, .bool false, .ref s.heap.objs.size, rawInt 0, .none, .none] } }) := .of_wp fun prog w A R s h => by
  obtain ⟨hp, g, d, tk, os⟩ := s; obtain ⟨hl, h⟩ := h; have hsub := sub_enumerate
  obtain ⟨o, ho, hc, n, hd⟩ := id hl
  wp_walk
  refine wpAny_stack_any fun st => wpAny_pure ?_
  split
  · rename_i c _ _ _ _ _
    cases (c == Value.type "enumerate") <;> (wp_walk using wpAny_pyIter_tuple hl; exact ⟨_, rfl, h⟩)
  · wp_walk using wpAny_pyIter_tuple hl; exact ⟨_, rfl, h⟩
theorem callEnumT {l : Addr} {vs : Array Value} {Q : Value → Shared → Prop} (hL : s.heap.IsTuple l vs)
    (h : ∀ h', IsEnum h' (s.heap.objs.size + 1) s.heap.objs.size 0 .none → h'.IsTupleIter s.heap.objs.size l 0 → h'.objs.size = s.heap.objs.size + 2 → (∀ b o, s.heap.get? b = some o → h'.get? b = some o) →
      Q (.ref (s.heap.objs.size + 1)) { s with heap := h' }) : wpAny (model prog w) A (call (.type "enumerate") [.ref l]) Q E s := by
  refine callType_new F.called_enumerate (by decide) (F.typeCall_enumerate_1 _) (F.newCall_enumerate_1 _) (fun x => F.args_object_init_2 x _) F.entry_enumerate_new (enumNewT l vs) ⟨hL, ?_⟩
  generalize hg : s.heap.push { cls := .type "tuple_iterator", data := .fields #[.ref l, .int 0 0] } = h1
  have z1 : h1.objs.size = s.heap.objs.size + 1 := by rw [← hg]; exact Heap.size_push ..
  have he := Heap.get?_push_size h1 (o := { cls := .type "enumerate", data := .fields #[.none, .bool false, .ref s.heap.objs.size, rawInt 0, .none, .none] }) rfl
  rw [z1] at he
  show _ ∧ _
  rw [z1]
  exact ⟨⟨_, he, rfl⟩, h _ he ⟨_, Heap.get?_push_of_some _ (by rw [← hg]; exact Heap.get?_push_size _ rfl), rfl, rfl⟩ (by rw [Heap.size_push, z1]) fun b o x => Heap.get?_push_of_some _ (by rw [← hg]; exact Heap.get?_push_of_some _ x)⟩
end

/-- the tuple at a, each item in a new pair -/
def IteT (K : KK) (a : Addr) : It where
  go := fun i H => ∃ (xs : List V) (x : V), SqT K H a xs ∧ xs[i]? = some x
  yld := fun i H v H' => ∃ T x, v = .ref T ∧ H T = none ∧ H' = upd H T (.tup [.int (i : Nat), x]) ∧ ∀ xs, SqT K H a xs → xs[i]? = some x
  stop := fun i H => ∃ xs : List V, SqT K H a xs ∧ xs.length = i
theorem turn_enumT {P : Program} {w : World} {K : KK} {elts : List Expr} {kk : Nat} {tp : Pos} (a e it : Addr) :
    Turn P w K (.Tuple elts kk tp) (IteT K a) [e, it] e (fun i h => (∃ old, IsEnum h e it ((i : Nat) : Int) old) ∧ h.IsTupleIter it a i ∧ e ≠ it ∧ a ≠ it ∧ a ≠ e) where
  mem := List.mem_cons_self
  obj := fun i h z b hb => by
    obtain ⟨⟨old, he⟩, ⟨o, ho, hc, hd⟩, _⟩ := z
    rcases List.mem_cons.mp hb with rfl | hb
    · exact ⟨_, he, fun v q => nomatch q⟩
    · rw [List.mem_singleton.mp hb]; exact ⟨o, ho, fun v q => by rw [hd] at q; cases q⟩
  keep := fun i h h' z k => ⟨z.1.imp fun old q => k e (by simp) _ q, z.2.1.at fun o q => k it (by simp) o q, z.2.2⟩
  item := by
    intro X hP hw hK hc i pins s σ H E I hf z hg; subst hP hw hK
    obtain ⟨⟨old, he⟩, hit, hne, hai, hae⟩ := z; obtain ⟨xs, x, hq, hx⟩ := hg
    obtain ⟨us, rv, p, hz⟩ := I.tuple hq; obtain ⟨u, hu, ru⟩ := rv.get hx
    have hel := Heap.lt_size he
    have hil : it < s.heap.objs.size := hit.elim fun _ q => Heap.lt_size q.1
    have hiu : i < us.toArray.size := by rw [List.size_toArray]; exact (List.getElem?_eq_some_iff.mp hu).1
    refine wpAny_pyNext_enum_itemD (drawsT (A := X.A.in1) (show X.A.in1.handled = none from I.ok.hd hc) it a hai us.toArray) he ⟨hit, p⟩ hiu hne (by simp [hne, Ne.symm hae]) fun y h1 tk hy ho hz1 hT hsz hk => ⟨_, rfl, ?_⟩
    have ey : y = u := by rw [← Array.getElem?_toList, hu] at hy; exact (Option.some.inj hy).symm
    subst ey
    refine wpAny_letOwnedTupleGo_enum (s := { s with heap := h1, toks := tk + 1 }) ho fun h2 he2 sb => ?_
    have new : ObjOk X.prog X.w (upd H s.heap.objs.size (.tup [.int (i : Nat), x])) h2 s.heap.objs.size (.tup [.int (i : Nat), x]) :=
      ⟨(by decide : 2 ≤ sizeLine), [.int i tk, y], .cons ⟨_, rfl⟩ (.cons ru .nil), _, (sb.2 _ (Nat.ne_of_gt hel)).trans hT, rfl, _, rfl⟩
    have I1 := I.turnedNew (t' := tk + 1) (ch := [e, it]) (fun b ob hb q => (sb.2 b (fun z => hb (by simp [z]))).trans (hk b ob (fun z => hb (by simp [z])) (fun z => hb (by simp [z])) q)) hf (Nat.le_refl _) new
    have ei : ((i + 1 : Nat) : Int) = (i : Int) + 1 := rfl
    exact ⟨.ref s.heap.objs.size, _, I1, rfl, ⟨_, x, rfl, I.hok.fresh (Nat.le_refl _), rfl, fun ys hy => by rw [I.tuple_inj hy hq]; exact hx⟩,
      ⟨⟨y, by rw [ei]; exact he2⟩, hz1.1.at fun o q => (sb.2 it (Ne.symm hne)).trans q, hne, hai, hae⟩, fun b hb => by
        have lt : b < s.heap.objs.size := by
          rcases List.mem_cons.mp hb with rfl | hb
          · exact hel
          · rw [List.mem_singleton.mp hb]; exact hil
        rw [upd_ne (Nat.ne_of_lt lt)]; exact (hf b hb).1⟩
  done := by
    intro X hP hw hK hc i pins s σ H E I hf z hg; subst hP hw hK
    obtain ⟨⟨old, he⟩, hit, hne, hai, hae⟩ := z; obtain ⟨xs, hq, hx⟩ := hg
    obtain ⟨us, rv, p, hz⟩ := I.tuple hq
    have hl := rv.length
    obtain ⟨f0, f1, f2, f3, f4, f5⟩ := hf it (by simp)
    have D := drawsT (prog := X.prog) (w := X.w) (A := X.A.in1) (show X.A.in1.handled = none from I.ok.hd hc) it a hai us.toArray
    have ei : i = us.toArray.size := by rw [List.size_toArray]; omega
    subst ei
    exact wpAny_pyNext_enum_endD D he ⟨hit, p⟩ fun h' eb => ⟨rfl, I.turned (t' := s.toks) (fun b o hb q => eb b o hb q) f0 f1 f3 f4 f5⟩
  self := fun A i s Q E z h => z.1.elim fun _ he => wpAny_pyIter_enum he h
def iEnumT (K : KK) (ta : TA) : TI := fun σ H R => ta σ H fun vs H1 => ∃ a xs, vs = [.ref a] ∧ SqT K H1 a xs ∧ R (IteT K a) H1
theorem pi_enumT {X : Cx} {e : Expr} {ta : TA} {p pos tp : Pos} {elts : List Expr} {kk : Nat} (hg : Gl X "enumerate") (hm : X.mg "enumerate" = none) (ha : PA X [e] ta) (hs : starEach [e] X.env = [(false, eval e X.env)]) :
    PI X (.Tuple elts kk tp) (.Call (.Name "enumerate" p) [e] [] pos) (iEnumT X.K ta) := ⟨fun pins s σ H R I h => by
  refine Call_ (ld_blt I hg hm boot_enumerate (PyProof.Rows.callWith_type1 (thn (ha.run pos pins s σ H _ I h) fun us s1 ⟨vs, H1, I1, r1, q1⟩ => ?_) hs rfl))
  obtain ⟨a, xs, rfl, hq, q⟩ := q1
  rw [Vals.ref1 r1]
  obtain ⟨its, rv, p', hz⟩ := I1.tuple hq
  have ha : a < s1.heap.objs.size := p'.lt
  refine callEnumT (show s1.heap.IsTuple a its.toArray from p') fun h' he hit hsz hk => wpAny_pyIter_enum he ?_
  refine ⟨s1.heap.objs.size + 1, [s1.heap.objs.size + 1, s1.heap.objs.size], _, _, H1, rfl, I1.kept (t' := s1.toks) hk, turn_enumT a (s1.heap.objs.size + 1) s1.heap.objs.size, ⟨⟨.none, he⟩, hit, Nat.succ_ne_self _, Nat.ne_of_lt ha, Nat.ne_of_lt (Nat.lt_succ_of_lt ha)⟩, fun b hb => ?_, q⟩
  have le : s1.heap.objs.size ≤ b := by rcases List.mem_cons.mp hb with rfl | hb; exact Nat.le_succ _; exact Nat.le_of_eq (List.mem_singleton.mp hb).symm
  exact I1.fpOk le (I1.hok.fresh le)⟩
theorem walk_enumT {K : KK} {a : Addr} {xs : List V} : Walk (IteT K a) xs.length (fun H => SqT K H a xs) (YPair (fun i => some (.int (i : Nat))) (fun i => xs[i]?)) :=
  ⟨fun i _ hi q => ⟨xs, xs[i], q, by simp [hi]⟩, fun _ q => ⟨xs, q, rfl⟩, fun i H v H' _ q y => let ⟨T, x, h1, h2, h3, h4⟩ := y; ⟨T, .int (i : Nat), x, h1, h2, h3, rfl, h4 xs q⟩⟩

/-- (0, x), (1, y), .. -/
def enumD (ds : List PyData) : List PyData := (ds.zipIdx).map fun p => .tuple [.int (p.2 : Nat), p.1]
theorem enumD_len (ds : List PyData) : ds.length = (enumD ds).length := by unfold enumD; simp
theorem enumD_get {ds : List PyData} {i : Nat} {d : PyData} (h : (enumD ds)[i]? = some d) : ∃ x, ds[i]? = some x ∧ d = .tuple [.int (i : Nat), x] := by
  unfold enumD at h
  rw [List.getElem?_map, List.getElem?_zipIdx] at h
  cases e : ds[i]? with
  | none => rw [e] at h; simp at h
  | some x => rw [e] at h; simp at h; exact ⟨x, rfl, h.symm⟩
def zipD (ds es : List PyData) : List PyData := List.zipWith (fun x y => .tuple [x, y]) ds es
theorem zipD_len (ds es : List PyData) : min ds.length es.length = (zipD ds es).length := by unfold zipD; simp
theorem zipD_get {ds es : List PyData} {i : Nat} {d : PyData} (h : (zipD ds es)[i]? = some d) : ∃ x y, ds[i]? = some x ∧ es[i]? = some y ∧ d = .tuple [x, y] := by
  unfold zipD at h
  rw [List.getElem?_zipWith] at h
  cases e : ds[i]? with
  | none => rw [e] at h; simp at h
  | some x =>
    cases e2 : es[i]? with
    | none => rw [e, e2] at h; simp at h
    | some y => rw [e, e2] at h; simp at h; exact ⟨x, y, rfl, rfl, h.symm⟩
section
variable {K : KK}
/-- a new pair -/
theorem pair_new {F H : Hp} {T : Addr} {x y : V} {a b : PyData} (sF : Same F H) (hT : H T = none) (rx : Rp K F x a) (ry : Rp K F y b) : ∃ F', Ext F H F' (upd H T (.tup [x, y])) ∧ Rp K F' (.ref T) (.tuple [a, b]) :=
  ⟨upd F T (.tup [x, y]), Ext.lay sF hT, .tup (.inl (.inl upd_same)) ((RpA.cons rx (.cons ry .nil)).mono (same_upd (sF.free hT)))⟩
end
section
variable {G : Gb} {C : SC} {k : Nat} {ρ ρ1 ρ2 : PEnv} {e e2 : Expr} {elts es : List Expr} {d : PyData} {ds : List PyData} {pos p tp : Pos} {kk : Nat}
theorem it_enum (hg : C.sc.names.lookup ("enumerate" : Str) = some .globalImplicit) (hm : G.mg "enumerate" = none) (h : Ev G C k ρ e (.list ds)) (hs : ∀ env, starEach [e] env = [(false, eval e env)]) :
    It' G C k ρ (.Tuple elts kk tp) (.Call (.Name "enumerate" p) [e] [] pos) (enumD ds) (ds.length ≤ sizeLine) := fun X hX =>
  pi_imp (pi_enum (by unfold Gl Env.kindOf; rw [hX.es]; exact hg) (by rw [hX.em]; exact hm) (pa_cons (pe_bd (h X hX)) pa_nil (by rw [hs]; rfl)) (hs _)) fun σ H R ⟨F0, H0, F, S, q⟩ => ⟨F0, H0, F, S, fun v F1 H1 e1 r1 bd => by
    rw [hX.eK] at bd ⊢
    cases r1 with
    | @lst a xs _ h1 h2 =>
      refine ⟨_, xs, rfl, e1.sub.seq h1, q _ F1 H1 e1 (by rw [← h2.length]; exact bd _ _ (.inl (e1.sub.seq h1))) (sup_walk (walk_enum (xs := xs)) (by rw [h2.length, enumD_len]) (fun F2 H2 s sF => (s.trans sF).seq h1) fun F2 H2 i x d H' s sF hd y => ?_)⟩
      obtain ⟨T, u, v, rfl, hT, rfl, hu, hv⟩ := y
      cases hu
      obtain ⟨d1, hd1, rfl⟩ := enumD_get hd
      obtain ⟨d2, hd2, r⟩ := h2.get hv
      rw [hd1] at hd2
      cases hd2
      exact pair_new sF hT (.int _) (r.mono s)⟩
theorem it_enumT (hg : C.sc.names.lookup ("enumerate" : Str) = some .globalImplicit) (hm : G.mg "enumerate" = none) (h : Ev G C k ρ e (.tuple ds)) (hs : ∀ env, starEach [e] env = [(false, eval e env)]) :
    It' G C k ρ (.Tuple elts kk tp) (.Call (.Name "enumerate" p) [e] [] pos) (enumD ds) (ds.length ≤ sizeLine) := fun X hX =>
  pi_imp (pi_enumT (by unfold Gl Env.kindOf; rw [hX.es]; exact hg) (by rw [hX.em]; exact hm) (pa_cons (pe_bd (h X hX)) pa_nil (by rw [hs]; rfl)) (hs _)) fun σ H R ⟨F0, H0, F, S, q⟩ => ⟨F0, H0, F, S, fun v F1 H1 e1 r1 bd => by
    rw [hX.eK] at bd ⊢
    cases r1 with
    | @tup a xs _ h1 h2 =>
      refine ⟨_, xs, rfl, same_tup e1.sub h1, q _ F1 H1 e1 (by rw [← h2.length]; exact bd _ _ (.inr (same_tup e1.sub h1))) (sup_walk (walk_enumT (xs := xs)) (by rw [h2.length, enumD_len]) (fun F2 H2 s sF => same_tup (s.trans sF) h1) fun F2 H2 i x d H' s sF hd y => ?_)⟩
      obtain ⟨T, u, v, rfl, hT, rfl, hu, hv⟩ := y
      cases hu
      obtain ⟨d1, hd1, rfl⟩ := enumD_get hd
      obtain ⟨d2, hd2, r⟩ := h2.get hv
      rw [hd1] at hd2
      cases hd2
      exact pair_new sF hT (.int _) (r.mono s)⟩
theorem it_zip {es' : List PyData} (hg : C.sc.names.lookup ("zip" : Str) = some .globalImplicit) (hm : G.mg "zip" = none) (h : Ev G C k ρ e (.list ds)) (h' : Ev G C k ρ e2 (.list es')) (hs : ∀ env, starEach [e, e2] env = (false, eval e env) :: starEach [e2] env) (hs2 : ∀ env, starEach [e2] env = [(false, eval e2 env)]) :
    It' G C k ρ (.Tuple elts kk tp) (.Call (.Name "zip" p) [e, e2] [] pos) (zipD ds es') (ds.length ≤ sizeLine ∧ es'.length ≤ sizeLine) := fun X hX =>
  pi_imp (RZ.pi_zipA (by unfold Gl Env.kindOf; rw [hX.es]; exact hg) (by rw [hX.em]; exact hm) (pa_cons (h X hX) (pa_cons (pe_bd (h' X hX)) pa_nil (by rw [hs2]; rfl)) (hs _)) (hs _) (by rw [hs2]; rfl)) fun σ H R ⟨F0, H0, F, S, q⟩ => ⟨F0, H0, F, S, fun v F1 H1 e1 r1 => ⟨F0, H0, F1, S.go e1, fun v2 F2 H2 e2 r2 bd => by
    rw [hX.eK] at bd ⊢
    cases r1.mono e2.fs with
    | @lst a xs _ h1 h2 =>
      cases r2 with
      | @lst b ys _ h3 h4 =>
        refine ⟨_, _, xs, ys, rfl, .inl ⟨e2.sub.seq h1, e2.sub.seq h3, q _ F2 H2 (e1.trans e2) ⟨by rw [← h2.length]; exact bd _ _ (.inl (e2.sub.seq h1)), by rw [← h4.length]; exact bd _ _ (.inl (e2.sub.seq h3))⟩
          (sup_walk (walk_zip (xs := xs) (ys := ys) rfl) (by rw [h2.length, h4.length, zipD_len]) (fun F3 H3 s sF => ⟨(s.trans sF).seq h1, (s.trans sF).seq h3⟩) fun F3 H3 i x d H' s sF hd y => ?_)⟩⟩
        obtain ⟨T, u, v, rfl, hT, rfl, hu, hv⟩ := y
        obtain ⟨d1, d2, hd1, hd2, rfl⟩ := zipD_get hd
        obtain ⟨d3, hd3, r⟩ := h2.get hu
        obtain ⟨d4, hd4, r'⟩ := h4.get hv
        rw [hd1] at hd3
        rw [hd2] at hd4
        cases hd3
        cases hd4
        exact pair_new sF hT (r.mono s) (r'.mono s)⟩⟩
theorem walk_zipT {a b : Addr} {xs ys : List V} {n : Nat} (hn : n = min xs.length ys.length) : Walk (RZ.ItzT G.K a b) n (fun H => SqT G.K H a xs ∧ SqT G.K H b ys) (YPair (fun i => xs[i]?) (fun i => ys[i]?)) := by
  subst hn
  refine ⟨fun i _ hi q => ?_, fun _ q => ⟨xs, ys, q.1, q.2, by omega⟩, fun i H v H' _ q y => ?_⟩
  · have h1 : i < xs.length := by omega
    have h2 : i < ys.length := by omega
    exact ⟨xs, ys, xs[i], ys[i], q.1, q.2, by simp [h1], by simp [h2]⟩
  · obtain ⟨T, x, z, h1, h2, h3, h4, h5⟩ := y
    exact ⟨T, x, z, h1, h2, h3, h4 xs q.1, h5 ys q.2⟩
theorem it_zipT {es' : List PyData} (hg : C.sc.names.lookup ("zip" : Str) = some .globalImplicit) (hm : G.mg "zip" = none) (h : Ev G C k ρ e (.tuple ds)) (h' : Ev G C k ρ e2 (.tuple es')) (hs : ∀ env, starEach [e, e2] env = (false, eval e env) :: starEach [e2] env) (hs2 : ∀ env, starEach [e2] env = [(false, eval e2 env)]) :
    It' G C k ρ (.Tuple elts kk tp) (.Call (.Name "zip" p) [e, e2] [] pos) (zipD ds es') (ds.length ≤ sizeLine ∧ es'.length ≤ sizeLine) := fun X hX =>
  pi_imp (RZ.pi_zipA (by unfold Gl Env.kindOf; rw [hX.es]; exact hg) (by rw [hX.em]; exact hm) (pa_cons (h X hX) (pa_cons (pe_bd (h' X hX)) pa_nil (by rw [hs2]; rfl)) (hs _)) (hs _) (by rw [hs2]; rfl)) fun σ H R ⟨F0, H0, F, S, q⟩ => ⟨F0, H0, F, S, fun v F1 H1 e1 r1 => ⟨F0, H0, F1, S.go e1, fun v2 F2 H2 e2 r2 bd => by
    rw [hX.eK] at bd ⊢
    cases r1.mono e2.fs with
    | @tup a xs _ h1 h2 =>
      cases r2 with
      | @tup b ys _ h3 h4 =>
        refine ⟨_, _, xs, ys, rfl, .inr ⟨same_tup e2.sub h1, same_tup e2.sub h3, q _ F2 H2 (e1.trans e2) ⟨by rw [← h2.length]; exact bd _ _ (.inr (same_tup e2.sub h1)), by rw [← h4.length]; exact bd _ _ (.inr (same_tup e2.sub h3))⟩
          (sup_walk (walk_zipT (G := G) (xs := xs) (ys := ys) rfl) (by rw [h2.length, h4.length, zipD_len]) (fun F3 H3 s sF => ⟨same_tup (s.trans sF) h1, same_tup (s.trans sF) h3⟩) fun F3 H3 i x d H' s sF hd y => ?_)⟩⟩
        obtain ⟨T, u, v, rfl, hT, rfl, hu, hv⟩ := y
        obtain ⟨d1, d2, hd1, hd2, rfl⟩ := zipD_get hd
        obtain ⟨d3, hd3, r⟩ := h2.get hu
        obtain ⟨d4, hd4, r'⟩ := h4.get hv
        rw [hd1] at hd3
        rw [hd2] at hd4
        cases hd3
        cases hd4
        exact pair_new sF hT (r.mono s) (r'.mono s)⟩⟩
/-! ### isinstance -/
/-- a datum's type -/
def tyD : PyData → String
  | .none => "NoneType"
  | .bool _ => "bool"
  | .int _ => "int"
  | .str _ => "str"
  | .list _ => "list"
  | .tuple _ => "tuple"
  | .dict _ => "dict"
theorem tyX_of {K : KK} {F H : Hp} {v : V} {d : PyData} (h : RpB K F H v d) (s : Same F H) : TyX K H v (.type (tyD d)) := by
  have r := h.full s
  cases r with
  | non => exact .base .non
  | bl b => exact .base (.bl b)
  | int i => exact .base (.int i)
  | str x => exact .base (.str x)
  | lst q _ =>
    rcases q with (q | ⟨o, q⟩) | ⟨o, its, n, h1, h2, _⟩
    · exact .base (.lst q)
    · exact .base (.frz q)
    · exact .kList h1 h2
  | tup q _ =>
    rcases q with (q | ⟨o, q⟩) | ⟨o, its, n, h1, h2, _⟩
    · exact .base (.tup q)
    · exact .fTuple q
    · exact .kTuple h1 h2
  | dK q _ => exact .base (.dK q)
  | dT q _ => exact .base (.dT q)
theorem ev_isi {x : Str} {T : String} {p1 p2 : Pos} {b : Bool} (h : EvB G C k ρ e d) (hk : kitB (tyD d) T = some b) (hg : C.sc.names.lookup ("isinstance" : Str) = some .globalImplicit) (hm : G.mg "isinstance" = none)
    (hgT : C.sc.names.lookup x = some .globalImplicit) (hmT : G.mg x = none) (hv : bootBuiltins x = some (.type T)) (hn : x ≠ "__name__") (hd : (x == ("__debug__" : Str)) = false)
    (hs : ∀ env, starEach [e, .Name x p2] env = (false, eval e env) :: starEach [.Name x p2] env) : Ev G C k ρ (.Call (.Name "isinstance" p1) [e, .Name x p2] [] pos) (.bool b) := fun X hX =>
  pe_imp (pe_callB call_isi (by unfold Gl Env.kindOf; rw [hX.es]; exact hg) (by rw [hX.em]; exact hm) (by decide +kernel) (pa_cons (h X hX) (pa_cons (pe_bltn (v := .ty T) (by unfold Gl Env.kindOf; rw [hX.es]; exact hgT) (by rw [hX.em]; exact hmT) hv rfl hn hd) pa_nil rfl) (hs _)) (by decide) (by decide) (hs _) rfl)
    fun σ H Q ⟨F0, H0, F, S, q⟩ => ⟨F0, H0, F, S, fun v F1 H1 e1 r1 => by
      rw [hX.eK]
      exact ⟨v, .ty T, _, _, b, rfl, .ty T, tyX_of r1 e1.sub, kit_ty hk, q _ F1 H1 e1 (.bl b)⟩⟩
end
end Pl
/-! Pl, part J: several names at once, each shared or owned. -/
namespace Pl
open PySem PySem.Spec PyProof.Rows L2

/-- v stands for what a slot is to hold; a new object is none of Hs -/
def RpS (K : KK) (Hs F H : Hp) (v : V) : SV → Prop
  | .sh d => Rp K F v d
  | .ow d => ∃ a o, v = .ref a ∧ H a = some o ∧ OwnAt K F o d ∧ F a = none ∧ Hs a = none
def tEvS (K : KK) (ρ : PEnv) (x : SV) : TE := fun σ H Q => ∃ F0 H0 F, SRel K F0 H0 ρ σ F H ∧ ∀ v F' H', Ext F H F' H' → RpS K H F' H' v x → Q v H'
def EvS (G : Gb) (C : SC) (k : Nat) (ρ : PEnv) (e : Expr) (x : SV) : Prop := ∀ X, CxOk G C k X → PE X e (tEvS G.K ρ x)
section
variable {K : KK} {Hs F0 H0 F H F' H' : Hp} {ρ : PEnv} {σ : L2.St} {v : V} {x : SV}
theorem keepsOwn {a : Addr} {o : HO} {d : PyData} (e : Ext F H F' H') (ha : H a = some o) (r : OwnAt K F o d) (hf : F a = none) : F' a = none := by
  cases q : F' a with
  | none => rfl
  | some u =>
    rcases e.new a u q with z | z | z
    · rw [hf] at z; cases z
    · rw [ha] at z; cases z
    · have z2 := (e.hs _ _ ha).symm.trans (e.sub _ _ q)
      cases z2
      cases r <;> cases z
theorem RpS.ext (h : RpS K Hs F H v x) (e : Ext F H F' H') : RpS K Hs F' H' v x := by
  cases x with
  | sh d => exact Rp.mono e.fs h
  | ow d =>
    obtain ⟨a, o, rfl, h1, h2, h3, h4⟩ := h
    exact ⟨a, o, rfl, e.hs _ _ h1, h2.mono e.fs, keepsOwn e h1 h2 h3, h4⟩
/-- no slot owns what v names -/
def Free' (ρ : PEnv) (σ : L2.St) (v : V) : Prop := ∀ (j : Nat) d, ρ[j]? = some (some (.ow d)) → σ[j]? = some (some v) → False
theorem SRel.setS (S : SRel K F0 H0 ρ σ F H) {i : Nat} (r : RpS K Hs F H v x) (h0 : Same H0 Hs) (hn : (∃ d, x = .ow d) → Free' ρ σ v) : SRel K F0 H0 (ρ.set i (some x)) (σ.set i (some v)) F H := by
  cases x with
  | sh d => exact S.put r
  | ow d =>
    obtain ⟨a, o, rfl, h1, h2, h3, h4⟩ := r
    have hfree := hn ⟨d, rfl⟩
    have out : ∀ {j : Nat} {y : SV}, (ρ.set i (some (.ow d)))[j]? = some (some y) → (i = j ∧ i < ρ.length ∧ y = .ow d) ∨ (i ≠ j ∧ ρ[j]? = some (some y)) := fun {j y} h => by
      by_cases hj : i = j
      · subst hj
        by_cases hl : i < ρ.length
        · rw [List.getElem?_set_self hl] at h; cases h; exact .inl ⟨rfl, hl, rfl⟩
        · rw [List.getElem?_eq_none (by simpa using hl)] at h; cases h
      · rw [List.getElem?_set_ne hj] at h; exact .inr ⟨hj, h⟩
    refine ⟨S.ext, by rw [List.length_set, List.length_set, S.len], fun j d' h => ?_, fun j d' h => ?_, fun j l d1 d2 b hjl q1 q2 q3 q4 => ?_⟩
    · rcases out h with ⟨_, _, z⟩ | ⟨hj, h⟩
      · cases z
      · rw [List.getElem?_set_ne hj]; exact S.sh j d' h
    · rcases out h with ⟨rfl, hl, z⟩ | ⟨hj, h⟩
      · cases z
        exact ⟨a, o, List.getElem?_set_self (by rw [S.len]; exact hl), h1, h2, h3, h0.free h4⟩
      · rw [List.getElem?_set_ne hj]; exact S.ow j d' h
    · rcases out q1 with ⟨rfl, hl, z⟩ | ⟨hj, p1⟩
      · rcases out q2 with ⟨rfl, _, _⟩ | ⟨hj2, p2⟩
        · exact hjl rfl
        · rw [List.getElem?_set_self (by rw [S.len]; exact hl)] at q3
          cases q3
          rw [List.getElem?_set_ne hj2] at q4
          exact hfree l d2 p2 q4
      · rw [List.getElem?_set_ne hj] at q3
        rcases out q2 with ⟨rfl, hl, z⟩ | ⟨hj2, p2⟩
        · rw [List.getElem?_set_self (by rw [S.len]; exact hl)] at q4
          cases q4
          exact hfree j d1 p1 q3
        · rw [List.getElem?_set_ne hj2] at q4
          exact S.apart j l d1 d2 b hjl p1 p2 q3 q4
/-- a new object is none that a slot owned -/
theorem free_new (S : SRel K F0 H0 ρ σ F H) (e : Ext F H F' H') (r : RpS K H F' H' v x) : (∃ d, x = .ow d) → Free' ρ σ v := fun ⟨d, z⟩ j d' h1 h2 => by
  subst z
  obtain ⟨a, o, rfl, _, _, _, h4⟩ := r
  obtain ⟨b, u, q1, q2, _⟩ := S.ow j d' h1
  rw [q1] at h2
  cases h2
  rw [h4] at q2; cases q2
end
section
variable {G : Gb} {C : SC} {k : Nat} {ρ : PEnv} {e e1 e2 e3 : Expr} {d : PyData} {x1 x2 x3 : SV} {pos : Pos}
theorem Ev.s (h : Ev G C k ρ e d) : EvS G C k ρ e (.sh d) := fun X hX => pe_imp (h X hX) fun σ H Q ⟨F0, H0, F, S, q⟩ => ⟨F0, H0, F, S, fun v F' H' x r => q v F' H' x r⟩
theorem EvN.s (h : EvN G C k ρ e d) : EvS G C k ρ e (.ow d) := fun X hX => pe_imp (h X hX) fun σ H Q ⟨F0, H0, F, S, q⟩ => ⟨F0, H0, F, S, fun a o F' H' x hn ha hf r => q _ F' H' x ⟨a, o, rfl, ha, r, hf, hn⟩⟩
/-- two different new objects -/
theorem apart2 {K : KK} {F H F1 H1 F2 H2 : Hp} {v w : V} {j : Nat} {ρ : PEnv} {σ : L2.St} (h1 : RpS K H F1 H1 v x1) (h2 : RpS K H1 F2 H2 w x2) (hf : (∃ d, x2 = .ow d) → Free' ρ σ w) : (∃ d, x2 = .ow d) → Free' (ρ.set j (some x1)) (σ.set j (some v)) w := fun ho l d' q1 q2 => by
  have h0 := hf ho
  obtain ⟨d2, rfl⟩ := ho
  obtain ⟨b, o, rfl, _, _, _, n2⟩ := h2
  by_cases hj : j = l
  · subst hj
    by_cases hl : j < ρ.length
    · rw [List.getElem?_set_self hl] at q1
      cases q1
      obtain ⟨a, o1, rfl, m1, _⟩ := h1
      by_cases hs : j < σ.length
      · rw [List.getElem?_set_self hs] at q2
        cases q2
        rw [n2] at m1; cases m1
      · rw [List.getElem?_eq_none (by simpa using hs)] at q2; cases q2
    · rw [List.getElem?_eq_none (by simpa using hl)] at q1; cases q1
  · rw [List.getElem?_set_ne hj] at q1 q2
    exact h0 l d' q1 q2
/-- x, y = e1, e2 (plain local names) -/
theorem st_par {i j : Nat} {x y : Str} {px py pt : Pos} {kt k2 pt2} (hi : C.N[i]? = some x) (hj : C.N[j]? = some y) (hij : i ≠ j) (hx : C.sc.names.lookup x = some .local) (hy : C.sc.names.lookup y = some .local) (h1 : EvS G C k ρ e1 x1) (h2 : EvS G C k ρ e2 x2)
    (hw : ∀ env : Env, env.scope = C.sc → swappedStores [.Tuple [.Name x px, .Name y py] kt pt] (.Tuple [e1, e2] k2 pt2) env = pure (some [x, y]))
    (hs : ∀ env, swapsWithSole [.Tuple [.Name x px, .Name y py] kt pt] (.Tuple [e1, e2] k2 pt2) pos.line env = pure false) (hs1 : ∀ env, starEach [e1, e2] env = (false, eval e1 env) :: starEach [e2] env) (hs2 : ∀ env, starEach [e2] env = (false, eval e2 env) :: starEach [] env) :
    St1 G C k ρ (.Assign [.Tuple [.Name x px, .Name y py] kt pt] (.Tuple [e1, e2] k2 pt2) pos) (.nx ((ρ.set i (some x1)).set j (some x2))) := fun X hX =>
  ps_imp (ps_par hX.calm (by rw [hX.eN]; exact hX.nd) (by rw [hX.eN]; exact hi) (by rw [hX.eN]; exact hj) hij (by rw [hX.es]; exact hx) (by rw [hX.es]; exact hy) (pa_cons (h1 X hX) (pa_cons (h2 X hX) pa_nil (hs2 _)) (hs1 _)) (hw _ hX.es) (hs _)) fun D σ H ⟨F0, H0, F, S, q⟩ =>
    ⟨F0, H0, F, S, fun v F1 H1 a1 r1 => ⟨F0, H0, F1, S.go a1, fun w F2 H2 a2 r2 => ⟨v, w, rfl, q _ F2 H2 (by
      have S2 := (S.go a1).go a2
      refine SRel.setS (Hs := H1) (S2.setS (r1.ext a2) S.ext.hs (free_new S a1 r1)) r2 (S.ext.hs.trans a1.hs) (apart2 (x1 := x1) (F := F) (H := H) (F1 := F1) (H1 := H1) r1 r2 (free_new (S.go a1) a2 r2))) (a1.trans a2).fs⟩⟩⟩
/-- x, y, z = e1, e2, e3 (plain local names) -/
theorem st_par3 {i j l : Nat} {x y z : Str} {px py pz pt : Pos} {kt k2 pt2} (hi : C.N[i]? = some x) (hj : C.N[j]? = some y) (hl : C.N[l]? = some z) (hij : i ≠ j) (hil : i ≠ l) (hjl : j ≠ l) (hx : C.sc.names.lookup x = some .local) (hy : C.sc.names.lookup y = some .local) (hz : C.sc.names.lookup z = some .local)
    (h1 : EvS G C k ρ e1 x1) (h2 : EvS G C k ρ e2 x2) (h3 : EvS G C k ρ e3 x3)
    (hw : ∀ env : Env, env.scope = C.sc → swappedStores [.Tuple [.Name x px, .Name y py, .Name z pz] kt pt] (.Tuple [e1, e2, e3] k2 pt2) env = pure (some [x, y, z]))
    (hs : ∀ env, swapsWithSole [.Tuple [.Name x px, .Name y py, .Name z pz] kt pt] (.Tuple [e1, e2, e3] k2 pt2) pos.line env = pure false) (hs1 : ∀ env, starEach [e1, e2, e3] env = (false, eval e1 env) :: starEach [e2, e3] env)
    (hs2 : ∀ env, starEach [e2, e3] env = (false, eval e2 env) :: starEach [e3] env) (hs3 : ∀ env, starEach [e3] env = (false, eval e3 env) :: starEach [] env) :
    St1 G C k ρ (.Assign [.Tuple [.Name x px, .Name y py, .Name z pz] kt pt] (.Tuple [e1, e2, e3] k2 pt2) pos) (.nx (((ρ.set i (some x1)).set j (some x2)).set l (some x3))) := fun X hX =>
  ps_imp (ps_par3 hX.calm (by rw [hX.eN]; exact hX.nd) (by rw [hX.eN]; exact hi) (by rw [hX.eN]; exact hj) (by rw [hX.eN]; exact hl) hij hil hjl (by rw [hX.es]; exact hx) (by rw [hX.es]; exact hy) (by rw [hX.es]; exact hz)
    (pa_cons (h1 X hX) (pa_cons (h2 X hX) (pa_cons (h3 X hX) pa_nil (hs3 _)) (hs2 _)) (hs1 _)) (hw _ hX.es) (hs _)) fun D σ H ⟨F0, H0, F, S, q⟩ =>
    ⟨F0, H0, F, S, fun v F1 H1 a1 r1 => ⟨F0, H0, F1, S.go a1, fun w F2 H2 a2 r2 => ⟨F0, H0, F2, (S.go a1).go a2, fun u F3 H3 a3 r3 => ⟨v, w, u, rfl, q _ F3 H3 (by
      have S3 := ((S.go a1).go a2).go a3
      have f1 := free_new S a1 r1
      have f2 := apart2 (j := i) (x1 := x1) (F := F) (H := H) (F1 := F1) (H1 := H1) r1 r2 (free_new (S.go a1) a2 r2)
      have f3 := apart2 (j := i) (x1 := x1) (F := F) (H := H) (F1 := F2) (H1 := H2) (r1.ext a2) r3 (free_new ((S.go a1).go a2) a3 r3)
      have f4 := apart2 (j := j) (x1 := x2) (F := F) (H := H1) (F1 := F2) (H1 := H2) r2 r3 f3
      exact SRel.setS (Hs := H2) (SRel.setS (Hs := H1) (S3.setS ((r1.ext a2).ext a3) S.ext.hs f1) (r2.ext a3) (S.ext.hs.trans a1.hs) f2) r3 (S.ext.hs.trans (a1.trans a2).hs) f4) ((a1.trans a2).trans a3).fs⟩⟩⟩⟩
end
end Pl
/-! Pl, part T: data with Lean types; the forms that the printed proofs use. -/
namespace Pl
open PySem PySem.Spec PyProof.Rows L2

/-! ### encodings -/
abbrev eI : Int → PyData := .int
abbrev eB : Bool → PyData := .bool
abbrev eS : Str → PyData := .str
abbrev eD : PyData → PyData := id
def eN : Unit → PyData := fun _ => .none
/-- a tuple of any length, a list -/
def eT {α : Type} (e : α → PyData) (xs : List α) : PyData := .tuple (xs.map e)
def eL {α : Type} (e : α → PyData) (xs : List α) : PyData := .list (xs.map e)
def eP {α β : Type} (a : α → PyData) (b : β → PyData) (p : α × β) : PyData := .tuple [a p.1, b p.2]
def eP3 {α β γ : Type} (a : α → PyData) (b : β → PyData) (c : γ → PyData) (p : α × β × γ) : PyData := .tuple [a p.1, b p.2.1, c p.2.2]
def eP4 {α β γ δ : Type} (a : α → PyData) (b : β → PyData) (c : γ → PyData) (d : δ → PyData) (p : α × β × γ × δ) : PyData := .tuple [a p.1, b p.2.1, c p.2.2.1, d p.2.2.2]
def eO {α : Type} (e : α → PyData) : Option α → PyData
  | none => .none
  | some a => e a

/-! ### partial values -/
/-- a value given to a name -/
@[irreducible] def set' {α β : Type} (v : α) (f : α → β) : β := f v
theorem set_eq {α β : Type} (v : α) (f : α → β) : set' v f = f v := by unfold set'; rfl
theorem set_ex {α β : Type} {v : α} {f : α → Option β} {r : β} (h : set' v f = some r) : ∃ x, v = x ∧ f x = some r := ⟨v, rfl, by rw [set_eq] at h; exact h⟩
theorem bind_ex {α β : Type} {o : Option α} {f : α → Option β} {r : β} (h : o.bind f = some r) : ∃ x, o = some x ∧ f x = some r := by
  cases o with
  | none => cases h
  | some x => exact ⟨x, rfl, h⟩
/-- a condition that must hold -/
noncomputable def need {β : Type} (p : Prop) (f : Option β) : Option β := open Classical in if p then f else none
theorem need_ex {β : Type} {p : Prop} {f : Option β} {r : β} (h : need p f = some r) : p ∧ f = some r := by
  unfold need at h
  by_cases c : p
  · rw [if_pos c] at h; exact ⟨c, h⟩
  · rw [if_neg c] at h; cases h
theorem need_of {β : Type} {p : Prop} {f : Option β} (h : p) : need p f = f := if_pos h
theorem if_ex {β : Type} {c : Bool} {a b : Option β} {r : β} (h : (if c = true then a else b) = some r) : (c = true ∧ a = some r) ∨ (c = false ∧ b = some r) := by
  cases c with
  | true => exact .inl ⟨rfl, h⟩
  | false => exact .inr ⟨rfl, h⟩
/-- the item at a place, from the left or from behind -/
def idx {α : Type} (xs : List α) (i : Int) : Option α := atI xs i
theorem atI_map {α β : Type} (f : α → β) {xs : List α} {i : Int} {x : α} (h : idx xs i = some x) : atI (xs.map f) i = some (f x) := by
  unfold idx atI at h
  unfold atI
  rw [List.length_map]
  cases e : ixN xs.length i with
  | none => rw [e] at h; cases h
  | some j =>
    rw [e] at h
    have h' : xs[j]? = some x := h
    show (xs.map f)[j]? = some (f x)
    rw [List.getElem?_map, h']; rfl
theorem idx_nat {α : Type} {xs : List α} {i : Int} {x : α} (h0 : 0 ≤ i) (h : xs[i.toNat]? = some x) : idx xs i = some x := by
  obtain ⟨n, rfl⟩ := Int.eq_ofNat_of_zero_le h0
  exact atI_nat h
def setAt {α : Type} (xs : List α) (i : Int) (x : α) : Option (List α) := (ixN xs.length i).map fun j => xs.set j x
/-- how a turn ends -/
inductive O (S β : Type) where
  | nx (s : S)
  | rt (b : β)
  | bk (s : S)
  | ct (s : S)
def O.out {S β : Type} (R : S → PEnv) (E : β → PyData) : O S β → Out
  | .nx s => .nx (R s)
  | .rt b => .rt (E b)
  | .bk s => .bk (R s)
  | .ct s => .ct (R s)
/-- a for over xs -/
def forO {S α β : Type} (step : S → α → Option (O S β)) : List α → S → Option (O S β)
  | [], s => some (.nx s)
  | x :: xs, s => (step s x).bind fun o => match o with
    | .nx s' => forO step xs s'
    | .ct s' => forO step xs s'
    | .bk s' => some (.nx s')
    | .rt b => some (.rt b)
/-- .. no turn of which leaves -/
def forS {S α : Type} (step : S → α → Option S) : List α → S → Option S
  | [], s => some s
  | x :: xs, s => (step s x).bind fun s' => forS step xs s'
/-- a while, at most so many turns -/
def whileO {S β : Type} (c : S → Option Bool) (b : S → Option (O S β)) : Nat → S → Option (O S β)
  | 0, _ => none
  | n + 1, s => (c s).bind fun t => if t = true then (b s).bind fun o => (match o with
    | .nx s' => whileO c b n s'
    | .ct s' => whileO c b n s'
    | .bk s' => some (.nx s')
    | .rt r => some (.rt r)) else some (.nx s)
def whileS {S : Type} (c : S → Option Bool) (b : S → Option S) : Nat → S → Option S
  | 0, _ => none
  | n + 1, s => (c s).bind fun t => if t = true then (b s).bind fun s' => whileS c b n s' else some s
/-- [g x for x in xs] -/
def mapO {α β : Type} (g : α → Option β) : List α → Option (List β)
  | [] => some []
  | x :: xs => (g x).bind fun y => (mapO g xs).bind fun ys => some (y :: ys)
/-- [.. for x in xs if ..] -/
def filO {α β : Type} (g : α → Option (Option β)) : List α → Option (List β)
  | [] => some []
  | x :: xs => (g x).bind fun y => (filO g xs).bind fun ys => some (y.toList ++ ys)

theorem mapO_len {α β : Type} {g : α → Option β} : ∀ {xs : List α} {ys : List β}, mapO g xs = some ys → ys.length = xs.length
  | [], ys, h => by cases h; rfl
  | x :: xs, ys, h => by
    obtain ⟨y, _, h⟩ := bind_ex h
    obtain ⟨zs, h2, h⟩ := bind_ex h
    cases h
    exact congrArg (· + 1) (mapO_len h2)
theorem filO_len {α β : Type} {g : α → Option (Option β)} : ∀ {xs : List α} {ys : List β}, filO g xs = some ys → ys.length ≤ xs.length
  | [], ys, h => by cases h; exact Nat.le_refl _
  | x :: xs, ys, h => by
    obtain ⟨y, _, h⟩ := bind_ex h
    obtain ⟨zs, h2, h⟩ := bind_ex h
    cases h
    have := filO_len h2
    cases y with
    | none => simp; omega
    | some y => simp; omega

/-! ### names, by one look -/
structure Nm (C : SC) (i : Nat) (x : Str) : Prop where
  hi : C.N[i]? = some x
  hv : C.sc.names.lookup x = some .local ∨ C.sc.names.lookup x = some .cell ∨ C.sc.names.lookup x = some .free
  hd : (x == ("__debug__" : Str)) = false
  hc : (x == ("__classdict__" : Str)) = false
structure NmS (C : SC) (i : Nat) (x : Str) : Prop where
  hi : C.N[i]? = some x
  hx : C.sc.names.lookup x = some .local ∨ C.sc.names.lookup x = some .cell
  hf : C.fs x = true ∨ C.sc.names.lookup x = some .local
/-- a plain local name -/
structure NmL (C : SC) (i : Nat) (x : Str) : Prop where
  hi : C.N[i]? = some x
  hl : C.sc.names.lookup x = some .local
structure Gn (C : SC) (x : Str) : Prop where
  hg : C.sc.names.lookup x = some .globalImplicit
  hn : x ≠ "__name__"
  hd : (x == ("__debug__" : Str)) = false
def isL : Option NameKind → Bool
  | some .local => true
  | _ => false
def isC : Option NameKind → Bool
  | some .cell => true
  | _ => false
def isF : Option NameKind → Bool
  | some .free => true
  | _ => false
def isG : Option NameKind → Bool
  | some .globalImplicit => true
  | _ => false
theorem isL_ok {o : Option NameKind} (h : isL o = true) : o = some .local := by cases o with | none => cases h | some k => cases k <;> first | rfl | cases h
theorem isC_ok {o : Option NameKind} (h : isC o = true) : o = some .cell := by cases o with | none => cases h | some k => cases k <;> first | rfl | cases h
theorem isF_ok {o : Option NameKind} (h : isF o = true) : o = some .free := by cases o with | none => cases h | some k => cases k <;> first | rfl | cases h
theorem isG_ok {o : Option NameKind} (h : isG o = true) : o = some .globalImplicit := by cases o with | none => cases h | some k => cases k <;> first | rfl | cases h
def nmB (C : SC) (i : Nat) (x : Str) : Bool := decide (C.N[i]? = some x) && ((isL (C.sc.names.lookup x) || (isC (C.sc.names.lookup x) || isF (C.sc.names.lookup x))) && (!(x == ("__debug__" : Str)) && !(x == ("__classdict__" : Str))))
def nmsB (C : SC) (i : Nat) (x : Str) : Bool := decide (C.N[i]? = some x) && ((isL (C.sc.names.lookup x) || isC (C.sc.names.lookup x)) && (C.fs x || isL (C.sc.names.lookup x)))
def nmlB (C : SC) (i : Nat) (x : Str) : Bool := decide (C.N[i]? = some x) && isL (C.sc.names.lookup x)
def gnB (C : SC) (x : Str) : Bool := isG (C.sc.names.lookup x) && (!decide (x = "__name__") && !(x == ("__debug__" : Str)))
theorem or_d {a b : Bool} (h : (a || b) = true) : a = true ∨ b = true := Bool.or_eq_true_iff.mp h
theorem not_d {a : Bool} (h : (!a) = true) : a = false := by cases a <;> first | rfl | cases h
theorem nm {C : SC} {i : Nat} {x : Str} (h : nmB C i x = true) : Nm C i x := ⟨of_decide_eq_true (and_l h), (or_d (and_l (and_r h))).imp isL_ok fun z => (or_d z).imp isC_ok isF_ok, not_d (and_l (and_r (and_r h))), not_d (and_r (and_r (and_r h)))⟩
theorem nms {C : SC} {i : Nat} {x : Str} (h : nmsB C i x = true) : NmS C i x := ⟨of_decide_eq_true (and_l h), (or_d (and_l (and_r h))).imp isL_ok isC_ok, (or_d (and_r (and_r h))).imp id isL_ok⟩
theorem nml {C : SC} {i : Nat} {x : Str} (h : nmlB C i x = true) : NmL C i x := ⟨of_decide_eq_true (and_l h), isL_ok (and_r h)⟩
theorem gn {C : SC} {x : Str} (h : gnB C x = true) : Gn C x := ⟨isG_ok (and_l h), of_decide_eq_false (not_d (and_l (and_r h))), not_d (and_r (and_r h))⟩

/-! ### guards -/
instance {i j : Int} : Decidable (MulOk i j) := by unfold MulOk CMul CMulW; infer_instance
instance {i j : Int} : Decidable (DivOk i j) := by unfold DivOk; infer_instance
instance {i j : Int} : Decidable (CPow i j) := by unfold CPow; infer_instance
theorem mul_l {i j : Int} (h : -(2 ^ 64) < i ∧ i < 2 ^ 64) : MulOk i j := .inl (.inl h)
theorem mul_r {i j : Int} (h : -(2 ^ 64) < j ∧ j < 2 ^ 64) : MulOk i j := .inl (.inr h)
theorem div_c {i j : Int} (h : 0 < j ∧ j < 1073741824) : DivOk i j := ⟨h.1, .inl h.2⟩
/-- a range's ends -/
def RgO (lo hi : Int) : Prop := -1000000000 ≤ lo ∧ lo ≤ 1000000000 ∧ -1000000000 ≤ hi ∧ hi ≤ 1000000000 ∧ hi - lo ≤ 16777216
instance {i j : Int} : Decidable (RgO i j) := by unfold RgO; infer_instance
theorem rangeD_le {lo hi : Int} (h : RgO lo hi) : (rangeD lo hi).length ≤ sizeLine := by
  have e := sizeLine_eq
  unfold rangeD
  obtain ⟨_, _, _, _, h⟩ := h
  simp
  omega

section
variable {G : Gb} {C : SC} {k : Nat} {ρ ρ1 ρ2 : PEnv} {e tg a b c : Expr} {es : List Expr} {d d' d1 d2 d3 : PyData} {ds : List PyData} {pos p : Pos} {x : Str} {t u : Bool}
theorem Ev.to (h : Ev G C k ρ e d) (q : d = d') : Ev G C k ρ e d' := q ▸ h
theorem EvB.to (h : EvB G C k ρ e d) (q : d = d') : EvB G C k ρ e d' := q ▸ h
theorem EvN.to (h : EvN G C k ρ e d) (q : d = d') : EvN G C k ρ e d' := q ▸ h
theorem Te.to (h : Te G C k ρ e t) (q : t = u) : Te G C k ρ e u := q ▸ h
theorem vr (i : Nat) (n : Nm C i x) (h : ρ[i]? = some (some (.sh d))) : Ev G C k ρ (.Name x pos) d := ev_name i n.hi n.hv h n.hd n.hc
theorem vo (i : Nat) (n : Nm C i x) (h : ρ[i]? = some (some (.ow d))) : EvB G C k ρ (.Name x pos) d := evb_own i n.hi n.hv h n.hd n.hc
/-! and, or, chains of what is total -/
theorem ev_and {rest : List Expr} (ha : Ev G C k ρ a (.bool t)) (hb : Ev G C k ρ (.BoolOp .And (b :: rest) pos) (.bool u)) : Ev G C k ρ (.BoolOp .And (a :: b :: rest) pos) (.bool (t && u)) := by
  cases t with
  | true => exact ev_andT ha hb
  | false => exact ev_andF ha
theorem ev_or {rest : List Expr} (ha : Ev G C k ρ a (.bool t)) (hb : Ev G C k ρ (.BoolOp .Or (b :: rest) pos) (.bool u)) : Ev G C k ρ (.BoolOp .Or (a :: b :: rest) pos) (.bool (t || u)) := by
  cases t with
  | true => exact ev_orT ha
  | false => exact ev_orF ha hb
theorem tw_and {rest : List Expr} (ha : Te G C k ρ a t) (hb : Tw G C k ρ (.BoolOp .And (b :: rest) pos) u) : Tw G C k ρ (.BoolOp .And (a :: b :: rest) pos) (t && u) := by
  cases t with
  | true => exact tw_andT ha hb
  | false => exact tw_andF ha
theorem tw_or {rest : List Expr} (ha : Te G C k ρ a t) (hb : Tw G C k ρ (.BoolOp .Or (b :: rest) pos) u) : Tw G C k ρ (.BoolOp .Or (a :: b :: rest) pos) (t || u) := by
  cases t with
  | true => exact tw_orT ha
  | false => exact tw_orF ha hb
/-! .. of what may not be there: h tells the outcome -/
theorem ev_andO {rest : List Expr} {o : Option Bool} {r : Bool} (h : (if t = true then o else some false) = some r) (ha : Ev G C k ρ a (.bool t)) (hb : o = some r → Ev G C k ρ (.BoolOp .And (b :: rest) pos) (.bool r)) : Ev G C k ρ (.BoolOp .And (a :: b :: rest) pos) (.bool r) := by
  cases t with
  | true => exact ev_andT ha (hb h)
  | false => cases h; exact ev_andF ha
theorem ev_orO {rest : List Expr} {o : Option Bool} {r : Bool} (h : (if t = true then some true else o) = some r) (ha : Ev G C k ρ a (.bool t)) (hb : o = some r → Ev G C k ρ (.BoolOp .Or (b :: rest) pos) (.bool r)) : Ev G C k ρ (.BoolOp .Or (a :: b :: rest) pos) (.bool r) := by
  cases t with
  | true => cases h; exact ev_orT ha
  | false => exact ev_orF ha (hb h)
theorem tw_andO {rest : List Expr} {o : Option Bool} {r : Bool} (h : (if t = true then o else some false) = some r) (ha : Te G C k ρ a t) (hb : o = some r → Tw G C k ρ (.BoolOp .And (b :: rest) pos) r) : Tw G C k ρ (.BoolOp .And (a :: b :: rest) pos) r := by
  cases t with
  | true => exact tw_andT ha (hb h)
  | false => cases h; exact tw_andF ha
theorem tw_orO {rest : List Expr} {o : Option Bool} {r : Bool} (h : (if t = true then some true else o) = some r) (ha : Te G C k ρ a t) (hb : o = some r → Tw G C k ρ (.BoolOp .Or (b :: rest) pos) r) : Tw G C k ρ (.BoolOp .Or (a :: b :: rest) pos) r := by
  cases t with
  | true => cases h; exact tw_orT ha
  | false => exact tw_orF ha (hb h)
theorem ev_if {α : Type} {E : α → PyData} {v w : α} (hc : Te G C k ρ c t) (ha : Ev G C k ρ a (E v)) (hb : Ev G C k ρ b (E w)) : Ev G C k ρ (.IfExp c a b pos) (E (if t = true then v else w)) := by
  cases t with
  | true => exact ev_ifT hc ha
  | false => exact ev_ifF hc hb
theorem ev_ifO {α : Type} {E : α → PyData} {o q : Option α} {r : α} (h : (if t = true then o else q) = some r) (hc : Te G C k ρ c t) (ha : o = some r → Ev G C k ρ a (E r)) (hb : q = some r → Ev G C k ρ b (E r)) : Ev G C k ρ (.IfExp c a b pos) (E r) := by
  cases t with
  | true => exact ev_ifT hc (ha h)
  | false => exact ev_ifF hc (hb h)
/-- a op b op' c on whole numbers -/
theorem ev_chain2 {op op' : CmpOp} (ho : OpOk G C k (compareOp op) d1 d2 (.bool t)) (ho' : OpOk G C k (compareOp op') d2 d3 (.bool u)) (ha : EvB G C k ρ a d1) (hb : EvB G C k ρ b d2) (hc : EvB G C k ρ c d3) (hm : lastMarks [op, op'] [b, c] = false) :
    Ev G C k ρ (.Compare a [op, op'] [b, c] pos) (.bool (t && u)) := by
  cases t with
  | true => exact ev_chain ho ho' ha hb hc hm
  | false => exact ev_chainF ho ha hb (fun X hX => ⟨_, hc X hX⟩) (fun X hX => ⟨_, ho' X hX⟩) hm
/-! ### comprehensions with Lean types -/
theorem lcr_map {α β : Type} {ea : α → PyData} {eb : β → PyData} {vs : List Nat} {ifs : List Expr} {elt : Expr} (g : α → Option β) (h : ∀ x y, g x = some y → LcStep G C k ρ vs tg ifs elt (ea x) (some (eb y))) : ∀ (xs : List α) (ys : List β), mapO g xs = some ys → LcR G C k ρ vs tg ifs elt (xs.map ea) (ys.map eb)
  | [], ys, q => by cases q; exact .nil
  | x :: xs, ys, q => by
    obtain ⟨y, h1, q⟩ := bind_ex q
    obtain ⟨zs, h2, q⟩ := bind_ex q
    cases q
    exact .keep (h x y h1) (lcr_map g h xs zs h2)
theorem lcr_fil {α β : Type} {ea : α → PyData} {eb : β → PyData} {vs : List Nat} {ifs : List Expr} {elt : Expr} (g : α → Option (Option β)) (h : ∀ x o, g x = some o → LcStep G C k ρ vs tg ifs elt (ea x) (o.map eb)) : ∀ (xs : List α) (ys : List β), filO g xs = some ys → LcR G C k ρ vs tg ifs elt (xs.map ea) (ys.map eb)
  | [], ys, q => by cases q; exact .nil
  | x :: xs, ys, q => by
    obtain ⟨o, h1, q⟩ := bind_ex q
    obtain ⟨zs, h2, q⟩ := bind_ex q
    cases q
    have s := h x o h1
    cases o with
    | none => exact .skip s (lcr_fil g h xs zs h2)
    | some y => exact .keep s (lcr_fil g h xs zs h2)
theorem lcr_mapT {α β : Type} {ea : α → PyData} {eb : β → PyData} {vs : List Nat} {ifs : List Expr} {elt : Expr} (g : α → β) (h : ∀ x, LcStep G C k ρ vs tg ifs elt (ea x) (some (eb (g x)))) : ∀ (xs : List α), LcR G C k ρ vs tg ifs elt (xs.map ea) ((xs.map g).map eb)
  | [] => .nil
  | x :: xs => .keep (h x) (lcr_mapT g h xs)
theorem lcr_filT {α β : Type} {ea : α → PyData} {eb : β → PyData} {vs : List Nat} {ifs : List Expr} {elt : Expr} (f : α → Bool) (g : α → β) (h : ∀ x, LcStep G C k ρ vs tg ifs elt (ea x) (if f x = true then some (eb (g x)) else none)) : ∀ (xs : List α), LcR G C k ρ vs tg ifs elt (xs.map ea) (((xs.filter f).map g).map eb)
  | [] => .nil
  | x :: xs => by
    have s := h x
    rw [List.filter_cons]
    cases e : f x with
    | true => rw [e] at s; exact .keep s (lcr_filT f g h xs)
    | false => rw [e] at s; exact .skip s (lcr_filT f g h xs)
/-- one item, without tests, with one -/
theorem step_one {vs is : List Nat} {elt : Expr} {y : PyData} (hs : ∀ i ∈ is, i ∈ vs) (ht : Tg G C k ρ tg is d ρ1) (he : Ev G C k ρ1 elt y) : LcStep G C k ρ vs tg [] elt d (some y) := ⟨is, ρ1, hs, ht, .inl ⟨y, rfl, ts_nil, he⟩⟩
theorem step_if {vs is : List Nat} {elt : Expr} {y : PyData} (hs : ∀ i ∈ is, i ∈ vs) (ht : Tg G C k ρ tg is d ρ1) (hc : Te G C k ρ1 c t) (he : t = true → Ev G C k ρ1 elt y) : LcStep G C k ρ vs tg [c] elt d (if t = true then some y else none) := by
  cases t with
  | true => exact ⟨is, ρ1, hs, ht, .inl ⟨y, rfl, ts_one hc, he rfl⟩⟩
  | false => exact ⟨is, ρ1, hs, ht, .inr ⟨rfl, ts_one hc⟩⟩
theorem step_ifO {β : Type} {eb : β → PyData} {vs is : List Nat} {elt : Expr} {q : Option (Option β)} {o : Option β} (h : (if t = true then q else some none) = some o) (hs : ∀ i ∈ is, i ∈ vs) (ht : Tg G C k ρ tg is d ρ1) (hc : Te G C k ρ1 c t) (he : q = some o → ∃ y, o = some y ∧ Ev G C k ρ1 elt (eb y)) : LcStep G C k ρ vs tg [c] elt d (o.map eb) := by
  cases t with
  | true =>
    obtain ⟨y, rfl, hy⟩ := he h
    exact ⟨is, ρ1, hs, ht, .inl ⟨_, rfl, ts_one hc, hy⟩⟩
  | false => cases h; exact ⟨is, ρ1, hs, ht, .inr ⟨rfl, ts_one hc⟩⟩
/-! ### loops with Lean types -/
theorem for_o {S α β : Type} {R : S → PEnv} {E : β → PyData} {ea : α → PyData} {body : List Stmt} {step : S → α → Option (O S β)} (h : ∀ s x o, step s x = some o → ∃ is ρt, Tg G C k (R s) tg is (ea x) ρt ∧ Blk G C k ρt body (o.out R E)) :
    ∀ (xs : List α) (s : S) (o : O S β), forO step xs s = some o → ForR G C k tg body (xs.map ea) (R s) (o.out R E)
  | [], s, o, q => by cases q; exact .done
  | x :: xs, s, o, q => by
    obtain ⟨o', h1, q⟩ := bind_ex q
    obtain ⟨is, ρt, ht, hb⟩ := h s x o' h1
    cases o' with
    | nx s' => exact .nx ht hb (for_o h xs s' o q)
    | ct s' => exact .ct ht hb (for_o h xs s' o q)
    | bk s' => cases q; exact .bk ht hb
    | rt b => cases q; exact .rt ht hb
theorem for_s {S α : Type} {R : S → PEnv} {ea : α → PyData} {body : List Stmt} {step : S → α → Option S} (h : ∀ s x s', step s x = some s' → ∃ is ρt, Tg G C k (R s) tg is (ea x) ρt ∧ Blk G C k ρt body (.nx (R s'))) :
    ∀ (xs : List α) (s s' : S), forS step xs s = some s' → ForR G C k tg body (xs.map ea) (R s) (.nx (R s'))
  | [], s, s', q => by cases q; exact .done
  | x :: xs, s, s', q => by
    obtain ⟨s1, h1, q⟩ := bind_ex q
    obtain ⟨is, ρt, ht, hb⟩ := h s x s1 h1
    exact .nx ht hb (for_s h xs s1 s' q)
theorem while_o {S β : Type} {R : S → PEnv} {E : β → PyData} {body : List Stmt} {cd : S → Option Bool} {step : S → Option (O S β)} (hc : ∀ s t, cd s = some t → Te G C k (R s) c t) (h : ∀ s o, step s = some o → Blk G C k (R s) body (o.out R E)) :
    ∀ (n : Nat) (s : S) (o : O S β), whileO cd step n s = some o → WhileR G C k c body n (R s) (o.out R E)
  | 0, s, o, q => by cases q
  | n + 1, s, o, q => by
    obtain ⟨t, h1, q⟩ := bind_ex q
    have ht := hc s t h1
    cases t with
    | false => cases q; exact .done ht
    | true =>
      obtain ⟨o', h2, q⟩ := bind_ex (show (step s).bind _ = some o from q)
      have hb := h s o' h2
      cases o' with
      | nx s' => exact .nx ht hb (while_o hc h n s' o q)
      | ct s' => exact .ct ht hb (while_o hc h n s' o q)
      | bk s' => cases q; exact .bk ht hb
      | rt b => cases q; exact .rt ht hb
theorem while_s {S : Type} {R : S → PEnv} {body : List Stmt} {cd : S → Option Bool} {step : S → Option S} (hc : ∀ s t, cd s = some t → Te G C k (R s) c t) (h : ∀ s s', step s = some s' → Blk G C k (R s) body (.nx (R s'))) :
    ∀ (n : Nat) (s s' : S), whileS cd step n s = some s' → WhileR G C k c body n (R s) (.nx (R s'))
  | 0, s, o, q => by cases q
  | n + 1, s, o, q => by
    obtain ⟨t, h1, q⟩ := bind_ex q
    have ht := hc s t h1
    cases t with
    | false => cases q; exact .done ht
    | true =>
      obtain ⟨s1, h2, q⟩ := bind_ex (show (step s).bind _ = some o from q)
      exact .nx ht (h s s1 h2) (while_s hc h n s1 o q)
/-! ### if, joined -/
theorem st_if {a b : List Stmt} {r : Out} (hc : Te G C k ρ c t) (ha : t = true → Blk G C k ρ a r) (hb : t = false → Blk G C k ρ b r) : St1 G C k ρ (.If c a b pos) r := by
  cases t with
  | true => exact st_ifT hc (ha rfl)
  | false => exact st_ifF hc (hb rfl)
end
end Pl
/-! Pl, part U: more statements; equality by type. -/
namespace Pl
open PySem PySem.Spec PyProof.Rows L2

section
variable {G : Gb} {C : SC} {k : Nat} {ρ ρ1 ρ2 : PEnv} {e e1 e2 e3 tg a b c : Expr} {es : List Expr} {d d' d1 d2 d3 : PyData} {ds es' : List PyData} {pos p : Pos} {x y z : Str} {x1 x2 x3 : SV}
theorem kindOf_of {env : Env} (h : env.scope = C.sc) (x : Str) : env.kindOf x = C.sc.names.lookup x := by unfold Env.kindOf; rw [h]
/-- a comprehension given to a name that is a cell -/
theorem swp_cell {elt : Expr} {gs : List Comprehension} {scope : Scope} {py : Pos} {l : Nat} (h : isC (C.sc.names.lookup x) = true) : ∀ env : Env, env.scope = C.sc → swapsWith (.ListComp elt gs scope pos) (some (.Name x py)) l env = pure false := fun env he => by
  show (pure (env.blockKind == .function && env.kindOf x == some .local && py.line == (Expr.ListComp elt gs scope pos).pos.line && !(scope.names.any fun (n, k) => n == x && (k == .local || k == .cell))) : Sem Bool) = pure false
  rw [kindOf_of he, isC_ok h]
  have : (some NameKind.cell == some NameKind.local) = false := rfl
  rw [this, Bool.and_false, Bool.false_and, Bool.false_and]
/-- .. that is a plain local -/
theorem swp_local {elt : Expr} {gs : List Comprehension} {scope : Scope} {py : Pos} {l : Nat} (h : (isL (C.sc.names.lookup x) && (((if C.sc.kind.isAnnotationScope then ScopeKind.function else C.sc.kind) == ScopeKind.function) && (py.line == pos.line && !(scope.names.any fun (n, k) => n == x && (k == .local || k == .cell))))) = true) : ∀ env : Env, env.scope = C.sc → swapsWith (.ListComp elt gs scope pos) (some (.Name x py)) l env = pure true := fun env he => by
  show (pure (env.blockKind == .function && env.kindOf x == some .local && py.line == (Expr.ListComp elt gs scope pos).pos.line && !(scope.names.any fun (n, k) => n == x && (k == .local || k == .cell))) : Sem Bool) = pure true
  have hb : (env.blockKind == .function) = true := by
    unfold Env.blockKind
    rw [he]; exact and_l (and_r h)
  rw [kindOf_of he, isL_ok (and_l h), hb]
  have : (some NameKind.local == some NameKind.local) = true := rfl
  rw [this]
  show (pure (py.line == pos.line && _) : Sem Bool) = pure true
  rw [and_r (and_r h)]
theorem swp_any {ts : List Expr} {v : Expr} {o : Sem (Option (List Str))} (env0 : Env) (h0 : swappedStores ts v { env0 with scope := C.sc } = o) (he : ∀ env env' : Env, env.scope = env'.scope → swappedStores ts v env = swappedStores ts v env') : ∀ env : Env, env.scope = C.sc → swappedStores ts v env = o := fun env h => (he env _ h).trans h0
/-- x.extend(e), e new -/
theorem st_extend (i : Nat) {p1 ap cp : Pos} (n : Nm C i x) (h : ρ[i]? = some (some (.ow (.list ds)))) (he : EvN G C k ρ e (.list es')) (hl : ds.length + es'.length ≤ sizeLine)
    (hsw : ∀ env, swapsWith (.Call (.Attribute (.Name x p1) "extend" ap) [e] [] cp) none pos.line env = pure false)
    (hs : ∀ env, starEach [e] env = [(false, eval e env)]) (hab : ∀ env, attributeBase (.Name x p1) "extend" env (eval (.Name x p1) env) = eval (.Name x p1) env) (hln : (ap.endLine == cp.line) = true) :
    St1 G C k ρ (.Expr (.Call (.Attribute (.Name x p1) "extend" ap) [e] [] cp) pos) (.nx (ρ.set i (some (.ow (.list (ds ++ es')))))) := fun X hX => by
  refine ps_imp (ps_expr (pe_bm PySem.F.plainAttrs_list PySem.F.slot_list_extend PySem.F.type_list_extend mt_extend (pe_var (i := i) (by rw [hX.eN]; exact n.hi) (vis_of hX n.hv) n.hd n.hc) (pa_cons (he X hX) pa_nil (by rw [hs]; rfl)) (hab _) (by rw [hs]; rfl) hln (by rw [hs]; rfl) rfl) (hsw _)) fun D σ H ⟨F0, H0, F, S, q⟩ => ?_
  obtain ⟨a, o, h1, h2, h3, h4, h5⟩ := S.ow i _ h
  cases h3 with
  | @lst xs _ r =>
    refine ⟨.ref a, h1, .inl ⟨rfl, xs, .inl (.inl h2)⟩, F0, H0, F, S, fun bq o F1 H1 e1 hn ho hf r1 => ?_⟩
    cases r1 with
    | @lst zs _ r1 =>
      exact ⟨a, bq, xs, zs, rfl, rfl, e1.hs _ _ h2, ho, by rw [r.length, r1.length]; exact hl, q σ F1 _ ((S.go e1).mut h h1 (.lst ((r.mono e1.fs).append r1))) e1.fs⟩
/-- x, y = e1, e2, each shared or new, by the tuple -/
theorem st_unp2 {i j : Nat} {px py pt : Pos} {kt k2 pt2} (n1 : NmS C i x) (n2 : NmS C j y) (h1 : EvS G C k ρ e1 x1) (h2 : EvS G C k ρ e2 x2)
    (hw : ∀ env : Env, env.scope = C.sc → swappedStores [.Tuple [.Name x px, .Name y py] kt pt] (.Tuple [e1, e2] k2 pt2) env = pure none)
    (hs1 : ∀ env, starEach [e1, e2] env = (false, eval e1 env) :: starEach [e2] env) (hs2 : ∀ env, starEach [e2] env = (false, eval e2 env) :: starEach [] env) :
    St1 G C k ρ (.Assign [.Tuple [.Name x px, .Name y py] kt pt] (.Tuple [e1, e2] k2 pt2) pos) (.nx ((ρ.set i (some x1)).set j (some x2))) := fun X hX =>
  have fx : ∀ {i : Nat} {x : Str}, NmS C i x → X.fn x = true ∨ X.env.scope.names.lookup x = some .local := fun n => n.hf.imp (hX.fn _) fun h => by rw [hX.es]; exact h
  ps_imp (ps_asg (pe_tup (pa_cons (h1 X hX) (pa_cons (h2 X hX) pa_nil (hs2 _)) (hs1 _))) (pg_tup (n := 2) hX.calm (pgs_cons (pg_name (i := i) (by rw [hX.eN]; exact hX.nd) (by rw [hX.eN]; exact n1.hi) (by unfold L2.Loc; rw [hX.es]; exact n1.hx) (fx n1)) (pgs_cons (pg_name (i := j) (by rw [hX.eN]; exact hX.nd) (by rw [hX.eN]; exact n2.hi) (by unfold L2.Loc; rw [hX.es]; exact n2.hx) (fx n2)) pgs_nil))) rfl (hw _ hX.es) rfl) fun D σ H ⟨F0, H0, F, S, q⟩ =>
    ⟨F0, H0, F, S, fun v F1 H1 a1 r1 => ⟨F0, H0, F1, S.go a1, fun w F2 H2 a2 r2 => ⟨by show 2 ≤ sizeLine; rw [sizeLine_eq]; decide, fun p hp => ⟨p, [v, w], rfl, .inl (.inl upd_same), rfl, _, _, rfl, _, _, rfl, rfl, q _ F2 _ (by
      have S2 := (S.go a1).go a2
      refine SRel.go (SRel.setS (Hs := H1) (S2.setS (r1.ext a2) S.ext.hs (free_new S a1 r1)) r2 (S.ext.hs.trans a1.hs) (apart2 (x1 := x1) (F := F) (H := H) (F1 := F1) (H1 := H1) r1 r2 (free_new (S.go a1) a2 r2))) (Ext.put a2.sub hp)) (a1.trans a2).fs⟩⟩⟩⟩
theorem st_unp3 {i j l : Nat} {px py pz pt : Pos} {kt k2 pt2} (n1 : NmS C i x) (n2 : NmS C j y) (n3 : NmS C l z) (h1 : EvS G C k ρ e1 x1) (h2 : EvS G C k ρ e2 x2) (h3 : EvS G C k ρ e3 x3)
    (hw : ∀ env : Env, env.scope = C.sc → swappedStores [.Tuple [.Name x px, .Name y py, .Name z pz] kt pt] (.Tuple [e1, e2, e3] k2 pt2) env = pure none)
    (hs1 : ∀ env, starEach [e1, e2, e3] env = (false, eval e1 env) :: starEach [e2, e3] env) (hs2 : ∀ env, starEach [e2, e3] env = (false, eval e2 env) :: starEach [e3] env) (hs3 : ∀ env, starEach [e3] env = (false, eval e3 env) :: starEach [] env) :
    St1 G C k ρ (.Assign [.Tuple [.Name x px, .Name y py, .Name z pz] kt pt] (.Tuple [e1, e2, e3] k2 pt2) pos) (.nx (((ρ.set i (some x1)).set j (some x2)).set l (some x3))) := fun X hX =>
  have fx : ∀ {i : Nat} {x : Str}, NmS C i x → X.fn x = true ∨ X.env.scope.names.lookup x = some .local := fun n => n.hf.imp (hX.fn _) fun h => by rw [hX.es]; exact h
  ps_imp (ps_asg (pe_tup (pa_cons (h1 X hX) (pa_cons (h2 X hX) (pa_cons (h3 X hX) pa_nil (hs3 _)) (hs2 _)) (hs1 _))) (pg_tup (n := 3) hX.calm (pgs_cons (pg_name (i := i) (by rw [hX.eN]; exact hX.nd) (by rw [hX.eN]; exact n1.hi) (by unfold L2.Loc; rw [hX.es]; exact n1.hx) (fx n1)) (pgs_cons (pg_name (i := j) (by rw [hX.eN]; exact hX.nd) (by rw [hX.eN]; exact n2.hi) (by unfold L2.Loc; rw [hX.es]; exact n2.hx) (fx n2)) (pgs_cons (pg_name (i := l) (by rw [hX.eN]; exact hX.nd) (by rw [hX.eN]; exact n3.hi) (by unfold L2.Loc; rw [hX.es]; exact n3.hx) (fx n3)) pgs_nil)))) rfl (hw _ hX.es) rfl) fun D σ H ⟨F0, H0, F, S, q⟩ =>
    ⟨F0, H0, F, S, fun v F1 H1 a1 r1 => ⟨F0, H0, F1, S.go a1, fun w F2 H2 a2 r2 => ⟨F0, H0, F2, (S.go a1).go a2, fun u F3 H3 a3 r3 => ⟨by show 3 ≤ sizeLine; rw [sizeLine_eq]; decide, fun p hp => ⟨p, [v, w, u], rfl, .inl (.inl upd_same), rfl, _, _, rfl, _, _, rfl, _, _, rfl, rfl, q _ F3 _ (by
      have S3 := ((S.go a1).go a2).go a3
      have f1 := free_new S a1 r1
      have f2 := apart2 (j := i) (x1 := x1) (F := F) (H := H) (F1 := F1) (H1 := H1) r1 r2 (free_new (S.go a1) a2 r2)
      have f3 := apart2 (j := i) (x1 := x1) (F := F) (H := H) (F1 := F2) (H1 := H2) (r1.ext a2) r3 (free_new ((S.go a1).go a2) a3 r3)
      have f4 := apart2 (j := j) (x1 := x2) (F := F) (H := H1) (F1 := F2) (H1 := H2) r2 r3 f3
      exact SRel.go (SRel.setS (Hs := H2) (SRel.setS (Hs := H1) (S3.setS ((r1.ext a2).ext a3) S.ext.hs f1) (r2.ext a3) (S.ext.hs.trans a1.hs) f2) r3 (S.ext.hs.trans (a1.trans a2).hs) f4) (Ext.put a3.sub hp)) ((a1.trans a2).trans a3).fs⟩⟩⟩⟩⟩

/-! ### an end that is no going on -/
def Exit : Out → Prop
  | .nx _ => False
  | _ => True
/-- a block that leaves -/
def BlkX (G : Gb) (C : SC) (k : Nat) (ρ : PEnv) (sts : List Stmt) (r : Out) : Prop := Blk G C k ρ sts r ∧ Exit r
theorem blk_exit {st : Stmt} {ss : List Stmt} {r : Out} (h : St1 G C k ρ st r) (hx : Exit r) : Blk G C k ρ (st :: ss) r := by
  cases r with
  | nx ρ => cases hx
  | rt d => exact blk_ret h
  | bk ρ => exact blk_brk h
  | ct ρ => exact blk_cont h
theorem blkx_cons {st : Stmt} {ss : List Stmt} {r : Out} (h1 : St1 G C k ρ st (.nx ρ1)) (h2 : BlkX G C k ρ1 ss r) : BlkX G C k ρ (st :: ss) r := ⟨blk_cons h1 h2.1, h2.2⟩
theorem blkx_ret {st : Stmt} {ss : List Stmt} (h : St1 G C k ρ st (.rt d)) : BlkX G C k ρ (st :: ss) (.rt d) := ⟨blk_ret h, trivial⟩
theorem blkx_brk {st : Stmt} {ss : List Stmt} (h : St1 G C k ρ st (.bk ρ1)) (cv : Cov ρ1 ρ2) : BlkX G C k ρ (st :: ss) (.bk ρ2) := ⟨(blk_brk h).out (.bk cv), trivial⟩
theorem blkx_cont {st : Stmt} {ss : List Stmt} (h : St1 G C k ρ st (.ct ρ1)) (cv : Cov ρ1 ρ2) : BlkX G C k ρ (st :: ss) (.ct ρ2) := ⟨(blk_cont h).out (.ct cv), trivial⟩
theorem BlkX.weak {ss : List Stmt} {r : Out} (h : BlkX G C k ρ1 ss r) (cv : Cov ρ ρ1) : BlkX G C k ρ ss r := ⟨h.1.weak cv, h.2⟩
/-- an if of which both ways leave -/
theorem blkx_if2 {t : Bool} {aa bb ss : List Stmt} {α : Type} {A B : Option α} {r : α} {o : Out} (h : (if t = true then A else B) = some r) (hc : Te G C k ρ c t) (ha : A = some r → BlkX G C k ρ aa o) (hb : B = some r → BlkX G C k ρ bb o) : BlkX G C k ρ (.If c aa bb pos :: ss) o := by
  cases t with
  | true => exact ⟨blk_exit (st_ifT hc (ha h).1) (ha h).2, (ha h).2⟩
  | false => exact ⟨blk_exit (st_ifF hc (hb h).1) (hb h).2, (hb h).2⟩
/-- an if that leaves, or nothing -/
theorem blk_ifx {t : Bool} {aa ss : List Stmt} {α : Type} {A B : Option α} {r : α} {o : Out} (h : (if t = true then A else B) = some r) (hc : Te G C k ρ c t) (ha : A = some r → BlkX G C k ρ aa o) (hb : B = some r → Blk G C k ρ ss o) : Blk G C k ρ (.If c aa [] pos :: ss) o := by
  cases t with
  | true => exact blk_exit (st_ifT hc (ha h).1) (ha h).2
  | false => exact blk_cons (st_ifF hc blk_nil) (hb h)
theorem blkx_ifx {t : Bool} {aa ss : List Stmt} {α : Type} {A B : Option α} {r : α} {o : Out} (h : (if t = true then A else B) = some r) (hc : Te G C k ρ c t) (ha : A = some r → BlkX G C k ρ aa o) (hb : B = some r → BlkX G C k ρ ss o) : BlkX G C k ρ (.If c aa [] pos :: ss) o := by
  cases t with
  | true => exact ⟨blk_exit (st_ifT hc (ha h).1) (ha h).2, (ha h).2⟩
  | false => exact blkx_cons (st_ifF hc blk_nil) (hb h)
/-- .. an if that leaves, else goes on as B says -/
theorem st_ifJ {t : Bool} {aa bb : List Stmt} {α : Type} {A B : Option α} {r : α} {o : Out} (h : (if t = true then A else B) = some r) (hc : Te G C k ρ c t) (ha : A = some r → Blk G C k ρ aa o) (hb : B = some r → Blk G C k ρ bb o) : St1 G C k ρ (.If c aa bb pos) o := by
  cases t with
  | true => exact st_ifT hc (ha h)
  | false => exact st_ifF hc (hb h)
/-- after a statement that may leave -/
def Then (G : Gb) (C : SC) (k : Nat) (ss : List Stmt) (o : Out) : Out → Prop
  | .nx ρ => Blk G C k ρ ss o
  | r => r = o
theorem blk_any {st : Stmt} {ss : List Stmt} {r o : Out} (h : St1 G C k ρ st r) (t : Then G C k ss o r) : Blk G C k ρ (st :: ss) o := by
  cases r with
  | nx ρ => exact blk_cons h t
  | rt d => exact (show Out.rt d = o from t) ▸ blk_ret h
  | bk ρ => exact (show Out.bk ρ = o from t) ▸ blk_brk h
  | ct ρ => exact (show Out.ct ρ = o from t) ▸ blk_cont h
end
section
variable {G : Gb} {C : SC} {k : Nat} {ρ : PEnv}
/-- what a name holds is of a bounded length -/
theorem blk_bd {α : Type} {f : α → PyData} {xs : List α} (i : Nat) {ss : List Stmt} {r : Out} (h : ρ[i]? = some (some (.sh (eT f xs))) ∨ ρ[i]? = some (some (.sh (eL f xs))) ∨ ρ[i]? = some (some (.ow (eL f xs)))) (g : xs.length ≤ 16777216 → Blk G C k ρ ss r) : Blk G C k ρ ss r := fun X hX =>
  ⟨fun pins s σ H D I q => by
    have hz : xs.length ≤ sizeLine := by
      obtain ⟨F0, H0, F, S, _⟩ := q
      have bd := Inv.bd I
      rw [hX.eK] at bd
      rcases h with h | h | h
      · obtain ⟨v, _, r⟩ := S.sh i _ h
        obtain ⟨a, vs, rfl, h1, h2⟩ := (Rp.b (H := H) r).tup S.ext.sub
        rw [← List.length_map (f := f), ← h2.length]
        exact bd _ _ (.inr h1)
      · obtain ⟨v, _, r⟩ := S.sh i _ h
        obtain ⟨a, vs, rfl, h1, h2⟩ := (Rp.b (H := H) r).lst S.ext.sub
        rw [← List.length_map (f := f), ← h2.length]
        exact bd _ _ (.inl h1)
      · obtain ⟨a, o, h1, h2, h3, _⟩ := S.ow i _ h
        cases h3 with
        | @lst vs _ r =>
          rw [← List.length_map (f := f), ← r.length]
          exact bd _ _ (.inl (.inl (.inl h2)))
    rw [sizeLine_eq] at hz
    exact (g hz X hX).run pins s σ H D I q⟩
theorem blkx_bd {α : Type} {f : α → PyData} {xs : List α} (i : Nat) {ss : List Stmt} {r : Out} (h : ρ[i]? = some (some (.sh (eT f xs))) ∨ ρ[i]? = some (some (.sh (eL f xs))) ∨ ρ[i]? = some (some (.ow (eL f xs)))) (hx : Exit r) (g : xs.length ≤ 16777216 → BlkX G C k ρ ss r) : BlkX G C k ρ ss r := ⟨blk_bd i h fun z => (g z).1, hx⟩
end
/-- what follows an outcome -/
def O.then {S β γ : Type} (o : O S β) (f : S → Option γ) (g : β → Option γ) : Option γ := match o with
  | .nx s => f s
  | .rt b => g b
  | _ => none
theorem then_ex {S β γ : Type} {o : O S β} {f : S → Option γ} {g : β → Option γ} {r : γ} (h : o.then f g = some r) : (∃ s, o = .nx s ∧ f s = some r) ∨ (∃ b, o = .rt b ∧ g b = some r) := by
  cases o with
  | nx s => exact .inl ⟨s, rfl, h⟩
  | rt b => exact .inr ⟨b, rfl, h⟩
  | bk s => cases h
  | ct s => cases h

/-! ### encodings that are compared -/
/-- data that are laid and compared; of depth at most n -/
structure EqT {α : Type} [DecidableEq α] (e : α → PyData) (n : Nat) : Prop where
  nd : ∀ x, noDct (e x) = true
  cl : ∀ x, (e x).canLay0 = true
  dp : ∀ x, (e x).depth ≤ n
  eq : ∀ x y, PyData.eqv (e x) (e y) = decide (x = y)
theorem EqT.b {α : Type} [DecidableEq α] {e : α → PyData} {n : Nat} (h : EqT e n) (hn : n ≤ 64) (x : α) : Eqb (e x) := ⟨h.nd x, by
  show (((e x).canLay0) && decide ((e x).depth ≤ 64)) = true
  rw [h.cl x, Bool.true_and]
  exact decide_eq_true (Nat.le_trans (h.dp x) hn)⟩
theorem eq_I : EqT eI 0 := ⟨fun _ => rfl, fun _ => rfl, fun _ => Nat.le_refl 0, fun x y => by
  show PyData.eqv (.int x) (.int y) = _
  simp only [PyData.eqv]; rfl⟩
theorem eq_B : EqT eB 0 := ⟨fun _ => rfl, fun _ => rfl, fun _ => Nat.le_refl 0, fun x y => by
  show PyData.eqv (.bool x) (.bool y) = _
  cases x <;> cases y <;> (simp only [PyData.eqv]; rfl)⟩
theorem eq_N : EqT eN 0 := ⟨fun _ => rfl, fun _ => rfl, fun _ => Nat.le_refl 0, fun x y => by
  show PyData.eqv .none .none = _
  simp only [PyData.eqv]; rfl⟩
section
variable {α β γ δ : Type} [DecidableEq α] [DecidableEq β] [DecidableEq γ] [DecidableEq δ] {ea : α → PyData} {eb : β → PyData} {ec : γ → PyData} {ed : δ → PyData} {n m l q : Nat}
theorem eqvA_map (h : ∀ x y, PyData.eqv (ea x) (ea y) = decide (x = y)) : ∀ xs ys : List α, PyData.eqvAll (xs.map ea) (ys.map ea) = decide (xs = ys)
  | [], [] => by simp [PyData.eqvAll]
  | [], _ :: _ => by simp [PyData.eqvAll]
  | _ :: _, [] => by simp [PyData.eqvAll]
  | x :: xs, y :: ys => by
    simp only [List.map_cons, PyData.eqvAll]
    rw [h, eqvA_map h xs ys]
    by_cases c : x = y <;> simp [c]
end
end Pl
/-! Pl, part V: equality, tests and built-ins by type; the law's comparer. -/
namespace Pl
open PySem PySem.Spec PyProof.Rows L2

section
variable {α β γ δ : Type} {ea : α → PyData} {eb : β → PyData} {ec : γ → PyData} {ed : δ → PyData} {n m l q : Nat}
theorem ndA_map (h : ∀ x, noDct (ea x) = true) : ∀ xs : List α, noDctA (xs.map ea) = true
  | [] => rfl
  | x :: xs => by
    show (noDct (ea x) && noDctA (xs.map ea)) = true
    rw [h, ndA_map h xs]; rfl
theorem clA_map (h : ∀ x, (ea x).canLay0 = true) : ∀ xs : List α, PyData.canLayAll0 (xs.map ea) = true
  | [] => rfl
  | x :: xs => by
    show ((ea x).canLay0 && PyData.canLayAll0 (xs.map ea)) = true
    rw [h, clA_map h xs]; rfl
theorem dpA_map (h : ∀ x, (ea x).depth ≤ n) : ∀ xs : List α, PyData.depthAll (xs.map ea) ≤ n
  | [] => Nat.zero_le _
  | x :: xs => by
    show max ((ea x).depth) (PyData.depthAll (xs.map ea)) ≤ n
    exact Nat.max_le.mpr ⟨h x, dpA_map h xs⟩
/-- never None -/
structure NN {α : Type} (e : α → PyData) : Prop where
  ne : ∀ x, isNoneD (e x) = false
theorem nn_I : NN eI := ⟨fun _ => rfl⟩
theorem nn_B : NN eB := ⟨fun _ => rfl⟩
theorem nn_S : NN eS := ⟨fun _ => rfl⟩
theorem nn_t : NN (eT ea) := ⟨fun _ => rfl⟩
theorem nn_l : NN (eL ea) := ⟨fun _ => rfl⟩
theorem nn_P : NN (eP ea eb) := ⟨fun _ => rfl⟩
theorem nn_P3 : NN (eP3 ea eb ec) := ⟨fun _ => rfl⟩
theorem nn_P4 : NN (eP4 ea eb ec ed) := ⟨fun _ => rfl⟩
theorem isn_O (h : NN ea) (o : Option α) : isNoneD (eO ea o) = o.isNone := by
  cases o with
  | none => rfl
  | some x => exact h.ne x
variable [DecidableEq α] [DecidableEq β] [DecidableEq γ] [DecidableEq δ]
theorem eq_t (h : EqT ea n) : EqT (eT ea) (n + 1) := ⟨fun xs => ndA_map h.nd xs, fun xs => clA_map h.cl xs, fun xs => by
  show PyData.depthAll (xs.map ea) + 1 ≤ n + 1
  exact Nat.succ_le_succ (dpA_map h.dp xs), fun x y => by
  show PyData.eqv (.tuple (x.map ea)) (.tuple (y.map ea)) = _
  rw [PyData.eqv]
  exact eqvA_map h.eq x y⟩
theorem eq_l (h : EqT ea n) : EqT (eL ea) (n + 1) := ⟨fun xs => ndA_map h.nd xs, fun xs => clA_map h.cl xs, fun xs => by
  show PyData.depthAll (xs.map ea) + 1 ≤ n + 1
  exact Nat.succ_le_succ (dpA_map h.dp xs), fun x y => by
  show PyData.eqv (.list (x.map ea)) (.list (y.map ea)) = _
  rw [PyData.eqv]
  exact eqvA_map h.eq x y⟩
theorem eq_P (h : EqT ea n) (h' : EqT eb n) : EqT (eP ea eb) (n + 1) := ⟨fun x => by
  show (noDct (ea x.1) && (noDct (eb x.2) && true)) = true
  rw [h.nd, h'.nd]; rfl, fun x => by
  show ((ea x.1).canLay0 && ((eb x.2).canLay0 && true)) = true
  rw [h.cl, h'.cl]; rfl, fun x => by
  show max ((ea x.1).depth) (max ((eb x.2).depth) 0) + 1 ≤ n + 1
  exact Nat.succ_le_succ (Nat.max_le.mpr ⟨h.dp _, Nat.max_le.mpr ⟨h'.dp _, Nat.zero_le _⟩⟩), fun x y => by
  show PyData.eqv (.tuple [ea x.1, eb x.2]) (.tuple [ea y.1, eb y.2]) = _
  rw [PyData.eqv]
  simp only [PyData.eqvAll, h.eq, h'.eq, Bool.and_true]
  obtain ⟨x1, x2⟩ := x
  obtain ⟨y1, y2⟩ := y
  simp [Bool.decide_and]⟩
theorem eq_P3 (h : EqT ea n) (h' : EqT eb n) (h'' : EqT ec n) : EqT (eP3 ea eb ec) (n + 1) := ⟨fun x => by
  show (noDct (ea x.1) && (noDct (eb x.2.1) && (noDct (ec x.2.2) && true))) = true
  rw [h.nd, h'.nd, h''.nd]; rfl, fun x => by
  show ((ea x.1).canLay0 && ((eb x.2.1).canLay0 && ((ec x.2.2).canLay0 && true))) = true
  rw [h.cl, h'.cl, h''.cl]; rfl, fun x => by
  show max ((ea x.1).depth) (max ((eb x.2.1).depth) (max ((ec x.2.2).depth) 0)) + 1 ≤ n + 1
  exact Nat.succ_le_succ (Nat.max_le.mpr ⟨h.dp _, Nat.max_le.mpr ⟨h'.dp _, Nat.max_le.mpr ⟨h''.dp _, Nat.zero_le _⟩⟩⟩), fun x y => by
  show PyData.eqv (.tuple [ea x.1, eb x.2.1, ec x.2.2]) (.tuple [ea y.1, eb y.2.1, ec y.2.2]) = _
  rw [PyData.eqv]
  simp only [PyData.eqvAll, h.eq, h'.eq, h''.eq, Bool.and_true]
  obtain ⟨x1, x2, x3⟩ := x
  obtain ⟨y1, y2, y3⟩ := y
  simp [Bool.decide_and]⟩
theorem EqT.up {n m : Nat} (h : EqT ea n) (hn : n ≤ m) : EqT ea m := ⟨h.nd, h.cl, fun x => Nat.le_trans (h.dp x) hn, h.eq⟩
theorem eqv_none {d : PyData} (h : isNoneD d = false) : PyData.eqv .none d = false ∧ PyData.eqv d .none = false := by
  cases d with
  | none => cases h
  | _ => exact ⟨by simp only [PyData.eqv], by simp only [PyData.eqv]⟩
theorem eq_O (h : EqT ea n) (nn : NN ea) : EqT (eO ea) n := ⟨fun x => by cases x with | none => rfl | some x => exact h.nd x, fun x => by cases x with | none => rfl | some x => exact h.cl x,
  fun x => by cases x with | none => exact Nat.zero_le _ | some x => exact h.dp x, fun x y => by
  cases x with
  | none =>
    cases y with
    | none => show PyData.eqv .none .none = _; simp only [PyData.eqv]; rfl
    | some y => show PyData.eqv .none (ea y) = _; rw [(eqv_none (nn.ne y)).1]; simp
  | some x =>
    cases y with
    | none => show PyData.eqv (ea x) .none = _; rw [(eqv_none (nn.ne x)).2]; simp
    | some y => show PyData.eqv (ea x) (ea y) = _; rw [h.eq]; simp⟩
end
section
variable {G : Gb} {C : SC} {k : Nat} {ρ ρ1 ρ2 : PEnv} {e e1 e2 e3 tg a b c : Expr} {es : List Expr} {d d' d1 d2 d3 : PyData} {ds es' : List PyData} {pos p : Pos}
variable {α β γ δ : Type} {ea : α → PyData} {eb : β → PyData} {n : Nat}
theorem any_map {f : PyData → Bool} {g : α → Bool} (h : ∀ x, f (ea x) = g x) : ∀ xs : List α, (xs.map ea).any f = xs.any g
  | [] => rfl
  | x :: xs => by
    show (f (ea x) || (xs.map ea).any f) = (g x || xs.any g)
    rw [h, any_map h xs]
section
variable [DecidableEq α] [DecidableEq β]
theorem ok_eqT (h : EqT ea n) (x y : α) (hn : n ≤ 64 := by decide) : OpOk G C k (compareOp .Eq) (ea x) (ea y) (.bool (decide (x = y))) := h.eq x y ▸ ok_eq (h.b hn x) (h.b hn y)
theorem ok_neT (h : EqT ea n) (x y : α) (hn : n ≤ 64 := by decide) : OpOk G C k (compareOp .NotEq) (ea x) (ea y) (.bool (!decide (x = y))) := h.eq x y ▸ ok_ne (h.b hn x) (h.b hn y)
theorem anyD (h : EqT ea n) (x : α) (xs : List α) : ((xs.map ea).any fun z => PyData.eqv z (ea x)) = decide (x ∈ xs) := by
  rw [any_map (g := fun y => decide (y = x)) (fun y => h.eq y x) xs]
  induction xs with
  | nil => rfl
  | cons y ys ih =>
    rw [List.any_cons, ih]
    by_cases c : y = x
    · subst c; simp
    · have c' : ¬ x = y := fun z => c z.symm
      simp [c, c']
theorem ok_inLT (h : EqT ea n) (x : α) (xs : List α) (hn : n < 64 := by decide) : OpOk G C k (compareOp .In) (ea x) (eL ea xs) (.bool (decide (x ∈ xs))) := anyD h x xs ▸ ok_inL (h.b (Nat.le_of_lt hn) x) ((eq_l h).b hn xs)
theorem ok_notInLT (h : EqT ea n) (x : α) (xs : List α) (hn : n < 64 := by decide) : OpOk G C k (compareOp .NotIn) (ea x) (eL ea xs) (.bool (!decide (x ∈ xs))) := anyD h x xs ▸ ok_notInL (h.b (Nat.le_of_lt hn) x) ((eq_l h).b hn xs)
theorem ok_inTT (h : EqT ea n) (x : α) (xs : List α) (hn : n < 64 := by decide) : OpOk G C k (compareOp .In) (ea x) (eT ea xs) (.bool (decide (x ∈ xs))) := anyD h x xs ▸ ok_inT (h.b (Nat.le_of_lt hn) x) ((eq_t h).b hn xs)
theorem ok_notInTT (h : EqT ea n) (x : α) (xs : List α) (hn : n < 64 := by decide) : OpOk G C k (compareOp .NotIn) (ea x) (eT ea xs) (.bool (!decide (x ∈ xs))) := anyD h x xs ▸ ok_notInT (h.b (Nat.le_of_lt hn) x) ((eq_t h).b hn xs)
end
/-! ### None -/
theorem ok_isO (h : NN ea) (o : Option α) : OpOk G C k (compareOp .Is) (eO ea o) .none (.bool o.isNone) := isn_O h o ▸ ok_is
theorem ok_isnotO (h : NN ea) (o : Option α) : OpOk G C k (compareOp .IsNot) (eO ea o) .none (.bool (!o.isNone)) := isn_O h o ▸ ok_isnot
theorem ok_isX (h : NN ea) (x : α) : OpOk G C k (compareOp .Is) (ea x) .none (.bool false) := h.ne x ▸ ok_is
theorem ok_isnotX (h : NN ea) (x : α) : OpOk G C k (compareOp .IsNot) (ea x) .none (.bool true) := by
  have := ok_isnot (G := G) (C := C) (k := k) (d := ea x)
  rw [h.ne x] at this
  exact this
/-! ### lengths, sums -/
theorem ok_lenL (xs : List α) : CallOk G C k (.builtin "len") [eL ea xs] (.int (xs.length : Int)) := ok_len (by show some (((xs.map ea).length : Nat) : Int) = _; rw [List.length_map])
theorem ok_lenT (xs : List α) : CallOk G C k (.builtin "len") [eT ea xs] (.int (xs.length : Int)) := ok_len (by show some (((xs.map ea).length : Nat) : Int) = _; rw [List.length_map])
theorem ok_anyL (bs : List Bool) : CallOk G C k (.builtin "any") [eL eB bs] (.bool (bs.any id)) := ok_any
theorem ok_allL (bs : List Bool) : CallOk G C k (.builtin "all") [eL eB bs] (.bool (bs.all id)) := ok_all
theorem ok_sumLT (ns : List Int) : CallOk G C k (.builtin "sum") [eL eI ns] (.int ns.sum) := ok_sumL
theorem ok_sumTT (ns : List Int) : CallOk G C k (.builtin "sum") [eT eI ns] (.int ns.sum) := ok_sumT
theorem ok_tupL (xs : List α) : CallOk G C k (.type "tuple") [eL ea xs] (eT ea xs) := ok_tupleL
theorem ok_tupT (xs : List α) : CallOk G C k (.type "tuple") [eT ea xs] (eT ea xs) := ok_tupleT
theorem new_lsL (xs : List α) : CallNew G C k (.type "list") [eL ea xs] (eL ea xs) := new_listL
theorem new_lsT (xs : List α) : CallNew G C k (.type "list") [eT ea xs] (eL ea xs) := new_listT
/-! ### slices -/
theorem cutD_map (f : α → PyData) (xs : List α) (lo hi : Option Int) : cutD (xs.map f) lo hi = (cutD xs lo hi).map f := by
  unfold cutD
  rw [List.length_map, List.map_take, List.map_drop]
theorem evn_sliceX {xs : List α} {lo hi : Option Expr} {l u : Option Int} {p2 : Pos} (he : EvB G C k ρ e (eL ea xs)) (hl : EP' G C k ρ lo l) (hu : EP' G C k ρ hi u) : EvN G C k ρ (.Subscript e (.Slice lo hi none p2) pos) (eL ea (cutD xs l u)) := by
  have h := evn_slice (pos := pos) (p2 := p2) he hl hu
  rw [cutD_map] at h
  exact h
theorem ev_sliceX {xs : List α} {lo hi : Option Expr} {l u : Option Int} {p2 : Pos} (he : Ev G C k ρ e (eT ea xs)) (hl : EP' G C k ρ lo l) (hu : EP' G C k ρ hi u) : Ev G C k ρ (.Subscript e (.Slice lo hi none p2) pos) (eT ea (cutD xs l u)) := by
  have h := ev_sliceT (pos := pos) (p2 := p2) he hl hu
  rw [cutD_map] at h
  exact h
/-! ### [..] * n, sums of lists -/
def repL {α : Type} (xs : List α) (n : Int) : List α := (List.replicate n.toNat xs).flatten
def RepOk (l : Nat) (n : Int) : Prop := (-1000000000 ≤ n ∧ n ≤ 1000000000) ∧ l * n.toNat ≤ 16777216
instance {l : Nat} {n : Int} : Decidable (RepOk l n) := by unfold RepOk; infer_instance
theorem evn_repX {xs : List α} {n : Int} (ha : EvN G C k ρ a (eL ea xs)) (hb : EvB G C k ρ b (.int n)) (h : RepOk xs.length n) : EvN G C k ρ (.BinOp a .Mult b pos) (eL ea (repL xs n)) := by
  have e := sizeLine_eq
  have q := evn_rep (pos := pos) (ds := xs.map ea) ha hb (by have := h.1; omega) (by have := h.1; omega) (by rw [List.length_map, e]; exact h.2)
  have e2 : (List.replicate n.toNat (xs.map ea)).flatten = (repL xs n).map ea := by
    unfold repL
    rw [List.map_flatten, List.map_replicate]
  rw [e2] at q
  exact q
/-- so short that two of it fit -/
def SzOk (n : Nat) : Prop := n ≤ 16777216
instance {n : Nat} : Decidable (SzOk n) := by unfold SzOk; infer_instance
theorem SzOk.z {n : Nat} (h : SzOk n) : n ≤ sizeLine := by rw [sizeLine_eq]; exact h
theorem le_sz {n : Nat} (h : n ≤ 100000) : n ≤ sizeLine := by rw [sizeLine_eq]; omega
theorem ok_catT {xs ys : List α} (h : SzOk (xs.length + ys.length)) : OpOk G C k (binaryOp .Add) (eT ea xs) (eT ea ys) (eT ea (xs ++ ys)) := by
  have q := ok_cat (G := G) (C := C) (k := k) (ds := xs.map ea) (es := ys.map ea) (by rw [List.length_map, List.length_map]; exact h.z)
  rw [← List.map_append] at q
  exact q
theorem new_catL {xs ys : List α} (h : SzOk (xs.length + ys.length)) : OpNew G C k (binaryOp .Add) (eL ea xs) (eL ea ys) (eL ea (xs ++ ys)) := by
  have q := new_cat (G := G) (C := C) (k := k) (ds := xs.map ea) (es := ys.map ea) (by rw [List.length_map, List.length_map]; exact h.z)
  rw [← List.map_append] at q
  exact q
/-! ### what is walked, by type -/
def enumT {α : Type} (xs : List α) : List (Int × α) := xs.zipIdx.map fun p => ((p.2 : Int), p.1)
theorem enumD_map (xs : List α) : enumD (xs.map ea) = (enumT xs).map (eP eI ea) := by
  unfold enumD enumT
  rw [List.zipIdx_map, List.map_map, List.map_map]
  rfl
theorem zipD_map (xs : List α) (ys : List β) : zipD (xs.map ea) (ys.map eb) = (xs.zip ys).map (eP ea eb) := by
  unfold zipD
  rw [List.zipWith_map, List.zip, List.map_zipWith]
  rfl
theorem it_enumX {elts : List Expr} {kk : Nat} {tp : Pos} {xs : List α} (hg : C.sc.names.lookup ("enumerate" : Str) = some .globalImplicit) (hm : G.mg "enumerate" = none) (h : Ev G C k ρ e (eL ea xs)) (hs : ∀ env, starEach [e] env = [(false, eval e env)]) :
    It' G C k ρ (.Tuple elts kk tp) (.Call (.Name "enumerate" p) [e] [] pos) ((enumT xs).map (eP eI ea)) ((xs.map ea).length ≤ sizeLine) := enumD_map (ea := ea) xs ▸ it_enum hg hm h hs
theorem it_enumTX {elts : List Expr} {kk : Nat} {tp : Pos} {xs : List α} (hg : C.sc.names.lookup ("enumerate" : Str) = some .globalImplicit) (hm : G.mg "enumerate" = none) (h : Ev G C k ρ e (eT ea xs)) (hs : ∀ env, starEach [e] env = [(false, eval e env)]) :
    It' G C k ρ (.Tuple elts kk tp) (.Call (.Name "enumerate" p) [e] [] pos) ((enumT xs).map (eP eI ea)) ((xs.map ea).length ≤ sizeLine) := enumD_map (ea := ea) xs ▸ it_enumT hg hm h hs
theorem it_zipX {elts : List Expr} {kk : Nat} {tp : Pos} {xs : List α} {ys : List β} (hg : C.sc.names.lookup ("zip" : Str) = some .globalImplicit) (hm : G.mg "zip" = none) (h : Ev G C k ρ e (eL ea xs)) (h' : Ev G C k ρ e2 (eL eb ys)) (hs : ∀ env, starEach [e, e2] env = (false, eval e env) :: starEach [e2] env) (hs2 : ∀ env, starEach [e2] env = [(false, eval e2 env)]) :
    It' G C k ρ (.Tuple elts kk tp) (.Call (.Name "zip" p) [e, e2] [] pos) ((xs.zip ys).map (eP ea eb)) ((xs.map ea).length ≤ sizeLine ∧ (ys.map eb).length ≤ sizeLine) := zipD_map (ea := ea) (eb := eb) xs ys ▸ it_zip hg hm h h' hs hs2
theorem it_zipTX {elts : List Expr} {kk : Nat} {tp : Pos} {xs : List α} {ys : List β} (hg : C.sc.names.lookup ("zip" : Str) = some .globalImplicit) (hm : G.mg "zip" = none) (h : Ev G C k ρ e (eT ea xs)) (h' : Ev G C k ρ e2 (eT eb ys)) (hs : ∀ env, starEach [e, e2] env = (false, eval e env) :: starEach [e2] env) (hs2 : ∀ env, starEach [e2] env = [(false, eval e2 env)]) :
    It' G C k ρ (.Tuple elts kk tp) (.Call (.Name "zip" p) [e, e2] [] pos) ((xs.zip ys).map (eP ea eb)) ((xs.map ea).length ≤ sizeLine ∧ (ys.map eb).length ≤ sizeLine) := zipD_map (ea := ea) (eb := eb) xs ys ▸ it_zipT hg hm h h' hs hs2
/-- the length fact of a comprehension: no more items than were walked -/
theorem zz_map {xs : List α} {ys : List β} (h : ys.length = xs.length) : ((xs.map ea).length ≤ sizeLine) → (ys.map eb).length ≤ sizeLine := fun z => by
  rw [List.length_map] at z ⊢
  rw [h]; exact z
theorem zz_fil {xs : List α} {ys : List β} (h : ys.length ≤ xs.length) : ((xs.map ea).length ≤ sizeLine) → (ys.map eb).length ≤ sizeLine := fun z => by
  rw [List.length_map] at z ⊢
  exact Nat.le_trans h z
theorem enumT_len (xs : List α) : (enumT xs).length = xs.length := by unfold enumT; simp
/-! ### displays -/
theorem sz0 : 0 ≤ sizeLine := Nat.zero_le _
theorem ev_P {m} {da db : PyData} (h1 : Ev G C k ρ e1 da) (h2 : Ev G C k ρ e2 db) (s1 : ∀ env, starEach [e1, e2] env = (false, eval e1 env) :: starEach [e2] env) (s2 : ∀ env, starEach [e2] env = (false, eval e2 env) :: starEach [] env) : Ev G C k ρ (.Tuple [e1, e2] m pos) (.tuple [da, db]) :=
  ev_tup (ea_cons h1 (ea_cons h2 ea_nil s2) s1) (le_sz (by decide : 2 ≤ 100000))
/-! ### a list's item stored -/
theorem setAt_ex {xs ys : List α} {i : Int} {v : α} (h : setAt xs i v = some ys) : ∃ m, ixN (xs.map ea).length i = some m ∧ ys.map ea = (xs.map ea).set m (ea v) := by
  unfold setAt at h
  rw [List.length_map]
  cases q : ixN xs.length i with
  | none => rw [q] at h; cases h
  | some m =>
    rw [q] at h
    cases h
    exact ⟨m, rfl, by rw [List.map_set]⟩
end
end Pl
/-! Pl, part W: short forms for the printed proofs; the law's comparer. -/
namespace Pl
open PySem PySem.Spec PyProof.Rows L2

theorem bb_len : bootBuiltins "len" = some (.builtin "len") := by decide +kernel
theorem bb_sum : bootBuiltins "sum" = some (.builtin "sum") := by decide +kernel
theorem bb_abs : bootBuiltins "abs" = some (.builtin "abs") := by decide +kernel
theorem bb_min : bootBuiltins "min" = some (.builtin "min") := by decide +kernel
theorem bb_max : bootBuiltins "max" = some (.builtin "max") := by decide +kernel
theorem bb_any : bootBuiltins "any" = some (.builtin "any") := by decide +kernel
theorem bb_all : bootBuiltins "all" = some (.builtin "all") := by decide +kernel
theorem bb_sorted : bootBuiltins "sorted" = some (.builtin "sorted") := by decide +kernel
theorem bb_int : bootBuiltins "int" = some (.type "int") := by decide +kernel
theorem bb_str : bootBuiltins "str" = some (.type "str") := by decide +kernel
theorem bb_bool : bootBuiltins "bool" = some (.type "bool") := by decide +kernel
theorem bb_tuple : bootBuiltins "tuple" = some (.type "tuple") := by decide +kernel
theorem bb_list : bootBuiltins "list" = some (.type "list") := by decide +kernel
section
variable {G : Gb} {C : SC} {k j : Nat} {ρ ρ1 ρ2 : PEnv} {e e1 e2 e3 tg a b c : Expr} {es : List Expr} {d d' d1 d2 d3 : PyData} {ds es' : List PyData} {pos p : Pos} {x y z : Str}
theorem cB {id : String} (g : Gn C x) (m : G.mg x = none) (bb : bootBuiltins x = some (.builtin id)) (hc : CallOk G C k (.builtin id) ds d) (ha : EAB G C k ρ (e :: es) ds)
    (he : ∀ env, starEach (e :: es) env = (false, eval e env) :: starEach es env) (hpl : ∀ env, (backTo pos (starEach es env)).any (·.1) = false) : Ev G C k ρ (.Call (.Name x p) (e :: es) [] pos) d := ev_callB hc g.hg m bb ha g.hn g.hd he hpl
theorem nB {id : String} (g : Gn C x) (m : G.mg x = none) (bb : bootBuiltins x = some (.builtin id)) (hc : CallNew G C k (.builtin id) ds d) (ha : EAB G C k ρ (e :: es) ds)
    (he : ∀ env, starEach (e :: es) env = (false, eval e env) :: starEach es env) (hpl : ∀ env, (backTo pos (starEach es env)).any (·.1) = false) : EvN G C k ρ (.Call (.Name x p) (e :: es) [] pos) d := evn_callB hc g.hg m bb ha g.hn g.hd he hpl
theorem cT {T : String} (g : Gn C x) (m : G.mg x = none) (bb : bootBuiltins x = some (.type T)) (hc : CallOk G C k (.type T) ds d) (ha : EAB G C k ρ (e :: es) ds)
    (he : ∀ env, starEach (e :: es) env = (false, eval e env) :: starEach es env) (hpl : ∀ env, (backTo pos (starEach es env)).any (·.1) = false) : Ev G C k ρ (.Call (.Name x p) (e :: es) [] pos) d := ev_callT hc g.hg m bb ha g.hn g.hd he hpl
theorem nT {T : String} (g : Gn C x) (m : G.mg x = none) (bb : bootBuiltins x = some (.type T)) (hc : CallNew G C k (.type T) ds d) (ha : EAB G C k ρ (e :: es) ds)
    (he : ∀ env, starEach (e :: es) env = (false, eval e env) :: starEach es env) (hpl : ∀ env, (backTo pos (starEach es env)).any (·.1) = false) : EvN G C k ρ (.Call (.Name x p) (e :: es) [] pos) d := evn_callT hc g.hg m bb ha g.hn g.hd he hpl
/-- a call of a def of the text -/
theorem cF (g : Gn C x) (h : Fn G j x ds d) (hj : j ≤ k) (ha : EA G C k ρ (e :: es) ds) (he : ∀ env, starEach (e :: es) env = (false, eval e env) :: starEach es env) (hpl : ∀ env, (backTo pos (starEach es env)).any (·.1) = false) :
    Ev G C k ρ (.Call (.Name x p) (e :: es) [] pos) d := ev_call h hj g.hg ha g.hd he hpl
theorem cFB (g : Gn C x) (h : Fn G j x ds d) (hf : flat d = true) (hj : j ≤ k) (ha : EAB G C k ρ (e :: es) ds) (he : ∀ env, starEach (e :: es) env = (false, eval e env) :: starEach es env) (hpl : ∀ env, (backTo pos (starEach es env)).any (·.1) = false) :
    Ev G C k ρ (.Call (.Name x p) (e :: es) [] pos) d := ev_callB' h hf hj g.hg ha g.hd he hpl
theorem cIs {T : String} {p1 p2 : Pos} {t : Bool} (g : Gn C "isinstance") (m : G.mg "isinstance" = none) (gT : Gn C x) (mT : G.mg x = none) (bb : bootBuiltins x = some (.type T)) (h : EvB G C k ρ e d) (hk : kitB (tyD d) T = some t)
    (hs : ∀ env, starEach [e, .Name x p2] env = (false, eval e env) :: starEach [.Name x p2] env) : Ev G C k ρ (.Call (.Name "isinstance" p1) [e, .Name x p2] [] pos) (.bool t) := ev_isi h hk g.hg m gT.hg mT bb gT.hn gT.hd hs
/-! stores -/
theorem sSet (i : Nat) {pos' : Pos} (n : NmS C i x) (he : Ev G C k ρ e d) (hs : ∀ env : Env, env.scope = C.sc → swapsWith e (some (.Name x pos')) pos.line env = pure false) : St1 G C k ρ (.Assign [.Name x pos'] e pos) (.nx (ρ.set i (some (.sh d)))) := st_set i n.hi n.hx n.hf he hs
theorem sOwn (i : Nat) {pos' : Pos} (n : NmS C i x) (he : EvN G C k ρ e d) (hs : ∀ env : Env, env.scope = C.sc → swapsWith e (some (.Name x pos')) pos.line env = pure false) : St1 G C k ρ (.Assign [.Name x pos'] e pos) (.nx (ρ.set i (some (.ow d)))) := st_own i n.hi n.hx n.hf he hs
theorem sAug (i : Nat) {op : Operator} {pos' : Pos} (n : NmS C i x) (h : ρ[i]? = some (some (.sh d1))) (he : EvB G C k ρ e d2) (ho : OpOk G C k (inplaceOp op) d1 d2 d) : St1 G C k ρ (.AugAssign (.Name x pos') op e pos) (.nx (ρ.set i (some (.sh d)))) := st_aug i n.hi n.hx n.hf h he ho
theorem sApp (i : Nat) {p1 ap cp : Pos} (n : Nm C i x) (h : ρ[i]? = some (some (.ow (.list ds)))) (he : Ev G C k ρ e d) (hl : ds.length < sizeLine)
    (hsw : ∀ env, swapsWith (.Call (.Attribute (.Name x p1) "append" ap) [e] [] cp) none pos.line env = pure false) (hs : ∀ env, starEach [e] env = [(false, eval e env)]) (hab : ∀ env, attributeBase (.Name x p1) "append" env (eval (.Name x p1) env) = eval (.Name x p1) env) (hln : (ap.endLine == cp.line) = true) :
    St1 G C k ρ (.Expr (.Call (.Attribute (.Name x p1) "append" ap) [e] [] cp) pos) (.nx (ρ.set i (some (.ow (.list (ds ++ [d])))))) := st_append i n.hi n.hv h he hl n.hd n.hc hsw hs hab hln
/-- a list of which one more fits -/
def Sz1 (n : Nat) : Prop := n < 16777216
instance {n : Nat} : Decidable (Sz1 n) := by unfold Sz1; infer_instance
theorem Sz1.map {α : Type} {f : α → PyData} {xs : List α} (h : Sz1 xs.length) : (xs.map f).length < sizeLine := by rw [List.length_map, sizeLine_eq]; exact h
theorem map_snoc {α : Type} (f : α → PyData) (xs : List α) (x : α) : xs.map f ++ [f x] = (xs ++ [x]).map f := by simp
theorem map_app {α : Type} (f : α → PyData) (xs ys : List α) : xs.map f ++ ys.map f = (xs ++ ys).map f := by simp
theorem sAppX {α : Type} {f : α → PyData} {xs zs : List α} {v : α} (hz : xs ++ [v] = zs) (i : Nat) {p1 ap cp : Pos} (n : Nm C i x) (h : ρ[i]? = some (some (.ow (eL f xs)))) (he : Ev G C k ρ e (f v)) (hl : Sz1 xs.length)
    (hsw : ∀ env, swapsWith (.Call (.Attribute (.Name x p1) "append" ap) [e] [] cp) none pos.line env = pure false) (hs : ∀ env, starEach [e] env = [(false, eval e env)]) (hab : ∀ env, attributeBase (.Name x p1) "append" env (eval (.Name x p1) env) = eval (.Name x p1) env) (hln : (ap.endLine == cp.line) = true) :
    St1 G C k ρ (.Expr (.Call (.Attribute (.Name x p1) "append" ap) [e] [] cp) pos) (.nx (ρ.set i (some (.ow (eL f zs))))) := by
  subst hz
  have q := sApp (pos := pos) i n h he hl.map hsw hs hab hln
  rw [map_snoc] at q
  exact q
theorem sExtX {α : Type} {f : α → PyData} {xs ys zs : List α} (hz : xs ++ ys = zs) (i : Nat) {p1 ap cp : Pos} (n : Nm C i x) (h : ρ[i]? = some (some (.ow (eL f xs)))) (he : EvN G C k ρ e (eL f ys)) (hl : SzOk (xs.length + ys.length))
    (hsw : ∀ env, swapsWith (.Call (.Attribute (.Name x p1) "extend" ap) [e] [] cp) none pos.line env = pure false) (hs : ∀ env, starEach [e] env = [(false, eval e env)]) (hab : ∀ env, attributeBase (.Name x p1) "extend" env (eval (.Name x p1) env) = eval (.Name x p1) env) (hln : (ap.endLine == cp.line) = true) :
    St1 G C k ρ (.Expr (.Call (.Attribute (.Name x p1) "extend" ap) [e] [] cp) pos) (.nx (ρ.set i (some (.ow (eL f zs))))) := by
  subst hz
  have q := st_extend (pos := pos) (ds := xs.map f) (es' := ys.map f) i n h he (by rw [List.length_map, List.length_map]; exact hl.z) hsw hs hab hln
  rw [map_app] at q
  exact q
theorem sItemX {α : Type} {f : α → PyData} {xs ys : List α} {v : α} (i : Nat) {ei : Expr} {m : Int} {p1 p2 : Pos} (n : Nm C i x) (h : ρ[i]? = some (some (.ow (eL f xs)))) (he : Ev G C k ρ e (f v)) (hei : EvB G C k ρ ei (.int m)) (hm : setAt xs m v = some ys)
    (hs : ∀ env, swapsWithSole [.Subscript (.Name x p1) ei p2] e pos.line env = pure false) (hw : ∀ env, swappedStores [.Subscript (.Name x p1) ei p2] e env = pure none) (h1 : ∀ env, (assignEach [.Subscript (.Name x p1) ei p2] env).map (·.2) = [assign (.Subscript (.Name x p1) ei p2) env])
    (ha : ∀ env v, assign (.Subscript (.Name x p1) ei p2) env v = (do
      let ov ← holding [v] (eval (.Name x p1) env)
      let iv ← holding [v, ov] (eval ei env)
      standAt p2
      holding [v, ov, iv] (setItem ov iv v)
      release [v, ov, iv] [])) :
    St1 G C k ρ (.Assign [.Subscript (.Name x p1) ei p2] e pos) (.nx (ρ.set i (some (.ow (eL f ys))))) := by
  obtain ⟨j, hj, e⟩ := setAt_ex (ea := f) hm
  show St1 G C k ρ _ (.nx (ρ.set i (some (.ow (.list (ys.map f))))))
  rw [e]
  exact st_setitem i n.hi n.hv h he hei hj n.hd n.hc hs hw h1 ha
/-! targets -/
theorem tN (i : Nat) (n : NmS C i x) : Tg G C k ρ (.Name x pos) [i] d (ρ.set i (some (.sh d))) := tg_name i n.hi n.hx n.hf
/-! comprehensions -/
theorem nLc {elt iter : Expr} {ifs : List Expr} {scope : Scope} {ys : List PyData} (own : List (Str × Nat)) (ok : blkC C.N C.sc scope own = true) {z : Prop} (hi : ItB G C k ρ tg iter ds z)
    (hs : LcR G (C.blk scope) k (wipeE ρ (own.map (·.2))) (own.map (·.2)) tg ifs elt ds ys) (hzz : z → ys.length ≤ sizeLine) (hfs : ∀ env x, foldedSetIterable iter env x = pure x) :
    EvN G C k ρ (.ListComp elt [⟨tg, iter, ifs, 0⟩] scope pos) (.list ys) := evn_lc (blkOk_by ok) hi hs hzz hfs
theorem sLc (i : Nat) {py : Pos} {elt iter : Expr} {ifs : List Expr} {scope : Scope} {spos : Pos} {ys : List PyData} (n : NmL C i x) (own : List (Str × Nat)) (hsw : ∀ env : Env, env.scope = C.sc → swapsWith (.ListComp elt [⟨tg, iter, ifs, 0⟩] scope pos) (some (.Name x py)) spos.line env = pure true)
    (ok : blkC C.N C.sc scope own = true) {z : Prop} (hit : ItB G C k ρ tg iter ds z) (hs : LcR G (C.blk scope) k (wipeE ρ (own.map (·.2))) (own.map (·.2)) tg ifs elt ds ys) (hzz : z → ys.length ≤ sizeLine) (hfs : ∀ env x, foldedSetIterable iter env x = pure x) :
    St1 G C k ρ (.Assign [.Name x py] (.ListComp elt [⟨tg, iter, ifs, 0⟩] scope pos) spos) (.nx (ρ.set i (some (.ow (.list ys))))) := st_setLc i n.hi n.hl hsw (blkOk_by ok) hit hs hzz hfs
theorem sLcS (i : Nat) {py : Pos} {elt iter : Expr} {ifs : List Expr} {scope : Scope} {spos : Pos} {ys : List PyData} (n : NmL C i x) (own : List (Str × Nat)) (hsw : ∀ env : Env, env.scope = C.sc → swapsWith (.ListComp elt [⟨tg, iter, ifs, 0⟩] scope pos) (some (.Name x py)) spos.line env = pure true)
    (ok : blkC C.N C.sc scope own = true) {z : Prop} (hit : ItB G C k ρ tg iter ds z) (hs : LcR G (C.blk scope) k (wipeE ρ (own.map (·.2))) (own.map (·.2)) tg ifs elt ds ys) (hzz : z → ys.length ≤ sizeLine) (hfs : ∀ env x, foldedSetIterable iter env x = pure x) :
    St1 G C k ρ (.Assign [.Name x py] (.ListComp elt [⟨tg, iter, ifs, 0⟩] scope pos) spos) (.nx (ρ.set i (some (.sh (.list ys))))) := st_setLcS i n.hi n.hl hsw (blkOk_by ok) hit hs hzz hfs
theorem RgO.r1 {j : Int} (h : RgO 0 j) : -(2 ^ 62) ≤ j ∧ j < 2 ^ 62 := by obtain ⟨_, _, _, _, _⟩ := h; omega
theorem RgO.r2 {i j : Int} (h : RgO i j) : -(2 ^ 62) ≤ i ∧ i < 2 ^ 62 ∧ -(2 ^ 62) ≤ j ∧ j < 2 ^ 62 := by obtain ⟨_, _, _, _, _⟩ := h; omega
theorem iR1 {j : Int} (g : Gn C "range") (m : G.mg "range" = none) (ha : EvB G C k ρ a (.int j)) (hr : RgO 0 j) (hs : ∀ env, starEach [a] env = [(false, eval a env)]) : It' G C k ρ tg (.Call (.Name "range" p) [a] [] pos) ((rangeD 0 j).map .int) True := it_range1 g.hg m ha hr.r1.1 hr.r1.2 hs
theorem iR2 {i j : Int} (g : Gn C "range") (m : G.mg "range" = none) (ha : EvB G C k ρ a (.int i)) (hb : EvB G C k ρ b (.int j)) (hr : RgO i j) (hs : ∀ env, starEach [a, b] env = [(false, eval a env), (false, eval b env)]) (hs2 : ∀ env, starEach [b] env = [(false, eval b env)]) :
    It' G C k ρ tg (.Call (.Name "range" p) [a, b] [] pos) ((rangeD i j).map .int) True := it_range2 g.hg m ha hb hr.r2 hs hs2
theorem zz_rg {β : Type} {eb : β → PyData} {lo hi : Int} {ys : List β} (hr : RgO lo hi) (h : ys.length ≤ (rangeD lo hi).length) : True → (ys.map eb).length ≤ sizeLine := fun _ => by
  rw [List.length_map]
  exact Nat.le_trans h (rangeD_le hr)
theorem len_m {α β : Type} (g : α → β) (xs : List α) : (xs.map g).length ≤ xs.length := by simp
theorem len_f {α β : Type} (f : α → Bool) (g : α → β) (xs : List α) : ((xs.filter f).map g).length ≤ xs.length := by rw [List.length_map]; exact List.length_filter_le _ _
end
section
variable {G : Gb} {C : SC} {k j : Nat} {ρ ρ1 ρ2 : PEnv} {e e1 e2 e3 tg a b c : Expr} {es : List Expr} {d d' d1 d2 d3 : PyData} {ds es' : List PyData} {pos p : Pos} {x y z : Str}
theorem OpOk.to {f : Value → Value → Sem Value} (h : OpOk G C k f d1 d2 d) (q : d = d') : OpOk G C k f d1 d2 d' := q ▸ h
theorem LcR.to {vs : List Nat} {ifs : List Expr} {elt : Expr} {ys zs : List PyData} (h : LcR G C k ρ vs tg ifs elt ds ys) (q : ys = zs) : LcR G C k ρ vs tg ifs elt ds zs := q ▸ h
theorem lcr_mapM {α β : Type} {ea : α → PyData} {eb : β → PyData} {vs : List Nat} {ifs : List Expr} {elt : Expr} (g : α → β) : ∀ (xs : List α), (∀ x ∈ xs, LcStep G C k ρ vs tg ifs elt (ea x) (some (eb (g x)))) → LcR G C k ρ vs tg ifs elt (xs.map ea) ((xs.map g).map eb)
  | [], _ => .nil
  | x :: xs, h => .keep (h x (List.mem_cons_self ..)) (lcr_mapM g xs fun y hy => h y (List.mem_cons_of_mem _ hy))
theorem eT_some {α : Type} (e : α → PyData) (xs : List α) : eT e xs = eT (eO e) (xs.map some) := by
  show PyData.tuple _ = PyData.tuple _
  rw [List.map_map]; rfl
theorem eL_some {α : Type} (e : α → PyData) (xs : List α) : eL e xs = eL (eO e) (xs.map some) := by
  show PyData.list _ = PyData.list _
  rw [List.map_map]; rfl
theorem rg_len {n : Nat} (h : n ≤ 16777216) : RgO 0 (n : Int) := by unfold RgO; omega
theorem zz_to {β : Type} {eb : β → PyData} {ys zs : List β} {z : Prop} (q : ys = zs) (h : z → (ys.map eb).length ≤ sizeLine) : z → (zs.map eb).length ≤ sizeLine := q ▸ h
theorem zz_zip {α β γ : Type} {ea : α → PyData} {eb : β → PyData} {ec : γ → PyData} {xs : List α} {ys : List β} {zs : List γ} (h : zs.length ≤ (List.zip xs ys).length) : ((xs.map ea).length ≤ sizeLine ∧ (ys.map eb).length ≤ sizeLine) → (zs.map ec).length ≤ sizeLine := fun q => by
  have q1 := q.1
  rw [List.length_map] at q1 ⊢
  rw [List.length_zip] at h
  omega
theorem swp_sc {ts : List Expr} {v : Expr} {o : Sem (Option (List Str))} (env : Env) (h : env.scope = C.sc) (q : swappedStores ts v { env with scope := C.sc } = o) : swappedStores ts v env = o := by
  rw [← h] at q
  exact q
theorem tru_t {α : Type} (e : α → PyData) (xs : List α) : truD (eT e xs) = some (!xs.isEmpty) := by cases xs <;> rfl
theorem tru_l {α : Type} (e : α → PyData) (xs : List α) : truD (eL e xs) = some (!xs.isEmpty) := by cases xs <;> rfl
theorem ok_lenS {s : Str} (h : SzOk s.length) : CallOk G C k (.builtin "len") [eS s] (.int (s.length : Int)) := ok_len (by
  show (if s.length ≤ sizeLine then some (s.length : Int) else none) = _
  rw [if_pos h.z])
/-! data without lists -/
theorem flA_map {α : Type} {ea : α → PyData} (h : ∀ x, flat (ea x) = true) : ∀ xs : List α, flatA (xs.map ea) = true
  | [] => rfl
  | x :: xs => by
    show (flat (ea x) && flatA (xs.map ea)) = true
    rw [h, flA_map h xs]; rfl
theorem fl_I : ∀ x, flat (eI x) = true := fun _ => rfl
theorem fl_B : ∀ x, flat (eB x) = true := fun _ => rfl
theorem fl_S : ∀ x, flat (eS x) = true := fun _ => rfl
theorem fl_N : ∀ x, flat (eN x) = true := fun _ => rfl
theorem fl_t {α : Type} {ea : α → PyData} (h : ∀ x, flat (ea x) = true) : ∀ x, flat (eT ea x) = true := fun xs => flA_map h xs
theorem fl_O {α : Type} {ea : α → PyData} (h : ∀ x, flat (ea x) = true) : ∀ x, flat (eO ea x) = true := fun o => by cases o with | none => rfl | some x => exact h x
theorem fl_P {α β : Type} {ea : α → PyData} {eb : β → PyData} (h : ∀ x, flat (ea x) = true) (h' : ∀ x, flat (eb x) = true) : ∀ x, flat (eP ea eb x) = true := fun x => by
  show (flat (ea x.1) && (flat (eb x.2) && true)) = true
  rw [h, h']; rfl
theorem fl_P3 {α β γ : Type} {ea : α → PyData} {eb : β → PyData} {ec : γ → PyData} (h : ∀ x, flat (ea x) = true) (h' : ∀ x, flat (eb x) = true) (h'' : ∀ x, flat (ec x) = true) : ∀ x, flat (eP3 ea eb ec x) = true := fun x => by
  show (flat (ea x.1) && (flat (eb x.2.1) && (flat (ec x.2.2) && true))) = true
  rw [h, h', h'']; rfl
end
/-! ### the law's comparer -/
mutual
def likeD : PyData → PyData → Bool
  | v, .none => isNoneD v
  | v, .bool b => match v with | .bool c => c == b | _ => false
  | v, .int j => match v with | .int i => decide (i = j) | _ => false
  | v, .str x => match v with | .str y => decide (y = x) | _ => false
  | v, .tuple ds => match v with | .tuple vs => decide (vs.length = ds.length) && likeA vs ds | _ => false
  | _, _ => false
termination_by structural _ d => d
def likeA : List PyData → List PyData → Bool
  | v :: vs, d :: ds => likeD v d && likeA vs ds
  | _, _ => true
termination_by structural _ d => d
end
mutual
def dueOk : PyData → Bool
  | .list _ | .dict _ => false
  | .tuple xs => dueA xs
  | _ => true
def dueA : List PyData → Bool
  | [] => true
  | x :: xs => dueOk x && dueA xs
end
mutual
theorem like_refl : ∀ d : PyData, dueOk d = true → likeD d d = true
  | .none, _ => rfl
  | .bool b, _ => by show (b == b) = true; simp
  | .int i, _ => by show decide (i = i) = true; simp
  | .str x, _ => by show decide (x = x) = true; simp
  | .tuple xs, h => by
    show (decide (xs.length = xs.length) && likeA xs xs) = true
    rw [likeA_refl xs h]; simp
  | .list _, h => by cases h
  | .dict _, h => by cases h
theorem likeA_refl : ∀ d : List PyData, dueA d = true → likeA d d = true
  | [], _ => rfl
  | x :: xs, h => by
    show (likeD x x && likeA xs xs) = true
    rw [like_refl x (and_l h), likeA_refl xs (and_r h)]; rfl
end
/-- data that the law compares with: of depth at most n -/
structure Due {α : Type} (e : α → PyData) (n : Nat) : Prop where
  ok : ∀ x, dueOk (e x) = true
  dp : ∀ x, (e x).depth ≤ n
section
variable {α β γ δ : Type} {ea : α → PyData} {eb : β → PyData} {ec : γ → PyData} {ed : δ → PyData} {n m : Nat}
theorem Due.up (h : Due ea n) (hn : n ≤ m := by decide) : Due ea m := ⟨h.ok, fun x => Nat.le_trans (h.dp x) hn⟩
theorem du_I : Due eI 0 := ⟨fun _ => rfl, fun _ => Nat.le_refl 0⟩
theorem du_B : Due eB 0 := ⟨fun _ => rfl, fun _ => Nat.le_refl 0⟩
theorem du_S : Due eS 0 := ⟨fun _ => rfl, fun _ => Nat.le_refl 0⟩
theorem du_N : Due eN 0 := ⟨fun _ => rfl, fun _ => Nat.le_refl 0⟩
theorem du_O (h : Due ea n) : Due (eO ea) n := ⟨fun x => by cases x with | none => rfl | some x => exact h.ok x, fun x => by cases x with | none => exact Nat.zero_le _ | some x => exact h.dp x⟩
theorem dueA_map (h : ∀ x, dueOk (ea x) = true) : ∀ xs : List α, dueA (xs.map ea) = true
  | [] => rfl
  | x :: xs => by
    show (dueOk (ea x) && dueA (xs.map ea)) = true
    rw [h, dueA_map h xs]; rfl
theorem du_t (h : Due ea n) : Due (eT ea) (n + 1) := ⟨fun xs => dueA_map h.ok xs, fun xs => by
  show PyData.depthAll (xs.map ea) + 1 ≤ n + 1
  exact Nat.succ_le_succ (dpA_map h.dp xs)⟩
theorem du_P (h : Due ea n) (h' : Due eb n) : Due (eP ea eb) (n + 1) := ⟨fun x => by
  show (dueOk (ea x.1) && (dueOk (eb x.2) && true)) = true
  rw [h.ok, h'.ok]; rfl, fun x => by
  show max ((ea x.1).depth) (max ((eb x.2).depth) 0) + 1 ≤ n + 1
  exact Nat.succ_le_succ (Nat.max_le.mpr ⟨h.dp _, Nat.max_le.mpr ⟨h'.dp _, Nat.zero_le _⟩⟩)⟩
theorem du_P3 (h : Due ea n) (h' : Due eb n) (h'' : Due ec n) : Due (eP3 ea eb ec) (n + 1) := ⟨fun x => by
  show (dueOk (ea x.1) && (dueOk (eb x.2.1) && (dueOk (ec x.2.2) && true))) = true
  rw [h.ok, h'.ok, h''.ok]; rfl, fun x => by
  show max ((ea x.1).depth) (max ((eb x.2.1).depth) (max ((ec x.2.2).depth) 0)) + 1 ≤ n + 1
  exact Nat.succ_le_succ (Nat.max_le.mpr ⟨h.dp _, Nat.max_le.mpr ⟨h'.dp _, Nat.max_le.mpr ⟨h''.dp _, Nat.zero_le _⟩⟩⟩)⟩
theorem du_P4 (h : Due ea n) (h' : Due eb n) (h'' : Due ec n) (h3 : Due ed n) : Due (eP4 ea eb ec ed) (n + 1) := ⟨fun x => by
  show (dueOk (ea x.1) && (dueOk (eb x.2.1) && (dueOk (ec x.2.2.1) && (dueOk (ed x.2.2.2) && true)))) = true
  rw [h.ok, h'.ok, h''.ok, h3.ok]; rfl, fun x => by
  show max ((ea x.1).depth) (max ((eb x.2.1).depth) (max ((ec x.2.2.1).depth) (max ((ed x.2.2.2).depth) 0))) + 1 ≤ n + 1
  exact Nat.succ_le_succ (Nat.max_le.mpr ⟨h.dp _, Nat.max_le.mpr ⟨h'.dp _, Nat.max_le.mpr ⟨h''.dp _, Nat.max_le.mpr ⟨h3.dp _, Nat.zero_le _⟩⟩⟩⟩)⟩
end
theorem likeA_at : ∀ (vs ds : List PyData), vs.length = ds.length → likeA vs ds = (rangeD 0 (ds.length : Int)).all fun i => match vs[i.toNat]?, ds[i.toNat]? with | some v, some d => likeD v d | _, _ => false := fun vs ds h => by
  have e : rangeD 0 (ds.length : Int) = (List.range ds.length).map fun (i : Nat) => (i : Int) := by unfold rangeD; simp
  rw [e, List.all_map]
  induction vs generalizing ds with
  | nil => cases ds with | nil => rfl | cons d ds => cases h
  | cons v vs ih =>
    cases ds with
    | nil => cases h
    | cons d ds =>
      show (likeD v d && likeA vs ds) = _
      rw [ih ds (Nat.succ.inj h) (by unfold rangeD; simp), List.length_cons, List.range_succ_eq_map, List.all_cons, List.all_map]
      rfl
theorem rangeD_mem {lo hi x : Int} (h : x ∈ rangeD lo hi) : lo ≤ x ∧ x < hi := by
  unfold rangeD at h
  rw [List.mem_map] at h
  obtain ⟨i, hi2, rfl⟩ := h
  rw [List.mem_range] at hi2
  omega
def likeI (vs ds : List PyData) (i : Int) : Bool := match vs[i.toNat]?, ds[i.toNat]? with | some v, some d => likeD v d | _, _ => false
theorem likeA_I {vs ds : List PyData} (h : vs.length = ds.length) : likeA vs ds = ((rangeD 0 (ds.length : Int)).map (likeI vs ds)).all id := by
  rw [likeA_at vs ds h, List.all_map]
  rfl
/-! ### the law -/
def spLaw (K : KK) : Sp := fun vs H Q _ => ∃ (a : Addr) (ns : List Int), ns.length ≤ 63 ∧ vs = [.ref a] ∧ SqL K H a (ns.map V.int) ∧ ∀ H', Q (.bl true) H'
theorem fn_law {G : Gb} {x : Str} {params : Arguments} {body : List Stmt} {scope : Scope} {N ps : List Str} {k : Nat} {f : Addr} {fd : FuncData} (F : FunD G.K x x params body scope [] [] f fd) (S : FnScope N ps scope) (hl : ps.length = 1)
    (hb : ∀ ns : List Int, ns.length ≤ 63 → Blk G ⟨N, scope, fun _ => true⟩ k (startE N [eL eI ns]) body (.rt (eB true))) : FnOk G.P G.w G.K G.mg G.base CX0 (k + 1) f fd ps (spLaw G.K) := by
  refine F.ok S (fun vs H Q E h => ?_) (fun cdv A outer s H vs Q E hr h => ?_)
  · obtain ⟨a, ns, _, rfl, _⟩ := h
    exact hl.symm
  · obtain ⟨a, ns, hz, rfl, hS, q⟩ := h
    have hX : CxOk G ⟨N, scope, fun _ => true⟩ k (cxOf CX0 G.P G.w G.K G.mg G.base N x scope f cdv A outer s H E).nox :=
      ⟨rfl, rfl, rfl, rfl, rfl, rfl, rfl, rfl, hr, S.nd, fun _ _ => rfl, rfl⟩
    refine ⟨_, (hb ns hz _ hX).nox, H, H, H, start_rel (Same.refl _) (.cons (.lst hS (RpA.ofInts ns)) .nil), fun v F2 H2 e2 r2 => ?_⟩
    cases r2
    exact q H2
end Pl
/-! Pl, part M: plain laws of mirrors: loops, comprehensions, items; the drawn row. -/
namespace Pl
open PySem PySem.Spec PyProof.Rows L2
noncomputable section

/-! ### items -/
/-- the item at a place -/
def gI {α : Type} [Inhabited α] (xs : List α) (i : Int) : α := xs.getD i.toNat default
theorem idx_in {α : Type} [Inhabited α] {xs : List α} {i : Int} (h0 : 0 ≤ i) (h1 : i < xs.length) : idx xs i = some (gI xs i) := by
  obtain ⟨n, rfl⟩ := Int.eq_ofNat_of_zero_le h0
  have hn : n < xs.length := by omega
  refine idx_nat h0 ?_
  unfold gI
  simp [List.getD, hn]
theorem idx_nat' {α : Type} {xs : List α} {n : Nat} : idx xs (n : Int) = xs[n]? := by
  unfold idx atI ixN
  by_cases h : n < xs.length
  · simp [h]
  · simp [h]
theorem gI_nat {α : Type} [Inhabited α] (xs : List α) (n : Nat) : gI xs (n : Int) = xs.getD n default := rfl
theorem gI_mem {α : Type} [Inhabited α] {xs : List α} {i : Int} (h0 : 0 ≤ i) (h1 : i < xs.length) : gI xs i ∈ xs := by
  obtain ⟨n, rfl⟩ := Int.eq_ofNat_of_zero_le h0
  have hn : n < xs.length := by omega
  unfold gI
  simp [List.getD, hn]
theorem setAt_in {α : Type} {xs : List α} {i : Int} {v : α} (h0 : 0 ≤ i) (h1 : i < xs.length) : setAt xs i v = some (xs.set i.toNat v) := by
  unfold setAt ixN
  simp [h0, h1]
/-! ### loops -/
theorem forS_inv {S α : Type} {step : S → α → Option S} (I : Nat → S → Prop) : ∀ (xs : List α) (s0 : S) (n : Nat), I n s0 → (∀ i s x, xs[i]? = some x → I (n + i) s → ∃ s', step s x = some s' ∧ I (n + i + 1) s') → ∃ s', forS step xs s0 = some s' ∧ I (n + xs.length) s'
  | [], s0, n, h0, _ => ⟨s0, rfl, h0⟩
  | x :: xs, s0, n, h0, hs => by
    obtain ⟨s1, e1, h1⟩ := hs 0 s0 x rfl h0
    obtain ⟨s2, e2, h2⟩ := forS_inv I xs s1 (n + 1) h1 fun i s y hy hi => by
      have := hs (i + 1) s y (by simpa using hy) (by rw [show n + (i + 1) = n + 1 + i by omega]; exact hi)
      rw [show n + (i + 1) + 1 = n + 1 + i + 1 by omega] at this
      exact this
    refine ⟨s2, ?_, by rw [List.length_cons, show n + (xs.length + 1) = n + 1 + xs.length by omega]; exact h2⟩
    show (step s0 x).bind _ = _
    rw [e1]
    exact e2
theorem forS_ex {S α : Type} {step : S → α → Option S} (I : Nat → S → Prop) {xs : List α} {s0 : S} (h0 : I 0 s0) (hs : ∀ i s x, xs[i]? = some x → I i s → ∃ s', step s x = some s' ∧ I (i + 1) s') : ∃ s', forS step xs s0 = some s' ∧ I xs.length s' := by
  have := forS_inv I xs s0 0 h0 fun i s x h hi => by
    rw [Nat.zero_add] at hi ⊢
    exact hs i s x h hi
  rw [Nat.zero_add] at this
  exact this
/-- every turn as a total step -/
theorem forS_fold {S α : Type} {step : S → α → Option S} (f : S → α → S) : ∀ (xs : List α) (s0 : S), (∀ s x, x ∈ xs → step s x = some (f s x)) → forS step xs s0 = some (xs.foldl f s0)
  | [], s0, _ => rfl
  | x :: xs, s0, h => by
    show (step s0 x).bind _ = _
    rw [h s0 x (List.mem_cons_self ..)]
    exact forS_fold f xs _ fun s y hy => h s y (List.mem_cons_of_mem _ hy)
/-- a for whose turns go on -/
theorem forO_ex {S α β : Type} {step : S → α → Option (O S β)} (I : Nat → S → Prop) : ∀ (xs : List α) (s0 : S) (n : Nat), I n s0 → (∀ i s x, xs[i]? = some x → I (n + i) s → ∃ s', step s x = some (.nx s') ∧ I (n + i + 1) s') → ∃ s', forO step xs s0 = some (.nx s') ∧ I (n + xs.length) s'
  | [], s0, n, h0, _ => ⟨s0, rfl, h0⟩
  | x :: xs, s0, n, h0, hs => by
    obtain ⟨s1, e1, h1⟩ := hs 0 s0 x rfl h0
    obtain ⟨s2, e2, h2⟩ := forO_ex I xs s1 (n + 1) h1 fun i s y hy hi => by
      have := hs (i + 1) s y (by simpa using hy) (by rw [show n + (i + 1) = n + 1 + i by omega]; exact hi)
      rw [show n + (i + 1) + 1 = n + 1 + i + 1 by omega] at this
      exact this
    refine ⟨s2, ?_, by rw [List.length_cons, show n + (xs.length + 1) = n + 1 + xs.length by omega]; exact h2⟩
    show (step s0 x).bind _ = _
    rw [e1]
    exact e2
theorem forO_inv {S α β : Type} {step : S → α → Option (O S β)} (I : Nat → S → Prop) {xs : List α} {s0 : S} (h0 : I 0 s0) (hs : ∀ i s x, xs[i]? = some x → I i s → ∃ s', step s x = some (.nx s') ∧ I (i + 1) s') : ∃ s', forO step xs s0 = some (.nx s') ∧ I xs.length s' := by
  have := forO_ex I xs s0 0 h0 fun i s x h hi => by
    rw [Nat.zero_add] at hi ⊢
    exact hs i s x h hi
  rw [Nat.zero_add] at this
  exact this
/-- the counter's turns -/
theorem rangeD_get? {lo hi : Int} {i : Nat} {x : Int} (h : (rangeD lo hi)[i]? = some x) : x = lo + i ∧ lo ≤ x ∧ x < hi := by
  unfold rangeD at h
  rw [List.getElem?_map] at h
  cases e : (List.range (hi - lo).toNat)[i]? with
  | none => rw [e] at h; cases h
  | some j =>
    rw [e] at h
    cases h
    obtain ⟨h1, h2⟩ := List.getElem?_eq_some_iff.mp e
    rw [List.getElem_range] at h2
    rw [List.length_range] at h1
    subst h2
    exact ⟨rfl, by show lo ≤ lo + (i : Int); omega, by show lo + (i : Int) < hi; omega⟩
theorem rangeD_length (lo hi : Int) : (rangeD lo hi).length = (hi - lo).toNat := by unfold rangeD; simp
theorem rangeD_nat (n : Nat) : rangeD 0 (n : Int) = (List.range n).map fun (i : Nat) => (i : Int) := by unfold rangeD; simp
theorem enumT_get? {α : Type} {xs : List α} {i : Nat} {p : Int × α} (h : (enumT xs)[i]? = some p) : p.1 = i ∧ xs[i]? = some p.2 := by
  unfold enumT at h
  rw [List.getElem?_map] at h
  cases e : xs.zipIdx[i]? with
  | none => rw [e] at h; cases h
  | some q =>
    rw [e] at h
    cases h
    rw [List.getElem?_zipIdx] at e
    cases e2 : xs[i]? with
    | none => rw [e2] at e; cases e
    | some y =>
      rw [e2] at e
      cases e
      exact ⟨by simp, rfl⟩
/-! ### comprehensions -/
theorem mapO_eq {α β : Type} {g : α → Option β} (f : α → β) : ∀ (xs : List α), (∀ x ∈ xs, g x = some (f x)) → mapO g xs = some (xs.map f)
  | [], _ => rfl
  | x :: xs, h => by
    show (g x).bind _ = _
    rw [h x (List.mem_cons_self ..)]
    show (mapO g xs).bind _ = _
    rw [mapO_eq f xs fun y hy => h y (List.mem_cons_of_mem _ hy)]
    rfl
theorem filO_eq {α β : Type} {g : α → Option (Option β)} (c : α → Bool) (f : α → β) : ∀ (xs : List α), (∀ x ∈ xs, g x = some (if c x = true then some (f x) else none)) → filO g xs = some ((xs.filter c).map f)
  | [], _ => rfl
  | x :: xs, h => by
    show (g x).bind _ = _
    rw [h x (List.mem_cons_self ..)]
    show (filO g xs).bind _ = _
    rw [filO_eq c f xs fun y hy => h y (List.mem_cons_of_mem _ hy)]
    rw [List.filter_cons]
    cases c x <;> rfl
/-- a row of n items made by place -/
theorem mapO_range {β : Type} {g : Int → Option β} (n : Nat) (f : Nat → β) (h : ∀ i, i < n → g (i : Int) = some (f i)) : mapO g (rangeD 0 (n : Int)) = some ((List.range n).map f) := by
  rw [rangeD_nat]
  have q : mapO g ((List.range n).map fun (i : Nat) => (i : Int)) = some (((List.range n).map fun (i : Nat) => (i : Int)).map fun (i : Int) => f i.toNat) := mapO_eq _ _ fun x hx => by
    rw [List.mem_map] at hx
    obtain ⟨i, hi, rfl⟩ := hx
    rw [List.mem_range] at hi
    rw [h i hi]
    rfl
  rw [q, List.map_map]
  rfl
/-! ### guards -/
theorem mulS {i j : Int} (h : -(2 ^ 64) < i ∧ i < 2 ^ 64) : MulOk i j := .inl (.inl h)
theorem divS {i j : Int} (h : 0 < j ∧ j < 1073741824) : DivOk i j := ⟨h.1, .inl h.2⟩
theorem rgS {i j : Int} (h : -1000000000 ≤ i ∧ i ≤ 1000000000 ∧ -1000000000 ≤ j ∧ j ≤ 1000000000 ∧ j - i ≤ 16777216) : RgO i j := h
/-! ### the drawn row -/
def law_mixed_m (script1 : (List Int)) (k1 : Int) : Option Int :=
  (set' (0 : Int) fun cell1 => Option.bind (if (decide (0 < ((script1).length : Int))) = true then (need (0 < ((script1).length : Int)) <| Option.bind (idx script1 (k1 % ((script1).length : Int))) fun x2 => set' (x2 : Int) fun cell2 => some cell2) else some cell1 : Option (Int)) fun j1 => (set' (((((j1 * 48271) + (k1 * 69621)) + 8191) % 2147483647) : Int) fun first1 => (need (MulOk first1 first1) <| set' (((((first1 * first1) + (first1 / 7)) + (k1 * 16807)) % 2147483629) : Int) fun second1 => (need (MulOk second1 second1) <| set' (((((second1 * second1) + (second1 / 11)) + 40692) % 2147483563) : Int) fun third1 => some ((third1 / 5) % 1000003)))))
def law_row_l1 (script1 : (List Int)) (s1 : ((List Int) × Int)) (x4 : Int) : Option ((List Int) × Int) :=
  Option.bind (if (decide (0 < s1.2)) = true then (need (Sz1 (s1.1).length) <| set' ((s1.1 ++ [(s1.2 % 1000)]) : (List Int)) fun row2 => (set' ((s1.2 / 1000) : Int) fun big3 => some (row2, big3))) else (Option.bind (law_mixed_m script1 x4) fun law_mi1 => need (Sz1 (s1.1).length) <| set' ((s1.1 ++ [law_mi1]) : (List Int)) fun row3 => some (row3, s1.2)) : Option ((List Int) × Int)) fun j2 => some (j2.1, j2.2)
def law_row_m (script1 : (List Int)) (many1 : Int) : Option (List Int) :=
  (set' (0 : Int) fun big1 => (Option.bind ((if (decide (0 < ((script1).length : Int))) = true then (Option.bind (idx script1 0) fun x1 => some (decide (1000000000000000000 ≤ x1))) else some false)) fun b1 => Option.bind (if b1 = true then (Option.bind (idx script1 0) fun x3 => set' (x3 : Int) fun big2 => some big2) else some big1 : Option (Int)) fun j1 => (set' (([] : (List Int)) : (List Int)) fun row1 => (need (RgO 0 many1) <| (forS (law_row_l1 script1) (rangeD 0 many1) (row1, j1)).bind fun s2 => some s2.1))))
theorem mixed_ok (ns : List Int) (k : Int) : ∃ v, law_mixed_m ns k = some v ∧ 0 ≤ v ∧ v < 1000003 := by
  unfold law_mixed_m
  simp only [set_eq]
  have key : ∀ j1 : Int, ∃ v, (need (MulOk (((j1 * 48271) + (k * 69621) + 8191) % 2147483647) (((j1 * 48271) + (k * 69621) + 8191) % 2147483647)) <| need (MulOk ((((((j1 * 48271) + (k * 69621) + 8191) % 2147483647) * (((j1 * 48271) + (k * 69621) + 8191) % 2147483647) + (((j1 * 48271) + (k * 69621) + 8191) % 2147483647) / 7) + k * 16807) % 2147483629) ((((((j1 * 48271) + (k * 69621) + 8191) % 2147483647) * (((j1 * 48271) + (k * 69621) + 8191) % 2147483647) + (((j1 * 48271) + (k * 69621) + 8191) % 2147483647) / 7) + k * 16807) % 2147483629)) <| some ((((((((((j1 * 48271) + (k * 69621) + 8191) % 2147483647) * (((j1 * 48271) + (k * 69621) + 8191) % 2147483647) + (((j1 * 48271) + (k * 69621) + 8191) % 2147483647) / 7) + k * 16807) % 2147483629) * ((((((j1 * 48271) + (k * 69621) + 8191) % 2147483647) * (((j1 * 48271) + (k * 69621) + 8191) % 2147483647) + (((j1 * 48271) + (k * 69621) + 8191) % 2147483647) / 7) + k * 16807) % 2147483629) + ((((((j1 * 48271) + (k * 69621) + 8191) % 2147483647) * (((j1 * 48271) + (k * 69621) + 8191) % 2147483647) + (((j1 * 48271) + (k * 69621) + 8191) % 2147483647) / 7) + k * 16807) % 2147483629) / 11) + 40692) % 2147483563) / 5 % 1000003)) = some v ∧ 0 ≤ v ∧ v < 1000003 := fun j1 => by
    generalize ((j1 * 48271) + (k * 69621) + 8191) = a
    have ha : 0 ≤ a % 2147483647 ∧ a % 2147483647 < 2147483647 := by omega
    generalize a % 2147483647 = b at ha ⊢
    generalize (b * b + b / 7) + k * 16807 = c
    have hc : 0 ≤ c % 2147483629 ∧ c % 2147483629 < 2147483629 := by omega
    generalize c % 2147483629 = d at hc ⊢
    rw [need_of (mulS (by omega)), need_of (mulS (by omega))]
    exact ⟨_, rfl, by omega, by omega⟩
  by_cases hl : 0 < (ns.length : Int)
  · have hk : 0 ≤ k % (ns.length : Int) := Int.emod_nonneg _ (by omega)
    have hk2 : k % (ns.length : Int) < ns.length := Int.emod_lt_of_pos _ hl
    simp only [hl, decide_true, if_true, need_of, idx_in hk hk2, Option.bind_some]
    exact key _
  · simp only [hl, decide_false, Bool.false_eq_true, if_false, Option.bind_some]
    exact key 0
/-- the row of a law: so many numbers, each below a million and three -/
theorem row_ok (ns : List Int) (m : Nat) (hm : m ≤ 100000) : ∃ row, law_row_m ns (m : Int) = some row ∧ row.length = m ∧ ∀ x ∈ row, 0 ≤ x ∧ x < 1000003 := by
  have loop : ∀ b : Int, ∃ s, forS (law_row_l1 ns) (rangeD 0 (m : Int)) (([] : List Int), b) = some s ∧ s.1.length = m ∧ ∀ x ∈ s.1, 0 ≤ x ∧ x < 1000003 := fun b => by
    have := forS_ex (step := law_row_l1 ns) (fun i (s : List Int × Int) => i ≤ m → s.1.length = i ∧ ∀ x ∈ s.1, 0 ≤ x ∧ x < 1000003) (xs := rangeD 0 (m : Int)) (s0 := (([] : List Int), b)) (fun _ => ⟨rfl, by simp⟩) fun i s x hx hi => by
      obtain ⟨hx1, hx2, hx3⟩ := rangeD_get? hx
      obtain ⟨hl, hr⟩ := hi (by omega)
      have hz : Sz1 s.1.length := by unfold Sz1; omega
      unfold law_row_l1
      simp only [set_eq, need_of hz]
      by_cases hb : 0 < s.2
      · simp only [hb, decide_true, if_true, Option.bind_some]
        refine ⟨_, rfl, fun _ => ⟨by simp [hl], fun y hy => ?_⟩⟩
        simp only [List.mem_append, List.mem_singleton] at hy
        rcases hy with hy | rfl
        · exact hr y hy
        · omega
      · obtain ⟨v, hv, h0, h1⟩ := mixed_ok ns x
        simp only [hb, decide_false, Bool.false_eq_true, if_false, hv, Option.bind_some]
        refine ⟨_, rfl, fun _ => ⟨by simp [hl], fun y hy => ?_⟩⟩
        simp only [List.mem_append, List.mem_singleton] at hy
        rcases hy with hy | rfl
        · exact hr y hy
        · exact ⟨h0, h1⟩
    obtain ⟨s, e, h⟩ := this
    have hlen : (rangeD 0 (m : Int)).length = m := by rw [rangeD_length]; omega
    rw [hlen] at h
    exact ⟨s, e, h (Nat.le_refl _)⟩
  have hrg : RgO 0 (m : Int) := rgS (by omega)
  have fin : ∀ b : Int, ∃ row, ((forS (law_row_l1 ns) (rangeD 0 (m : Int)) (([] : List Int), b)).bind fun s2 => some s2.1) = some row ∧ row.length = m ∧ ∀ x ∈ row, 0 ≤ x ∧ x < 1000003 := fun b => by
    obtain ⟨s, e, h⟩ := loop b
    rw [e]
    exact ⟨s.1, rfl, h⟩
  unfold law_row_m
  simp only [set_eq, need_of hrg]
  by_cases hl : 0 < (ns.length : Int)
  · have e0 : idx ns 0 = some (gI ns 0) := idx_in (by omega) hl
    simp only [hl, decide_true, if_true, e0, Option.bind_some]
    by_cases hb : 1000000000000000000 ≤ gI ns 0
    · simp only [hb, decide_true, if_true, Option.bind_some]
      exact fin _
    · simp only [hb, decide_false, Bool.false_eq_true, if_false, Option.bind_some]
      exact fin _
  · simp only [hl, decide_false, Bool.false_eq_true, if_false, Option.bind_some]
    exact fin _
/-! ### the common divisor -/
theorem euclid (Q : Nat → Nat → Nat → Prop) (h0 : ∀ m a, Q (m + 1) a 0) (hs : ∀ m a b, 0 < b → Q m b (a % b) → Q (m + 1) a b) : ∀ n m a b : Nat, b < 2 ^ n → 2 * n + 1 ≤ m → Q m a b := by
  intro n
  induction n with
  | zero =>
    intro m a b hb hm
    obtain ⟨k, rfl⟩ : ∃ k, m = k + 1 := ⟨m - 1, by omega⟩
    have : b = 0 := by simp at hb; exact hb
    subst this
    exact h0 k a
  | succ n ih =>
    intro m a b hb hm
    obtain ⟨k, rfl⟩ : ∃ k, m = k + 1 := ⟨m - 1, by omega⟩
    rcases Nat.eq_zero_or_pos b with rfl | hp
    · exact h0 k a
    · refine hs k a b hp ?_
      obtain ⟨j, rfl⟩ : ∃ j, k = j + 1 := ⟨k - 1, by omega⟩
      rcases Nat.eq_zero_or_pos (a % b) with hz | hq
      · rw [hz]; exact h0 j b
      · refine hs j b _ hq (ih j _ _ ?_ (by omega))
        have h1 : a % b < b := Nat.mod_lt _ hp
        generalize a % b = r at h1 hq ⊢
        have h2 : b % r < r := Nat.mod_lt _ hq
        have h3 : b = r * (b / r) + b % r := (Nat.div_add_mod b r).symm
        have h4 : 1 ≤ b / r := Nat.div_pos (by omega) hq
        have h5 : r ≤ r * (b / r) := Nat.le_mul_of_pos_right r h4
        rw [Nat.pow_succ] at hb
        omega
def divisor_c1  (s1 : (Int × Int)) : Option Bool :=
  some (decide (0 < s1.2))
def divisor_b2  (s1 : (Int × Int)) : Option (Int × Int) :=
  (need (0 < s1.2) <| set' (s1.2 : Int) fun first3 => set' ((s1.1 % s1.2) : Int) fun second3 => some (first3, second3))
def divisor_m (first1 : Int) (second1 : Int) : Option Int :=
  (set' ((if first1 < 0 then -first1 else first1) : Int) fun first2 => set' ((if second1 < 0 then -second1 else second1) : Int) fun second2 => (whileS (divisor_c1) (divisor_b2) 1000000 (first2, second2)).bind fun s2 => some s2.1)
def lowest_m (a1 : Int) (b1 : Int) : Option (Int × Int) :=
  (Option.bind ((if (decide (0 < b1)) = true then (Option.bind (divisor_m a1 b1) fun diviso3 => some diviso3) else (Option.bind (divisor_m a1 b1) fun diviso4 => some (-diviso4)))) fun c1 => set' (c1 : Int) fun common1 => (need (DivOk a1 common1) <| need (DivOk b1 common1) <| some ((a1 / common1), (b1 / common1))))
theorem divisor_loop (n m a b : Nat) (hb : b < 2 ^ n) (hm : 2 * n + 1 ≤ m) : whileS divisor_c1 divisor_b2 m ((a : Int), (b : Int)) = some (((Nat.gcd a b : Nat) : Int), 0) := by
  refine euclid (fun m a b => whileS divisor_c1 divisor_b2 m ((a : Int), (b : Int)) = some (((Nat.gcd a b : Nat) : Int), 0)) (fun m a => ?_) (fun m a b hp ih => ?_) n m a b hb hm
  · show (divisor_c1 ((a : Int), ((0 : Nat) : Int))).bind _ = _
    simp [divisor_c1]
  · show (divisor_c1 ((a : Int), (b : Int))).bind _ = _
    have hb : (0 : Int) < (b : Int) := by omega
    have e : divisor_b2 ((a : Int), (b : Int)) = some ((b : Int), ((a % b : Nat) : Int)) := by
      unfold divisor_b2
      simp only [set_eq, need_of hb]
      rw [Int.natCast_emod]
    simp only [divisor_c1, hb, decide_true, Option.bind_some, if_true]
    rw [e]
    show whileS divisor_c1 divisor_b2 m ((b : Int), ((a % b : Nat) : Int)) = _
    rw [ih, Nat.gcd_comm b, ← Nat.gcd_rec, Nat.gcd_comm]
theorem divisor_ok (a b : Nat) (hb : b < 2 ^ 400000) : divisor_m (a : Int) (b : Int) = some ((Nat.gcd a b : Nat) : Int) := by
  unfold divisor_m
  have h1 : (if (a : Int) < 0 then -(a : Int) else (a : Int)) = a := if_neg (by omega)
  have h2 : (if (b : Int) < 0 then -(b : Int) else (b : Int)) = b := if_neg (by omega)
  simp only [set_eq, h1, h2]
  rw [divisor_loop 400000 1000000 a b hb (by omega)]
  rfl
theorem lowest_ok (a b : Nat) (h : 0 < b) (hb : b < 2 ^ 8999) : lowest_m (a : Int) (b : Int) = some (((a / Nat.gcd a b : Nat) : Int), ((b / Nat.gcd a b : Nat) : Int)) := by
  unfold lowest_m
  have h0 : (0 : Int) < (b : Int) := by omega
  have hg : 0 < Nat.gcd a b := Nat.gcd_pos_of_pos_right _ h
  have hl : Nat.gcd a b ≤ b := Nat.gcd_le_right _ h
  have hd : ∀ i : Int, DivOk i ((Nat.gcd a b : Nat) : Int) := fun i => ⟨by omega, .inr (by
    rw [Int.natAbs_natCast, Nat.log2_lt (by omega)]
    exact Nat.lt_of_le_of_lt hl (Nat.lt_of_lt_of_le hb (Nat.pow_le_pow_right (by decide) (by decide))))⟩
  simp only [h0, decide_true, if_true, Option.bind_some]
  rw [divisor_ok a b (Nat.lt_of_lt_of_le hb (Nat.pow_le_pow_right (by decide) (by decide)))]
  simp only [Option.bind_some, set_eq, need_of (hd _)]
  rw [Int.natCast_ediv, Int.natCast_ediv]
def law_common_l1  (s1 : (Int × Int)) (x1 : Int) : Option (O (Int × Int) Int) :=
  if (decide (s1.2 = 0)) = true then some (O.bk (s1.1, s1.2)) else (need (0 < s1.2) <| set' (s1.2 : Int) fun first2 => set' ((s1.1 % s1.2) : Int) fun second2 => some (O.nx (first2, second2)))
def law_common_m (first1 : Int) (second1 : Int) : Option Int :=
  (need (RgO 0 900) <| (forO (law_common_l1) (rangeD 0 900) (first1, second1)).bind fun o1 => O.then o1 (fun s2 => some s2.1) (fun b => some b))
theorem common_loop (n : Nat) (a b : Nat) (hb : b < 2 ^ n) : ∀ xs : List Int, 2 * n + 1 ≤ xs.length → forO law_common_l1 xs ((a : Int), (b : Int)) = some (.nx (((Nat.gcd a b : Nat) : Int), 0)) := by
  intro xs hx
  refine euclid (fun m a b => ∀ xs : List Int, xs.length = m → forO law_common_l1 xs ((a : Int), (b : Int)) = some (.nx (((Nat.gcd a b : Nat) : Int), 0))) (fun m a => ?_) (fun m a b hp ih => ?_) n xs.length a b hb hx xs rfl
  · intro xs h
    cases xs with
    | nil => cases h
    | cons x xs =>
      show (law_common_l1 ((a : Int), ((0 : Nat) : Int)) x).bind _ = _
      simp [law_common_l1]
  · intro xs h
    cases xs with
    | nil => cases h
    | cons x xs =>
      have hb : (0 : Int) < (b : Int) := by omega
      have hz : ¬ ((b : Int) = 0) := by omega
      have e : law_common_l1 ((a : Int), (b : Int)) x = some (.nx ((b : Int), ((a % b : Nat) : Int))) := by
        unfold law_common_l1
        simp only [hz, decide_false, Bool.false_eq_true, if_false, set_eq, need_of hb]
        rw [Int.natCast_emod]
      show (law_common_l1 ((a : Int), (b : Int)) x).bind _ = _
      rw [e]
      show forO law_common_l1 xs ((b : Int), ((a % b : Nat) : Int)) = _
      rw [ih xs (Nat.succ.inj h), Nat.gcd_comm b, ← Nat.gcd_rec, Nat.gcd_comm]
theorem common_ok (a b : Nat) (hb : b < 2 ^ 440) : law_common_m (a : Int) (b : Int) = some ((Nat.gcd a b : Nat) : Int) := by
  unfold law_common_m
  rw [need_of (rgS (by omega)), common_loop 440 a b hb _ (by rw [rangeD_length]; decide)]
  rfl
/-! ### places -/
/-- the places below n of which c holds -/
def pl (n : Nat) (c : Nat → Bool) : List Int := ((List.range n).filter c).map fun (i : Nat) => (i : Int)
theorem pl_zero (c : Nat → Bool) : pl 0 c = [] := rfl
theorem pl_succ (n : Nat) (c : Nat → Bool) : pl (n + 1) c = pl n c ++ (if c n = true then [(n : Int)] else []) := by
  unfold pl
  rw [List.range_succ, List.filter_append, List.map_append]
  cases h : c n <;> simp [h]
theorem pl_mem {n : Nat} {c : Nat → Bool} {x : Int} (h : x ∈ pl n c) : ∃ i : Nat, x = i ∧ i < n ∧ c i = true := by
  unfold pl at h
  simp only [List.mem_map, List.mem_filter, List.mem_range] at h
  obtain ⟨i, ⟨h1, h2⟩, rfl⟩ := h
  exact ⟨i, rfl, h1, h2⟩
theorem mem_pl {n : Nat} {c : Nat → Bool} {i : Nat} : (i : Int) ∈ pl n c ↔ i < n ∧ c i = true := by
  unfold pl
  simp only [List.mem_map, List.mem_filter, List.mem_range]
  constructor
  · rintro ⟨j, ⟨h1, h2⟩, h3⟩
    have : j = i := by omega
    subst this
    exact ⟨h1, h2⟩
  · rintro ⟨h1, h2⟩
    exact ⟨i, ⟨h1, h2⟩, rfl⟩
theorem pl_congr {n : Nat} {c d : Nat → Bool} (h : ∀ i, i < n → c i = d i) : pl n c = pl n d := by
  unfold pl
  congr 1
  refine List.filter_congr fun i hi => h i (List.mem_range.mp hi)
theorem pl_filter (n : Nat) (c : Nat → Bool) (d : Int → Bool) : (pl n c).filter d = pl n fun i => c i && d (i : Int) := by
  unfold pl
  rw [List.filter_map, List.filter_filter]
  congr 1
  refine List.filter_congr fun i _ => ?_
  show (d (i : Int) && c i) = (c i && d (i : Int))
  rw [Bool.and_comm]
theorem pl_len_succ (n : Nat) (c : Nat → Bool) : ((pl (n + 1) c).length : Int) = (pl n c).length + (if c n = true then 1 else 0) := by
  rw [pl_succ]
  cases h : c n <;> simp [h]
theorem pl_le (n : Nat) (c : Nat → Bool) : (pl n c).length ≤ n := by
  unfold pl
  rw [List.length_map]
  exact Nat.le_trans (List.length_filter_le _ _) (by simp)
theorem range_fil (n : Nat) (d : Int → Bool) : (rangeD 0 (n : Int)).filter d = pl n fun i => d (i : Int) := by
  rw [rangeD_nat]
  unfold pl
  rw [List.filter_map]
  rfl
theorem enumT_range {α : Type} [Inhabited α] (xs : List α) : enumT xs = (List.range xs.length).map fun (i : Nat) => ((i : Int), gI xs (i : Int)) := by
  refine List.ext_getElem? fun i => ?_
  unfold enumT
  rw [List.getElem?_map, List.getElem?_map, List.getElem?_zipIdx]
  by_cases h : i < xs.length
  · simp [h, gI, List.getD]
  · simp [h]
/-- the places of the items of which c holds -/
theorem enum_fil {α : Type} [Inhabited α] (xs : List α) (c : Int × α → Bool) : ((enumT xs).filter c).map (fun z => z.1) = pl xs.length fun i => c ((i : Int), gI xs (i : Int)) := by
  rw [enumT_range, List.filter_map, List.map_map]
  rfl
theorem repL_if (x : Int) (b : Bool) : repL [x] (if b = true then 1 else 0) = if b = true then [x] else [] := by
  cases b <;> rfl
theorem repOk_if (l : Nat) (b : Bool) (h : l ≤ 1000) : RepOk l (if b = true then 1 else 0) := by
  unfold RepOk
  cases b <;> simp <;> omega
theorem gI_map {α β : Type} [Inhabited α] [Inhabited β] (f : α → β) (xs : List α) {i : Nat} (h : i < xs.length) : gI (xs.map f) (i : Int) = f (gI xs (i : Int)) := by
  unfold gI
  simp [List.getD, h]
theorem gI_range {β : Type} [Inhabited β] (f : Nat → β) (n : Nat) {i : Nat} (h : i < n) : gI ((List.range n).map f) (i : Int) = f i := by
  unfold gI
  simp [List.getD, h]
theorem idx_n {α : Type} [Inhabited α] {xs : List α} {i : Nat} (h : i < xs.length) : idx xs (i : Int) = some (gI xs (i : Int)) := idx_in (by omega) (by omega)
theorem map_range_gI {α : Type} [Inhabited α] (xs : List α) : (List.range xs.length).map (fun (i : Nat) => gI xs (i : Int)) = xs := by
  refine List.ext_getElem? fun i => ?_
  rw [List.getElem?_map]
  by_cases h : i < xs.length
  · simp [h, gI, List.getD]
  · simp [h]
theorem map_succ {β : Type} (f : Nat → β) (n : Nat) : (List.range (n + 1)).map f = (List.range n).map f ++ [f n] := by
  rw [List.range_succ, List.map_append]
  rfl
/-- the items of a row in a map's range -/
theorem forall_map_range {β : Type} {P : β → Prop} {f : Nat → β} {n : Nat} (h : ∀ i, i < n → P (f i)) : ∀ x ∈ (List.range n).map f, P x := fun x hx => by
  rw [List.mem_map] at hx
  obtain ⟨i, hi, rfl⟩ := hx
  exact h i (List.mem_range.mp hi)
end
end Pl
namespace K40
open PySem PySem.Spec PyProof.Rows L2 Pl
noncomputable section
/-! ### mirrors -/
def sent_bases_l1 (first1 : (List Int)) (second1 : (List Int)) (listener1 : (List (Option Int))) (s1 : ((List (Int × Int)))) (x1 : (Int × Int)) : Option ((List (Int × Int))) :=
  (Option.bind (idx first1 x1.1) fun x2 => Option.bind (idx second1 x1.1) fun x3 => set' ((decide (x2 = x3)) : Bool) fun is_kept1 => (Option.bind (idx listener1 x1.1) fun x4 => Option.bind ((if ((x4.isNone)) = true then some true else (Option.bind (idx listener1 x1.1) fun x5 => Option.bind (idx first1 x1.1) fun x6 => some (decide (x5 = (some x6)))))) fun b1 => set' (b1 : Bool) fun is_left1 => (need (Sz1 (s1).length) <| set' ((s1 ++ [(if (is_kept1 && is_left1) = true then (x1.2, 1) else (1, 2))]) : (List (Int × Int))) fun chances2 => some chances2)))
def sent_bases_m (bits1 : (List Int)) (first1 : (List Int)) (second1 : (List Int)) (listener1 : (List (Option Int))) : Option (List (Int × Int)) :=
  (set' (([] : (List (Int × Int))) : (List (Int × Int))) fun chances1 => (forS (sent_bases_l1 first1 second1 listener1) (enumT bits1) chances1).bind fun s2 => some s2)
def kept_places_m (first1 : (List (Option Int))) (second1 : (List (Option Int))) : Option (List Int) :=
  (Option.bind (filO (fun z1 : (Int × (Option Int)) => (Option.bind (idx second1 z1.1) fun x1 => if (decide (z1.2 = x1)) = true then some (some z1.1) else some none)) (enumT first1)) fun ys1 => some ys1)
def seen_listening_l1  (s1 : (Int × Int)) (x1 : Int) : Option (Int × Int) :=
  (set' ((s1.1 * 3) : Int) fun unseen2 => (set' ((s1.2 * 4) : Int) fun whole2 => some (unseen2, whole2)))
def seen_listening_m (k1 : Int) : Option (Int × Int) :=
  (set' (1 : Int) fun unseen1 => (set' (1 : Int) fun whole1 => (need (RgO 0 k1) <| (forS (seen_listening_l1) (rangeD 0 k1) (unseen1, whole1)).bind fun s2 => (Option.bind (lowest_m (s2.2 - s2.1) s2.2) fun lowest1 => some lowest1))))
def bits_known_m (listener1 : (List (Option Int))) (first1 : (List (Option Int))) (second1 : (List (Option Int))) : Option (List Int) :=
  (Option.bind (kept_places_m first1 second1) fun kept_p1 => Option.bind (filO (fun z1 : Int => (Option.bind (idx listener1 z1) fun x1 => Option.bind (idx first1 z1) fun x2 => if (decide (x1 = x2)) = true then some (some z1) else some none)) kept_p1) fun ys1 => some ys1)
def found_odd_c1  (s1 : (Int × Int × Int)) : Option Bool :=
  some (decide (1 < (s1.2.1 - s1.2.2)))
def found_odd_b2 (unlike1 : (List Int)) (s1 : (Int × Int × Int)) : Option (Int × Int × Int) :=
  (set' ((s1.2.2 + ((s1.2.1 - s1.2.2) / 2)) : Int) fun middle1 => (set' ((s1.1 + 1) : Int) fun told2 => Option.bind (if (decide (((List.sum (cutD unlike1 (some s1.2.2) (some middle1))) % 2) = 1)) = true then (set' (middle1 : Int) fun high2 => some (high2, s1.2.2)) else (set' (middle1 : Int) fun low2 => some (s1.2.1, low2)) : Option (Int × Int)) fun j1 => some (told2, j1.1, j1.2)))
def found_odd_m (first1 : (List Int)) (second1 : (List Int)) : Option (Option (Int × Int)) :=
  (set' ((List.map (fun z1 : (Int × Int) => (Builtin.bitXor z1.1 z1.2)) (List.zip first1 second1)) : (List Int)) fun unlike1 => if (decide (((List.sum unlike1) % 2) = 0)) = true then some (none : (Option (Int × Int))) else (set' (0 : Int) fun low1 => (set' (((unlike1).length : Int) : Int) fun high1 => (set' (0 : Int) fun told1 => (whileS (found_odd_c1) (found_odd_b2 unlike1) 1000000 (told1, high1, low1)).bind fun s2 => some (some (s2.2.2, s2.1))))))
def law_ratio_m (a1 : Int) (b1 : Int) : Option (Int × Int) :=
  (Option.bind (law_common_m a1 b1) fun law_co1 => set' (law_co1 : Int) fun shared1 => (need (DivOk a1 shared1) <| need (DivOk b1 shared1) <| some ((a1 / shared1), (b1 / shared1))))
def law_sent_right_l1 (bits1 : (List Int)) (first1 : (List Int)) (second1 : (List Int)) (listener1 : (List (Option Int))) (s1 : ((List (Int × Int)) × (List Int) × (List Int))) (x1 : Int) : Option ((List (Int × Int)) × (List Int) × (List Int)) :=
  (Option.bind (idx first1 x1) fun x2 => Option.bind (idx second1 x1) fun x3 => Option.bind ((if (decide (x2 = x3)) = true then (Option.bind (idx listener1 x1) fun x4 => Option.bind ((if ((x4.isNone)) = true then some true else (Option.bind (idx listener1 x1) fun x5 => Option.bind (idx first1 x1) fun x6 => some (decide (x5 = (some x6)))))) fun b1 => some b1) else some false)) fun b2 => set' (b2 : Bool) fun sure1 => (Option.bind (idx bits1 x1) fun x8 => Option.bind (idx [(1, 2), (x8, 1)] (if sure1 = true then 1 else 0)) fun x9 => need (Sz1 (s1.1).length) <| set' ((s1.1 ++ [x9]) : (List (Int × Int))) fun chances2 => (Option.bind (idx first1 x1) fun x10 => Option.bind (idx second1 x1) fun x11 => need (RepOk ([x1]).length (if (decide (x10 = x11)) = true then 1 else 0)) <| need (SzOk ((s1.2.1).length + ((repL [x1] (if (decide (x10 = x11)) = true then 1 else 0))).length)) <| set' ((s1.2.1 ++ (repL [x1] (if (decide (x10 = x11)) = true then 1 else 0))) : (List Int)) fun kept2 => (Option.bind ((if sure1 = true then (Option.bind (idx listener1 x1) fun x12 => some ((!x12.isNone))) else some false)) fun b3 => need (RepOk ([x1]).length (if b3 = true then 1 else 0)) <| need (SzOk ((s1.2.2).length + ((repL [x1] (if b3 = true then 1 else 0))).length)) <| set' ((s1.2.2 ++ (repL [x1] (if b3 = true then 1 else 0))) : (List Int)) fun known2 => some (chances2, kept2, known2)))))
def law_sent_right_m (bits1 : (List Int)) (first1 : (List Int)) (second1 : (List Int)) (listener1 : (List (Option Int))) : Option Bool :=
  (set' (([] : (List (Int × Int))) : (List (Int × Int))) fun chances1 => set' (([] : (List Int)) : (List Int)) fun kept1 => set' (([] : (List Int)) : (List Int)) fun known1 => (forS (law_sent_right_l1 bits1 first1 second1 listener1) (rangeD 0 ((bits1).length : Int)) (chances1, kept1, known1)).bind fun s2 => (Option.bind (sent_bases_m bits1 first1 second1 listener1) fun sent_b1 => if (!(likeD ((eT (eP eI eI)) sent_b1) ((eT (eP eI eI)) s2.1))) = true then some false else (Option.bind (kept_places_m (List.map some first1) (List.map some second1)) fun kept_p1 => Option.bind (bits_known_m listener1 (List.map some first1) (List.map some second1)) fun bits_k1 => if (!(likeD ((eP (eT eI) (eT eI)) (kept_p1, bits_k1)) ((eP (eT eI) (eT eI)) (s2.2.1, s2.2.2)))) = true then some false else (set' ((List.map (fun z1 : Int => (1 - z1)) second1) : (List Int)) fun turned1 => (Option.bind (kept_places_m (List.map some turned1) (List.map some first1)) fun kept_p2 => if (!(likeD ((eT eI) kept_p2) ((eT eI) ((List.filter (fun z2 : Int => (!decide (z2 ∈ s2.2.1))) (rangeD 0 ((bits1).length : Int))).map (fun z2 : Int => z2))))) = true then some false else if (List.any (List.map (fun z3 : (Option Int) => ((z3.isNone))) listener1) id) = true then some true else (Option.bind (kept_places_m listener1 (List.map some first1)) fun kept_p3 => Option.bind (kept_places_m listener1 (List.map some second1)) fun kept_p4 => set' (((((s2.2.1).length : Int) + ((kept_p3).length : Int)) + ((kept_p4).length : Int)) : Int) fun many1 => if (decide (many1 ≠ (((bits1).length : Int) + (2 * ((s2.2.2).length : Int))))) = true then some false else (Option.bind (bits_known_m (List.map some first1) (List.map some second1) listener1) fun bits_k2 => Option.bind (bits_known_m (List.map some second1) listener1 (List.map some first1)) fun bits_k3 => set' ((bits_k2, bits_k3) : ((List Int) × (List Int))) fun told1 => set' (s2.2.2 : (List Int)) fun known3 => some (likeD ((eP (eT eI) (eT eI)) told1) ((eP (eT eI) (eT eI)) (known3, known3))))))))))
def law_power_l1 (base1 : Int) (s1 : (Int)) (x1 : Int) : Option (Int) :=
  (need (MulOk s1 base1) <| set' ((s1 * base1) : Int) fun found2 => some found2)
def law_power_m (base1 : Int) (many1 : Int) : Option Int :=
  (set' (1 : Int) fun found1 => (need (RgO 0 many1) <| (forS (law_power_l1 base1) (rangeD 0 many1) found1).bind fun s2 => some s2))
def law_unseen_right_l1  (s1 : (Unit)) (x1 : Int) : Option (O (Unit) Bool) :=
  (Option.bind (law_power_m 4 x1) fun law_po1 => Option.bind (law_power_m 3 x1) fun law_po2 => Option.bind (law_power_m 4 x1) fun law_po3 => Option.bind (law_ratio_m (law_po1 - law_po2) law_po3) fun law_ra1 => set' (law_ra1 : (Int × Int)) fun due1 => (Option.bind (seen_listening_m x1) fun seen_l1 => if (!(likeD ((eP eI eI) seen_l1) ((eP eI eI) due1))) = true then some (O.rt false) else some (O.nx ())))
def law_unseen_right_m (one1 : Int) (other1 : Int) : Option Bool :=
  (forO (law_unseen_right_l1) [one1, other1, (one1 + other1)] ()).bind fun o1 => O.then o1 (fun s2 => (Option.bind (seen_listening_m one1) fun seen_l2 => Option.bind (seen_listening_m other1) fun seen_l3 => Option.bind (seen_listening_m (one1 + other1)) fun seen_l4 => set' ([seen_l2, seen_l3, seen_l4] : (List (Int × Int))) fun parts1 => (set' ((List.map (fun z1 : (Int × Int) => ((z1.2 - z1.1), z1.2)) parts1) : (List (Int × Int))) fun left1 => (Option.bind (idx left1 0) fun x2 => Option.bind (idx left1 1) fun x3 => need (MulOk x2.1 x3.1) <| Option.bind (idx left1 0) fun x4 => Option.bind (idx left1 1) fun x5 => need (MulOk x4.2 x5.2) <| Option.bind (law_ratio_m (x2.1 * x3.1) (x4.2 * x5.2)) fun law_ra2 => Option.bind (idx left1 2) fun x6 => Option.bind (idx left1 2) fun x7 => Option.bind (law_ratio_m x6.1 x7.2) fun law_ra3 => some (decide (law_ra2 = law_ra3)))))) (fun b => some b)
def law_all_ways_right_l1 (bits1 : (List Int)) (bases1 : (List Int)) (listener1 : (List Int)) (told1 : (List (Int × Int))) (s2 : (Int)) (x3 : Int) : Option (O (Int) Bool) :=
  (Option.bind (idx told1 x3) fun x4 => Option.bind (idx bits1 x3) fun x6 => Option.bind (idx listener1 x3) fun x7 => Option.bind (idx bases1 x3) fun x8 => Option.bind (idx [(x6, 1), (1, 2)] (if (decide (x7 ≠ x8)) = true then 1 else 0)) fun x9 => if (!(likeD ((eP eI eI) x4) ((eP eI eI) x9))) = true then some (O.rt false) else (Option.bind (idx told1 x3) fun x22 => Option.bind (idx told1 x3) fun x23 => Option.bind (idx told1 x3) fun x24 => Option.bind (idx bits1 x3) fun x25 => Option.bind (idx [(x22.2 - x23.1), x24.1] x25) fun x26 => need (MulOk s2 x26) <| Option.bind (idx told1 x3) fun x27 => need (DivOk (s2 * x26) x27.2) <| set' (((s2 * x26) / x27.2) : Int) fun part2 => some (O.nx part2)))
def law_all_ways_right_l2 (bits1 : (List Int)) (bases1 : (List Int)) (n1 : Int) (s1 : (Int)) (x1 : Int) : Option (O (Int) Bool) :=
  (need (RgO 0 n1) <| Option.bind (mapO (fun z1 : Int => (Option.bind (idx [1, 2, 4, 8, 16] z1) fun x2 => need (DivOk x1 x2) <| some ((x1 / x2) % 2))) (rangeD 0 n1)) fun ys1 => set' (ys1 : (List Int)) fun listener1 => (Option.bind (sent_bases_m bits1 bases1 bases1 (List.map some listener1)) fun sent_b1 => need (CPow 1 n1) <| set' (sent_b1 : (List (Int × Int))) fun told1 => set' ((1 * 2 ^ Int.toNat n1) : Int) fun part1 => if ((!true) || (decide (((told1).length : Int) ≠ n1))) = true then some (O.rt false) else (need (RgO 0 n1) <| (forO (law_all_ways_right_l1 bits1 bases1 listener1 told1) (rangeD 0 n1) part1).bind fun o1 => O.then o1 (fun s3 => (set' ((s1 + s3) : Int) fun total2 => some (O.nx total2))) (fun b => some (O.rt b)))))
def law_all_ways_right_m (bits1 : (List Int)) (bases1 : (List Int)) : Option Bool :=
  (set' (((bits1).length : Int) : Int) fun n1 => set' (0 : Int) fun total1 => (need (CPow 1 n1) <| need (RgO 0 (1 * 2 ^ Int.toNat n1)) <| (forO (law_all_ways_right_l2 bits1 bases1 n1) (rangeD 0 (1 * 2 ^ Int.toNat n1)) total1).bind fun o2 => O.then o2 (fun s4 => (Option.bind (seen_listening_m n1) fun seen_l1 => need (CPow 1 (n1 + n1)) <| Option.bind (law_ratio_m ((1 * 2 ^ Int.toNat (n1 + n1)) - s4) (1 * 2 ^ Int.toNat (n1 + n1))) fun law_ra1 => some (likeD ((eP eI eI) seen_l1) ((eP eI eI) law_ra1)))) (fun b => some b)))
def law_halved_l1 (unlike1 : (List Int)) (s1 : (Int × Int × Int)) (x1 : Int) : Option (O (Int × Int × Int) (Int × Int)) :=
  if (decide ((s1.2.1 - s1.2.2) < 2)) = true then some (O.bk (s1.1, s1.2.1, s1.2.2)) else (set' ((s1.2.2 + ((s1.2.1 - s1.2.2) / 2)) : Int) fun middle1 => set' ((s1.1 + 1) : Int) fun told2 => Option.bind (if (decide (((List.sum (cutD unlike1 (some s1.2.2) (some middle1))) % 2) = 1)) = true then (set' (middle1 : Int) fun high2 => some (high2, s1.2.2)) else (set' (middle1 : Int) fun low2 => some (s1.2.1, low2)) : Option (Int × Int)) fun j1 => some (O.nx (told2, j1.1, j1.2)))
def law_halved_m (unlike1 : (List Int)) : Option (Int × Int) :=
  (set' (0 : Int) fun low1 => set' (((unlike1).length : Int) : Int) fun high1 => set' (0 : Int) fun told1 => (need (RgO 0 12) <| (forO (law_halved_l1 unlike1) (rangeD 0 12) (told1, high1, low1)).bind fun o1 => O.then o1 (fun s2 => some (s2.2.2, s2.1)) (fun b => some b)))
def law_odd_right_m (mine1 : (List Int)) (yours1 : (List Int)) (third1 : (List Int)) : Option Bool :=
  (set' (((mine1).length : Int) : Int) fun n1 => (need (RgO 0 n1) <| Option.bind (mapO (fun z1 : Int => (Option.bind (idx mine1 z1) fun x1 => Option.bind (idx yours1 z1) fun x2 => some (Builtin.bitXor x1 x2))) (rangeD 0 n1)) fun ys1 => set' (ys1 : (List Int)) fun unlike1 => (set' ((none : (Option (Int × Int))) : (Option (Int × Int))) fun due1 => Option.bind (if (decide (((List.sum unlike1) % 2) = 1)) = true then (Option.bind (law_halved_m unlike1) fun law_ha2 => set' ((some law_ha2) : (Option (Int × Int))) fun due2 => some due2) else some due1 : Option ((Option (Int × Int)))) fun j1 => (need (RgO 0 n1) <| Option.bind (mapO (fun z2 : Int => (Option.bind (idx mine1 z2) fun x3 => Option.bind (idx third1 z2) fun x4 => some (Builtin.bitXor x3 x4))) (rangeD 0 n1)) fun ys2 => Option.bind (mapO (fun z3 : Int => (Option.bind (idx yours1 z3) fun x5 => Option.bind (idx third1 z3) fun x6 => some (Builtin.bitXor x5 x6))) (rangeD 0 n1)) fun ys3 => set' ((ys2, ys3) : ((List Int) × (List Int))) fun both1 => (Option.bind (found_odd_m mine1 yours1) fun found1 => Option.bind (found_odd_m yours1 mine1) fun found2 => if (!(likeD ((eP (eO (eP eI eI)) (eO (eP eI eI))) (found1, found2)) ((eP (eO (eP eI eI)) (eO (eP eI eI))) (j1, j1)))) = true then some false else (Option.bind (found_odd_m both1.1 both1.2) fun found3 => if (!(likeD ((eO (eP eI eI)) found3) ((eO (eP eI eI)) j1))) = true then some false else if (((j1.isNone)) || (decide ((List.sum unlike1) = 1))) = true then (Option.bind ((if ((j1.isNone)) = true then some true else (Option.bind (j1) fun u1 => Option.bind (idx unlike1 u1.1) fun x7 => some (decide (x7 = 1))))) fun b1 => some b1) else (Option.bind (j1) fun u2 => Option.bind (j1) fun u3 => Option.bind (idx mine1 u3.1) fun x8 => need (SzOk (((cutD yours1 none (some u2.1))).length + ([x8]).length)) <| Option.bind (j1) fun u4 => need (SzOk ((((cutD yours1 none (some u2.1)) ++ [x8])).length + ((cutD yours1 (some (u4.1 + 1)) none)).length)) <| set' ((((cutD yours1 none (some u2.1)) ++ [x8]) ++ (cutD yours1 (some (u4.1 + 1)) none)) : (List Int)) fun mended1 => (Option.bind (j1) fun u5 => Option.bind (idx unlike1 u5.1) fun x9 => Option.bind ((if (decide (x9 = 1)) = true then (Option.bind (found_odd_m mine1 mended1) fun found4 => some ((found4.isNone))) else some false)) fun b2 => some b2))))))))
def law_m (script1 : (List Int)) : Option Bool :=
  (Option.bind (law_row_m script1 195) fun law_ro1 => set' (law_ro1 : (List Int)) fun row1 => (Option.bind (idx row1 0) fun x1 => set' ((x1 % 41) : Int) fun n1 => (need (RgO 0 n1) <| Option.bind (mapO (fun z1 : Int => (Option.bind (idx row1 (1 + z1)) fun x2 => some (x2 % 2))) (rangeD 0 n1)) fun ys1 => set' (ys1 : (List Int)) fun bits1 => (need (RgO 0 n1) <| Option.bind (mapO (fun z2 : Int => (Option.bind (idx row1 (1 + z2)) fun x3 => some ((x3 / 2) % 2))) (rangeD 0 n1)) fun ys2 => set' (ys2 : (List Int)) fun first1 => (need (RgO 0 n1) <| Option.bind (mapO (fun z3 : Int => (Option.bind (idx row1 (41 + z3)) fun x4 => some (x4 % 2))) (rangeD 0 n1)) fun ys3 => set' (ys3 : (List Int)) fun second1 => (need (RgO 0 n1) <| Option.bind (mapO (fun z4 : Int => (Option.bind (idx row1 (41 + z4)) fun x5 => Option.bind (idx row1 81) fun x6 => need (0 < (2 + (4 * (x6 % 2)))) <| Option.bind (idx [(some 0), (some 1), (none : (Option Int)), (some 0), (none : (Option Int)), (some 1)] ((x5 / 2) % (2 + (4 * (x6 % 2))))) fun x7 => some x7)) (rangeD 0 n1)) fun ys4 => set' (ys4 : (List (Option Int))) fun listener1 => (Option.bind (law_sent_right_m bits1 first1 second1 listener1) fun law_se1 => if (!law_se1) = true then some false else (Option.bind (idx row1 82) fun x8 => Option.bind (idx row1 83) fun x9 => Option.bind (law_unseen_right_m (x8 % 31) (x9 % 31)) fun law_un1 => if (!law_un1) = true then some false else (Option.bind (idx row1 84) fun x10 => set' ((x10 % 6) : Int) fun few1 => (need (RgO 0 few1) <| Option.bind (mapO (fun z5 : Int => (Option.bind (idx row1 (85 + z5)) fun x11 => some (x11 % 2))) (rangeD 0 few1)) fun ys5 => set' (ys5 : (List Int)) fun some1 => (need (RgO 0 few1) <| Option.bind (mapO (fun z6 : Int => (Option.bind (idx row1 (85 + z6)) fun x12 => some ((x12 / 2) % 2))) (rangeD 0 few1)) fun ys6 => Option.bind (law_all_ways_right_m some1 ys6) fun law_al1 => if (!law_al1) = true then some false else (Option.bind (idx row1 90) fun x13 => Option.bind (idx row1 91) fun x14 => Option.bind (idx [2, 5, 30, 1000] (x14 % 4)) fun x15 => set' ((1 + (x13 % 14)) : Int) fun size1 => set' (x15 : Int) fun part1 => (Option.bind (idx row1 90) fun x16 => Option.bind (if (decide ((x16 % 3) = 2)) = true then (Option.bind (idx row1 90) fun x18 => set' ((1 + ((x18 / 3) % 100)) : Int) fun size2 => some size2) else some size1 : Option (Int)) fun j1 => (need (RgO 0 j1) <| Option.bind (mapO (fun z7 : Int => (Option.bind (idx row1 (94 + z7)) fun x19 => some ((x19 / 4) % 2))) (rangeD 0 j1)) fun ys7 => set' (ys7 : (List Int)) fun mine1 => (need (RgO 0 j1) <| Option.bind (mapO (fun z8 : Int => (Option.bind (idx row1 (94 + z8)) fun x20 => some ((x20 / 8) % 2))) (rangeD 0 j1)) fun ys8 => set' (ys8 : (List Int)) fun third1 => (need (RgO 0 j1) <| Option.bind (mapO (fun z9 : Int => (Option.bind (idx mine1 z9) fun x21 => Option.bind (idx row1 (94 + z9)) fun x22 => need (0 < part1) <| some (Builtin.bitXor x21 (if (decide (((x22 / 16) % part1) = 1)) = true then 1 else 0)))) (rangeD 0 j1)) fun ys9 => set' (ys9 : (List Int)) fun yours1 => (Option.bind (idx row1 92) fun x23 => need (0 < j1) <| set' ((x23 % j1) : Int) fun spot1 => (Option.bind (idx mine1 spot1) fun x24 => Option.bind (setAt yours1 spot1 (1 - x24)) fun yours2 => (Option.bind (law_odd_right_m mine1 yours2 third1) fun law_od1 => if (!law_od1) = true then some false else (Option.bind (idx row1 93) fun x25 => need (0 < j1) <| set' ((x25 % j1) : Int) fun other1 => (Option.bind (idx yours2 other1) fun x26 => Option.bind (setAt yours2 other1 (1 - x26)) fun yours3 => (Option.bind ((if (decide (yours3 = mine1)) = true then some true else (Option.bind (law_odd_right_m mine1 yours3 third1) fun law_od2 => some law_od2))) fun b1 => some b1))))))))))))))))))))))
end
/-! ### places kept, bits known -/
theorem kept_ok (n : Nat) (F S : List (Option Int)) (hF : F.length = n) (hS : S.length = n) : kept_places_m F S = some (pl n fun i => decide (gI F (i : Int) = gI S (i : Int))) := by
  subst hF
  unfold kept_places_m
  rw [filO_eq (fun z : Int × Option Int => decide (z.2 = gI S z.1)) (fun z => z.1) (enumT F) fun x hx => ?_]
  · rw [Option.bind_some, enum_fil]
  · rw [enumT_range, List.mem_map] at hx
    obtain ⟨i, hi, rfl⟩ := hx
    rw [List.mem_range] at hi
    rw [idx_n (by omega), Option.bind_some]
    by_cases c : gI F (i : Int) = gI S (i : Int) <;> simp [c]
theorem known_ok (n : Nat) (L F S : List (Option Int)) (hL : L.length = n) (hF : F.length = n) (hS : S.length = n) : bits_known_m L F S = some (pl n fun i => decide (gI F (i : Int) = gI S (i : Int)) && decide (gI L (i : Int) = gI F (i : Int))) := by
  unfold bits_known_m
  rw [kept_ok n F S hF hS, Option.bind_some]
  rw [filO_eq (fun z : Int => decide (gI L z = gI F z)) (fun z => z) _ fun x hx => ?_]
  · rw [Option.bind_some, pl_filter, List.map_id']
  · obtain ⟨i, rfl, hi, _⟩ := pl_mem hx
    rw [idx_n (by omega), idx_n (by omega), Option.bind_some, Option.bind_some]
    by_cases c : gI L (i : Int) = gI F (i : Int) <;> simp [c]
/-- what is read at a place -/
def sureB (F S : List Int) (L : List (Option Int)) (i : Nat) : Bool := decide (gI F (i : Int) = gI S (i : Int)) && (decide (gI L (i : Int) = none) || decide (gI L (i : Int) = some (gI F (i : Int))))
def chanceP (B F S : List Int) (L : List (Option Int)) (i : Nat) : Int × Int := if sureB F S L i = true then (gI B (i : Int), 1) else (1, 2)
theorem sent_ok (n : Nat) (B F S : List Int) (L : List (Option Int)) (hB : B.length = n) (hF : F.length = n) (hS : S.length = n) (hL : L.length = n) (hn : n ≤ 1000) : sent_bases_m B F S L = some ((List.range n).map (chanceP B F S L)) := by
  unfold sent_bases_m
  simp only [set_eq]
  obtain ⟨s, e, h⟩ := forS_ex (step := sent_bases_l1 F S L) (fun i s => s = (List.range i).map (chanceP B F S L)) (xs := enumT B) (s0 := []) rfl fun i s x hx hi => by
    obtain ⟨h1, h2⟩ := enumT_get? hx
    have hi2 : i < n := by rw [← hB]; exact (List.getElem?_eq_some_iff.mp h2).1
    have hb : x.2 = gI B (i : Int) := by
      have := idx_n (xs := B) (i := i) (by omega)
      rw [idx_nat', h2] at this
      exact Option.some.inj this
    have hz : Sz1 s.length := by rw [hi]; unfold Sz1; simp; omega
    refine ⟨_, ?_, (map_succ _ i).symm⟩
    unfold sent_bases_l1
    rw [h1, idx_n (by omega), idx_n (by omega), idx_n (by omega)]
    simp only [Option.bind_some, set_eq, need_of hz]
    have eL : (if (gI L (i : Int)).isNone = true then some true else some (decide (gI L (i : Int) = some (gI F (i : Int))))) = some (decide (gI L (i : Int) = none) || decide (gI L (i : Int) = some (gI F (i : Int)))) := by
      cases gI L (i : Int) <;> simp
    rw [eL, Option.bind_some, hi, hb]
    rfl
  rw [e]
  simp only [Option.bind_some]
  rw [h, enumT_len, hB]
/-! ### the first part -/
theorem right_loop (n : Nat) (B F S : List Int) (L : List (Option Int)) (hB : B.length = n) (hF : F.length = n) (hS : S.length = n) (hL : L.length = n) (hn : n ≤ 1000) :
    forS (law_sent_right_l1 B F S L) (rangeD 0 (n : Int)) (([] : List (Int × Int)), ([] : List Int), ([] : List Int)) = some ((List.range n).map (chanceP B F S L), pl n (fun i => decide (gI F (i : Int) = gI S (i : Int))), pl n fun i => sureB F S L i && !decide (gI L (i : Int) = none)) := by
  obtain ⟨s, e, h⟩ := forS_ex (step := law_sent_right_l1 B F S L) (fun i s => s = ((List.range i).map (chanceP B F S L), pl i (fun i => decide (gI F (i : Int) = gI S (i : Int))), pl i fun i => sureB F S L i && !decide (gI L (i : Int) = none))) (xs := rangeD 0 (n : Int)) (s0 := (([] : List (Int × Int)), ([] : List Int), ([] : List Int))) rfl fun i s x hx hi => by
    obtain ⟨h1, _, h3⟩ := rangeD_get? hx
    rw [Int.zero_add] at h1
    subst h1
    have hi2 : i < n := by omega
    subst hi
    refine ⟨_, ?_, rfl⟩
    unfold law_sent_right_l1
    rw [idx_n (xs := F) (by omega), idx_n (xs := S) (by omega), idx_n (xs := L) (by omega), idx_n (xs := B) (by omega)]
    simp only [Option.bind_some, set_eq]
    have e1 : (if decide (gI F (i : Int) = gI S (i : Int)) = true then Option.bind (if (gI L (i : Int)).isNone = true then some true else some (decide (gI L (i : Int) = some (gI F (i : Int))))) (fun b1 => some b1) else some false) = some (sureB F S L i) := by
      unfold sureB
      by_cases c : gI F (i : Int) = gI S (i : Int)
      · simp only [c, decide_true, if_true, Bool.true_and]
        cases gI L (i : Int) <;> simp
      · simp [c]
    rw [e1]
    simp only [Option.bind_some]
    have e2 : idx [((1 : Int), (2 : Int)), (gI B (i : Int), 1)] (if sureB F S L i = true then 1 else 0) = some (chanceP B F S L i) := by
      unfold chanceP
      cases sureB F S L i <;> rfl
    have e3 : (if sureB F S L i = true then some (!(gI L (i : Int)).isNone) else some false) = some (sureB F S L i && !decide (gI L (i : Int) = none)) := by
      cases sureB F S L i <;> cases gI L (i : Int) <;> rfl
    rw [e2, e3]
    have z1 : Sz1 ((List.range i).map (chanceP B F S L)).length := by unfold Sz1; simp; omega
    have p1 := pl_le i fun i => decide (gI F (i : Int) = gI S (i : Int))
    have p2 := pl_le i fun i => sureB F S L i && !decide (gI L (i : Int) = none)
    have z2 : SzOk ((pl i fun i => decide (gI F (i : Int) = gI S (i : Int))).length + (repL [(i : Int)] (if decide (gI F (i : Int) = gI S (i : Int)) = true then 1 else 0)).length) := by
      rw [repL_if]
      unfold SzOk
      cases decide (gI F (i : Int) = gI S (i : Int)) <;> simp <;> omega
    have z3 : SzOk ((pl i fun i => sureB F S L i && !decide (gI L (i : Int) = none)).length + (repL [(i : Int)] (if (sureB F S L i && !decide (gI L (i : Int) = none)) = true then 1 else 0)).length) := by
      rw [repL_if]
      unfold SzOk
      cases (sureB F S L i && !decide (gI L (i : Int) = none)) <;> simp <;> omega
    simp only [Option.bind_some, need_of z1, need_of (repOk_if [(i : Int)].length (decide (gI F (i : Int) = gI S (i : Int))) (Nat.le_of_ble_eq_true rfl)), need_of (repOk_if [(i : Int)].length (sureB F S L i && !decide (gI L (i : Int) = none)) (Nat.le_of_ble_eq_true rfl)), need_of z2, need_of z3]
    rw [repL_if, repL_if, map_succ, pl_succ, pl_succ]
  have hl : (rangeD 0 (n : Int)).length = n := by rw [rangeD_length]; omega
  rw [hl] at h
  rw [e, h]
theorem three (f s l : Int) (hf : f = 0 ∨ f = 1) (hs : s = 0 ∨ s = 1) (hl : l = 0 ∨ l = 1) : (if decide (f = s) = true then (1 : Int) else 0) + (if decide (l = f) = true then 1 else 0) + (if decide (l = s) = true then 1 else 0) = 1 + 2 * (if (decide (f = s) && decide (l = f)) = true then 1 else 0) := by
  rcases hf with rfl | rfl <;> rcases hs with rfl | rfl <;> rcases hl with rfl | rfl <;> decide
theorem count3 (F S L : Nat → Int) : ∀ n : Nat, (∀ i, i < n → (F i = 0 ∨ F i = 1) ∧ (S i = 0 ∨ S i = 1) ∧ (L i = 0 ∨ L i = 1)) → ((pl n fun i => decide (F i = S i)).length : Int) + (pl n fun i => decide (L i = F i)).length + (pl n fun i => decide (L i = S i)).length = n + 2 * ((pl n fun i => decide (F i = S i) && decide (L i = F i)).length : Int)
  | 0, _ => rfl
  | n + 1, h => by
    have ih := count3 F S L n fun i hi => h i (by omega)
    obtain ⟨h1, h2, h3⟩ := h n (by omega)
    have t := three (F n) (S n) (L n) h1 h2 h3
    simp only [pl_len_succ]
    have : ((n + 1 : Nat) : Int) = n + 1 := rfl
    omega
theorem like_self {α : Type} {e : α → PyData} {m : Nat} (d : Due e m) {x y : α} (h : x = y) : likeD (e x) (e y) = true := by
  subst h
  exact like_refl _ (d.ok x)
theorem sent_right (n : Nat) (B F S : List Int) (L : List (Option Int)) (hB : B.length = n) (hF : F.length = n) (hS : S.length = n) (hL : L.length = n) (hn : n ≤ 1000)
    (bF : ∀ i, i < n → gI F (i : Int) = 0 ∨ gI F (i : Int) = 1) (bS : ∀ i, i < n → gI S (i : Int) = 0 ∨ gI S (i : Int) = 1) (bL : ∀ i, i < n → gI L (i : Int) = none ∨ gI L (i : Int) = some 0 ∨ gI L (i : Int) = some 1) : law_sent_right_m B F S L = some true := by
  have sF : ∀ i, i < n → gI (F.map some) (i : Int) = some (gI F (i : Int)) := fun i hi => gI_map some F (by omega)
  have sS : ∀ i, i < n → gI (S.map some) (i : Int) = some (gI S (i : Int)) := fun i hi => gI_map some S (by omega)
  unfold law_sent_right_m
  simp only [set_eq, hB]
  rw [right_loop n B F S L hB hF hS hL hn]
  simp only [Option.bind_some]
  rw [sent_ok n B F S L hB hF hS hL hn]
  simp only [Option.bind_some]
  rw [like_self (du_t (du_P du_I du_I)) rfl]
  rw [kept_ok n (F.map some) (S.map some) (by simpa using hF) (by simpa using hS), known_ok n L (F.map some) (S.map some) hL (by simpa using hF) (by simpa using hS)]
  have k1 : (pl n fun i => decide (gI (F.map some) (i : Int) = gI (S.map some) (i : Int))) = pl n fun i => decide (gI F (i : Int) = gI S (i : Int)) := pl_congr fun i hi => by
    rw [sF i hi, sS i hi]
    by_cases c : gI F (i : Int) = gI S (i : Int) <;> simp [c]
  have k2 : (pl n fun i => decide (gI (F.map some) (i : Int) = gI (S.map some) (i : Int)) && decide (gI L (i : Int) = gI (F.map some) (i : Int))) = pl n fun i => sureB F S L i && !decide (gI L (i : Int) = none) := pl_congr fun i hi => by
    rw [sF i hi, sS i hi]
    unfold sureB
    cases h : gI L (i : Int) <;> by_cases c : gI F (i : Int) = gI S (i : Int) <;> simp [c]
  rw [k1, k2]
  simp only [Option.bind_some]
  rw [like_self (du_P (du_t du_I) (du_t du_I)) rfl]
  have turn : kept_places_m ((S.map fun z1 : Int => 1 - z1).map some) (F.map some) = some (((rangeD 0 (n : Int)).filter fun z2 : Int => !decide (z2 ∈ pl n fun i => decide (gI F (i : Int) = gI S (i : Int)))).map fun z2 : Int => z2) := by
    rw [kept_ok n _ _ (by simpa using hS) (by simpa using hF), List.map_id', range_fil]
    refine congrArg some (pl_congr fun i hi => ?_)
    rw [sF i hi, gI_map some _ (by simpa [hS] using hi), gI_map (fun z1 : Int => 1 - z1) S (by omega)]
    have hm := mem_pl (n := n) (c := fun i => decide (gI F (i : Int) = gI S (i : Int))) (i := i)
    rcases bF i hi with h1 | h1 <;> rcases bS i hi with h2 | h2 <;> simp [h1, h2, hm, hi]
  rw [turn]
  simp only [Option.bind_some]
  rw [like_self (du_t du_I) rfl]
  simp only [Bool.not_true, Bool.false_eq_true, if_false]
  by_cases ha : (List.any (List.map (fun z3 : Option Int => z3.isNone) L) id) = true
  · rw [if_pos ha]
  · rw [if_neg ha]
    have bL2 : ∀ i, i < n → gI L (i : Int) = some 0 ∨ gI L (i : Int) = some 1 := fun i hi => by
      rcases bL i hi with h | h
      · exfalso
        apply ha
        rw [List.any_map, List.any_eq_true]
        exact ⟨gI L (i : Int), gI_mem (by omega) (by omega), by simp [h]⟩
      · exact h
    rw [kept_ok n L (F.map some) hL (by simpa using hF), kept_ok n L (S.map some) hL (by simpa using hS)]
    simp only [Option.bind_some]
    let l : Nat → Int := fun i => (gI L (i : Int)).getD 0
    have lL : ∀ i, i < n → gI L (i : Int) = some (l i) := fun i hi => by
      show _ = some ((gI L (i : Int)).getD 0)
      rcases bL2 i hi with h | h <;> rw [h] <;> rfl
    have bl : ∀ i, i < n → l i = 0 ∨ l i = 1 := fun i hi => by
      show (gI L (i : Int)).getD 0 = 0 ∨ (gI L (i : Int)).getD 0 = 1
      rcases bL2 i hi with h | h <;> rw [h]
      · exact .inl rfl
      · exact .inr rfl
    have k3 : (pl n fun i => decide (gI L (i : Int) = gI (F.map some) (i : Int))) = pl n fun i => decide (l i = gI F (i : Int)) := pl_congr fun i hi => by
      rw [sF i hi, lL i hi]
      by_cases c : l i = gI F (i : Int) <;> simp [c]
    have k4 : (pl n fun i => decide (gI L (i : Int) = gI (S.map some) (i : Int))) = pl n fun i => decide (l i = gI S (i : Int)) := pl_congr fun i hi => by
      rw [sS i hi, lL i hi]
      by_cases c : l i = gI S (i : Int) <;> simp [c]
    have k5 : (pl n fun i => sureB F S L i && !decide (gI L (i : Int) = none)) = pl n fun i => decide (gI F (i : Int) = gI S (i : Int)) && decide (l i = gI F (i : Int)) := pl_congr fun i hi => by
      unfold sureB
      rw [lL i hi]
      by_cases c : gI F (i : Int) = gI S (i : Int) <;> simp [c]
    rw [k3, k4, k5]
    have cnt := count3 (fun i => gI F (i : Int)) (fun i => gI S (i : Int)) l n fun i hi => ⟨bF i hi, bS i hi, bl i hi⟩
    have hc : decide (((pl n fun i => decide (gI F (i : Int) = gI S (i : Int))).length : Int) + ((pl n fun i => decide (l i = gI F (i : Int))).length : Int) + ((pl n fun i => decide (l i = gI S (i : Int))).length : Int) ≠ (n : Int) + 2 * ((pl n fun i => decide (gI F (i : Int) = gI S (i : Int)) && decide (l i = gI F (i : Int))).length : Int)) = false := decide_eq_false fun z => z cnt
    rw [hc]
    simp only [Bool.false_eq_true, if_false]
    rw [known_ok n (F.map some) (S.map some) L (by simpa using hF) (by simpa using hS) hL, known_ok n (S.map some) L (F.map some) (by simpa using hS) hL (by simpa using hF)]
    simp only [Option.bind_some]
    have k6 : (pl n fun i => decide (gI (S.map some) (i : Int) = gI L (i : Int)) && decide (gI (F.map some) (i : Int) = gI (S.map some) (i : Int))) = pl n fun i => decide (gI F (i : Int) = gI S (i : Int)) && decide (l i = gI F (i : Int)) := pl_congr fun i hi => by
      rw [sF i hi, sS i hi, lL i hi]
      by_cases c : gI F (i : Int) = gI S (i : Int)
      · rw [c]
        by_cases d : l i = gI S (i : Int)
        · simp [d]
        · have d' : ¬ gI S (i : Int) = l i := fun z => d z.symm
          simp [d, d']
      · simp [c]
    have k7 : (pl n fun i => decide (gI L (i : Int) = gI (F.map some) (i : Int)) && decide (gI (S.map some) (i : Int) = gI L (i : Int))) = pl n fun i => decide (gI F (i : Int) = gI S (i : Int)) && decide (l i = gI F (i : Int)) := pl_congr fun i hi => by
      rw [sF i hi, sS i hi, lL i hi]
      by_cases c : l i = gI F (i : Int)
      · rw [c]
        by_cases d : gI F (i : Int) = gI S (i : Int)
        · simp [d]
        · have d' : ¬ gI S (i : Int) = gI F (i : Int) := fun z => d z.symm
          simp [d, d']
      · simp [c]
    rw [k6, k7]
    exact congrArg some (like_self (du_P (du_t du_I) (du_t du_I)) rfl)

/-! ### the shares -/
theorem cop43 (k : Nat) : Nat.gcd (4 ^ k - 3 ^ k) (4 ^ k) = 1 := by
  have h1 : 3 ^ k ≤ 4 ^ k := Nat.pow_le_pow_left (by decide) k
  have h2 : Nat.gcd (3 ^ k) (4 ^ k) = 1 := Nat.Coprime.pow k k (by decide)
  have d1 := Nat.gcd_dvd_left (4 ^ k - 3 ^ k) (4 ^ k)
  have d2 := Nat.gcd_dvd_right (4 ^ k - 3 ^ k) (4 ^ k)
  have d3 : Nat.gcd (4 ^ k - 3 ^ k) (4 ^ k) ∣ 3 ^ k := by
    have := Nat.dvd_sub d2 d1
    rw [Nat.sub_sub_self h1] at this
    exact this
  have := Nat.dvd_gcd d3 d2
  rw [h2] at this
  exact Nat.eq_one_of_dvd_one this
theorem pow_lt (k : Nat) (h : k ≤ 200) : 4 ^ k < 2 ^ 440 := by
  have e : (4 : Nat) ^ k = 2 ^ (2 * k) := by rw [Nat.pow_mul]
  rw [e]
  exact Nat.pow_lt_pow_right (by decide) (by omega)
def numN (k : Nat) : Nat := 4 ^ k - 3 ^ k
theorem num_cast (k : Nat) : ((numN k : Nat) : Int) = 4 ^ k - 3 ^ k := by
  unfold numN
  have h1 : 3 ^ k ≤ 4 ^ k := Nat.pow_le_pow_left (by decide) k
  rw [Int.ofNat_sub h1]
  simp
theorem seen_ok (k : Nat) (h : k ≤ 200) : seen_listening_m (k : Int) = some (4 ^ k - 3 ^ k, 4 ^ k) := by
  unfold seen_listening_m
  simp only [set_eq]
  rw [need_of (rgS (by omega))]
  obtain ⟨s, e, hs⟩ := forS_ex (step := seen_listening_l1) (fun i (s : Int × Int) => s = (3 ^ i, 4 ^ i)) (xs := rangeD 0 (k : Int)) (s0 := (1, 1)) rfl fun i s x hx hi => by
    subst hi
    refine ⟨_, ?_, rfl⟩
    unfold seen_listening_l1
    simp only [set_eq, Int.pow_succ]
  have hl : (rangeD 0 (k : Int)).length = k := by rw [rangeD_length]; omega
  rw [hl] at hs
  rw [e, hs]
  simp only [Option.bind_some]
  have q := lowest_ok (numN k) (4 ^ k) (Nat.pow_pos (by decide)) (Nat.lt_of_lt_of_le (pow_lt k h) (Nat.pow_le_pow_right (by decide) (by decide)))
  have e4 : (((4 ^ k : Nat)) : Int) = 4 ^ k := by simp
  rw [num_cast, e4] at q
  rw [q]
  have g : Nat.gcd (numN k) (4 ^ k) = 1 := cop43 k
  rw [g, Nat.div_one, Nat.div_one, num_cast, e4]
  rfl
theorem ratio_ok (a b : Nat) (h : 0 < b) (hb : b < 2 ^ 440) : law_ratio_m (a : Int) (b : Int) = some (((a / Nat.gcd a b : Nat) : Int), ((b / Nat.gcd a b : Nat) : Int)) := by
  unfold law_ratio_m
  rw [common_ok a b hb]
  have hg : 0 < Nat.gcd a b := Nat.gcd_pos_of_pos_right _ h
  have hl : Nat.gcd a b ≤ b := Nat.gcd_le_right _ h
  have hd : ∀ i : Int, DivOk i ((Nat.gcd a b : Nat) : Int) := fun i => ⟨by omega, .inr (by
    rw [Int.natAbs_natCast, Nat.log2_lt (by omega)]
    exact Nat.lt_of_le_of_lt hl (Nat.lt_of_lt_of_le hb (Nat.pow_le_pow_right (by decide) (by decide))))⟩
  simp only [Option.bind_some, set_eq, need_of (hd _)]
  rw [Int.natCast_ediv, Int.natCast_ediv]
theorem ratio43 (k : Nat) (h : k ≤ 200) : law_ratio_m (4 ^ k - 3 ^ k) (4 ^ k) = some (4 ^ k - 3 ^ k, 4 ^ k) := by
  have q := ratio_ok (numN k) (4 ^ k) (Nat.pow_pos (by decide)) (pow_lt k h)
  have e4 : (((4 ^ k : Nat)) : Int) = 4 ^ k := by simp
  have g : Nat.gcd (numN k) (4 ^ k) = 1 := cop43 k
  rw [g, Nat.div_one, Nat.div_one, num_cast, e4] at q
  exact q
theorem mulR {i j : Int} (h : -(2 ^ 64) < j ∧ j < 2 ^ 64) : MulOk i j := .inl (.inr h)
theorem power_ok (b : Int) (hb : -(2 ^ 64) < b ∧ b < 2 ^ 64) (k : Nat) (h : k ≤ 1000) : law_power_m b (k : Int) = some (b ^ k) := by
  unfold law_power_m
  simp only [set_eq]
  rw [need_of (rgS (by omega))]
  obtain ⟨s, e, hs⟩ := forS_ex (step := law_power_l1 b) (fun i (s : Int) => s = b ^ i) (xs := rangeD 0 (k : Int)) (s0 := 1) (Int.pow_zero b).symm fun i s x hx hi => by
    subst hi
    refine ⟨_, ?_, rfl⟩
    unfold law_power_l1
    simp only [set_eq, need_of (mulR hb), Int.pow_succ]
  have hl : (rangeD 0 (k : Int)).length = k := by rw [rangeD_length]; omega
  rw [hl] at hs
  rw [e, hs]
  rfl
theorem unseen_step (k : Nat) (h : k ≤ 100) : law_unseen_right_l1 () (k : Int) = some (.nx ()) := by
  unfold law_unseen_right_l1
  rw [power_ok 4 (by decide) k (by omega), power_ok 3 (by decide) k (by omega)]
  simp only [Option.bind_some]
  rw [ratio43 k (by omega)]
  simp only [Option.bind_some, set_eq]
  rw [seen_ok k (by omega)]
  simp only [Option.bind_some]
  rw [like_self (du_P du_I du_I) rfl]
  rfl
theorem pow_small (b : Nat) (hb : b ≤ 4) (k : Nat) (h : k ≤ 31) : -(2 ^ 64) < ((b : Int)) ^ k ∧ ((b : Int)) ^ k < 2 ^ 64 := by
  have h1 : b ^ k ≤ 4 ^ k := Nat.pow_le_pow_left hb k
  have h2 : 4 ^ k ≤ 4 ^ 31 := Nat.pow_le_pow_right (by decide) h
  have h3 : (4 : Nat) ^ 31 < 2 ^ 64 := by decide
  have e : ((b ^ k : Nat) : Int) = (b : Int) ^ k := by simp
  rw [← e]
  omega
theorem unseen_right (i j : Nat) (hi : i < 31) (hj : j < 31) : law_unseen_right_m (i : Int) (j : Int) = some true := by
  unfold law_unseen_right_m
  have e : forO law_unseen_right_l1 [(i : Int), (j : Int), (i : Int) + (j : Int)] () = some (.nx ()) := by
    show (law_unseen_right_l1 () (i : Int)).bind _ = _
    rw [unseen_step i (by omega)]
    show (law_unseen_right_l1 () (j : Int)).bind _ = _
    rw [unseen_step j (by omega)]
    show (law_unseen_right_l1 () ((i : Int) + (j : Int))).bind _ = _
    rw [show (i : Int) + (j : Int) = ((i + j : Nat) : Int) from rfl, unseen_step (i + j) (by omega)]
    rfl
  rw [e]
  simp only [Option.bind_some, O.then]
  rw [seen_ok i (by omega), seen_ok j (by omega), show (i : Int) + (j : Int) = ((i + j : Nat) : Int) from rfl, seen_ok (i + j) (by omega)]
  simp only [Option.bind_some, set_eq, List.map_cons, List.map_nil]
  have x : ∀ k : Nat, (4 : Int) ^ k - (4 ^ k - 3 ^ k) = 3 ^ k := fun k => by omega
  rw [x, x, x]
  have i0 : ∀ a b c : Int × Int, idx [a, b, c] 0 = some a := fun _ _ _ => rfl
  have i1 : ∀ a b c : Int × Int, idx [a, b, c] 1 = some b := fun _ _ _ => rfl
  have i2 : ∀ a b c : Int × Int, idx [a, b, c] 2 = some c := fun _ _ _ => rfl
  simp only [i0, i1, i2, Option.bind_some]
  have m1 : MulOk ((3 : Int) ^ i) (3 ^ j) := mulS (by have := pow_small 3 (by decide) i (by omega); simpa using this)
  have m2 : MulOk ((4 : Int) ^ i) (4 ^ j) := mulS (by have := pow_small 4 (by decide) i (by omega); simpa using this)
  rw [need_of m1, need_of m2, ← Int.pow_add, ← Int.pow_add]
  have q := ratio_ok (3 ^ (i + j)) (4 ^ (i + j)) (Nat.pow_pos (by decide)) (pow_lt _ (by omega))
  have e3 : (((3 ^ (i + j) : Nat)) : Int) = 3 ^ (i + j) := by simp
  have e4 : (((4 ^ (i + j) : Nat)) : Int) = 4 ^ (i + j) := by simp
  rw [e3, e4] at q
  rw [q]
  simp
/-! ### all ways -/
theorem bit_idx (b : Int) (hb : b = 0 ∨ b = 1) : ∀ t : Int × Int, t = (b, 1) ∨ t = (1, 2) → idx [t.2 - t.1, t.1] b = some 1 := by
  intro t ht
  rcases ht with rfl | rfl <;> rcases hb with rfl | rfl <;> rfl
/-- a listener's part -/
def partF (X Y : Nat → Int) (p : Int) : Nat → Int
  | 0 => p
  | k + 1 => if X k = Y k then partF X Y p k else partF X Y p k / 2
theorem ways_inner (n : Nat) (B A L : List Int) (hB : B.length = n) (hA : A.length = n) (hL : L.length = n) (hn : n ≤ 5) (bB : ∀ i, i < n → gI B (i : Int) = 0 ∨ gI B (i : Int) = 1) (p : Int) :
    forO (law_all_ways_right_l1 B A L ((List.range n).map (chanceP B A A (L.map some)))) (rangeD 0 (n : Int)) p = some (.nx (partF (fun i => gI L (i : Int)) (fun i => gI A (i : Int)) p n)) := by
  obtain ⟨s, e, h⟩ := forO_inv (step := law_all_ways_right_l1 B A L ((List.range n).map (chanceP B A A (L.map some)))) (fun i s => s = partF (fun i => gI L (i : Int)) (fun i => gI A (i : Int)) p i) (xs := rangeD 0 (n : Int)) (s0 := p) rfl fun i s x hx hi => by
    obtain ⟨h1, _, h3⟩ := rangeD_get? hx
    rw [Int.zero_add] at h1
    subst h1
    have hi2 : i < n := by omega
    have hlen : ((List.range n).map (chanceP B A A (L.map some))).length = n := by simp
    have hs : sureB A A (L.map some) i = decide (gI L (i : Int) = gI A (i : Int)) := by
      unfold sureB
      rw [gI_map some L (by omega)]
      simp
    have hc : chanceP B A A (L.map some) i = if gI L (i : Int) = gI A (i : Int) then (gI B (i : Int), 1) else (1, 2) := by
      unfold chanceP
      rw [hs]
      by_cases c : gI L (i : Int) = gI A (i : Int) <;> simp [c]
    unfold law_all_ways_right_l1
    rw [idx_n (xs := (List.range n).map (chanceP B A A (L.map some))) (by omega), gI_range _ n hi2, hc, idx_n (xs := B) (by omega), idx_n (xs := L) (by omega), idx_n (xs := A) (by omega)]
    simp only [Option.bind_some]
    subst hi
    by_cases c : gI L (i : Int) = gI A (i : Int)
    · have cd : decide (gI L (i : Int) ≠ gI A (i : Int)) = false := by simp [c]
      have x9 : idx [(gI B (i : Int), (1 : Int)), (1, 2)] (if false = true then (1 : Int) else 0) = some (gI B (i : Int), 1) := rfl
      rw [cd, x9, if_pos c]
      simp only [Option.bind_some]
      rw [like_self (du_P du_I du_I) rfl, bit_idx _ (bB i hi2) _ (.inl rfl)]
      simp only [Bool.not_true, Bool.false_eq_true, if_false, Option.bind_some, set_eq]
      rw [need_of (mulR (by decide)), need_of (divS (by decide))]
      refine ⟨_, rfl, ?_⟩
      rw [partF, if_pos c, Int.mul_one, Int.ediv_one]
    · have cd : decide (gI L (i : Int) ≠ gI A (i : Int)) = true := by simp [c]
      have x9 : idx [(gI B (i : Int), (1 : Int)), (1, 2)] (if true = true then (1 : Int) else 0) = some (1, 2) := rfl
      rw [cd, x9, if_neg c]
      simp only [Option.bind_some]
      rw [like_self (du_P du_I du_I) rfl, bit_idx _ (bB i hi2) _ (.inr rfl)]
      simp only [Bool.not_true, Bool.false_eq_true, if_false, Option.bind_some, set_eq]
      rw [need_of (mulR (by decide)), need_of (divS (by decide))]
      refine ⟨_, rfl, ?_⟩
      rw [partF, if_neg c, Int.mul_one]
  have hl : (rangeD 0 (n : Int)).length = n := by rw [rangeD_length]; omega
  rw [hl] at h
  rw [e, h]
def bitN (x : Int) (k : Nat) : Int := x / 2 ^ k % 2
def waysSum (A : Nat → Int) (n : Nat) : Nat → Int
  | 0 => 0
  | x + 1 => waysSum A n x + partF (bitN (x : Int)) A (2 ^ n) n
theorem waysSum_congr {A A' : Nat → Int} (n : Nat) (h : ∀ i, i < n → A i = A' i) : ∀ m, waysSum A n m = waysSum A' n m
  | 0 => rfl
  | m + 1 => by
    have key : ∀ k, k ≤ n → ∀ p, partF (bitN (m : Int)) A p k = partF (bitN (m : Int)) A' p k := by
      intro k
      induction k with
      | zero => intro _ p; rfl
      | succ k ih => intro hk p; rw [partF, partF, h k (by omega), ih (by omega)]
    rw [waysSum, waysSum, waysSum_congr n h m, key n (Nat.le_refl _)]
theorem ways_fin : ∀ n, n ≤ 5 → ∀ m, m < 2 ^ n → waysSum (fun i => ((m / 2 ^ i % 2 : Nat) : Int)) n (2 ^ n) = 3 ^ n := by decide +kernel
/-- a row of bits as a number -/
def maskN (A : Nat → Int) : Nat → Nat
  | 0 => 0
  | k + 1 => maskN A k + (if A k = 1 then 2 ^ k else 0)
theorem mask_lt (A : Nat → Int) : ∀ n, maskN A n < 2 ^ n
  | 0 => by simp [maskN]
  | n + 1 => by
    have := mask_lt A n
    rw [maskN, Nat.pow_succ]
    split <;> omega
theorem mask_bit (A : Nat → Int) : ∀ n, (∀ i, i < n → A i = 0 ∨ A i = 1) → ∀ i, i < n → ((maskN A n / 2 ^ i % 2 : Nat) : Int) = A i
  | 0, _, i, hi => by omega
  | n + 1, h, i, hi => by
    have hl := mask_lt A n
    rw [maskN]
    by_cases c : i = n
    · subst c
      have hp : 0 < 2 ^ i := Nat.pow_pos (by decide)
      rcases h i (by omega) with z | z
      · rw [z, if_neg (by decide), Nat.add_zero, Nat.div_eq_of_lt hl]; rfl
      · rw [z, if_pos rfl, Nat.add_div_right _ hp, Nat.div_eq_of_lt hl]; rfl
    · have ih := mask_bit A n (fun j hj => h j (by omega)) i (by omega)
      rw [← ih]
      rcases h n (by omega) with z | z
      · rw [z, if_neg (by decide), Nat.add_zero]
      · rw [z, if_pos rfl]
        have hk : 2 ^ n = 2 ^ i * (2 * 2 ^ (n - i - 1)) := by
          rw [← Nat.pow_succ', ← Nat.pow_add]
          congr 1
          omega
        rw [hk, Nat.add_mul_div_left _ _ (Nat.pow_pos (by decide)), Nat.add_mul_mod_self_left]
theorem ways_total (A : Nat → Int) (n : Nat) (hn : n ≤ 5) (hA : ∀ i, i < n → A i = 0 ∨ A i = 1) : waysSum A n (2 ^ n) = 3 ^ n := by
  rw [← ways_fin n hn (maskN A n) (mask_lt A n)]
  exact waysSum_congr n (fun i hi => (mask_bit A n hA i hi).symm) _
theorem two_idx : ∀ k : Nat, k < 5 → idx [(1 : Int), 2, 4, 8, 16] (k : Int) = some (2 ^ k) := by
  intro k hk
  match k, hk with
  | 0, _ => rfl
  | 1, _ => rfl
  | 2, _ => rfl
  | 3, _ => rfl
  | 4, _ => rfl
theorem rangeD_len0 (w : Nat) : (rangeD 0 (w : Int)).length = w := by rw [rangeD_length]; omega
theorem rg_nat (w : Nat) (h : w ≤ 16777216) : RgO 0 (w : Int) := rgS (by omega)
theorem all_ways (n : Nat) (B A : List Int) (hB : B.length = n) (hA : A.length = n) (hn : n ≤ 5) (bB : ∀ i, i < n → gI B (i : Int) = 0 ∨ gI B (i : Int) = 1) (bA : ∀ i, i < n → gI A (i : Int) = 0 ∨ gI A (i : Int) = 1) : law_all_ways_right_m B A = some true := by
  unfold law_all_ways_right_m
  simp only [set_eq, hB]
  have cp : CPow 1 (n : Int) := ⟨by omega, by omega, by decide⟩
  have cp2 : CPow 1 ((n : Int) + (n : Int)) := ⟨by omega, by omega, by decide⟩
  have tn : Int.toNat (n : Int) = n := Int.toNat_natCast n
  have tn2 : Int.toNat ((n : Int) + (n : Int)) = n + n := by omega
  have p2 : (2 : Nat) ^ n ≤ 32 := Nat.pow_le_pow_right (n := 2) (by decide) hn
  have e2 : (1 : Int) * 2 ^ n = ((2 ^ n : Nat) : Int) := by simp
  rw [need_of cp, tn, e2, need_of (rg_nat _ (by omega))]
  obtain ⟨s, e, h⟩ := forO_inv (step := law_all_ways_right_l2 B A (n : Int)) (fun i s => s = waysSum (fun i => gI A (i : Int)) n i) (xs := rangeD 0 ((2 ^ n : Nat) : Int)) (s0 := 0) rfl fun i s x hx hi => by
    obtain ⟨h1, h0, h3⟩ := rangeD_get? hx
    rw [Int.zero_add] at h1
    subst h1
    unfold law_all_ways_right_l2
    rw [need_of (rgS (by omega)), mapO_range n (fun k => bitN (i : Int) k) fun k hk => by
      rw [two_idx k (by omega), Option.bind_some, need_of (divS ?_)]
      · rfl
      · have : (2 : Int) ^ k = ((2 ^ k : Nat) : Int) := by simp
        have hp : 0 < 2 ^ k := Nat.pow_pos (n := k) (show 0 < 2 by decide)
        have hq : (2 : Nat) ^ k ≤ 2 ^ 5 := Nat.pow_le_pow_right (by decide) (by omega)
        omega]
    simp only [Option.bind_some, set_eq]
    rw [sent_ok n B A A _ hB hA hA (by simp) (by omega)]
    simp only [Option.bind_some]
    rw [need_of cp, need_of (rgS (by omega)), tn]
    have hl : ((List.map (chanceP B A A (((List.range n).map fun k => bitN (i : Int) k).map some)) (List.range n)).length : Int) = n := by simp
    have hd : decide (((List.map (chanceP B A A (((List.range n).map fun k => bitN (i : Int) k).map some)) (List.range n)).length : Int) ≠ n) = false := decide_eq_false fun z => z hl
    rw [hd]
    simp only [Bool.not_true, Bool.or_false, Bool.false_eq_true, if_false]
    rw [ways_inner n B A ((List.range n).map fun k => bitN (i : Int) k) hB hA (by simp) hn bB]
    simp only [Option.bind_some, O.then]
    refine ⟨_, rfl, ?_⟩
    rw [waysSum, hi, Int.one_mul]
    congr 1
    have key : ∀ k, k ≤ n → ∀ p, partF (fun k => gI ((List.range n).map fun k => bitN (i : Int) k) (k : Int)) (fun i => gI A (i : Int)) p k = partF (bitN (i : Int)) (fun i => gI A (i : Int)) p k := by
      intro k
      induction k with
      | zero => intro _ p; rfl
      | succ k ih => intro hk p; rw [partF, partF, gI_range _ n (by omega), ih (by omega)]
    exact key n (Nat.le_refl _) _
  have hl : (rangeD 0 ((2 ^ n : Nat) : Int)).length = 2 ^ n := rangeD_len0 _
  rw [hl, ways_total _ n hn bA] at h
  rw [e, h]
  simp only [Option.bind_some, O.then]
  rw [seen_ok n (by omega), Option.bind_some, need_of cp2, tn2]
  have e4 : (1 : Int) * 2 ^ (n + n) = 4 ^ n := by
    rw [Int.one_mul, show n + n = 2 * n by omega, Int.pow_mul]
    rfl
  rw [e4, ratio43 n (by omega), Option.bind_some, like_self (du_P du_I du_I) rfl]

/-! ### halves -/
theorem xor_bit (a b : Int) (ha : a = 0 ∨ a = 1) (hb : b = 0 ∨ b = 1) : Builtin.bitXor a b = if a = b then 0 else 1 := by
  rcases ha with rfl | rfl <;> rcases hb with rfl | rfl <;> decide
def hstep (U : List Int) (s : Int × Int × Int) : Int × Int × Int :=
  if List.sum (Pl.cutD U (some s.2.2) (some (s.2.2 + (s.2.1 - s.2.2) / 2))) % 2 = 1 then (s.1 + 1, s.2.2 + (s.2.1 - s.2.2) / 2, s.2.2) else (s.1 + 1, s.2.1, s.2.2 + (s.2.1 - s.2.2) / 2)
theorem odd_step (U : List Int) (s : Int × Int × Int) : found_odd_b2 U s = some (hstep U s) := by
  unfold found_odd_b2 hstep
  simp only [set_eq]
  by_cases c : List.sum (Pl.cutD U (some s.2.2) (some (s.2.2 + (s.2.1 - s.2.2) / 2))) % 2 = 1 <;> simp [c]
theorem halved_step (U : List Int) (s : Int × Int × Int) (x : Int) : law_halved_l1 U s x = if s.2.1 - s.2.2 < 2 then some (.bk s) else some (.nx (hstep U s)) := by
  unfold law_halved_l1 hstep
  simp only [set_eq]
  by_cases d : s.2.1 - s.2.2 < 2
  · simp [d]
  · by_cases c : List.sum (Pl.cutD U (some s.2.2) (some (s.2.2 + (s.2.1 - s.2.2) / 2))) % 2 = 1 <;> simp [c, d]
theorem cut_nat (U : List Int) (l h : Nat) (hl : l ≤ h) (hh : h ≤ U.length) : Pl.cutD U (some (l : Int)) (some (h : Int)) = (U.drop l).take (h - l) := by
  unfold Pl.cutD
  rw [HT.sIx_nat, HT.sIx_nat, Nat.min_eq_left hh, Nat.min_eq_left (Nat.le_trans hl hh)]
theorem cut_split (U : List Int) (l m h : Nat) (h1 : l ≤ m) (h2 : m ≤ h) (hh : h ≤ U.length) : List.sum ((U.drop l).take (h - l)) = List.sum ((U.drop l).take (m - l)) + List.sum ((U.drop m).take (h - m)) := by
  have e : h - l = (m - l) + (h - m) := by omega
  rw [e, List.take_add, List.sum_append_int, List.drop_drop]
  rw [show l + (m - l) = m by omega]
/-- both ways to halve end alike -/
theorem halve (U : List Int) : ∀ (n : Nat) (t : Int) (l h : Nat) (xs : List Int) (fuel : Nat), l < h → h ≤ U.length → h - l ≤ 2 ^ n → n ≤ xs.length → n + 1 ≤ fuel → List.sum ((U.drop l).take (h - l)) % 2 = 1 →
    ∃ (t' : Int) (l' : Nat), l' < U.length ∧ List.sum ((U.drop l').take 1) % 2 = 1 ∧ forO (law_halved_l1 U) xs (t, (h : Int), (l : Int)) = some (.nx (t', ((l' + 1 : Nat) : Int), (l' : Int))) ∧ whileS found_odd_c1 (found_odd_b2 U) fuel (t, (h : Int), (l : Int)) = some (t', ((l' + 1 : Nat) : Int), (l' : Int)) := by
  intro n
  induction n with
  | zero =>
    intro t l h xs fuel h1 h2 h3 h4 h5 h6
    have e : h = l + 1 := by have : (2 : Nat) ^ 0 = 1 := rfl; omega
    subst e
    obtain ⟨f, rfl⟩ : ∃ f, fuel = f + 1 := ⟨fuel - 1, by omega⟩
    rw [show l + 1 - l = 1 by omega] at h6
    refine ⟨t, l, by omega, h6, ?_, ?_⟩
    · cases xs with
      | nil => rfl
      | cons x xs =>
        show (law_halved_l1 U (t, ((l + 1 : Nat) : Int), (l : Int)) x).bind _ = _
        rw [halved_step, if_pos (by show ((l + 1 : Nat) : Int) - (l : Int) < 2; omega)]
        rfl
    · show (found_odd_c1 (t, ((l + 1 : Nat) : Int), (l : Int))).bind _ = _
      have hd : decide (1 < (((l + 1 : Nat) : Int) - (l : Int))) = false := decide_eq_false (by omega)
      unfold found_odd_c1
      simp only [hd, Option.bind_some]
      rfl
  | succ n ih =>
    intro t l h xs fuel h1 h2 h3 h4 h5 h6
    obtain ⟨f, rfl⟩ : ∃ f, fuel = f + 1 := ⟨fuel - 1, by omega⟩
    cases xs with
    | nil => simp at h4
    | cons x xs =>
      by_cases hc : h - l < 2
      · have e : h = l + 1 := by omega
        subst e
        rw [show l + 1 - l = 1 by omega] at h6
        refine ⟨t, l, by omega, h6, ?_, ?_⟩
        · show (law_halved_l1 U (t, ((l + 1 : Nat) : Int), (l : Int)) x).bind _ = _
          rw [halved_step, if_pos (by show ((l + 1 : Nat) : Int) - (l : Int) < 2; omega)]
          rfl
        · show (found_odd_c1 (t, ((l + 1 : Nat) : Int), (l : Int))).bind _ = _
          have hd : decide (1 < (((l + 1 : Nat) : Int) - (l : Int))) = false := decide_eq_false (by omega)
          unfold found_odd_c1
          simp only [hd, Option.bind_some]
          rfl
      · have hd : decide (1 < ((h : Int) - (l : Int))) = true := decide_eq_true (by omega)
        have hm : (l : Int) + ((h : Int) - (l : Int)) / 2 = ((l + (h - l) / 2 : Nat) : Int) := by omega
        have hs : hstep U (t, (h : Int), (l : Int)) = if List.sum ((U.drop l).take ((h - l) / 2)) % 2 = 1 then (t + 1, ((l + (h - l) / 2 : Nat) : Int), (l : Int)) else (t + 1, (h : Int), ((l + (h - l) / 2 : Nat) : Int)) := by
          unfold hstep
          simp only [hm]
          rw [cut_nat U l (l + (h - l) / 2) (by omega) (by omega), show l + (h - l) / 2 - l = (h - l) / 2 by omega]
        have sp := cut_split U l (l + (h - l) / 2) h (by omega) (by omega) h2
        rw [show l + (h - l) / 2 - l = (h - l) / 2 by omega] at sp
        have hp : (2 : Nat) ^ (n + 1) = 2 ^ n * 2 := Nat.pow_succ 2 n
        have first : forO (law_halved_l1 U) (x :: xs) (t, (h : Int), (l : Int)) = forO (law_halved_l1 U) xs (hstep U (t, (h : Int), (l : Int))) := by
          show (law_halved_l1 U (t, (h : Int), (l : Int)) x).bind _ = _
          rw [halved_step, if_neg (by show ¬ (h : Int) - (l : Int) < 2; omega)]
          rfl
        have second : whileS found_odd_c1 (found_odd_b2 U) (f + 1) (t, (h : Int), (l : Int)) = whileS found_odd_c1 (found_odd_b2 U) f (hstep U (t, (h : Int), (l : Int))) := by
          show (found_odd_c1 (t, (h : Int), (l : Int))).bind _ = _
          unfold found_odd_c1
          simp only [hd, Option.bind_some, if_true]
          rw [odd_step]
          rfl
        rw [first, second, hs]
        by_cases c : List.sum ((U.drop l).take ((h - l) / 2)) % 2 = 1
        · rw [if_pos c]
          exact ih _ l (l + (h - l) / 2) xs f (by omega) (by omega) (by omega) (by simpa using h4) (by omega) (by rw [show l + (h - l) / 2 - l = (h - l) / 2 by omega]; exact c)
        · rw [if_neg c]
          exact ih _ (l + (h - l) / 2) h xs f (by omega) h2 (by omega) (by simpa using h4) (by omega) (by omega)

theorem take1 (U : List Int) (l : Nat) (h : l < U.length) : List.sum ((U.drop l).take 1) = gI U (l : Int) := by
  rw [List.drop_eq_getElem_cons h]
  show List.sum [U[l]] = _
  simp [gI, List.getD, h]
/-- the unlike places of two rows -/
def unl (X Y : List Int) (n : Nat) : List Int := (List.range n).map fun (i : Nat) => Builtin.bitXor (gI X (i : Int)) (gI Y (i : Int))
theorem unl_zip (X Y : List Int) (n : Nat) (hX : X.length = n) (hY : Y.length = n) : List.map (fun z1 : Int × Int => Builtin.bitXor z1.1 z1.2) (List.zip X Y) = unl X Y n := by
  subst hX
  unfold unl
  refine List.ext_getElem? fun i => ?_
  rw [List.zip, List.map_zipWith, List.getElem?_zipWith, List.getElem?_map]
  by_cases h : i < X.length
  · have h2 : i < Y.length := by omega
    simp [h, h2, gI, List.getD]
  · simp [h]
theorem found_eq (X Y : List Int) (n : Nat) (hX : X.length = n) (hY : Y.length = n) (hn : n ≤ 100) : (List.sum (unl X Y n) % 2 = 0 ∧ found_odd_m X Y = some none) ∨ (List.sum (unl X Y n) % 2 = 1 ∧ ∃ (t : Int) (l : Nat), l < n ∧ List.sum ((List.drop l (unl X Y n)).take 1) % 2 = 1 ∧ law_halved_m (unl X Y n) = some ((l : Int), t) ∧ found_odd_m X Y = some (some ((l : Int), t))) := by
  unfold found_odd_m
  simp only [set_eq, unl_zip X Y n hX hY]
  have hl : (unl X Y n).length = n := by unfold unl; simp
  by_cases c : List.sum (unl X Y n) % 2 = 0
  · exact .inl ⟨c, by simp [c]⟩
  · have c1 : List.sum (unl X Y n) % 2 = 1 := by omega
    right
    have h0 : 0 < n := by
      rcases Nat.eq_zero_or_pos n with h | h
      · subst h
        exact absurd (show List.sum (unl X Y 0) % 2 = 0 from rfl) c
      · exact h
    have p7 : (2 : Nat) ^ 7 = 128 := rfl
    obtain ⟨t, l, h1, h2, h3, h4⟩ := halve (unl X Y n) 7 0 0 n (rangeD 0 12) 1000000 h0 (by omega) (by omega) (by decide) (by omega) (by
      rw [List.drop_zero, Nat.sub_zero, List.take_of_length_le (by omega)]
      exact c1)
    refine ⟨c1, t, l, by omega, h2, ?_, ?_⟩
    · unfold law_halved_m
      simp only [set_eq, hl]
      rw [need_of (rgS (by omega))]
      have h3' : forO (law_halved_l1 (unl X Y n)) (rangeD 0 12) (0, (n : Int), 0) = some (.nx (t, ((l + 1 : Nat) : Int), (l : Int))) := h3
      rw [h3']
      rfl
    · simp only [c, decide_false, Bool.false_eq_true, if_false, hl]
      have h4' : whileS found_odd_c1 (found_odd_b2 (unl X Y n)) 1000000 (0, (n : Int), 0) = some (t, ((l + 1 : Nat) : Int), (l : Int)) := h4
      rw [h4']
      rfl
theorem unl_congr {X Y X' Y' : List Int} {n : Nat} (h : ∀ i : Nat, i < n → Builtin.bitXor (gI X (i : Int)) (gI Y (i : Int)) = Builtin.bitXor (gI X' (i : Int)) (gI Y' (i : Int))) : unl X Y n = unl X' Y' n := by
  unfold unl
  exact List.map_congr_left fun i hi => h i (List.mem_range.mp hi)
theorem sum_set : ∀ (U : List Int) (l : Nat), l < U.length → List.sum (U.set l 0) = List.sum U - gI U (l : Int)
  | u :: U, 0, _ => by
    show 0 + List.sum U = (u + List.sum U) - u
    omega
  | u :: U, l + 1, h => by
    have ih := sum_set U l (by simpa using h)
    have e : gI (u :: U) ((l + 1 : Nat) : Int) = gI U (l : Int) := rfl
    show u + List.sum (U.set l 0) = (u + List.sum U) - _
    rw [ih, e]
    omega
theorem found_same (X Y X' Y' : List Int) (n : Nat) (hX : X.length = n) (hY : Y.length = n) (hX' : X'.length = n) (hY' : Y'.length = n) (h : unl X Y n = unl X' Y' n) : found_odd_m X Y = found_odd_m X' Y' := by
  unfold found_odd_m
  simp only [set_eq, unl_zip X Y n hX hY, unl_zip X' Y' n hX' hY', h]
theorem odd_right (n : Nat) (M Y T : List Int) (hM : M.length = n) (hY : Y.length = n) (hT : T.length = n) (hn : n ≤ 100) (bM : ∀ i : Nat, i < n → gI M (i : Int) = 0 ∨ gI M (i : Int) = 1) (bY : ∀ i : Nat, i < n → gI Y (i : Int) = 0 ∨ gI Y (i : Int) = 1) (bT : ∀ i : Nat, i < n → gI T (i : Int) = 0 ∨ gI T (i : Int) = 1) : law_odd_right_m M Y T = some true := by
  unfold law_odd_right_m
  simp only [set_eq, hM]
  have xo : ∀ (P Q : List Int), P.length = n → Q.length = n → mapO (fun z1 : Int => Option.bind (idx P z1) fun x1 => Option.bind (idx Q z1) fun x2 => some (Builtin.bitXor x1 x2)) (rangeD 0 (n : Int)) = some (unl P Q n) := fun P Q hP hQ => mapO_range n _ fun i hi => by
    rw [idx_n (by omega), idx_n (by omega)]
    rfl
  rw [need_of (rg_nat n (by omega)), xo M Y hM hY]
  simp only [Option.bind_some]
  simp only [need_of (rg_nat n (by omega)), xo M T hM hT, xo Y T hY hT, Option.bind_some]
  have lu : ∀ P Q : List Int, (unl P Q n).length = n := fun P Q => by unfold unl; simp
  have f2 : found_odd_m Y M = found_odd_m M Y := found_same Y M M Y n hY hM hM hY (unl_congr fun i hi => by
    rw [xor_bit _ _ (bY i hi) (bM i hi), xor_bit _ _ (bM i hi) (bY i hi)]
    by_cases c : gI M (i : Int) = gI Y (i : Int)
    · simp [c]
    · have c' : ¬ gI Y (i : Int) = gI M (i : Int) := fun z => c z.symm
      simp [c, c'])
  have f3 : found_odd_m (unl M T n) (unl Y T n) = found_odd_m M Y := found_same _ _ M Y n (lu _ _) (lu _ _) hM hY (unl_congr fun i hi => by
    have g1 : gI (unl M T n) (i : Int) = Builtin.bitXor (gI M (i : Int)) (gI T (i : Int)) := gI_range _ n hi
    have g2 : gI (unl Y T n) (i : Int) = Builtin.bitXor (gI Y (i : Int)) (gI T (i : Int)) := gI_range _ n hi
    rw [g1, g2]
    rcases bM i hi with h1 | h1 <;> rcases bY i hi with h2 | h2 <;> rcases bT i hi with h3 | h3 <;> rw [h1, h2, h3] <;> decide)
  simp only [f2, f3]
  have bU : ∀ i : Nat, i < n → gI (unl M Y n) (i : Int) = 0 ∨ gI (unl M Y n) (i : Int) = 1 := fun i hi => by
    have g1 : gI (unl M Y n) (i : Int) = Builtin.bitXor (gI M (i : Int)) (gI Y (i : Int)) := gI_range _ n hi
    rw [g1, xor_bit _ _ (bM i hi) (bY i hi)]
    by_cases c : gI M (i : Int) = gI Y (i : Int) <;> simp [c]
  rcases found_eq M Y n hM hY hn with ⟨h0, hf⟩ | ⟨h1, t, l, hl, hs, hh, hf⟩
  · have d0 : decide (List.sum (unl M Y n) % 2 = 1) = false := decide_eq_false (by omega)
    rw [d0, hf]
    simp only [Bool.false_eq_true, if_false, Option.bind_some]
    rw [like_self (du_P (du_O (du_P du_I du_I)) (du_O (du_P du_I du_I))) rfl, like_self (du_O (du_P du_I du_I)) rfl]
    rfl
  · have d0 : decide (List.sum (unl M Y n) % 2 = 1) = true := decide_eq_true h1
    rw [d0, hf, hh]
    simp only [if_true, Option.bind_some]
    rw [like_self (du_P (du_O (du_P du_I du_I)) (du_O (du_P du_I du_I))) rfl, like_self (du_O (du_P du_I du_I)) rfl]
    rw [take1 _ l (by rw [lu]; exact hl)] at hs
    have u1 : gI (unl M Y n) (l : Int) = 1 := by
      rcases bU l hl with h | h
      · rw [h] at hs; cases hs
      · exact h
    have ix : idx (unl M Y n) (l : Int) = some 1 := by rw [idx_n (by rw [lu]; exact hl), u1]
    have ixM : idx M (l : Int) = some (gI M (l : Int)) := idx_n (by omega)
    simp only [Bool.not_true, Bool.false_eq_true, if_false, Option.isNone_some, Bool.false_or, ix, ixM, Option.bind_some, decide_true, if_true]
    by_cases c : List.sum (unl M Y n) = 1
    · simp [c]
    · simp only [c, decide_false, Bool.false_eq_true, if_false]
      have c1 : Pl.cutD Y none (some (l : Int)) = Y.take l := by
        unfold Pl.cutD
        rw [HT.sIx_nat, HT.sIx_none, Nat.min_eq_left (by omega), List.drop_zero, Nat.sub_zero]
      have c2 : Pl.cutD Y (some ((l : Int) + 1)) none = Y.drop (l + 1) := by
        unfold Pl.cutD
        rw [show (l : Int) + 1 = ((l + 1 : Nat) : Int) from rfl, HT.sIx_nat, HT.sIx_none, Nat.min_eq_left (by omega), List.take_of_length_le (by simp)]
      rw [c1, c2]
      have e : Y.take l ++ [gI M (l : Int)] ++ Y.drop (l + 1) = Y.set l (gI M (l : Int)) := by
        rw [List.set_eq_take_append_cons_drop, if_pos (by omega), List.append_assoc]
        rfl
      rw [e]
      have z1 : SzOk ((Y.take l).length + [gI M (l : Int)].length) := by unfold SzOk; simp; omega
      have z2 : SzOk ((Y.take l ++ [gI M (l : Int)]).length + (Y.drop (l + 1)).length) := by unfold SzOk; simp; omega
      rw [need_of z1, need_of z2]
      have es : unl M (Y.set l (gI M (l : Int))) n = (unl M Y n).set l 0 := by
        refine List.ext_getElem? fun i => ?_
        unfold unl
        rw [List.getElem?_map, List.getElem?_set, List.getElem?_map]
        by_cases hi : i < n
        · by_cases hli : l = i
          · subst hli
            have g : gI (Y.set l (gI M (l : Int))) (l : Int) = gI M (l : Int) := by
              unfold gI
              simp [List.getD, hY, hl]
            simp [hi, g, xor_bit _ _ (bM l hl) (bM l hl)]
          · have g : gI (Y.set l (gI M (l : Int))) (i : Int) = gI Y (i : Int) := by
              unfold gI
              simp [List.getD, List.getElem?_set_ne hli]
            simp [hi, hli, g]
        · simp [hi]
          omega
      have hz := sum_set (unl M Y n) l (by rw [lu]; exact hl)
      rw [← es, u1] at hz
      rcases found_eq M (Y.set l (gI M (l : Int))) n hM (by simpa using hY) hn with ⟨_, hf2⟩ | ⟨h2, _⟩
      · rw [hf2]
        rfl
      · omega

/-! ### the law -/
theorem mod2 (a : Int) : a % 2 = 0 ∨ a % 2 = 1 := by omega
theorem opts6 : ∀ v : Int, 0 ≤ v → v < 6 → idx [(some 0 : Option Int), some 1, none, some 0, none, some 1] v = some (gI [(some 0 : Option Int), some 1, none, some 0, none, some 1] v) := fun v h0 h1 => idx_in h0 h1
theorem opts6b : ∀ v : Int, 0 ≤ v → v < 6 → gI [(some 0 : Option Int), some 1, none, some 0, none, some 1] v = none ∨ gI [(some 0 : Option Int), some 1, none, some 0, none, some 1] v = some 0 ∨ gI [(some 0 : Option Int), some 1, none, some 0, none, some 1] v = some 1 := fun v h0 h1 => by
  have : gI [(some 0 : Option Int), some 1, none, some 0, none, some 1] v ∈ [(some 0 : Option Int), some 1, none, some 0, none, some 1] := gI_mem h0 h1
  generalize gI [(some 0 : Option Int), some 1, none, some 0, none, some 1] v = w at this ⊢
  simp only [List.mem_cons, List.not_mem_nil, or_false] at this
  rcases this with h | h | h | h | h | h <;> simp [h]
theorem parts4 : ∀ v : Int, 0 ≤ v → v < 4 → ∃ p : Int, 0 < p ∧ idx [(2 : Int), 5, 30, 1000] v = some p := fun v h0 h1 => by
  have : gI [(2 : Int), 5, 30, 1000] v ∈ [(2 : Int), 5, 30, 1000] := gI_mem h0 h1
  refine ⟨gI [(2 : Int), 5, 30, 1000] v, ?_, idx_in h0 h1⟩
  generalize gI [(2 : Int), 5, 30, 1000] v = w at this ⊢
  simp only [List.mem_cons, List.not_mem_nil, or_false] at this
  omega
/-- the last part: the row of a size -/
theorem last_part (row : List Int) (hl : row.length = 195) (n : Nat) (h1 : 1 ≤ n) (hn : n ≤ 100) (p : Int) (hp : 0 < p) :
    (need (RgO 0 (n : Int)) <| Option.bind (mapO (fun z7 : Int => (Option.bind (idx row (94 + z7)) fun x19 => some ((x19 / 4) % 2))) (rangeD 0 (n : Int))) fun ys7 => (need (RgO 0 (n : Int)) <| Option.bind (mapO (fun z8 : Int => (Option.bind (idx row (94 + z8)) fun x20 => some ((x20 / 8) % 2))) (rangeD 0 (n : Int))) fun ys8 => (need (RgO 0 (n : Int)) <| Option.bind (mapO (fun z9 : Int => (Option.bind (idx ys7 z9) fun x21 => Option.bind (idx row (94 + z9)) fun x22 => need (0 < p) <| some (Builtin.bitXor x21 (if (decide (((x22 / 16) % p) = 1)) = true then 1 else 0)))) (rangeD 0 (n : Int))) fun ys9 => (Option.bind (idx row 92) fun x23 => need (0 < (n : Int)) <| (Option.bind (idx ys7 (x23 % (n : Int))) fun x24 => Option.bind (setAt ys9 (x23 % (n : Int)) (1 - x24)) fun yours2 => (Option.bind (law_odd_right_m ys7 yours2 ys8) fun law_od1 => if (!law_od1) = true then some false else (Option.bind (idx row 93) fun x25 => need (0 < (n : Int)) <| (Option.bind (idx yours2 (x25 % (n : Int))) fun x26 => Option.bind (setAt yours2 (x25 % (n : Int)) (1 - x26)) fun yours3 => (Option.bind ((if (decide (yours3 = ys7)) = true then some true else (Option.bind (law_odd_right_m ys7 yours3 ys8) fun law_od2 => some law_od2))) fun b1 => some b1))))))))) = some true := by
  have ix : ∀ c : Int, 0 ≤ c → c < 195 → idx row c = some (gI row c) := fun c h0 h1 => idx_in h0 (by omega)
  have hrg : RgO 0 (n : Int) := rg_nat n (by omega)
  let M : List Int := (List.range n).map fun (i : Nat) => gI row (94 + (i : Int)) / 4 % 2
  let T : List Int := (List.range n).map fun (i : Nat) => gI row (94 + (i : Int)) / 8 % 2
  let X : Nat → Int := fun i => if decide (gI row (94 + (i : Int)) / 16 % p = 1) = true then 1 else 0
  let Y : List Int := (List.range n).map fun (i : Nat) => Builtin.bitXor (gI M (i : Int)) (X i)
  have lM : M.length = n := by simp [M]
  have lT : T.length = n := by simp [T]
  have lY : Y.length = n := by simp [Y]
  have m7 : mapO (fun z7 : Int => (Option.bind (idx row (94 + z7)) fun x19 => some ((x19 / 4) % 2))) (rangeD 0 (n : Int)) = some M := mapO_range n _ fun i hi => by rw [ix _ (by omega) (by omega)]; rfl
  have m8 : mapO (fun z8 : Int => (Option.bind (idx row (94 + z8)) fun x20 => some ((x20 / 8) % 2))) (rangeD 0 (n : Int)) = some T := mapO_range n _ fun i hi => by rw [ix _ (by omega) (by omega)]; rfl
  have m9 : mapO (fun z9 : Int => (Option.bind (idx M z9) fun x21 => Option.bind (idx row (94 + z9)) fun x22 => need (0 < p) <| some (Builtin.bitXor x21 (if (decide (((x22 / 16) % p) = 1)) = true then 1 else 0)))) (rangeD 0 (n : Int)) = some Y := mapO_range n _ fun i hi => by
    rw [ix _ (by omega) (by omega), idx_n (by omega), Option.bind_some, Option.bind_some, need_of hp]
  have gM : ∀ i : Nat, i < n → gI M (i : Int) = 0 ∨ gI M (i : Int) = 1 := fun i hi => by
    rw [gI_range _ n hi]; exact mod2 _
  have gT : ∀ i : Nat, i < n → gI T (i : Int) = 0 ∨ gI T (i : Int) = 1 := fun i hi => by
    rw [gI_range _ n hi]; exact mod2 _
  have gX : ∀ i : Nat, X i = 0 ∨ X i = 1 := fun i => by
    show (if decide (gI row (94 + (i : Int)) / 16 % p = 1) = true then (1 : Int) else 0) = 0 ∨ (if decide (gI row (94 + (i : Int)) / 16 % p = 1) = true then (1 : Int) else 0) = 1
    cases decide (gI row (94 + (i : Int)) / 16 % p = 1) <;> simp
  have gY : ∀ i : Nat, i < n → gI Y (i : Int) = 0 ∨ gI Y (i : Int) = 1 := fun i hi => by
    rw [gI_range _ n hi, xor_bit _ _ (gM i hi) (gX i)]
    by_cases c : gI M (i : Int) = X i <;> simp [c]
  have n0 : 0 < (n : Int) := by omega
  obtain ⟨a, ha⟩ : ∃ a : Nat, gI row 92 % (n : Int) = a := ⟨(gI row 92 % (n : Int)).toNat, by have := Int.emod_nonneg (gI row 92) (show (n : Int) ≠ 0 by omega); omega⟩
  have ha2 : a < n := by have := Int.emod_lt_of_pos (gI row 92) n0; omega
  obtain ⟨b, hb⟩ : ∃ b : Nat, gI row 93 % (n : Int) = b := ⟨(gI row 93 % (n : Int)).toNat, by have := Int.emod_nonneg (gI row 93) (show (n : Int) ≠ 0 by omega); omega⟩
  have hb2 : b < n := by have := Int.emod_lt_of_pos (gI row 93) n0; omega
  have sA : setAt Y (a : Int) (1 - gI M (a : Int)) = some (Y.set a (1 - gI M (a : Int))) := setAt_in (by omega) (by omega)
  have g2 : ∀ (Z : List Int) (c : Nat) (v : Int), Z.length = n → (∀ i : Nat, i < n → gI Z (i : Int) = 0 ∨ gI Z (i : Int) = 1) → (v = 0 ∨ v = 1) → ∀ i : Nat, i < n → gI (Z.set c v) (i : Int) = 0 ∨ gI (Z.set c v) (i : Int) = 1 := fun Z c v hZ h hv i hi => by
    by_cases hc : c = i
    · subst hc
      have : gI (Z.set c v) (c : Int) = v := by
        unfold gI
        simp [List.getD, hZ, hi]
      rw [this]; exact hv
    · have : gI (Z.set c v) (i : Int) = gI Z (i : Int) := by
        unfold gI
        simp [List.getD, List.getElem?_set_ne hc]
      rw [this]; exact h i hi
  have f1 : ∀ v : Int, (v = 0 ∨ v = 1) → (1 - v = 0 ∨ 1 - v = 1) := fun v hv => by omega
  let Y2 : List Int := Y.set a (1 - gI M (a : Int))
  have lY2 : Y2.length = n := by simp [Y2, lY]
  have gY2 : ∀ i : Nat, i < n → gI Y2 (i : Int) = 0 ∨ gI Y2 (i : Int) = 1 := g2 Y a _ lY gY (f1 _ (gM a ha2))
  have sB : setAt Y2 (b : Int) (1 - gI Y2 (b : Int)) = some (Y2.set b (1 - gI Y2 (b : Int))) := setAt_in (by omega) (by omega)
  let Y3 : List Int := Y2.set b (1 - gI Y2 (b : Int))
  have lY3 : Y3.length = n := by simp [Y3, lY2]
  have gY3 : ∀ i : Nat, i < n → gI Y3 (i : Int) = 0 ∨ gI Y3 (i : Int) = 1 := g2 Y2 b _ lY2 gY2 (f1 _ (gY2 b hb2))
  have o1 := odd_right n M Y2 T lM lY2 lT hn gM gY2 gT
  have o2 := odd_right n M Y3 T lM lY3 lT hn gM gY3 gT
  have iM : idx M (a : Int) = some (gI M (a : Int)) := idx_n (by omega)
  have iY : idx Y2 (b : Int) = some (gI Y2 (b : Int)) := idx_n (by omega)
  simp only [need_of hrg, m7, m8, m9, Option.bind_some, ix 92 (by omega) (by omega), ix 93 (by omega) (by omega), need_of n0, ha, hb, iM]
  rw [sA]
  simp only [Option.bind_some]
  rw [o1]
  simp only [Option.bind_some, Bool.not_true, Bool.false_eq_true, if_false]
  rw [iY]
  simp only [Option.bind_some]
  rw [sB]
  simp only [Option.bind_some]
  by_cases c : Y3 = M
  · have d : decide (Y3 = M) = true := decide_eq_true c
    rw [d]
    rfl
  · have d : decide (Y3 = M) = false := decide_eq_false c
    rw [d, o2]
    rfl
theorem law_true : ∀ ns : List Int, ns.length ≤ 63 → law_m ns = some true := by
  intro ns _
  obtain ⟨row, e, hl, hr⟩ := row_ok ns 195 (by omega)
  have e' : law_row_m ns 195 = some row := e
  have ix : ∀ c : Int, 0 ≤ c → c < 195 → idx row c = some (gI row c) := fun c h0 h1 => idx_in h0 (by omega)
  have nn : ∀ c : Int, 0 ≤ c → c < 195 → 0 ≤ gI row c := fun c h0 h1 => (hr _ (gI_mem h0 (by omega))).1
  unfold law_m
  rw [e']
  simp only [Option.bind_some, set_eq]
  rw [ix 0 (by omega) (by omega)]
  simp only [Option.bind_some]
  obtain ⟨n, hn⟩ : ∃ n : Nat, gI row 0 % 41 = n := ⟨(gI row 0 % 41).toNat, by omega⟩
  have hn2 : n ≤ 40 := by omega
  obtain ⟨w, hw⟩ : ∃ w : Nat, gI row 84 % 6 = w := ⟨(gI row 84 % 6).toNat, by omega⟩
  have hw2 : w ≤ 5 := by omega
  rw [hn]
  let B : List Int := (List.range n).map fun (i : Nat) => gI row (1 + (i : Int)) % 2
  let F : List Int := (List.range n).map fun (i : Nat) => gI row (1 + (i : Int)) / 2 % 2
  let S : List Int := (List.range n).map fun (i : Nat) => gI row (41 + (i : Int)) % 2
  let lf : Nat → Int := fun i => gI row (41 + (i : Int)) / 2 % (2 + 4 * (gI row 81 % 2))
  have h81 := mod2 (gI row 81)
  have lf0 : ∀ i : Nat, 0 ≤ lf i ∧ lf i < 6 := fun i => by
    show 0 ≤ gI row (41 + (i : Int)) / 2 % (2 + 4 * (gI row 81 % 2)) ∧ gI row (41 + (i : Int)) / 2 % (2 + 4 * (gI row 81 % 2)) < 6
    rcases h81 with h | h <;> rw [h] <;> omega
  let L : List (Option Int) := (List.range n).map fun (i : Nat) => gI [(some 0 : Option Int), some 1, none, some 0, none, some 1] (lf i)
  have m1 : mapO (fun z1 : Int => (Option.bind (idx row (1 + z1)) fun x2 => some (x2 % 2))) (rangeD 0 (n : Int)) = some B := mapO_range n _ fun i hi => by rw [ix _ (by omega) (by omega)]; rfl
  have m2 : mapO (fun z2 : Int => (Option.bind (idx row (1 + z2)) fun x3 => some ((x3 / 2) % 2))) (rangeD 0 (n : Int)) = some F := mapO_range n _ fun i hi => by rw [ix _ (by omega) (by omega)]; rfl
  have m3 : mapO (fun z3 : Int => (Option.bind (idx row (41 + z3)) fun x4 => some (x4 % 2))) (rangeD 0 (n : Int)) = some S := mapO_range n _ fun i hi => by rw [ix _ (by omega) (by omega)]; rfl
  have m4 : mapO (fun z4 : Int => (Option.bind (idx row (41 + z4)) fun x5 => Option.bind (idx row 81) fun x6 => need (0 < (2 + (4 * (x6 % 2)))) <| Option.bind (idx [(some 0), (some 1), (none : (Option Int)), (some 0), (none : (Option Int)), (some 1)] ((x5 / 2) % (2 + (4 * (x6 % 2))))) fun x7 => some x7)) (rangeD 0 (n : Int)) = some L := mapO_range n _ fun i hi => by
    rw [ix _ (by omega) (by omega), ix 81 (by omega) (by omega), Option.bind_some, Option.bind_some, need_of (by omega), opts6 _ (lf0 i).1 (lf0 i).2]
    rfl
  have m5 : mapO (fun z5 : Int => (Option.bind (idx row (85 + z5)) fun x11 => some (x11 % 2))) (rangeD 0 (w : Int)) = some ((List.range w).map fun (i : Nat) => gI row (85 + (i : Int)) % 2) := mapO_range w _ fun i hi => by rw [ix _ (by omega) (by omega)]; rfl
  have m6 : mapO (fun z6 : Int => (Option.bind (idx row (85 + z6)) fun x12 => some ((x12 / 2) % 2))) (rangeD 0 (w : Int)) = some ((List.range w).map fun (i : Nat) => gI row (85 + (i : Int)) / 2 % 2) := mapO_range w _ fun i hi => by rw [ix _ (by omega) (by omega)]; rfl
  have a1 : law_sent_right_m B F S L = some true := sent_right n B F S L (by simp [B]) (by simp [F]) (by simp [S]) (by simp [L]) (by omega)
    (fun i hi => by rw [gI_range _ n hi]; exact mod2 _) (fun i hi => by rw [gI_range _ n hi]; exact mod2 _) (fun i hi => by rw [gI_range _ n hi]; exact opts6b _ (lf0 i).1 (lf0 i).2)
  obtain ⟨u, hu⟩ : ∃ u : Nat, gI row 82 % 31 = u := ⟨(gI row 82 % 31).toNat, by omega⟩
  obtain ⟨v, hv⟩ : ∃ v : Nat, gI row 83 % 31 = v := ⟨(gI row 83 % 31).toNat, by omega⟩
  have a2 := unseen_right u v (by omega) (by omega)
  have a3 : law_all_ways_right_m ((List.range w).map fun (i : Nat) => gI row (85 + (i : Int)) % 2) ((List.range w).map fun (i : Nat) => gI row (85 + (i : Int)) / 2 % 2) = some true := all_ways w _ _ (by simp) (by simp) hw2 (fun i hi => by rw [gI_range _ w hi]; exact mod2 _) (fun i hi => by rw [gI_range _ w hi]; exact mod2 _)
  obtain ⟨p, hp, hp2⟩ := parts4 (gI row 91 % 4) (by omega) (by omega)
  simp only [need_of (rg_nat n (by omega)), m1, m2, m3, m4, Option.bind_some, a1, ix 82 (by omega) (by omega), ix 83 (by omega) (by omega), hu, hv, a2, Bool.not_true, Bool.false_eq_true, if_false, ix 84 (by omega) (by omega), hw, need_of (rg_nat w (by omega)), m5, m6, a3, ix 90 (by omega) (by omega), ix 91 (by omega) (by omega), hp2]
  by_cases c : gI row 90 % 3 = 2
  · obtain ⟨k, hk⟩ : ∃ k : Nat, 1 + gI row 90 / 3 % 100 = k := ⟨(1 + gI row 90 / 3 % 100).toNat, by omega⟩
    simp only [c, decide_true, if_true, Option.bind_some, hk]
    exact last_part row hl k (by omega) (by omega) p hp
  · obtain ⟨k, hk⟩ : ∃ k : Nat, 1 + gI row 90 % 14 = k := ⟨(1 + gI row 90 % 14).toNat, by omega⟩
    simp only [c, decide_false, Bool.false_eq_true, if_false, Option.bind_some, hk]
    exact last_part row hl k (by omega) (by omega) p hp
/-! ### the text -/
def topS (i : Nat) : Stmt := PySem.Challenge.pw_sealskept_k40_whole_listened_bases.main.body.getD i (.Pass ⟨0, 0, 0, 0⟩)
structure Facts (G : Gb) : Prop where
  f_divisor : At G "divisor" (defArgs (topS 1)) (defBody (topS 1)) (defScope (topS 1)) ["first", "second"]
  f_lowest : At G "lowest" (defArgs (topS 2)) (defBody (topS 2)) (defScope (topS 2)) ["a", "b"]
  f_sent_bases : At G "sent_bases" (defArgs (topS 4)) (defBody (topS 4)) (defScope (topS 4)) ["bits", "first", "second", "listener"]
  f_kept_places : At G "kept_places" (defArgs (topS 5)) (defBody (topS 5)) (defScope (topS 5)) ["first", "second"]
  f_seen_listening : At G "seen_listening" (defArgs (topS 6)) (defBody (topS 6)) (defScope (topS 6)) ["k"]
  f_bits_known : At G "bits_known" (defArgs (topS 7)) (defBody (topS 7)) (defScope (topS 7)) ["listener", "first", "second"]
  f_found_odd : At G "found_odd" (defArgs (topS 8)) (defBody (topS 8)) (defScope (topS 8)) ["first", "second"]
  f_law_mixed : At G "_law_mixed" (defArgs (topS 10)) (defBody (topS 10)) (defScope (topS 10)) ["script", "k"]
  f_law_row : At G "_law_row" (defArgs (topS 11)) (defBody (topS 11)) (defScope (topS 11)) ["script", "many"]
  f_law_is_int : At G "_law_is_int" (defArgs (topS 12)) (defBody (topS 12)) (defScope (topS 12)) ["value"]
  f_law_like : At G "_law_like" (defArgs (topS 13)) (defBody (topS 13)) (defScope (topS 13)) ["value", "due"]
  f_law_common : At G "_law_common" (defArgs (topS 14)) (defBody (topS 14)) (defScope (topS 14)) ["first", "second"]
  f_law_ratio : At G "_law_ratio" (defArgs (topS 15)) (defBody (topS 15)) (defScope (topS 15)) ["a", "b"]
  f_law_sent_right : At G "_law_sent_right" (defArgs (topS 16)) (defBody (topS 16)) (defScope (topS 16)) ["bits", "first", "second", "listener"]
  f_law_power : At G "_law_power" (defArgs (topS 17)) (defBody (topS 17)) (defScope (topS 17)) ["base", "many"]
  f_law_unseen_right : At G "_law_unseen_right" (defArgs (topS 18)) (defBody (topS 18)) (defScope (topS 18)) ["one", "other"]
  f_law_all_ways_right : At G "_law_all_ways_right" (defArgs (topS 19)) (defBody (topS 19)) (defScope (topS 19)) ["bits", "bases"]
  f_law_halved : At G "_law_halved" (defArgs (topS 20)) (defBody (topS 20)) (defScope (topS 20)) ["unlike"]
  f_law_odd_right : At G "_law_odd_right" (defArgs (topS 21)) (defBody (topS 21)) (defScope (topS 21)) ["mine", "yours", "third"]
  f_law : At G "law" (defArgs (topS 22)) (defBody (topS 22)) (defScope (topS 22)) ["script"]
  b_isinstance : G.mg "isinstance" = none
  b_int : G.mg "int" = none
  b_bool : G.mg "bool" = none
  b_tuple : G.mg "tuple" = none
  b_str : G.mg "str" = none
  b_all : G.mg "all" = none
  b_len : G.mg "len" = none
  b_range : G.mg "range" = none
  b_abs : G.mg "abs" = none
  b_enumerate : G.mg "enumerate" = none
  b_zip : G.mg "zip" = none
  b_sum : G.mg "sum" = none
  b_any : G.mg "any" = none
/-! the law's comparer -/
def C_is : SC := ⟨["value"], defScope (topS 12), fun _ => true⟩
theorem FS_is : FnScope C_is.N ["value"] (defScope (topS 12)) := ⟨rfl, rfl, rfl, by decide +kernel, rfl, by decide +kernel, by decide +kernel⟩
def isIntD : PyData → Bool
  | .int _ => true
  | _ => false
theorem g_is_isi : Gn C_is "isinstance" := gn (by decide +kernel)
theorem g_is_int : Gn C_is "int" := gn (by decide +kernel)
theorem g_is_bool : Gn C_is "bool" := gn (by decide +kernel)
theorem n_is_v : Nm C_is 0 "value" := nm (by decide +kernel)
theorem ok_isint {G : Gb} (T : Facts G) (v : PyData) : Fn G 1 "_law_is_int" [v] (.bool (isIntD v)) := by
  refine fn_def T.f_law_is_int FS_is rfl (r := .rt (.bool (isIntD v))) ?_ .rt
  show Blk G C_is _ [some (.sh v)] _ _
  cases v with
  | int i => exact blk_ret (st_ret (ev_andT (cIs g_is_isi T.b_isinstance g_is_int T.b_int bb_int (Ev.toB (vr 0 n_is_v rfl)) (show kitB "int" "int" = some true by decide +kernel) (fun _ => rfl)) (ev_one (ev_notB (t := false) (cIs g_is_isi T.b_isinstance g_is_bool T.b_bool bb_bool (Ev.toB (vr 0 n_is_v rfl)) (show kitB "int" "bool" = some false by decide +kernel) (fun _ => rfl))))))
  | bool b => exact blk_ret (st_ret (ev_andT (cIs g_is_isi T.b_isinstance g_is_int T.b_int bb_int (Ev.toB (vr 0 n_is_v rfl)) (show kitB "bool" "int" = some true by decide +kernel) (fun _ => rfl)) (ev_one (ev_notB (t := true) (cIs g_is_isi T.b_isinstance g_is_bool T.b_bool bb_bool (Ev.toB (vr 0 n_is_v rfl)) (show kitB "bool" "bool" = some true by decide +kernel) (fun _ => rfl))))))
  | none => exact blk_ret (st_ret (ev_andF (cIs g_is_isi T.b_isinstance g_is_int T.b_int bb_int (Ev.toB (vr 0 n_is_v rfl)) (show kitB "NoneType" "int" = some false by decide +kernel) (fun _ => rfl))))
  | str s => exact blk_ret (st_ret (ev_andF (cIs g_is_isi T.b_isinstance g_is_int T.b_int bb_int (Ev.toB (vr 0 n_is_v rfl)) (show kitB "str" "int" = some false by decide +kernel) (fun _ => rfl))))
  | list s => exact blk_ret (st_ret (ev_andF (cIs g_is_isi T.b_isinstance g_is_int T.b_int bb_int (Ev.toB (vr 0 n_is_v rfl)) (show kitB "list" "int" = some false by decide +kernel) (fun _ => rfl))))
  | tuple s => exact blk_ret (st_ret (ev_andF (cIs g_is_isi T.b_isinstance g_is_int T.b_int bb_int (Ev.toB (vr 0 n_is_v rfl)) (show kitB "tuple" "int" = some false by decide +kernel) (fun _ => rfl))))
  | dict s => exact blk_ret (st_ret (ev_andF (cIs g_is_isi T.b_isinstance g_is_int T.b_int bb_int (Ev.toB (vr 0 n_is_v rfl)) (show kitB "dict" "int" = some false by decide +kernel) (fun _ => rfl))))
def C_lk : SC := ⟨["value", "due", "k"], defScope (topS 13), fun _ => true⟩
theorem FS_lk : FnScope C_lk.N ["value", "due"] (defScope (topS 13)) := ⟨rfl, rfl, rfl, by decide +kernel, rfl, by decide +kernel, by decide +kernel⟩
theorem g_lk_isi : Gn C_lk "isinstance" := gn (by decide +kernel)
theorem g_lk_bool : Gn C_lk "bool" := gn (by decide +kernel)
theorem g_lk_tuple : Gn C_lk "tuple" := gn (by decide +kernel)
theorem g_lk_str : Gn C_lk "str" := gn (by decide +kernel)
theorem g_lk_len : Gn C_lk "len" := gn (by decide +kernel)
theorem g_lk_all : Gn C_lk "all" := gn (by decide +kernel)
theorem g_lk_range : Gn C_lk "range" := gn (by decide +kernel)
theorem g_lk_is : Gn C_lk "_law_is_int" := gn (by decide +kernel)
theorem n_lk_v : Nm C_lk 0 "value" := nm (by decide +kernel)
theorem n_lk_d : Nm C_lk 1 "due" := nm (by decide +kernel)
theorem ty_of {d : PyData} {T : String} (h : tyD d = T) {b : Bool} {U : String} (q : kitB T U = some b) : kitB (tyD d) U = some b := h ▸ q
theorem lk_if {G : Gb} {k : Nat} (T : Facts G) {ρ : PEnv} {e : Expr} {d : PyData} {x : Str} {U : String} {p1 p2 p3 : Pos} {b : Bool} (h : EvB G C_lk k ρ e d) (g : Gn C_lk x) (m : G.mg x = none) (bb : bootBuiltins x = some (.type U)) (q : kitB (tyD d) U = some b) (hs : ∀ env, starEach [e, .Name x p2] env = (false, eval e env) :: starEach [.Name x p2] env) : Te G C_lk k ρ (.Call (.Name "isinstance" p1) [e, .Name x p2] [] p3) b := te_val (Ev.toB (cIs g_lk_isi T.b_isinstance g m bb h q hs)) (fun _ _ => rfl)
theorem like_ty {v : PyData} {U : String} (h : tyD v ≠ U) (hU : U = "bool" ∨ U = "tuple" ∨ U = "str") : kitB (tyD v) U = some false := by
  rcases hU with rfl | rfl | rfl <;> cases v <;> first | exact absurd rfl h | (simp only [tyD]; decide +kernel)
theorem lk_row {G : Gb} {n : Nat} (ih : ∀ (due v : PyData), dueOk due = true → due.depth ≤ n → Fn G (n + 2) "_law_like" [v, due] (.bool (likeD v due))) : ∀ (vs ds : List PyData), vs.length = ds.length → dueA ds = true → PyData.depthAll ds ≤ n → ∀ (i : Nat) (v d : PyData), vs[i]? = some v → ds[i]? = some d → Fn G (n + 2) "_law_like" [v, d] (.bool (likeD v d))
  | [], _, _, _, _, i, v, d, h1, _ => by cases h1
  | _ :: _, [], h, _, _, _, _, _, _, _ => by cases h
  | x :: vs, y :: ds, h, ho, hd, 0, v, d, h1, h2 => by
    cases h1; cases h2
    exact ih _ _ (and_l ho) (Nat.le_trans (Nat.le_max_left _ _) hd)
  | x :: vs, y :: ds, h, ho, hd, i + 1, v, d, h1, h2 => lk_row ih vs ds (Nat.succ.inj h) (and_r ho) (Nat.le_trans (Nat.le_max_right _ _) hd) i v d h1 h2
section
variable {G : Gb} {k : Nat} {v due : PyData}
abbrev lkE (v due : PyData) : PEnv := [some (.sh v), some (.sh due), none]
theorem lk_v : Ev G C_lk k (lkE v due) (.Name "value" p) v := vr 0 n_lk_v rfl
theorem lk_d : Ev G C_lk k (lkE v due) (.Name "due" p) due := vr 1 n_lk_d rfl
end
theorem lk_body {G : Gb} (T : Facts G) (n : Nat) (ih : ∀ m, m < n → ∀ (due v : PyData), dueOk due = true → due.depth ≤ m → Fn G (m + 2) "_law_like" [v, due] (.bool (likeD v due))) (due v : PyData) (ho : dueOk due = true) (hd : due.depth ≤ n) :
    Blk G C_lk (n + 1) (lkE v due) (defBody (topS 13)) (.rt (.bool (likeD v due))) := by
  cases due with
  | none => exact blk_ret (st_ifT (te_cmp ok_is (Ev.toB lk_d) (Ev.toB ev_none) rfl) (blk_one (st_ret (ev_cmp (ok_is (d := v)) (Ev.toB lk_v) (Ev.toB ev_none) rfl))))
  | bool b =>
    refine blk_cons (ρ1 := lkE v (.bool b)) (st_ifF (te_cmp ok_is (Ev.toB lk_d) (Ev.toB ev_none) rfl) blk_nil) ?_
    refine blk_ret (st_ifT (lk_if T (Ev.toB lk_d) g_lk_bool T.b_bool bb_bool (show kitB "bool" "bool" = some true by decide +kernel) (fun _ => rfl)) (blk_one (st_ret ?_)))
    have no : tyD v ≠ "bool" → likeD v (.bool b) = false := fun h => by cases v <;> first | rfl | exact absurd rfl h
    by_cases hv : tyD v = "bool"
    · cases v with
      | bool c => exact ev_andT (cIs g_lk_isi T.b_isinstance g_lk_bool T.b_bool bb_bool (Ev.toB lk_v) (show kitB "bool" "bool" = some true by decide +kernel) (fun _ => rfl)) (ev_one (ev_cmp ok_eqB (Ev.toB lk_v) (Ev.toB lk_d) rfl))
      | _ => exact absurd hv (by simp [tyD])
    · rw [no hv]
      exact ev_andF (cIs g_lk_isi T.b_isinstance g_lk_bool T.b_bool bb_bool (Ev.toB lk_v) (like_ty hv (.inl rfl)) (fun _ => rfl))
  | int j =>
    refine blk_cons (ρ1 := lkE v (.int j)) (st_ifF (te_cmp ok_is (Ev.toB lk_d) (Ev.toB ev_none) rfl) blk_nil) ?_
    refine blk_cons (ρ1 := lkE v (.int j)) (st_ifF (lk_if T (Ev.toB lk_d) g_lk_bool T.b_bool bb_bool (show kitB "int" "bool" = some false by decide +kernel) (fun _ => rfl)) blk_nil) ?_
    refine blk_cons (ρ1 := lkE v (.int j)) (st_ifF (lk_if T (Ev.toB lk_d) g_lk_tuple T.b_tuple bb_tuple (show kitB "int" "tuple" = some false by decide +kernel) (fun _ => rfl)) blk_nil) ?_
    refine blk_cons (ρ1 := lkE v (.int j)) (st_ifF (lk_if T (Ev.toB lk_d) g_lk_str T.b_str bb_str (show kitB "int" "str" = some false by decide +kernel) (fun _ => rfl)) blk_nil) ?_
    refine blk_ret (st_ret ?_)
    have hi := ok_isint T v
    have le : 1 ≤ n + 1 := Nat.le_add_left 1 n
    have no : isIntD v = false → likeD v (.int j) = false := fun h => by cases v <;> first | rfl | cases h
    cases hv : isIntD v with
    | true =>
      rw [hv] at hi
      cases v with
      | int i => exact ev_andT (cF g_lk_is hi le (ea_cons lk_v ea_nil (fun _ => rfl)) (fun _ => rfl) (fun _ => rfl)) (ev_one (ev_cmp ok_eqI (Ev.toB lk_v) (Ev.toB lk_d) rfl))
      | _ => cases hv
    | false =>
      rw [hv] at hi
      rw [no hv]
      exact ev_andF (cF g_lk_is hi le (ea_cons lk_v ea_nil (fun _ => rfl)) (fun _ => rfl) (fun _ => rfl))
  | str x =>
    refine blk_cons (ρ1 := lkE v (.str x)) (st_ifF (te_cmp ok_is (Ev.toB lk_d) (Ev.toB ev_none) rfl) blk_nil) ?_
    refine blk_cons (ρ1 := lkE v (.str x)) (st_ifF (lk_if T (Ev.toB lk_d) g_lk_bool T.b_bool bb_bool (show kitB "str" "bool" = some false by decide +kernel) (fun _ => rfl)) blk_nil) ?_
    refine blk_cons (ρ1 := lkE v (.str x)) (st_ifF (lk_if T (Ev.toB lk_d) g_lk_tuple T.b_tuple bb_tuple (show kitB "str" "tuple" = some false by decide +kernel) (fun _ => rfl)) blk_nil) ?_
    refine blk_ret (st_ifT (lk_if T (Ev.toB lk_d) g_lk_str T.b_str bb_str (show kitB "str" "str" = some true by decide +kernel) (fun _ => rfl)) (blk_one (st_ret ?_)))
    have no : tyD v ≠ "str" → likeD v (.str x) = false := fun h => by cases v <;> first | rfl | exact absurd rfl h
    by_cases hv : tyD v = "str"
    · cases v with
      | str c => exact ev_andT (cIs g_lk_isi T.b_isinstance g_lk_str T.b_str bb_str (Ev.toB lk_v) (show kitB "str" "str" = some true by decide +kernel) (fun _ => rfl)) (ev_one (ev_cmp ok_eqS (Ev.toB lk_v) (Ev.toB lk_d) rfl))
      | _ => exact absurd hv (by simp [tyD])
    · rw [no hv]
      exact ev_andF (cIs g_lk_isi T.b_isinstance g_lk_str T.b_str bb_str (Ev.toB lk_v) (like_ty hv (.inr (.inr rfl))) (fun _ => rfl))
  | list ds => cases ho
  | dict ds => cases ho
  | tuple ds =>
    refine blk_cons (ρ1 := lkE v (.tuple ds)) (st_ifF (te_cmp ok_is (Ev.toB lk_d) (Ev.toB ev_none) rfl) blk_nil) ?_
    refine blk_cons (ρ1 := lkE v (.tuple ds)) (st_ifF (lk_if T (Ev.toB lk_d) g_lk_bool T.b_bool bb_bool (show kitB "tuple" "bool" = some false by decide +kernel) (fun _ => rfl)) blk_nil) ?_
    refine blk_ret (st_ifT (lk_if T (Ev.toB lk_d) g_lk_tuple T.b_tuple bb_tuple (show kitB "tuple" "tuple" = some true by decide +kernel) (fun _ => rfl)) ?_)
    have no : tyD v ≠ "tuple" → likeD v (.tuple ds) = false := fun h => by cases v <;> first | rfl | exact absurd rfl h
    by_cases hv : tyD v = "tuple"
    · cases v with
      | tuple vs =>
        have tv : Te G C_lk (n + 1) (lkE (.tuple vs) (.tuple ds)) _ true := lk_if T (p1 := ⟨0, 0, 0, 0⟩) (p2 := ⟨0, 0, 0, 0⟩) (p3 := ⟨0, 0, 0, 0⟩) (Ev.toB (lk_v (p := ⟨0, 0, 0, 0⟩))) g_lk_tuple T.b_tuple bb_tuple (show kitB "tuple" "tuple" = some true by decide +kernel) (fun _ => rfl)
        clear tv
        by_cases hl : vs.length = ds.length
        · have e : decide ((vs.length : Int) ≠ (ds.length : Int)) = false := decide_eq_false fun z => z (by rw [hl])
          refine blk_cons (ρ1 := lkE (.tuple vs) (.tuple ds)) (st_ifF (Tw.te (tw_orF (te_not (t := true) (lk_if T (Ev.toB lk_v) g_lk_tuple T.b_tuple bb_tuple (show kitB "tuple" "tuple" = some true by decide +kernel) (fun _ => rfl))) (tw_or1 (Te.to (te_cmp (ok_neI (i := (vs.length : Int)) (j := (ds.length : Int))) (Ev.toB (cB g_lk_len T.b_len bb_len (ok_len rfl) (eab_cons (Ev.toB lk_v) eab_nil (fun _ => rfl)) (fun _ => rfl) (fun _ => rfl))) (Ev.toB (cB g_lk_len T.b_len bb_len (ok_len rfl) (eab_cons (Ev.toB lk_d) eab_nil (fun _ => rfl)) (fun _ => rfl) (fun _ => rfl))) rfl) e)))) blk_nil) ?_
          have el : likeD (.tuple vs) (.tuple ds) = ((rangeD 0 (ds.length : Int)).map (likeI vs ds)).all id := by
            show (decide (vs.length = ds.length) && likeA vs ds) = _
            rw [decide_eq_true hl, likeA_I hl]; rfl
          rw [el]
          have h1 : PyData.depthAll ds + 1 ≤ n := hd
          obtain ⟨m, rfl⟩ : ∃ m, n = m + 1 := ⟨n - 1, by omega⟩
          refine blk_bd (f := id) (xs := ds) 1 (.inl (by rw [show eT id ds = .tuple ds from congrArg PyData.tuple (List.map_id ds)]; rfl)) fun hz => ?_
          · have hr : RgO 0 (ds.length : Int) := by unfold RgO; omega
            refine blk_ret (st_ret (cB g_lk_all T.b_all bb_all (ok_allL _) (eab_cons (Ev.toB (EvN.ev (nLc [("k", 2)] (by decide +kernel) (It'.toB (iR1 g_lk_range T.b_range (Ev.toB (cB g_lk_len T.b_len bb_len (ok_len rfl) (eab_cons (Ev.toB lk_d) eab_nil (fun _ => rfl)) (fun _ => rfl) (fun _ => rfl))) hr (fun _ => rfl))) (lcr_mapM (ea := eI) (eb := eB) (likeI vs ds) (rangeD 0 (ds.length : Int)) ?_) (zz_rg hr (len_m _ _)) (fun _ _ => rfl)))) eab_nil (fun _ => rfl)) (fun _ => rfl) (fun _ => rfl)))
            intro x hx
            obtain ⟨x0, x1⟩ := rangeD_mem hx
            obtain ⟨i, rfl⟩ := Int.eq_ofNat_of_zero_le x0
            have hi : i < ds.length := by omega
            have q1 : vs[i]? = some vs[i] := List.getElem?_eq_getElem (by omega)
            have q2 : ds[i]? = some ds[i] := List.getElem?_eq_getElem hi
            have hlk := lk_row (ih m (Nat.lt_succ_self m)) vs ds hl ho (by omega) i _ _ q1 q2
            have e3 : likeI vs ds (i : Int) = likeD vs[i] ds[i] := by
              unfold likeI
              rw [Int.toNat_natCast, q1, q2]
            rw [e3]
            refine step_one (by decide) (tN 2 (nms (by decide +kernel))) (cF (gn (by decide +kernel)) hlk (by omega) (ea_cons (ev_ixT (Ev.toB (vr 0 (nm (by decide +kernel)) rfl)) (Ev.toB (vr 2 (nm (by decide +kernel)) rfl)) (atI_nat q1) (fun _ _ => rfl)) (ea_cons (ev_ixT (Ev.toB (vr 1 (nm (by decide +kernel)) rfl)) (Ev.toB (vr 2 (nm (by decide +kernel)) rfl)) (atI_nat q2) (fun _ _ => rfl)) ea_nil (fun _ => rfl)) (fun _ => rfl)) (fun _ => rfl) (fun _ => rfl))
        · have e : decide ((vs.length : Int) ≠ (ds.length : Int)) = true := decide_eq_true fun z => hl (by omega)
          have e2 : likeD (.tuple vs) (.tuple ds) = false := by
            show (decide (vs.length = ds.length) && likeA vs ds) = false
            rw [decide_eq_false hl]; rfl
          rw [e2]
          exact blk_ret (st_ifT (Tw.te (tw_orF (te_not (t := true) (lk_if T (Ev.toB lk_v) g_lk_tuple T.b_tuple bb_tuple (show kitB "tuple" "tuple" = some true by decide +kernel) (fun _ => rfl))) (tw_or1 (Te.to (te_cmp (ok_neI (i := (vs.length : Int)) (j := (ds.length : Int))) (Ev.toB (cB g_lk_len T.b_len bb_len (ok_len rfl) (eab_cons (Ev.toB lk_v) eab_nil (fun _ => rfl)) (fun _ => rfl) (fun _ => rfl))) (Ev.toB (cB g_lk_len T.b_len bb_len (ok_len rfl) (eab_cons (Ev.toB lk_d) eab_nil (fun _ => rfl)) (fun _ => rfl) (fun _ => rfl))) rfl) e)))) (blk_one (st_ret ev_bool)))
      | _ => exact absurd hv (by simp [tyD])
    · rw [no hv]
      exact blk_ret (st_ifT (Tw.te (tw_orT (te_not (t := false) (lk_if T (Ev.toB lk_v) g_lk_tuple T.b_tuple bb_tuple (like_ty hv (.inr (.inl rfl))) (fun _ => rfl))))) (blk_one (st_ret ev_bool)))
theorem ok_like {G : Gb} (T : Facts G) : ∀ (n : Nat) (due v : PyData), dueOk due = true → due.depth ≤ n → Fn G (n + 2) "_law_like" [v, due] (.bool (likeD v due)) := fun n => by
  induction n using Nat.strongRecOn with
  | ind n ih =>
    intro due v ho hd
    refine fn_def T.f_law_like FS_lk rfl (r := .rt (.bool (likeD v due))) ?_ .rt
    show Blk G C_lk _ [some (.sh v), some (.sh due), none] _ _
    exact lk_body T n ih due v ho hd

abbrev LV_divisor : Nat := 1
abbrev LW_divisor : Nat := 2
def C_divisor : SC := ⟨["first", "second"], defScope (topS 1), fun _ => true⟩
theorem FS_divisor : FnScope C_divisor.N ["first", "second"] (defScope (topS 1)) := ⟨rfl, rfl, rfl, by decide +kernel, rfl, by decide +kernel, by decide +kernel⟩
theorem g_divisor_abs : Gn C_divisor "abs" := gn (by decide +kernel)
theorem n_divisor_first : Nm C_divisor 0 "first" := nm (by decide +kernel)
theorem n_divisor_second : Nm C_divisor 1 "second" := nm (by decide +kernel)
theorem l_divisor_first : NmL C_divisor 0 "first" := nml (by decide +kernel)
theorem l_divisor_second : NmL C_divisor 1 "second" := nml (by decide +kernel)
theorem ok_divisor {G : Gb} (T : Facts G) {first1 : Int} {second1 : Int} {r : Int} (h : divisor_m first1 second1 = some r) : Fn G LW_divisor "divisor" [eI first1, eI second1] (eI r) := by
  unfold divisor_m at h
  refine fn_def T.f_divisor FS_divisor rfl (r := .rt (eI r)) ?_ .rt
  show Blk G C_divisor _ [some (.sh (eI first1)), some (.sh (eI second1))] _ _
  obtain ⟨first2, hfirst2, h⟩ := set_ex h
  obtain ⟨second2, hsecond2, h⟩ := set_ex h
  refine blk_cons (ρ1 := [some (.sh (eI first2)), some (.sh (eI second2))]) (st_par (i := 0) (j := 1) l_divisor_first.hi l_divisor_second.hi (by decide) l_divisor_first.hl l_divisor_second.hl (Ev.s (Ev.to (cB g_divisor_abs T.b_abs bb_abs (ok_abs (i := first1)) (eab_cons (Ev.toB (vr 0 n_divisor_first rfl)) eab_nil (fun _ => rfl)) (fun _ => rfl) (fun _ => rfl)) (congrArg eI hfirst2))) (Ev.s (Ev.to (cB g_divisor_abs T.b_abs bb_abs (ok_abs (i := second1)) (eab_cons (Ev.toB (vr 1 n_divisor_second rfl)) eab_nil (fun _ => rfl)) (fun _ => rfl) (fun _ => rfl)) (congrArg eI hsecond2))) (fun env h => swp_sc env h (by kernel_rfl)) (fun _ => rfl) (fun _ => rfl) (fun _ => rfl)) ?_
  obtain ⟨s2, hs2, h⟩ := bind_ex h
  refine blk_cons (ρ1 := [some (.sh (eI s2.1)), some (.sh (eI s2.2))]) (st_while (while_s (R := (fun (s1 : (Int × Int)) => ([some (.sh (eI s1.1)), some (.sh (eI s1.2))] : PEnv))) (cd := (divisor_c1)) (step := (divisor_b2)) ?_ ?_ _ _ _ hs2)) ?_
  · intro s1 t h
    unfold divisor_c1 at h
    have h := Option.some.inj h
    subst h
    exact (te_cmp (ok_gt (i := s1.2) (j := 0)) (Ev.toB (vr 1 n_divisor_second rfl)) (Ev.toB ev_int) rfl)
  · intro s1 o h
    unfold divisor_b2 at h
    obtain ⟨hn2, h⟩ := need_ex h
    obtain ⟨first3, hfirst3, h⟩ := set_ex h
    obtain ⟨second3, hsecond3, h⟩ := set_ex h
    refine blk_cons (ρ1 := [some (.sh (eI first3)), some (.sh (eI second3))]) (st_par (i := 0) (j := 1) l_divisor_first.hi l_divisor_second.hi (by decide) l_divisor_first.hl l_divisor_second.hl (Ev.s (Ev.to (vr 1 n_divisor_second rfl) (congrArg eI hfirst3))) (Ev.s (Ev.to (ev_op (ok_mod hn2) (Ev.toB (vr 0 n_divisor_first rfl)) (Ev.toB (vr 1 n_divisor_second rfl))) (congrArg eI hsecond3))) (fun env h => swp_sc env h (by kernel_rfl)) (fun _ => rfl) (fun _ => rfl) (fun _ => rfl)) ?_
    have h := Option.some.inj h
    subst h
    exact Blk.out blk_nil (.nx (.keep (.keep .nil)))
  · have h := Option.some.inj h
    subst h
    exact blk_ret (st_ret (vr 0 n_divisor_first rfl))
abbrev LV_lowest : Nat := 3
abbrev LW_lowest : Nat := 4
def C_lowest : SC := ⟨["a", "b", "common"], defScope (topS 2), fun _ => true⟩
theorem FS_lowest : FnScope C_lowest.N ["a", "b"] (defScope (topS 2)) := ⟨rfl, rfl, rfl, by decide +kernel, rfl, by decide +kernel, by decide +kernel⟩
theorem n_lowest_b : Nm C_lowest 1 "b" := nm (by decide +kernel)
theorem g_lowest_divisor : Gn C_lowest "divisor" := gn (by decide +kernel)
theorem n_lowest_a : Nm C_lowest 0 "a" := nm (by decide +kernel)
theorem s_lowest_common : NmS C_lowest 2 "common" := nms (by decide +kernel)
theorem n_lowest_common : Nm C_lowest 2 "common" := nm (by decide +kernel)
theorem ok_lowest {G : Gb} (T : Facts G) {a1 : Int} {b1 : Int} {r : (Int × Int)} (h : lowest_m a1 b1 = some r) : Fn G LW_lowest "lowest" [eI a1, eI b1] ((eP eI eI) r) := by
  unfold lowest_m at h
  refine fn_def T.f_lowest FS_lowest rfl (r := .rt ((eP eI eI) r)) ?_ .rt
  show Blk G C_lowest _ [some (.sh (eI a1)), some (.sh (eI b1)), none] _ _
  obtain ⟨c1, hc1, h⟩ := bind_ex h
  obtain ⟨common1, hcommon1, h⟩ := set_ex h
  refine blk_cons (ρ1 := [some (.sh (eI a1)), some (.sh (eI b1)), some (.sh (eI common1))]) (sSet (d := eI common1) 2 s_lowest_common (Ev.to (ev_ifO (E := eI) hc1 (te_cmp (ok_gt (i := b1) (j := 0)) (Ev.toB (vr 1 n_lowest_b rfl)) (Ev.toB ev_int) rfl) (fun h => by (obtain ⟨diviso3, hdiviso3, h⟩ := bind_ex h; have h := Option.some.inj h; subst h; exact (cF g_lowest_divisor (ok_divisor T hdiviso3) (by decide : LW_divisor ≤ LV_lowest) (ea_cons (vr 0 n_lowest_a rfl) (ea_cons (vr 1 n_lowest_b rfl) ea_nil (fun _ => rfl)) (fun _ => rfl)) (fun _ => rfl) (fun _ => rfl)))) (fun h => by (obtain ⟨diviso4, hdiviso4, h⟩ := bind_ex h; have h := Option.some.inj h; subst h; exact (ev_un ok_neg (Ev.toB (cF g_lowest_divisor (ok_divisor T hdiviso4) (by decide : LW_divisor ≤ LV_lowest) (ea_cons (vr 0 n_lowest_a rfl) (ea_cons (vr 1 n_lowest_b rfl) ea_nil (fun _ => rfl)) (fun _ => rfl)) (fun _ => rfl) (fun _ => rfl))))))) (congrArg eI hcommon1)) (fun _ _ => rfl)) ?_
  obtain ⟨hn1, h⟩ := need_ex h
  obtain ⟨hn2, h⟩ := need_ex h
  have h := Option.some.inj h
  subst h
  exact blk_ret (st_ret (ev_tup (ea_cons (ev_op (ok_fdiv hn1) (Ev.toB (vr 0 n_lowest_a rfl)) (Ev.toB (vr 2 n_lowest_common rfl))) (ea_cons (ev_op (ok_fdiv hn2) (Ev.toB (vr 1 n_lowest_b rfl)) (Ev.toB (vr 2 n_lowest_common rfl))) ea_nil (fun _ => rfl)) (fun _ => rfl)) (le_sz (by decide : 2 ≤ 100000))))
abbrev LV_sent_bases : Nat := 1
abbrev LW_sent_bases : Nat := 2
def C_sent_bases : SC := ⟨["bits", "first", "second", "listener", "chances", "place", "bit", "is_kept", "is_left"], defScope (topS 4), fun _ => true⟩
theorem FS_sent_bases : FnScope C_sent_bases.N ["bits", "first", "second", "listener"] (defScope (topS 4)) := ⟨rfl, rfl, rfl, by decide +kernel, rfl, by decide +kernel, by decide +kernel⟩
theorem s_sent_bases_chances : NmS C_sent_bases 4 "chances" := nms (by decide +kernel)
theorem n_sent_bases_bits : Nm C_sent_bases 0 "bits" := nm (by decide +kernel)
theorem g_sent_bases_enumerate : Gn C_sent_bases "enumerate" := gn (by decide +kernel)
theorem s_sent_bases_place : NmS C_sent_bases 5 "place" := nms (by decide +kernel)
theorem s_sent_bases_bit : NmS C_sent_bases 6 "bit" := nms (by decide +kernel)
theorem n_sent_bases_first : Nm C_sent_bases 1 "first" := nm (by decide +kernel)
theorem n_sent_bases_place : Nm C_sent_bases 5 "place" := nm (by decide +kernel)
theorem n_sent_bases_second : Nm C_sent_bases 2 "second" := nm (by decide +kernel)
theorem s_sent_bases_is_kept : NmS C_sent_bases 7 "is_kept" := nms (by decide +kernel)
theorem n_sent_bases_listener : Nm C_sent_bases 3 "listener" := nm (by decide +kernel)
theorem s_sent_bases_is_left : NmS C_sent_bases 8 "is_left" := nms (by decide +kernel)
theorem n_sent_bases_is_kept : Nm C_sent_bases 7 "is_kept" := nm (by decide +kernel)
theorem n_sent_bases_is_left : Nm C_sent_bases 8 "is_left" := nm (by decide +kernel)
theorem n_sent_bases_bit : Nm C_sent_bases 6 "bit" := nm (by decide +kernel)
theorem n_sent_bases_chances : Nm C_sent_bases 4 "chances" := nm (by decide +kernel)
theorem g_sent_bases_tuple : Gn C_sent_bases "tuple" := gn (by decide +kernel)
theorem ok_sent_bases {G : Gb} (T : Facts G) {bits1 : (List Int)} {first1 : (List Int)} {second1 : (List Int)} {listener1 : (List (Option Int))} {r : (List (Int × Int))} (h : sent_bases_m bits1 first1 second1 listener1 = some r) : Fn G LW_sent_bases "sent_bases" [(eT eI) bits1, (eT eI) first1, (eT eI) second1, (eT (eO eI)) listener1] ((eT (eP eI eI)) r) := by
  unfold sent_bases_m at h
  refine fn_def T.f_sent_bases FS_sent_bases rfl (r := .rt ((eT (eP eI eI)) r)) ?_ .rt
  show Blk G C_sent_bases _ [some (.sh ((eT eI) bits1)), some (.sh ((eT eI) first1)), some (.sh ((eT eI) second1)), some (.sh ((eT (eO eI)) listener1)), none, none, none, none, none] _ _
  obtain ⟨chances1, hchances1, h⟩ := set_ex h
  refine blk_cons (ρ1 := [some (.sh ((eT eI) bits1)), some (.sh ((eT eI) first1)), some (.sh ((eT eI) second1)), some (.sh ((eT (eO eI)) listener1)), some (.ow ((eL (eP eI eI)) chances1)), none, none, none, none]) (sOwn (d := (eL (eP eI eI)) chances1) 4 s_sent_bases_chances (EvN.to (evn_lst ea_nil (le_sz (by decide : 0 ≤ 100000))) (congrArg (eL (eP eI eI)) hchances1)) (fun _ _ => rfl)) ?_
  obtain ⟨s2, hs2, h⟩ := bind_ex h
  refine blk_cons (ρ1 := [some (.sh ((eT eI) bits1)), some (.sh ((eT eI) first1)), some (.sh ((eT eI) second1)), some (.sh ((eT (eO eI)) listener1)), some (.ow ((eL (eP eI eI)) s2)), none, none, none, none]) (st_for (it_enumTX (xs := bits1) (g_sent_bases_enumerate).hg T.b_enumerate (vr 0 n_sent_bases_bits rfl) (fun _ => rfl)) (for_s (R := (fun (s1 : ((List (Int × Int)))) => ([some (.sh ((eT eI) bits1)), some (.sh ((eT eI) first1)), some (.sh ((eT eI) second1)), some (.sh ((eT (eO eI)) listener1)), some (.ow ((eL (eP eI eI)) s1)), none, none, none, none] : PEnv))) (ea := (eP eI eI)) (step := (sent_bases_l1 first1 second1 listener1)) ?_ _ _ _ hs2) (fun _ _ => rfl)) ?_
  · intro s1 x1 o h
    unfold sent_bases_l1 at h
    refine ⟨_, [some (.sh ((eT eI) bits1)), some (.sh ((eT eI) first1)), some (.sh ((eT eI) second1)), some (.sh ((eT (eO eI)) listener1)), some (.ow ((eL (eP eI eI)) s1)), some (.sh (eI x1.1)), some (.sh (eI x1.2)), none, none], (tg_tup (tgs_cons (tN 5 s_sent_bases_place) (tgs_cons (tN 6 s_sent_bases_bit) tgs_nil (fun _ => rfl)) (fun _ => rfl)) rfl (fun _ => rfl) (fun _ => rfl)), ?_⟩
    obtain ⟨x2, hx2, h⟩ := bind_ex h
    obtain ⟨x3, hx3, h⟩ := bind_ex h
    obtain ⟨is_kept1, his_kept1, h⟩ := set_ex h
    refine blk_cons (ρ1 := [some (.sh ((eT eI) bits1)), some (.sh ((eT eI) first1)), some (.sh ((eT eI) second1)), some (.sh ((eT (eO eI)) listener1)), some (.ow ((eL (eP eI eI)) s1)), some (.sh (eI x1.1)), some (.sh (eI x1.2)), some (.sh (eB is_kept1)), none]) (sSet (d := eB is_kept1) 7 s_sent_bases_is_kept (Ev.to (ev_cmp (ok_eqI (i := x2) (j := x3)) (Ev.toB (ev_ixT (Ev.toB (vr 1 n_sent_bases_first rfl)) (Ev.toB (vr 5 n_sent_bases_place rfl)) (atI_map eI hx2) (fun _ _ => rfl))) (Ev.toB (ev_ixT (Ev.toB (vr 2 n_sent_bases_second rfl)) (Ev.toB (vr 5 n_sent_bases_place rfl)) (atI_map eI hx3) (fun _ _ => rfl))) rfl) (congrArg eB his_kept1)) (fun _ _ => rfl)) ?_
    obtain ⟨x4, hx4, h⟩ := bind_ex h
    obtain ⟨b1, hb1, h⟩ := bind_ex h
    obtain ⟨is_left1, his_left1, h⟩ := set_ex h
    refine blk_cons (ρ1 := [some (.sh ((eT eI) bits1)), some (.sh ((eT eI) first1)), some (.sh ((eT eI) second1)), some (.sh ((eT (eO eI)) listener1)), some (.ow ((eL (eP eI eI)) s1)), some (.sh (eI x1.1)), some (.sh (eI x1.2)), some (.sh (eB is_kept1)), some (.sh (eB is_left1))]) (sSet (d := eB is_left1) 8 s_sent_bases_is_left (Ev.to (ev_orO hb1 (ev_cmp (ok_isO nn_I x4) (Ev.toB (ev_ixT (Ev.toB (vr 3 n_sent_bases_listener rfl)) (Ev.toB (vr 5 n_sent_bases_place rfl)) (atI_map (eO eI) hx4) (fun _ _ => rfl))) (Ev.toB ev_none) rfl) (fun h => by (obtain ⟨x5, hx5, h⟩ := bind_ex h; obtain ⟨x6, hx6, h⟩ := bind_ex h; have h := Option.some.inj h; subst h; exact (ev_one (ev_cmp (ok_eqT (eq_O eq_I nn_I) x5 (some x6)) (Ev.toB (ev_ixT (Ev.toB (vr 3 n_sent_bases_listener rfl)) (Ev.toB (vr 5 n_sent_bases_place rfl)) (atI_map (eO eI) hx5) (fun _ _ => rfl))) (Ev.toB (ev_ixT (Ev.toB (vr 1 n_sent_bases_first rfl)) (Ev.toB (vr 5 n_sent_bases_place rfl)) (atI_map eI hx6) (fun _ _ => rfl))) rfl))))) (congrArg eB his_left1)) (fun _ _ => rfl)) ?_
    obtain ⟨hn1, h⟩ := need_ex h
    obtain ⟨chances2, hchances2, h⟩ := set_ex h
    refine blk_cons (ρ1 := [some (.sh ((eT eI) bits1)), some (.sh ((eT eI) first1)), some (.sh ((eT eI) second1)), some (.sh ((eT (eO eI)) listener1)), some (.ow ((eL (eP eI eI)) chances2)), some (.sh (eI x1.1)), some (.sh (eI x1.2)), some (.sh (eB is_kept1)), some (.sh (eB is_left1))]) (sAppX (f := (eP eI eI)) (xs := s1) (v := (if (is_kept1 && is_left1) = true then (x1.2, 1) else (1, 2))) hchances2 4 n_sent_bases_chances rfl (ev_if (E := (eP eI eI)) (v := (x1.2, 1)) (w := (1, 2)) (Tw.te (tw_and (te_val (Ev.toB (vr 7 n_sent_bases_is_kept rfl)) (fun _ _ => rfl)) (tw_and1 (te_val (Ev.toB (vr 8 n_sent_bases_is_left rfl)) (fun _ _ => rfl))))) (ev_tup (ea_cons (vr 6 n_sent_bases_bit rfl) (ea_cons ev_int ea_nil (fun _ => rfl)) (fun _ => rfl)) (le_sz (by decide : 2 ≤ 100000))) (ev_tup (ea_cons ev_int (ea_cons ev_int ea_nil (fun _ => rfl)) (fun _ => rfl)) (le_sz (by decide : 2 ≤ 100000)))) hn1 (fun _ => rfl) (fun _ => rfl) (fun _ => rfl) rfl) ?_
    have h := Option.some.inj h
    subst h
    exact Blk.out blk_nil (.nx (.keep (.keep (.keep (.keep (.keep (.drop (.drop (.drop (.drop .nil))))))))))
  · refine Blk.weak (ρ1 := [some (.sh ((eT eI) bits1)), some (.sh ((eT eI) first1)), some (.sh ((eT eI) second1)), some (.sh ((eT (eO eI)) listener1)), some (.sh ((eL (eP eI eI)) s2)), none, none, none, none]) ?_ (.keep (.keep (.keep (.keep (.frz (.keep (.keep (.keep (.keep .nil)))))))))
    have h := Option.some.inj h
    subst h
    exact blk_ret (st_ret (cT g_sent_bases_tuple T.b_tuple bb_tuple (ok_tupL s2) (eab_cons (Ev.toB (vr 4 n_sent_bases_chances rfl)) eab_nil (fun _ => rfl)) (fun _ => rfl) (fun _ => rfl)))
abbrev LV_kept_places : Nat := 1
abbrev LW_kept_places : Nat := 2
def C_kept_places : SC := ⟨["first", "second", "place", "base"], defScope (topS 5), fun _ => true⟩
theorem FS_kept_places : FnScope C_kept_places.N ["first", "second"] (defScope (topS 5)) := ⟨rfl, rfl, rfl, by decide +kernel, rfl, by decide +kernel, by decide +kernel⟩
theorem g_kept_places_tuple : Gn C_kept_places "tuple" := gn (by decide +kernel)
theorem n_kept_places_first : Nm C_kept_places 0 "first" := nm (by decide +kernel)
theorem g_kept_places_enumerate : Gn C_kept_places "enumerate" := gn (by decide +kernel)
theorem ok_kept_places {G : Gb} (T : Facts G) {first1 : (List (Option Int))} {second1 : (List (Option Int))} {r : (List Int)} (h : kept_places_m first1 second1 = some r) : Fn G LW_kept_places "kept_places" [(eT (eO eI)) first1, (eT (eO eI)) second1] ((eT eI) r) := by
  unfold kept_places_m at h
  refine fn_def T.f_kept_places FS_kept_places rfl (r := .rt ((eT eI) r)) ?_ .rt
  show Blk G C_kept_places _ [some (.sh ((eT (eO eI)) first1)), some (.sh ((eT (eO eI)) second1)), none, none] _ _
  obtain ⟨ys1, hys1, h⟩ := bind_ex h
  have h := Option.some.inj h
  subst h
  exact blk_ret (st_ret (cT g_kept_places_tuple T.b_tuple bb_tuple (ok_tupL ys1) (eab_cons (Ev.toB (EvN.ev (nLc [("place", 2), ("base", 3)] (by decide +kernel) (It'.toB (it_enumTX (xs := first1) (g_kept_places_enumerate).hg T.b_enumerate (vr 0 n_kept_places_first rfl) (fun _ => rfl))) (lcr_fil (ea := (eP eI (eO eI))) (eb := eI) (fun z1 : (Int × (Option Int)) => (Option.bind (idx second1 z1.1) fun x1 => if (decide (z1.2 = x1)) = true then some (some z1.1) else some none)) (fun z1 o h => by (obtain ⟨x1, hx1, h⟩ := bind_ex h; exact step_ifO h (by decide) (tg_tup (tgs_cons (tN 2 (nms (by decide +kernel))) (tgs_cons (tN 3 (nms (by decide +kernel))) tgs_nil (fun _ => rfl)) (fun _ => rfl)) rfl (fun _ => rfl) (fun _ => rfl)) (te_cmp (ok_eqT (eq_O eq_I nn_I) z1.2 x1) (Ev.toB (vr 3 (nm (by decide +kernel)) rfl)) (Ev.toB (ev_ixT (Ev.toB (vr 1 (nm (by decide +kernel)) rfl)) (Ev.toB (vr 2 (nm (by decide +kernel)) rfl)) (atI_map (eO eI) hx1) (fun _ _ => rfl))) rfl) (fun h => by (have h := Option.some.inj h; subst h; exact ⟨_, rfl, (vr 2 (nm (by decide +kernel)) rfl)⟩)))) _ _ hys1) (zz_fil (Nat.le_trans (filO_len hys1) (Nat.le_of_eq (enumT_len _)))) (fun _ _ => rfl)))) eab_nil (fun _ => rfl)) (fun _ => rfl) (fun _ => rfl)))
abbrev LV_seen_listening : Nat := 5
abbrev LW_seen_listening : Nat := 6
def C_seen_listening : SC := ⟨["k", "unseen", "whole", "_"], defScope (topS 6), fun _ => true⟩
theorem FS_seen_listening : FnScope C_seen_listening.N ["k"] (defScope (topS 6)) := ⟨rfl, rfl, rfl, by decide +kernel, rfl, by decide +kernel, by decide +kernel⟩
theorem s_seen_listening_unseen : NmS C_seen_listening 1 "unseen" := nms (by decide +kernel)
theorem s_seen_listening_whole : NmS C_seen_listening 2 "whole" := nms (by decide +kernel)
theorem n_seen_listening_k : Nm C_seen_listening 0 "k" := nm (by decide +kernel)
theorem g_seen_listening_range : Gn C_seen_listening "range" := gn (by decide +kernel)
theorem s_seen_listening__p : NmS C_seen_listening 3 "_" := nms (by decide +kernel)
theorem n_seen_listening_unseen : Nm C_seen_listening 1 "unseen" := nm (by decide +kernel)
theorem n_seen_listening_whole : Nm C_seen_listening 2 "whole" := nm (by decide +kernel)
theorem g_seen_listening_lowest : Gn C_seen_listening "lowest" := gn (by decide +kernel)
theorem ok_seen_listening {G : Gb} (T : Facts G) {k1 : Int} {r : (Int × Int)} (h : seen_listening_m k1 = some r) : Fn G LW_seen_listening "seen_listening" [eI k1] ((eP eI eI) r) := by
  unfold seen_listening_m at h
  refine fn_def T.f_seen_listening FS_seen_listening rfl (r := .rt ((eP eI eI) r)) ?_ .rt
  show Blk G C_seen_listening _ [some (.sh (eI k1)), none, none, none] _ _
  obtain ⟨unseen1, hunseen1, h⟩ := set_ex h
  refine blk_cons (ρ1 := [some (.sh (eI k1)), some (.sh (eI unseen1)), none, none]) (sSet (d := eI unseen1) 1 s_seen_listening_unseen (Ev.to ev_int (congrArg eI hunseen1)) (fun _ _ => rfl)) ?_
  obtain ⟨whole1, hwhole1, h⟩ := set_ex h
  refine blk_cons (ρ1 := [some (.sh (eI k1)), some (.sh (eI unseen1)), some (.sh (eI whole1)), none]) (sSet (d := eI whole1) 2 s_seen_listening_whole (Ev.to ev_int (congrArg eI hwhole1)) (fun _ _ => rfl)) ?_
  obtain ⟨hn1, h⟩ := need_ex h
  obtain ⟨s2, hs2, h⟩ := bind_ex h
  refine blk_cons (ρ1 := [some (.sh (eI k1)), some (.sh (eI s2.1)), some (.sh (eI s2.2)), none]) (st_for (iR1 g_seen_listening_range T.b_range (Ev.toB (vr 0 n_seen_listening_k rfl)) hn1 (fun _ => rfl)) (for_s (R := (fun (s1 : (Int × Int)) => ([some (.sh (eI k1)), some (.sh (eI s1.1)), some (.sh (eI s1.2)), none] : PEnv))) (ea := eI) (step := (seen_listening_l1)) ?_ _ _ _ hs2) (fun _ _ => rfl)) ?_
  · intro s1 x1 o h
    unfold seen_listening_l1 at h
    refine ⟨_, [some (.sh (eI k1)), some (.sh (eI s1.1)), some (.sh (eI s1.2)), some (.sh (eI x1))], (tN 3 s_seen_listening__p), ?_⟩
    obtain ⟨unseen2, hunseen2, h⟩ := set_ex h
    refine blk_cons (ρ1 := [some (.sh (eI k1)), some (.sh (eI unseen2)), some (.sh (eI s1.2)), some (.sh (eI x1))]) (sSet (d := eI unseen2) 1 s_seen_listening_unseen (Ev.to (ev_op (ok_mul (mul_r (by decide))) (Ev.toB (vr 1 n_seen_listening_unseen rfl)) (Ev.toB ev_int)) (congrArg eI hunseen2)) (fun _ _ => rfl)) ?_
    obtain ⟨whole2, hwhole2, h⟩ := set_ex h
    refine blk_cons (ρ1 := [some (.sh (eI k1)), some (.sh (eI unseen2)), some (.sh (eI whole2)), some (.sh (eI x1))]) (sSet (d := eI whole2) 2 s_seen_listening_whole (Ev.to (ev_op (ok_mul (mul_r (by decide))) (Ev.toB (vr 2 n_seen_listening_whole rfl)) (Ev.toB ev_int)) (congrArg eI hwhole2)) (fun _ _ => rfl)) ?_
    have h := Option.some.inj h
    subst h
    exact Blk.out blk_nil (.nx (.keep (.keep (.keep (.drop .nil)))))
  · obtain ⟨lowest1, hlowest1, h⟩ := bind_ex h
    have h := Option.some.inj h
    subst h
    exact blk_ret (st_ret (cF g_seen_listening_lowest (ok_lowest T hlowest1) (by decide : LW_lowest ≤ LV_seen_listening) (ea_cons (ev_op ok_sub (Ev.toB (vr 2 n_seen_listening_whole rfl)) (Ev.toB (vr 1 n_seen_listening_unseen rfl))) (ea_cons (vr 2 n_seen_listening_whole rfl) ea_nil (fun _ => rfl)) (fun _ => rfl)) (fun _ => rfl) (fun _ => rfl)))
abbrev LV_bits_known : Nat := 3
abbrev LW_bits_known : Nat := 4
def C_bits_known : SC := ⟨["listener", "first", "second", "place"], defScope (topS 7), fun _ => true⟩
theorem FS_bits_known : FnScope C_bits_known.N ["listener", "first", "second"] (defScope (topS 7)) := ⟨rfl, rfl, rfl, by decide +kernel, rfl, by decide +kernel, by decide +kernel⟩
theorem g_bits_known_tuple : Gn C_bits_known "tuple" := gn (by decide +kernel)
theorem g_bits_known_kept_places : Gn C_bits_known "kept_places" := gn (by decide +kernel)
theorem n_bits_known_first : Nm C_bits_known 1 "first" := nm (by decide +kernel)
theorem n_bits_known_second : Nm C_bits_known 2 "second" := nm (by decide +kernel)
theorem ok_bits_known {G : Gb} (T : Facts G) {listener1 : (List (Option Int))} {first1 : (List (Option Int))} {second1 : (List (Option Int))} {r : (List Int)} (h : bits_known_m listener1 first1 second1 = some r) : Fn G LW_bits_known "bits_known" [(eT (eO eI)) listener1, (eT (eO eI)) first1, (eT (eO eI)) second1] ((eT eI) r) := by
  unfold bits_known_m at h
  refine fn_def T.f_bits_known FS_bits_known rfl (r := .rt ((eT eI) r)) ?_ .rt
  show Blk G C_bits_known _ [some (.sh ((eT (eO eI)) listener1)), some (.sh ((eT (eO eI)) first1)), some (.sh ((eT (eO eI)) second1)), none] _ _
  obtain ⟨kept_p1, hkept_p1, h⟩ := bind_ex h
  obtain ⟨ys1, hys1, h⟩ := bind_ex h
  have h := Option.some.inj h
  subst h
  exact blk_ret (st_ret (cT g_bits_known_tuple T.b_tuple bb_tuple (ok_tupL ys1) (eab_cons (Ev.toB (EvN.ev (nLc [("place", 3)] (by decide +kernel) (It'.toB (it_tup (cF g_bits_known_kept_places (ok_kept_places T hkept_p1) (by decide : LW_kept_places ≤ LV_bits_known) (ea_cons (vr 1 n_bits_known_first rfl) (ea_cons (vr 2 n_bits_known_second rfl) ea_nil (fun _ => rfl)) (fun _ => rfl)) (fun _ => rfl) (fun _ => rfl)))) (lcr_fil (ea := eI) (eb := eI) (fun z1 : Int => (Option.bind (idx listener1 z1) fun x1 => Option.bind (idx first1 z1) fun x2 => if (decide (x1 = x2)) = true then some (some z1) else some none)) (fun z1 o h => by (obtain ⟨x1, hx1, h⟩ := bind_ex h; obtain ⟨x2, hx2, h⟩ := bind_ex h; exact step_ifO h (by decide) (tN 3 (nms (by decide +kernel))) (te_cmp (ok_eqT (eq_O eq_I nn_I) x1 x2) (Ev.toB (ev_ixT (Ev.toB (vr 0 (nm (by decide +kernel)) rfl)) (Ev.toB (vr 3 (nm (by decide +kernel)) rfl)) (atI_map (eO eI) hx1) (fun _ _ => rfl))) (Ev.toB (ev_ixT (Ev.toB (vr 1 (nm (by decide +kernel)) rfl)) (Ev.toB (vr 3 (nm (by decide +kernel)) rfl)) (atI_map (eO eI) hx2) (fun _ _ => rfl))) rfl) (fun h => by (have h := Option.some.inj h; subst h; exact ⟨_, rfl, (vr 3 (nm (by decide +kernel)) rfl)⟩)))) _ _ hys1) (zz_fil (filO_len hys1)) (fun _ _ => rfl)))) eab_nil (fun _ => rfl)) (fun _ => rfl) (fun _ => rfl)))
abbrev LV_found_odd : Nat := 1
abbrev LW_found_odd : Nat := 2
def C_found_odd : SC := ⟨["first", "second", "unlike", "low", "high", "told", "middle", "one", "other"], defScope (topS 8), fun _ => true⟩
theorem FS_found_odd : FnScope C_found_odd.N ["first", "second"] (defScope (topS 8)) := ⟨rfl, rfl, rfl, by decide +kernel, rfl, by decide +kernel, by decide +kernel⟩
theorem n_found_odd_first : Nm C_found_odd 0 "first" := nm (by decide +kernel)
theorem n_found_odd_second : Nm C_found_odd 1 "second" := nm (by decide +kernel)
theorem g_found_odd_zip : Gn C_found_odd "zip" := gn (by decide +kernel)
theorem l_found_odd_unlike : NmL C_found_odd 2 "unlike" := nml (by decide +kernel)
theorem g_found_odd_sum : Gn C_found_odd "sum" := gn (by decide +kernel)
theorem n_found_odd_unlike : Nm C_found_odd 2 "unlike" := nm (by decide +kernel)
theorem s_found_odd_low : NmS C_found_odd 3 "low" := nms (by decide +kernel)
theorem g_found_odd_len : Gn C_found_odd "len" := gn (by decide +kernel)
theorem s_found_odd_high : NmS C_found_odd 4 "high" := nms (by decide +kernel)
theorem s_found_odd_told : NmS C_found_odd 5 "told" := nms (by decide +kernel)
theorem n_found_odd_high : Nm C_found_odd 4 "high" := nm (by decide +kernel)
theorem n_found_odd_low : Nm C_found_odd 3 "low" := nm (by decide +kernel)
theorem s_found_odd_middle : NmS C_found_odd 6 "middle" := nms (by decide +kernel)
theorem n_found_odd_middle : Nm C_found_odd 6 "middle" := nm (by decide +kernel)
theorem n_found_odd_told : Nm C_found_odd 5 "told" := nm (by decide +kernel)
theorem ok_found_odd {G : Gb} (T : Facts G) {first1 : (List Int)} {second1 : (List Int)} {r : (Option (Int × Int))} (h : found_odd_m first1 second1 = some r) : Fn G LW_found_odd "found_odd" [(eT eI) first1, (eT eI) second1] ((eO (eP eI eI)) r) := by
  unfold found_odd_m at h
  refine fn_def T.f_found_odd FS_found_odd rfl (r := .rt ((eO (eP eI eI)) r)) ?_ .rt
  show Blk G C_found_odd _ [some (.sh ((eT eI) first1)), some (.sh ((eT eI) second1)), none, none, none, none, none, none, none] _ _
  obtain ⟨unlike1, hunlike1, h⟩ := set_ex h
  refine blk_cons (ρ1 := [some (.sh ((eT eI) first1)), some (.sh ((eT eI) second1)), some (.sh ((eL eI) unlike1)), none, none, none, none, none, none]) (sLcS 2 l_found_odd_unlike [("one", 7), ("other", 8)] (swp_local (by decide +kernel)) (by decide +kernel) (It'.toB (it_zipTX (xs := first1) (ys := second1) (g_found_odd_zip).hg T.b_zip (vr 0 n_found_odd_first rfl) (vr 1 n_found_odd_second rfl) (fun _ => rfl) (fun _ => rfl))) (LcR.to (lcr_mapT (ea := (eP eI eI)) (eb := eI) (fun z1 : (Int × Int) => (Builtin.bitXor z1.1 z1.2)) (fun z1 => step_one (by decide) (tg_tup (tgs_cons (tN 7 (nms (by decide +kernel))) (tgs_cons (tN 8 (nms (by decide +kernel))) tgs_nil (fun _ => rfl)) (fun _ => rfl)) rfl (fun _ => rfl) (fun _ => rfl)) (ev_op ok_xor (Ev.toB (vr 7 (nm (by decide +kernel)) rfl)) (Ev.toB (vr 8 (nm (by decide +kernel)) rfl)))) _) (congrArg (List.map eI) hunlike1)) (zz_to hunlike1 (zz_zip (len_m _ _))) (fun _ _ => rfl)) ?_
  refine blk_ifx h (te_cmp (ok_eqI (i := ((List.sum unlike1) % 2)) (j := 0)) (Ev.toB (ev_op (ok_mod (by decide)) (Ev.toB (cB g_found_odd_sum T.b_sum bb_sum (ok_sumLT unlike1) (eab_cons (Ev.toB (vr 2 n_found_odd_unlike rfl)) eab_nil (fun _ => rfl)) (fun _ => rfl) (fun _ => rfl))) (Ev.toB ev_int))) (Ev.toB ev_int) rfl) ?_ ?_
  · intro h
    have h := Option.some.inj h
    subst h
    exact blkx_ret (st_ret ev_none)
  · intro h
    obtain ⟨low1, hlow1, h⟩ := set_ex h
    refine blk_cons (ρ1 := [some (.sh ((eT eI) first1)), some (.sh ((eT eI) second1)), some (.sh ((eL eI) unlike1)), some (.sh (eI low1)), none, none, none, none, none]) (sSet (d := eI low1) 3 s_found_odd_low (Ev.to ev_int (congrArg eI hlow1)) (fun _ _ => rfl)) ?_
    obtain ⟨high1, hhigh1, h⟩ := set_ex h
    refine blk_cons (ρ1 := [some (.sh ((eT eI) first1)), some (.sh ((eT eI) second1)), some (.sh ((eL eI) unlike1)), some (.sh (eI low1)), some (.sh (eI high1)), none, none, none, none]) (sSet (d := eI high1) 4 s_found_odd_high (Ev.to (cB g_found_odd_len T.b_len bb_len (ok_lenL unlike1) (eab_cons (Ev.toB (vr 2 n_found_odd_unlike rfl)) eab_nil (fun _ => rfl)) (fun _ => rfl) (fun _ => rfl)) (congrArg eI hhigh1)) (fun _ _ => rfl)) ?_
    obtain ⟨told1, htold1, h⟩ := set_ex h
    refine blk_cons (ρ1 := [some (.sh ((eT eI) first1)), some (.sh ((eT eI) second1)), some (.sh ((eL eI) unlike1)), some (.sh (eI low1)), some (.sh (eI high1)), some (.sh (eI told1)), none, none, none]) (sSet (d := eI told1) 5 s_found_odd_told (Ev.to ev_int (congrArg eI htold1)) (fun _ _ => rfl)) ?_
    obtain ⟨s2, hs2, h⟩ := bind_ex h
    refine blk_cons (ρ1 := [some (.sh ((eT eI) first1)), some (.sh ((eT eI) second1)), some (.sh ((eL eI) unlike1)), some (.sh (eI s2.2.2)), some (.sh (eI s2.2.1)), some (.sh (eI s2.1)), none, none, none]) (st_while (while_s (R := (fun (s1 : (Int × Int × Int)) => ([some (.sh ((eT eI) first1)), some (.sh ((eT eI) second1)), some (.sh ((eL eI) unlike1)), some (.sh (eI s1.2.2)), some (.sh (eI s1.2.1)), some (.sh (eI s1.1)), none, none, none] : PEnv))) (cd := (found_odd_c1)) (step := (found_odd_b2 unlike1)) ?_ ?_ _ _ _ hs2)) ?_
    · intro s1 t h
      unfold found_odd_c1 at h
      have h := Option.some.inj h
      subst h
      exact (te_cmp (ok_gt (i := (s1.2.1 - s1.2.2)) (j := 1)) (Ev.toB (ev_op ok_sub (Ev.toB (vr 4 n_found_odd_high rfl)) (Ev.toB (vr 3 n_found_odd_low rfl)))) (Ev.toB ev_int) rfl)
    · intro s1 o h
      unfold found_odd_b2 at h
      obtain ⟨middle1, hmiddle1, h⟩ := set_ex h
      refine blk_cons (ρ1 := [some (.sh ((eT eI) first1)), some (.sh ((eT eI) second1)), some (.sh ((eL eI) unlike1)), some (.sh (eI s1.2.2)), some (.sh (eI s1.2.1)), some (.sh (eI s1.1)), some (.sh (eI middle1)), none, none]) (sSet (d := eI middle1) 6 s_found_odd_middle (Ev.to (ev_op ok_add (Ev.toB (vr 3 n_found_odd_low rfl)) (Ev.toB (ev_op (ok_fdiv (div_c (by decide))) (Ev.toB (ev_op ok_sub (Ev.toB (vr 4 n_found_odd_high rfl)) (Ev.toB (vr 3 n_found_odd_low rfl)))) (Ev.toB ev_int)))) (congrArg eI hmiddle1)) (fun _ _ => rfl)) ?_
      obtain ⟨told2, htold2, h⟩ := set_ex h
      refine blk_cons (ρ1 := [some (.sh ((eT eI) first1)), some (.sh ((eT eI) second1)), some (.sh ((eL eI) unlike1)), some (.sh (eI s1.2.2)), some (.sh (eI s1.2.1)), some (.sh (eI told2)), some (.sh (eI middle1)), none, none]) (sAug (d := eI told2) 5 s_found_odd_told rfl (Ev.toB ev_int) (OpOk.to (ok_iadd (i := s1.1) (j := 1)) (congrArg eI htold2))) ?_
      obtain ⟨j1, hj1, h⟩ := bind_ex h
      refine blk_cons (ρ1 := [some (.sh ((eT eI) first1)), some (.sh ((eT eI) second1)), some (.sh ((eL eI) unlike1)), some (.sh (eI j1.2)), some (.sh (eI j1.1)), some (.sh (eI told2)), some (.sh (eI middle1)), none, none]) (st_ifJ hj1 (te_cmp (ok_eqI (i := ((List.sum (cutD unlike1 (some s1.2.2) (some middle1))) % 2)) (j := 1)) (Ev.toB (ev_op (ok_mod (by decide)) (Ev.toB (cB g_found_odd_sum T.b_sum bb_sum (ok_sumLT (cutD unlike1 (some s1.2.2) (some middle1))) (eab_cons (Ev.toB (EvN.ev (evn_sliceX (xs := unlike1) (Ev.toB (vr 2 n_found_odd_unlike rfl)) (ep_some (Ev.toB (vr 3 n_found_odd_low rfl))) (ep_some (Ev.toB (vr 6 n_found_odd_middle rfl)))))) eab_nil (fun _ => rfl)) (fun _ => rfl) (fun _ => rfl))) (Ev.toB ev_int))) (Ev.toB ev_int) rfl) ?_ ?_) ?_
      · intro h
        obtain ⟨high2, hhigh2, h⟩ := set_ex h
        refine blk_cons (ρ1 := [some (.sh ((eT eI) first1)), some (.sh ((eT eI) second1)), some (.sh ((eL eI) unlike1)), some (.sh (eI s1.2.2)), some (.sh (eI high2)), some (.sh (eI told2)), some (.sh (eI middle1)), none, none]) (sSet (d := eI high2) 4 s_found_odd_high (Ev.to (vr 6 n_found_odd_middle rfl) (congrArg eI hhigh2)) (fun _ _ => rfl)) ?_
        have h := Option.some.inj h
        subst h
        exact Blk.out blk_nil (.nx (.keep (.keep (.keep (.keep (.keep (.keep (.keep (.keep (.keep .nil))))))))))
      · intro h
        obtain ⟨low2, hlow2, h⟩ := set_ex h
        refine blk_cons (ρ1 := [some (.sh ((eT eI) first1)), some (.sh ((eT eI) second1)), some (.sh ((eL eI) unlike1)), some (.sh (eI low2)), some (.sh (eI s1.2.1)), some (.sh (eI told2)), some (.sh (eI middle1)), none, none]) (sSet (d := eI low2) 3 s_found_odd_low (Ev.to (vr 6 n_found_odd_middle rfl) (congrArg eI hlow2)) (fun _ _ => rfl)) ?_
        have h := Option.some.inj h
        subst h
        exact Blk.out blk_nil (.nx (.keep (.keep (.keep (.keep (.keep (.keep (.keep (.keep (.keep .nil))))))))))
      · have h := Option.some.inj h
        subst h
        exact Blk.out blk_nil (.nx (.keep (.keep (.keep (.keep (.keep (.keep (.drop (.keep (.keep .nil))))))))))
    · have h := Option.some.inj h
      subst h
      exact blk_ret (st_ret (ev_tup (ea_cons (vr 3 n_found_odd_low rfl) (ea_cons (vr 5 n_found_odd_told rfl) ea_nil (fun _ => rfl)) (fun _ => rfl)) (le_sz (by decide : 2 ≤ 100000))))
abbrev LV_law_mixed : Nat := 1
abbrev LW_law_mixed : Nat := 2
def C_law_mixed : SC := ⟨["script", "k", "cell", "first", "second", "third"], defScope (topS 10), fun _ => true⟩
theorem FS_law_mixed : FnScope C_law_mixed.N ["script", "k"] (defScope (topS 10)) := ⟨rfl, rfl, rfl, by decide +kernel, rfl, by decide +kernel, by decide +kernel⟩
theorem s_law_mixed_cell : NmS C_law_mixed 2 "cell" := nms (by decide +kernel)
theorem g_law_mixed_len : Gn C_law_mixed "len" := gn (by decide +kernel)
theorem n_law_mixed_script : Nm C_law_mixed 0 "script" := nm (by decide +kernel)
theorem n_law_mixed_k : Nm C_law_mixed 1 "k" := nm (by decide +kernel)
theorem g_law_mixed_int : Gn C_law_mixed "int" := gn (by decide +kernel)
theorem n_law_mixed_cell : Nm C_law_mixed 2 "cell" := nm (by decide +kernel)
theorem s_law_mixed_first : NmS C_law_mixed 3 "first" := nms (by decide +kernel)
theorem n_law_mixed_first : Nm C_law_mixed 3 "first" := nm (by decide +kernel)
theorem s_law_mixed_second : NmS C_law_mixed 4 "second" := nms (by decide +kernel)
theorem n_law_mixed_second : Nm C_law_mixed 4 "second" := nm (by decide +kernel)
theorem s_law_mixed_third : NmS C_law_mixed 5 "third" := nms (by decide +kernel)
theorem n_law_mixed_third : Nm C_law_mixed 5 "third" := nm (by decide +kernel)
theorem ok_law_mixed {G : Gb} (T : Facts G) {script1 : (List Int)} {k1 : Int} {r : Int} (h : law_mixed_m script1 k1 = some r) : Fn G LW_law_mixed "_law_mixed" [(eL eI) script1, eI k1] (eI r) := by
  unfold law_mixed_m at h
  refine fn_def T.f_law_mixed FS_law_mixed rfl (r := .rt (eI r)) ?_ .rt
  show Blk G C_law_mixed _ [some (.sh ((eL eI) script1)), some (.sh (eI k1)), none, none, none, none] _ _
  obtain ⟨cell1, hcell1, h⟩ := set_ex h
  refine blk_cons (ρ1 := [some (.sh ((eL eI) script1)), some (.sh (eI k1)), some (.sh (eI cell1)), none, none, none]) (sSet (d := eI cell1) 2 s_law_mixed_cell (Ev.to ev_int (congrArg eI hcell1)) (fun _ _ => rfl)) ?_
  obtain ⟨j1, hj1, h⟩ := bind_ex h
  refine blk_cons (ρ1 := [some (.sh ((eL eI) script1)), some (.sh (eI k1)), some (.sh (eI j1)), none, none, none]) (st_ifJ hj1 (te_cmp (ok_gt (i := ((script1).length : Int)) (j := 0)) (Ev.toB (cB g_law_mixed_len T.b_len bb_len (ok_lenL script1) (eab_cons (Ev.toB (vr 0 n_law_mixed_script rfl)) eab_nil (fun _ => rfl)) (fun _ => rfl) (fun _ => rfl))) (Ev.toB ev_int) rfl) ?_ ?_) ?_
  · intro h
    obtain ⟨hn2, h⟩ := need_ex h
    obtain ⟨x2, hx2, h⟩ := bind_ex h
    obtain ⟨cell2, hcell2, h⟩ := set_ex h
    refine blk_cons (ρ1 := [some (.sh ((eL eI) script1)), some (.sh (eI k1)), some (.sh (eI cell2)), none, none, none]) (sSet (d := eI cell2) 2 s_law_mixed_cell (Ev.to (ev_ix (Ev.toB (vr 0 n_law_mixed_script rfl)) (Ev.toB (ev_op (ok_mod hn2) (Ev.toB (vr 1 n_law_mixed_k rfl)) (Ev.toB (cB g_law_mixed_len T.b_len bb_len (ok_lenL script1) (eab_cons (Ev.toB (vr 0 n_law_mixed_script rfl)) eab_nil (fun _ => rfl)) (fun _ => rfl) (fun _ => rfl))))) (atI_map eI hx2) (fun _ _ => rfl)) (congrArg eI hcell2)) (fun _ _ => rfl)) ?_
    have h := Option.some.inj h
    subst h
    exact Blk.out blk_nil (.nx (.keep (.keep (.keep (.keep (.keep (.keep .nil)))))))
  · intro h
    have h := Option.some.inj h
    subst h
    exact Blk.out blk_nil (.nx (.keep (.keep (.keep (.keep (.keep (.keep .nil)))))))
  · obtain ⟨first1, hfirst1, h⟩ := set_ex h
    refine blk_cons (ρ1 := [some (.sh ((eL eI) script1)), some (.sh (eI k1)), some (.sh (eI j1)), some (.sh (eI first1)), none, none]) (sSet (d := eI first1) 3 s_law_mixed_first (Ev.to (ev_op (ok_mod (by decide)) (Ev.toB (cT g_law_mixed_int T.b_int bb_int (ok_intI (i := (((j1 * 48271) + (k1 * 69621)) + 8191))) (eab_cons (Ev.toB (ev_op ok_add (Ev.toB (ev_op ok_add (Ev.toB (ev_op (ok_mul (mul_r (by decide))) (Ev.toB (vr 2 n_law_mixed_cell rfl)) (Ev.toB ev_int))) (Ev.toB (ev_op (ok_mul (mul_r (by decide))) (Ev.toB (vr 1 n_law_mixed_k rfl)) (Ev.toB ev_int))))) (Ev.toB ev_int))) eab_nil (fun _ => rfl)) (fun _ => rfl) (fun _ => rfl))) (Ev.toB ev_int)) (congrArg eI hfirst1)) (fun _ _ => rfl)) ?_
    obtain ⟨hn3, h⟩ := need_ex h
    obtain ⟨second1, hsecond1, h⟩ := set_ex h
    refine blk_cons (ρ1 := [some (.sh ((eL eI) script1)), some (.sh (eI k1)), some (.sh (eI j1)), some (.sh (eI first1)), some (.sh (eI second1)), none]) (sSet (d := eI second1) 4 s_law_mixed_second (Ev.to (ev_op (ok_mod (by decide)) (Ev.toB (cT g_law_mixed_int T.b_int bb_int (ok_intI (i := (((first1 * first1) + (first1 / 7)) + (k1 * 16807)))) (eab_cons (Ev.toB (ev_op ok_add (Ev.toB (ev_op ok_add (Ev.toB (ev_op (ok_mul hn3) (Ev.toB (vr 3 n_law_mixed_first rfl)) (Ev.toB (vr 3 n_law_mixed_first rfl)))) (Ev.toB (ev_op (ok_fdiv (div_c (by decide))) (Ev.toB (vr 3 n_law_mixed_first rfl)) (Ev.toB ev_int))))) (Ev.toB (ev_op (ok_mul (mul_r (by decide))) (Ev.toB (vr 1 n_law_mixed_k rfl)) (Ev.toB ev_int))))) eab_nil (fun _ => rfl)) (fun _ => rfl) (fun _ => rfl))) (Ev.toB ev_int)) (congrArg eI hsecond1)) (fun _ _ => rfl)) ?_
    obtain ⟨hn4, h⟩ := need_ex h
    obtain ⟨third1, hthird1, h⟩ := set_ex h
    refine blk_cons (ρ1 := [some (.sh ((eL eI) script1)), some (.sh (eI k1)), some (.sh (eI j1)), some (.sh (eI first1)), some (.sh (eI second1)), some (.sh (eI third1))]) (sSet (d := eI third1) 5 s_law_mixed_third (Ev.to (ev_op (ok_mod (by decide)) (Ev.toB (cT g_law_mixed_int T.b_int bb_int (ok_intI (i := (((second1 * second1) + (second1 / 11)) + 40692))) (eab_cons (Ev.toB (ev_op ok_add (Ev.toB (ev_op ok_add (Ev.toB (ev_op (ok_mul hn4) (Ev.toB (vr 4 n_law_mixed_second rfl)) (Ev.toB (vr 4 n_law_mixed_second rfl)))) (Ev.toB (ev_op (ok_fdiv (div_c (by decide))) (Ev.toB (vr 4 n_law_mixed_second rfl)) (Ev.toB ev_int))))) (Ev.toB ev_int))) eab_nil (fun _ => rfl)) (fun _ => rfl) (fun _ => rfl))) (Ev.toB ev_int)) (congrArg eI hthird1)) (fun _ _ => rfl)) ?_
    have h := Option.some.inj h
    subst h
    exact blk_ret (st_ret (ev_op (ok_mod (by decide)) (Ev.toB (ev_op (ok_fdiv (div_c (by decide))) (Ev.toB (vr 5 n_law_mixed_third rfl)) (Ev.toB ev_int))) (Ev.toB ev_int)))
abbrev LV_law_row : Nat := 3
abbrev LW_law_row : Nat := 4
def C_law_row : SC := ⟨["script", "many", "big", "row", "k"], defScope (topS 11), fun _ => true⟩
theorem FS_law_row : FnScope C_law_row.N ["script", "many"] (defScope (topS 11)) := ⟨rfl, rfl, rfl, by decide +kernel, rfl, by decide +kernel, by decide +kernel⟩
theorem s_law_row_big : NmS C_law_row 2 "big" := nms (by decide +kernel)
theorem g_law_row_len : Gn C_law_row "len" := gn (by decide +kernel)
theorem n_law_row_script : Nm C_law_row 0 "script" := nm (by decide +kernel)
theorem s_law_row_row : NmS C_law_row 3 "row" := nms (by decide +kernel)
theorem n_law_row_many : Nm C_law_row 1 "many" := nm (by decide +kernel)
theorem g_law_row_range : Gn C_law_row "range" := gn (by decide +kernel)
theorem s_law_row_k : NmS C_law_row 4 "k" := nms (by decide +kernel)
theorem n_law_row_big : Nm C_law_row 2 "big" := nm (by decide +kernel)
theorem g_law_row_int : Gn C_law_row "int" := gn (by decide +kernel)
theorem n_law_row_row : Nm C_law_row 3 "row" := nm (by decide +kernel)
theorem g_law_row_law_mixed : Gn C_law_row "_law_mixed" := gn (by decide +kernel)
theorem n_law_row_k : Nm C_law_row 4 "k" := nm (by decide +kernel)
theorem ok_law_row {G : Gb} (T : Facts G) {script1 : (List Int)} {many1 : Int} {r : (List Int)} (h : law_row_m script1 many1 = some r) : Fn G LW_law_row "_law_row" [(eL eI) script1, eI many1] ((eL eI) r) := by
  unfold law_row_m at h
  refine fn_def T.f_law_row FS_law_row rfl (r := .rt ((eL eI) r)) ?_ .rt
  show Blk G C_law_row _ [some (.sh ((eL eI) script1)), some (.sh (eI many1)), none, none, none] _ _
  obtain ⟨big1, hbig1, h⟩ := set_ex h
  refine blk_cons (ρ1 := [some (.sh ((eL eI) script1)), some (.sh (eI many1)), some (.sh (eI big1)), none, none]) (sSet (d := eI big1) 2 s_law_row_big (Ev.to ev_int (congrArg eI hbig1)) (fun _ _ => rfl)) ?_
  obtain ⟨b1, hb1, h⟩ := bind_ex h
  obtain ⟨j1, hj1, h⟩ := bind_ex h
  refine blk_cons (ρ1 := [some (.sh ((eL eI) script1)), some (.sh (eI many1)), some (.sh (eI j1)), none, none]) (st_ifJ hj1 (Tw.te (tw_andO hb1 (te_cmp (ok_gt (i := ((script1).length : Int)) (j := 0)) (Ev.toB (cB g_law_row_len T.b_len bb_len (ok_lenL script1) (eab_cons (Ev.toB (vr 0 n_law_row_script rfl)) eab_nil (fun _ => rfl)) (fun _ => rfl) (fun _ => rfl))) (Ev.toB ev_int) rfl) (fun h => by (obtain ⟨x1, hx1, h⟩ := bind_ex h; have h := Option.some.inj h; subst h; exact (tw_and1 (te_cmp (ok_ge (i := x1) (j := 1000000000000000000)) (Ev.toB (ev_ix (Ev.toB (vr 0 n_law_row_script rfl)) (Ev.toB ev_int) (atI_map eI hx1) (fun _ _ => rfl))) (Ev.toB (Ev.to (ev_op (ok_pow (by decide)) (Ev.toB ev_int) (Ev.toB ev_int)) (congrArg PyData.int (by decide)))) rfl)))))) ?_ ?_) ?_
  · intro h
    obtain ⟨x3, hx3, h⟩ := bind_ex h
    obtain ⟨big2, hbig2, h⟩ := set_ex h
    refine blk_cons (ρ1 := [some (.sh ((eL eI) script1)), some (.sh (eI many1)), some (.sh (eI big2)), none, none]) (sSet (d := eI big2) 2 s_law_row_big (Ev.to (ev_ix (Ev.toB (vr 0 n_law_row_script rfl)) (Ev.toB ev_int) (atI_map eI hx3) (fun _ _ => rfl)) (congrArg eI hbig2)) (fun _ _ => rfl)) ?_
    have h := Option.some.inj h
    subst h
    exact Blk.out blk_nil (.nx (.keep (.keep (.keep (.keep (.keep .nil))))))
  · intro h
    have h := Option.some.inj h
    subst h
    exact Blk.out blk_nil (.nx (.keep (.keep (.keep (.keep (.keep .nil))))))
  · obtain ⟨row1, hrow1, h⟩ := set_ex h
    refine blk_cons (ρ1 := [some (.sh ((eL eI) script1)), some (.sh (eI many1)), some (.sh (eI j1)), some (.ow ((eL eI) row1)), none]) (sOwn (d := (eL eI) row1) 3 s_law_row_row (EvN.to (evn_lst ea_nil (le_sz (by decide : 0 ≤ 100000))) (congrArg (eL eI) hrow1)) (fun _ _ => rfl)) ?_
    obtain ⟨hn1, h⟩ := need_ex h
    obtain ⟨s2, hs2, h⟩ := bind_ex h
    refine blk_cons (ρ1 := [some (.sh ((eL eI) script1)), some (.sh (eI many1)), some (.sh (eI s2.2)), some (.ow ((eL eI) s2.1)), none]) (st_for (iR1 g_law_row_range T.b_range (Ev.toB (vr 1 n_law_row_many rfl)) hn1 (fun _ => rfl)) (for_s (R := (fun (s1 : ((List Int) × Int)) => ([some (.sh ((eL eI) script1)), some (.sh (eI many1)), some (.sh (eI s1.2)), some (.ow ((eL eI) s1.1)), none] : PEnv))) (ea := eI) (step := (law_row_l1 script1)) ?_ _ _ _ hs2) (fun _ _ => rfl)) ?_
    · intro s1 x4 o h
      unfold law_row_l1 at h
      refine ⟨_, [some (.sh ((eL eI) script1)), some (.sh (eI many1)), some (.sh (eI s1.2)), some (.ow ((eL eI) s1.1)), some (.sh (eI x4))], (tN 4 s_law_row_k), ?_⟩
      obtain ⟨j2, hj2, h⟩ := bind_ex h
      refine blk_cons (ρ1 := [some (.sh ((eL eI) script1)), some (.sh (eI many1)), some (.sh (eI j2.2)), some (.ow ((eL eI) j2.1)), some (.sh (eI x4))]) (st_ifJ hj2 (te_cmp (ok_gt (i := s1.2) (j := 0)) (Ev.toB (vr 2 n_law_row_big rfl)) (Ev.toB ev_int) rfl) ?_ ?_) ?_
      · intro h
        obtain ⟨hn2, h⟩ := need_ex h
        obtain ⟨row2, hrow2, h⟩ := set_ex h
        refine blk_cons (ρ1 := [some (.sh ((eL eI) script1)), some (.sh (eI many1)), some (.sh (eI s1.2)), some (.ow ((eL eI) row2)), some (.sh (eI x4))]) (sAppX (f := eI) (xs := s1.1) (v := (s1.2 % 1000)) hrow2 3 n_law_row_row rfl (ev_op (ok_mod (by decide)) (Ev.toB (cT g_law_row_int T.b_int bb_int (ok_intI (i := s1.2)) (eab_cons (Ev.toB (vr 2 n_law_row_big rfl)) eab_nil (fun _ => rfl)) (fun _ => rfl) (fun _ => rfl))) (Ev.toB ev_int)) hn2 (fun _ => rfl) (fun _ => rfl) (fun _ => rfl) rfl) ?_
        obtain ⟨big3, hbig3, h⟩ := set_ex h
        refine blk_cons (ρ1 := [some (.sh ((eL eI) script1)), some (.sh (eI many1)), some (.sh (eI big3)), some (.ow ((eL eI) row2)), some (.sh (eI x4))]) (sSet (d := eI big3) 2 s_law_row_big (Ev.to (ev_op (ok_fdiv (div_c (by decide))) (Ev.toB (vr 2 n_law_row_big rfl)) (Ev.toB ev_int)) (congrArg eI hbig3)) (fun _ _ => rfl)) ?_
        have h := Option.some.inj h
        subst h
        exact Blk.out blk_nil (.nx (.keep (.keep (.keep (.keep (.keep .nil))))))
      · intro h
        obtain ⟨law_mi1, hlaw_mi1, h⟩ := bind_ex h
        obtain ⟨hn3, h⟩ := need_ex h
        obtain ⟨row3, hrow3, h⟩ := set_ex h
        refine blk_cons (ρ1 := [some (.sh ((eL eI) script1)), some (.sh (eI many1)), some (.sh (eI s1.2)), some (.ow ((eL eI) row3)), some (.sh (eI x4))]) (sAppX (f := eI) (xs := s1.1) (v := law_mi1) hrow3 3 n_law_row_row rfl (cF g_law_row_law_mixed (ok_law_mixed T hlaw_mi1) (by decide : LW_law_mixed ≤ LV_law_row) (ea_cons (vr 0 n_law_row_script rfl) (ea_cons (vr 4 n_law_row_k rfl) ea_nil (fun _ => rfl)) (fun _ => rfl)) (fun _ => rfl) (fun _ => rfl)) hn3 (fun _ => rfl) (fun _ => rfl) (fun _ => rfl) rfl) ?_
        have h := Option.some.inj h
        subst h
        exact Blk.out blk_nil (.nx (.keep (.keep (.keep (.keep (.keep .nil))))))
      · have h := Option.some.inj h
        subst h
        exact Blk.out blk_nil (.nx (.keep (.keep (.keep (.keep (.drop .nil))))))
    · refine Blk.weak (ρ1 := [some (.sh ((eL eI) script1)), some (.sh (eI many1)), some (.sh (eI s2.2)), some (.sh ((eL eI) s2.1)), none]) ?_ (.keep (.keep (.keep (.frz (.keep .nil)))))
      have h := Option.some.inj h
      subst h
      exact blk_ret (st_ret (vr 3 n_law_row_row rfl))
abbrev LV_law_common : Nat := 1
abbrev LW_law_common : Nat := 2
def C_law_common : SC := ⟨["first", "second", "turn"], defScope (topS 14), fun _ => true⟩
theorem FS_law_common : FnScope C_law_common.N ["first", "second"] (defScope (topS 14)) := ⟨rfl, rfl, rfl, by decide +kernel, rfl, by decide +kernel, by decide +kernel⟩
theorem g_law_common_range : Gn C_law_common "range" := gn (by decide +kernel)
theorem s_law_common_turn : NmS C_law_common 2 "turn" := nms (by decide +kernel)
theorem n_law_common_second : Nm C_law_common 1 "second" := nm (by decide +kernel)
theorem g_law_common_int : Gn C_law_common "int" := gn (by decide +kernel)
theorem n_law_common_first : Nm C_law_common 0 "first" := nm (by decide +kernel)
theorem l_law_common_first : NmL C_law_common 0 "first" := nml (by decide +kernel)
theorem l_law_common_second : NmL C_law_common 1 "second" := nml (by decide +kernel)
theorem ok_law_common {G : Gb} (T : Facts G) {first1 : Int} {second1 : Int} {r : Int} (h : law_common_m first1 second1 = some r) : Fn G LW_law_common "_law_common" [eI first1, eI second1] (eI r) := by
  unfold law_common_m at h
  refine fn_def T.f_law_common FS_law_common rfl (r := .rt (eI r)) ?_ .rt
  show Blk G C_law_common _ [some (.sh (eI first1)), some (.sh (eI second1)), none] _ _
  obtain ⟨hn1, h⟩ := need_ex h
  obtain ⟨o1, ho1, h⟩ := bind_ex h
  refine blk_any (st_for (iR1 g_law_common_range T.b_range (Ev.toB ev_int) hn1 (fun _ => rfl)) (for_o (R := (fun (s1 : (Int × Int)) => ([some (.sh (eI s1.1)), some (.sh (eI s1.2)), none] : PEnv))) (E := eI) (ea := eI) (step := (law_common_l1)) ?_ _ _ _ ho1) (fun _ _ => rfl)) ?_
  · intro s1 x1 o h
    unfold law_common_l1 at h
    refine ⟨_, [some (.sh (eI s1.1)), some (.sh (eI s1.2)), some (.sh (eI x1))], (tN 2 s_law_common_turn), ?_⟩
    refine blk_ifx h (te_cmp (ok_eqI (i := s1.2) (j := 0)) (Ev.toB (vr 1 n_law_common_second rfl)) (Ev.toB ev_int) rfl) ?_ ?_
    · intro h
      have h := Option.some.inj h
      subst h
      exact blkx_brk st_break (.keep (.keep (.drop .nil)))
    · intro h
      obtain ⟨hn3, h⟩ := need_ex h
      obtain ⟨first2, hfirst2, h⟩ := set_ex h
      obtain ⟨second2, hsecond2, h⟩ := set_ex h
      refine blk_cons (ρ1 := [some (.sh (eI first2)), some (.sh (eI second2)), some (.sh (eI x1))]) (st_par (i := 0) (j := 1) l_law_common_first.hi l_law_common_second.hi (by decide) l_law_common_first.hl l_law_common_second.hl (Ev.s (Ev.to (vr 1 n_law_common_second rfl) (congrArg eI hfirst2))) (Ev.s (Ev.to (ev_op (ok_mod hn3) (Ev.toB (cT g_law_common_int T.b_int bb_int (ok_intI (i := s1.1)) (eab_cons (Ev.toB (vr 0 n_law_common_first rfl)) eab_nil (fun _ => rfl)) (fun _ => rfl) (fun _ => rfl))) (Ev.toB (vr 1 n_law_common_second rfl))) (congrArg eI hsecond2))) (fun env h => swp_sc env h (by kernel_rfl)) (fun _ => rfl) (fun _ => rfl) (fun _ => rfl)) ?_
      have h := Option.some.inj h
      subst h
      exact Blk.out blk_nil (.nx (.keep (.keep (.drop .nil))))
  · rcases then_ex h with ⟨s2, e, h⟩ | ⟨b, e, h⟩
    · subst e
      show Blk G C_law_common _ [some (.sh (eI s2.1)), some (.sh (eI s2.2)), none] _ _
      have h := Option.some.inj h
      subst h
      exact blk_ret (st_ret (vr 0 n_law_common_first rfl))
    · subst e
      have h := Option.some.inj h
      subst h
      rfl
abbrev LV_law_ratio : Nat := 3
abbrev LW_law_ratio : Nat := 4
def C_law_ratio : SC := ⟨["a", "b", "shared"], defScope (topS 15), fun _ => true⟩
theorem FS_law_ratio : FnScope C_law_ratio.N ["a", "b"] (defScope (topS 15)) := ⟨rfl, rfl, rfl, by decide +kernel, rfl, by decide +kernel, by decide +kernel⟩
theorem g_law_ratio_law_common : Gn C_law_ratio "_law_common" := gn (by decide +kernel)
theorem n_law_ratio_a : Nm C_law_ratio 0 "a" := nm (by decide +kernel)
theorem n_law_ratio_b : Nm C_law_ratio 1 "b" := nm (by decide +kernel)
theorem s_law_ratio_shared : NmS C_law_ratio 2 "shared" := nms (by decide +kernel)
theorem n_law_ratio_shared : Nm C_law_ratio 2 "shared" := nm (by decide +kernel)
theorem ok_law_ratio {G : Gb} (T : Facts G) {a1 : Int} {b1 : Int} {r : (Int × Int)} (h : law_ratio_m a1 b1 = some r) : Fn G LW_law_ratio "_law_ratio" [eI a1, eI b1] ((eP eI eI) r) := by
  unfold law_ratio_m at h
  refine fn_def T.f_law_ratio FS_law_ratio rfl (r := .rt ((eP eI eI) r)) ?_ .rt
  show Blk G C_law_ratio _ [some (.sh (eI a1)), some (.sh (eI b1)), none] _ _
  obtain ⟨law_co1, hlaw_co1, h⟩ := bind_ex h
  obtain ⟨shared1, hshared1, h⟩ := set_ex h
  refine blk_cons (ρ1 := [some (.sh (eI a1)), some (.sh (eI b1)), some (.sh (eI shared1))]) (sSet (d := eI shared1) 2 s_law_ratio_shared (Ev.to (cF g_law_ratio_law_common (ok_law_common T hlaw_co1) (by decide : LW_law_common ≤ LV_law_ratio) (ea_cons (vr 0 n_law_ratio_a rfl) (ea_cons (vr 1 n_law_ratio_b rfl) ea_nil (fun _ => rfl)) (fun _ => rfl)) (fun _ => rfl) (fun _ => rfl)) (congrArg eI hshared1)) (fun _ _ => rfl)) ?_
  obtain ⟨hn1, h⟩ := need_ex h
  obtain ⟨hn2, h⟩ := need_ex h
  have h := Option.some.inj h
  subst h
  exact blk_ret (st_ret (ev_tup (ea_cons (ev_op (ok_fdiv hn1) (Ev.toB (vr 0 n_law_ratio_a rfl)) (Ev.toB (vr 2 n_law_ratio_shared rfl))) (ea_cons (ev_op (ok_fdiv hn2) (Ev.toB (vr 1 n_law_ratio_b rfl)) (Ev.toB (vr 2 n_law_ratio_shared rfl))) ea_nil (fun _ => rfl)) (fun _ => rfl)) (le_sz (by decide : 2 ≤ 100000))))
abbrev LV_law_sent_right : Nat := 5
abbrev LW_law_sent_right : Nat := 6
def C_law_sent_right : SC := ⟨["bits", "first", "second", "listener", "chances", "kept", "known", "k", "sure", "turned", "many", "told", "base"], defScope (topS 16), fun _ => true⟩
theorem FS_law_sent_right : FnScope C_law_sent_right.N ["bits", "first", "second", "listener"] (defScope (topS 16)) := ⟨rfl, rfl, rfl, by decide +kernel, rfl, by decide +kernel, by decide +kernel⟩
theorem s_law_sent_right_chances : NmS C_law_sent_right 4 "chances" := nms (by decide +kernel)
theorem s_law_sent_right_kept : NmS C_law_sent_right 5 "kept" := nms (by decide +kernel)
theorem s_law_sent_right_known : NmS C_law_sent_right 6 "known" := nms (by decide +kernel)
theorem g_law_sent_right_len : Gn C_law_sent_right "len" := gn (by decide +kernel)
theorem n_law_sent_right_bits : Nm C_law_sent_right 0 "bits" := nm (by decide +kernel)
theorem g_law_sent_right_range : Gn C_law_sent_right "range" := gn (by decide +kernel)
theorem s_law_sent_right_k : NmS C_law_sent_right 7 "k" := nms (by decide +kernel)
theorem n_law_sent_right_first : Nm C_law_sent_right 1 "first" := nm (by decide +kernel)
theorem n_law_sent_right_k : Nm C_law_sent_right 7 "k" := nm (by decide +kernel)
theorem n_law_sent_right_second : Nm C_law_sent_right 2 "second" := nm (by decide +kernel)
theorem n_law_sent_right_listener : Nm C_law_sent_right 3 "listener" := nm (by decide +kernel)
theorem s_law_sent_right_sure : NmS C_law_sent_right 8 "sure" := nms (by decide +kernel)
theorem g_law_sent_right_int : Gn C_law_sent_right "int" := gn (by decide +kernel)
theorem n_law_sent_right_sure : Nm C_law_sent_right 8 "sure" := nm (by decide +kernel)
theorem n_law_sent_right_chances : Nm C_law_sent_right 4 "chances" := nm (by decide +kernel)
theorem n_law_sent_right_kept : Nm C_law_sent_right 5 "kept" := nm (by decide +kernel)
theorem n_law_sent_right_known : Nm C_law_sent_right 6 "known" := nm (by decide +kernel)
theorem g_law_sent_right_law_like : Gn C_law_sent_right "_law_like" := gn (by decide +kernel)
theorem g_law_sent_right_sent_bases : Gn C_law_sent_right "sent_bases" := gn (by decide +kernel)
theorem g_law_sent_right_tuple : Gn C_law_sent_right "tuple" := gn (by decide +kernel)
theorem g_law_sent_right_kept_places : Gn C_law_sent_right "kept_places" := gn (by decide +kernel)
theorem g_law_sent_right_bits_known : Gn C_law_sent_right "bits_known" := gn (by decide +kernel)
theorem s_law_sent_right_turned : NmS C_law_sent_right 9 "turned" := nms (by decide +kernel)
theorem n_law_sent_right_turned : Nm C_law_sent_right 9 "turned" := nm (by decide +kernel)
theorem g_law_sent_right_any : Gn C_law_sent_right "any" := gn (by decide +kernel)
theorem s_law_sent_right_many : NmS C_law_sent_right 10 "many" := nms (by decide +kernel)
theorem n_law_sent_right_many : Nm C_law_sent_right 10 "many" := nm (by decide +kernel)
theorem l_law_sent_right_told : NmL C_law_sent_right 11 "told" := nml (by decide +kernel)
theorem l_law_sent_right_known : NmL C_law_sent_right 6 "known" := nml (by decide +kernel)
theorem n_law_sent_right_told : Nm C_law_sent_right 11 "told" := nm (by decide +kernel)
theorem ok_law_sent_right {G : Gb} (T : Facts G) {bits1 : (List Int)} {first1 : (List Int)} {second1 : (List Int)} {listener1 : (List (Option Int))} {r : Bool} (h : law_sent_right_m bits1 first1 second1 listener1 = some r) : Fn G LW_law_sent_right "_law_sent_right" [(eT eI) bits1, (eT eI) first1, (eT eI) second1, (eT (eO eI)) listener1] (eB r) := by
  unfold law_sent_right_m at h
  refine fn_def T.f_law_sent_right FS_law_sent_right rfl (r := .rt (eB r)) ?_ .rt
  show Blk G C_law_sent_right _ [some (.sh ((eT eI) bits1)), some (.sh ((eT eI) first1)), some (.sh ((eT eI) second1)), some (.sh ((eT (eO eI)) listener1)), none, none, none, none, none, none, none, none, none] _ _
  obtain ⟨chances1, hchances1, h⟩ := set_ex h
  obtain ⟨kept1, hkept1, h⟩ := set_ex h
  obtain ⟨known1, hknown1, h⟩ := set_ex h
  refine blk_cons (ρ1 := [some (.sh ((eT eI) bits1)), some (.sh ((eT eI) first1)), some (.sh ((eT eI) second1)), some (.sh ((eT (eO eI)) listener1)), some (.ow ((eL (eP eI eI)) chances1)), some (.ow ((eL eI) kept1)), some (.ow ((eL eI) known1)), none, none, none, none, none, none]) (st_unp3 s_law_sent_right_chances s_law_sent_right_kept s_law_sent_right_known (EvN.s (EvN.to (evn_lst ea_nil (le_sz (by decide : 0 ≤ 100000))) (congrArg (eL (eP eI eI)) hchances1))) (EvN.s (EvN.to (evn_lst ea_nil (le_sz (by decide : 0 ≤ 100000))) (congrArg (eL eI) hkept1))) (EvN.s (EvN.to (evn_lst ea_nil (le_sz (by decide : 0 ≤ 100000))) (congrArg (eL eI) hknown1))) (fun env h => swp_sc env h (by kernel_rfl)) (fun _ => rfl) (fun _ => rfl) (fun _ => rfl)) ?_
  refine blk_bd (f := eI) (xs := bits1) 0 (.inl rfl) fun hb1 => ?_
  obtain ⟨s2, hs2, h⟩ := bind_ex h
  refine blk_cons (ρ1 := [some (.sh ((eT eI) bits1)), some (.sh ((eT eI) first1)), some (.sh ((eT eI) second1)), some (.sh ((eT (eO eI)) listener1)), some (.ow ((eL (eP eI eI)) s2.1)), some (.ow ((eL eI) s2.2.1)), some (.ow ((eL eI) s2.2.2)), none, none, none, none, none, none]) (st_for (iR1 g_law_sent_right_range T.b_range (Ev.toB (cB g_law_sent_right_len T.b_len bb_len (ok_lenT bits1) (eab_cons (Ev.toB (vr 0 n_law_sent_right_bits rfl)) eab_nil (fun _ => rfl)) (fun _ => rfl) (fun _ => rfl))) (rg_len hb1) (fun _ => rfl)) (for_s (R := (fun (s1 : ((List (Int × Int)) × (List Int) × (List Int))) => ([some (.sh ((eT eI) bits1)), some (.sh ((eT eI) first1)), some (.sh ((eT eI) second1)), some (.sh ((eT (eO eI)) listener1)), some (.ow ((eL (eP eI eI)) s1.1)), some (.ow ((eL eI) s1.2.1)), some (.ow ((eL eI) s1.2.2)), none, none, none, none, none, none] : PEnv))) (ea := eI) (step := (law_sent_right_l1 bits1 first1 second1 listener1)) ?_ _ _ _ hs2) (fun _ _ => rfl)) ?_
  · intro s1 x1 o h
    unfold law_sent_right_l1 at h
    refine ⟨_, [some (.sh ((eT eI) bits1)), some (.sh ((eT eI) first1)), some (.sh ((eT eI) second1)), some (.sh ((eT (eO eI)) listener1)), some (.ow ((eL (eP eI eI)) s1.1)), some (.ow ((eL eI) s1.2.1)), some (.ow ((eL eI) s1.2.2)), some (.sh (eI x1)), none, none, none, none, none], (tN 7 s_law_sent_right_k), ?_⟩
    obtain ⟨x2, hx2, h⟩ := bind_ex h
    obtain ⟨x3, hx3, h⟩ := bind_ex h
    obtain ⟨b2, hb2, h⟩ := bind_ex h
    obtain ⟨sure1, hsure1, h⟩ := set_ex h
    refine blk_cons (ρ1 := [some (.sh ((eT eI) bits1)), some (.sh ((eT eI) first1)), some (.sh ((eT eI) second1)), some (.sh ((eT (eO eI)) listener1)), some (.ow ((eL (eP eI eI)) s1.1)), some (.ow ((eL eI) s1.2.1)), some (.ow ((eL eI) s1.2.2)), some (.sh (eI x1)), some (.sh (eB sure1)), none, none, none, none]) (sSet (d := eB sure1) 8 s_law_sent_right_sure (Ev.to (ev_andO hb2 (ev_cmp (ok_eqI (i := x2) (j := x3)) (Ev.toB (ev_ixT (Ev.toB (vr 1 n_law_sent_right_first rfl)) (Ev.toB (vr 7 n_law_sent_right_k rfl)) (atI_map eI hx2) (fun _ _ => rfl))) (Ev.toB (ev_ixT (Ev.toB (vr 2 n_law_sent_right_second rfl)) (Ev.toB (vr 7 n_law_sent_right_k rfl)) (atI_map eI hx3) (fun _ _ => rfl))) rfl) (fun h => by (obtain ⟨x4, hx4, h⟩ := bind_ex h; obtain ⟨b1, hb1, h⟩ := bind_ex h; have h := Option.some.inj h; subst h; exact (ev_one (ev_orO hb1 (ev_cmp (ok_isO nn_I x4) (Ev.toB (ev_ixT (Ev.toB (vr 3 n_law_sent_right_listener rfl)) (Ev.toB (vr 7 n_law_sent_right_k rfl)) (atI_map (eO eI) hx4) (fun _ _ => rfl))) (Ev.toB ev_none) rfl) (fun h => by (obtain ⟨x5, hx5, h⟩ := bind_ex h; obtain ⟨x6, hx6, h⟩ := bind_ex h; have h := Option.some.inj h; subst h; exact (ev_one (ev_cmp (ok_eqT (eq_O eq_I nn_I) x5 (some x6)) (Ev.toB (ev_ixT (Ev.toB (vr 3 n_law_sent_right_listener rfl)) (Ev.toB (vr 7 n_law_sent_right_k rfl)) (atI_map (eO eI) hx5) (fun _ _ => rfl))) (Ev.toB (ev_ixT (Ev.toB (vr 1 n_law_sent_right_first rfl)) (Ev.toB (vr 7 n_law_sent_right_k rfl)) (atI_map eI hx6) (fun _ _ => rfl))) rfl))))))))) (congrArg eB hsure1)) (fun _ _ => rfl)) ?_
    obtain ⟨x8, hx8, h⟩ := bind_ex h
    obtain ⟨x9, hx9, h⟩ := bind_ex h
    obtain ⟨hn1, h⟩ := need_ex h
    obtain ⟨chances2, hchances2, h⟩ := set_ex h
    refine blk_cons (ρ1 := [some (.sh ((eT eI) bits1)), some (.sh ((eT eI) first1)), some (.sh ((eT eI) second1)), some (.sh ((eT (eO eI)) listener1)), some (.ow ((eL (eP eI eI)) chances2)), some (.ow ((eL eI) s1.2.1)), some (.ow ((eL eI) s1.2.2)), some (.sh (eI x1)), some (.sh (eB sure1)), none, none, none, none]) (sAppX (f := (eP eI eI)) (xs := s1.1) (v := x9) hchances2 4 n_law_sent_right_chances rfl (ev_ixT (Ev.toB (ev_tup (ea_cons (ev_tup (ea_cons ev_int (ea_cons ev_int ea_nil (fun _ => rfl)) (fun _ => rfl)) (le_sz (by decide : 2 ≤ 100000))) (ea_cons (ev_tup (ea_cons (ev_ixT (Ev.toB (vr 0 n_law_sent_right_bits rfl)) (Ev.toB (vr 7 n_law_sent_right_k rfl)) (atI_map eI hx8) (fun _ _ => rfl)) (ea_cons ev_int ea_nil (fun _ => rfl)) (fun _ => rfl)) (le_sz (by decide : 2 ≤ 100000))) ea_nil (fun _ => rfl)) (fun _ => rfl)) (le_sz (by decide : 2 ≤ 100000)))) (Ev.toB (cT g_law_sent_right_int T.b_int bb_int (ok_intB (b := sure1)) (eab_cons (Ev.toB (vr 8 n_law_sent_right_sure rfl)) eab_nil (fun _ => rfl)) (fun _ => rfl) (fun _ => rfl))) (atI_map (eP eI eI) hx9) (fun _ _ => rfl)) hn1 (fun _ => rfl) (fun _ => rfl) (fun _ => rfl) rfl) ?_
    obtain ⟨x10, hx10, h⟩ := bind_ex h
    obtain ⟨x11, hx11, h⟩ := bind_ex h
    obtain ⟨hn2, h⟩ := need_ex h
    obtain ⟨hn3, h⟩ := need_ex h
    obtain ⟨kept2, hkept2, h⟩ := set_ex h
    refine blk_cons (ρ1 := [some (.sh ((eT eI) bits1)), some (.sh ((eT eI) first1)), some (.sh ((eT eI) second1)), some (.sh ((eT (eO eI)) listener1)), some (.ow ((eL (eP eI eI)) chances2)), some (.ow ((eL eI) kept2)), some (.ow ((eL eI) s1.2.2)), some (.sh (eI x1)), some (.sh (eB sure1)), none, none, none, none]) (sExtX (f := eI) (xs := s1.2.1) (ys := (repL [x1] (if (decide (x10 = x11)) = true then 1 else 0))) hkept2 5 n_law_sent_right_kept rfl (evn_repX (evn_lst (ea_cons (vr 7 n_law_sent_right_k rfl) ea_nil (fun _ => rfl)) (le_sz (by decide : 1 ≤ 100000))) (Ev.toB (cT g_law_sent_right_int T.b_int bb_int (ok_intB (b := (decide (x10 = x11)))) (eab_cons (Ev.toB (ev_cmp (ok_eqI (i := x10) (j := x11)) (Ev.toB (ev_ixT (Ev.toB (vr 1 n_law_sent_right_first rfl)) (Ev.toB (vr 7 n_law_sent_right_k rfl)) (atI_map eI hx10) (fun _ _ => rfl))) (Ev.toB (ev_ixT (Ev.toB (vr 2 n_law_sent_right_second rfl)) (Ev.toB (vr 7 n_law_sent_right_k rfl)) (atI_map eI hx11) (fun _ _ => rfl))) rfl)) eab_nil (fun _ => rfl)) (fun _ => rfl) (fun _ => rfl))) hn2) hn3 (fun _ => rfl) (fun _ => rfl) (fun _ => rfl) rfl) ?_
    obtain ⟨b3, hb3, h⟩ := bind_ex h
    obtain ⟨hn4, h⟩ := need_ex h
    obtain ⟨hn5, h⟩ := need_ex h
    obtain ⟨known2, hknown2, h⟩ := set_ex h
    refine blk_cons (ρ1 := [some (.sh ((eT eI) bits1)), some (.sh ((eT eI) first1)), some (.sh ((eT eI) second1)), some (.sh ((eT (eO eI)) listener1)), some (.ow ((eL (eP eI eI)) chances2)), some (.ow ((eL eI) kept2)), some (.ow ((eL eI) known2)), some (.sh (eI x1)), some (.sh (eB sure1)), none, none, none, none]) (sExtX (f := eI) (xs := s1.2.2) (ys := (repL [x1] (if b3 = true then 1 else 0))) hknown2 6 n_law_sent_right_known rfl (evn_repX (evn_lst (ea_cons (vr 7 n_law_sent_right_k rfl) ea_nil (fun _ => rfl)) (le_sz (by decide : 1 ≤ 100000))) (Ev.toB (cT g_law_sent_right_int T.b_int bb_int (ok_intB (b := b3)) (eab_cons (Ev.toB (ev_andO hb3 (vr 8 n_law_sent_right_sure rfl) (fun h => by (obtain ⟨x12, hx12, h⟩ := bind_ex h; have h := Option.some.inj h; subst h; exact (ev_one (ev_cmp (ok_isnotO nn_I x12) (Ev.toB (ev_ixT (Ev.toB (vr 3 n_law_sent_right_listener rfl)) (Ev.toB (vr 7 n_law_sent_right_k rfl)) (atI_map (eO eI) hx12) (fun _ _ => rfl))) (Ev.toB ev_none) rfl)))))) eab_nil (fun _ => rfl)) (fun _ => rfl) (fun _ => rfl))) hn4) hn5 (fun _ => rfl) (fun _ => rfl) (fun _ => rfl) rfl) ?_
    have h := Option.some.inj h
    subst h
    exact Blk.out blk_nil (.nx (.keep (.keep (.keep (.keep (.keep (.keep (.keep (.drop (.drop (.keep (.keep (.keep (.keep .nil))))))))))))))
  · refine Blk.weak (ρ1 := [some (.sh ((eT eI) bits1)), some (.sh ((eT eI) first1)), some (.sh ((eT eI) second1)), some (.sh ((eT (eO eI)) listener1)), some (.sh ((eL (eP eI eI)) s2.1)), some (.sh ((eL eI) s2.2.1)), some (.sh ((eL eI) s2.2.2)), none, none, none, none, none, none]) ?_ (.keep (.keep (.keep (.keep (.frz (.frz (.frz (.keep (.keep (.keep (.keep (.keep (.keep .nil)))))))))))))
    obtain ⟨sent_b1, hsent_b1, h⟩ := bind_ex h
    refine blk_ifx h (te_not (te_val (Ev.toB (cF g_law_sent_right_law_like (ok_like T 2 ((eT (eP eI eI)) s2.1) ((eT (eP eI eI)) sent_b1) ((du_t (du_P du_I du_I)).ok _) ((du_t (du_P du_I du_I)).dp _)) (by decide : 4 ≤ LV_law_sent_right) (ea_cons (cF g_law_sent_right_sent_bases (ok_sent_bases T hsent_b1) (by decide : LW_sent_bases ≤ LV_law_sent_right) (ea_cons (vr 0 n_law_sent_right_bits rfl) (ea_cons (vr 1 n_law_sent_right_first rfl) (ea_cons (vr 2 n_law_sent_right_second rfl) (ea_cons (vr 3 n_law_sent_right_listener rfl) ea_nil (fun _ => rfl)) (fun _ => rfl)) (fun _ => rfl)) (fun _ => rfl)) (fun _ => rfl) (fun _ => rfl)) (ea_cons (cT g_law_sent_right_tuple T.b_tuple bb_tuple (ok_tupL s2.1) (eab_cons (Ev.toB (vr 4 n_law_sent_right_chances rfl)) eab_nil (fun _ => rfl)) (fun _ => rfl) (fun _ => rfl)) ea_nil (fun _ => rfl)) (fun _ => rfl)) (fun _ => rfl) (fun _ => rfl))) (fun _ _ => rfl))) ?_ ?_
    · intro h
      have h := Option.some.inj h
      subst h
      exact blkx_ret (st_ret ev_bool)
    · intro h
      obtain ⟨kept_p1, hkept_p1, h⟩ := bind_ex h
      obtain ⟨bits_k1, hbits_k1, h⟩ := bind_ex h
      refine blk_ifx h (te_not (te_val (Ev.toB (cF g_law_sent_right_law_like (ok_like T 2 ((eP (eT eI) (eT eI)) (s2.2.1, s2.2.2)) ((eP (eT eI) (eT eI)) (kept_p1, bits_k1)) ((du_P (du_t du_I) (du_t du_I)).ok _) ((du_P (du_t du_I) (du_t du_I)).dp _)) (by decide : 4 ≤ LV_law_sent_right) (ea_cons (ev_tup (ea_cons (cF g_law_sent_right_kept_places (ok_kept_places T hkept_p1) (by decide : LW_kept_places ≤ LV_law_sent_right) (ea_cons (Ev.to (vr 1 n_law_sent_right_first rfl) (eT_some eI first1)) (ea_cons (Ev.to (vr 2 n_law_sent_right_second rfl) (eT_some eI second1)) ea_nil (fun _ => rfl)) (fun _ => rfl)) (fun _ => rfl) (fun _ => rfl)) (ea_cons (cF g_law_sent_right_bits_known (ok_bits_known T hbits_k1) (by decide : LW_bits_known ≤ LV_law_sent_right) (ea_cons (vr 3 n_law_sent_right_listener rfl) (ea_cons (Ev.to (vr 1 n_law_sent_right_first rfl) (eT_some eI first1)) (ea_cons (Ev.to (vr 2 n_law_sent_right_second rfl) (eT_some eI second1)) ea_nil (fun _ => rfl)) (fun _ => rfl)) (fun _ => rfl)) (fun _ => rfl) (fun _ => rfl)) ea_nil (fun _ => rfl)) (fun _ => rfl)) (le_sz (by decide : 2 ≤ 100000))) (ea_cons (ev_tup (ea_cons (cT g_law_sent_right_tuple T.b_tuple bb_tuple (ok_tupL s2.2.1) (eab_cons (Ev.toB (vr 5 n_law_sent_right_kept rfl)) eab_nil (fun _ => rfl)) (fun _ => rfl) (fun _ => rfl)) (ea_cons (cT g_law_sent_right_tuple T.b_tuple bb_tuple (ok_tupL s2.2.2) (eab_cons (Ev.toB (vr 6 n_law_sent_right_known rfl)) eab_nil (fun _ => rfl)) (fun _ => rfl) (fun _ => rfl)) ea_nil (fun _ => rfl)) (fun _ => rfl)) (le_sz (by decide : 2 ≤ 100000))) ea_nil (fun _ => rfl)) (fun _ => rfl)) (fun _ => rfl) (fun _ => rfl))) (fun _ _ => rfl))) ?_ ?_
      · intro h
        have h := Option.some.inj h
        subst h
        exact blkx_ret (st_ret ev_bool)
      · intro h
        obtain ⟨turned1, hturned1, h⟩ := set_ex h
        refine blk_cons (ρ1 := [some (.sh ((eT eI) bits1)), some (.sh ((eT eI) first1)), some (.sh ((eT eI) second1)), some (.sh ((eT (eO eI)) listener1)), some (.sh ((eL (eP eI eI)) s2.1)), some (.sh ((eL eI) s2.2.1)), some (.sh ((eL eI) s2.2.2)), none, none, some (.sh ((eT eI) turned1)), none, none, none]) (sSet (d := (eT eI) turned1) 9 s_law_sent_right_turned (Ev.to (cT g_law_sent_right_tuple T.b_tuple bb_tuple (ok_tupL (List.map (fun z1 : Int => (1 - z1)) second1)) (eab_cons (Ev.toB (EvN.ev (nLc [("base", 12)] (by decide +kernel) (It'.toB (it_tup (vr 2 n_law_sent_right_second rfl))) (lcr_mapT (ea := eI) (eb := eI) (fun z1 : Int => (1 - z1)) (fun z1 => step_one (by decide) (tN 12 (nms (by decide +kernel))) (ev_op ok_sub (Ev.toB ev_int) (Ev.toB (vr 12 (nm (by decide +kernel)) rfl)))) _) (zz_fil (len_m _ _)) (fun _ _ => rfl)))) eab_nil (fun _ => rfl)) (fun _ => rfl) (fun _ => rfl)) (congrArg (eT eI) hturned1)) (fun _ _ => rfl)) ?_
        refine blk_bd (f := eI) (xs := bits1) 0 (.inl rfl) fun hb2 => ?_
        obtain ⟨kept_p2, hkept_p2, h⟩ := bind_ex h
        refine blk_ifx h (te_not (te_val (Ev.toB (cF g_law_sent_right_law_like (ok_like T 1 ((eT eI) ((List.filter (fun z2 : Int => (!decide (z2 ∈ s2.2.1))) (rangeD 0 ((bits1).length : Int))).map (fun z2 : Int => z2))) ((eT eI) kept_p2) ((du_t du_I).ok _) ((du_t du_I).dp _)) (by decide : 3 ≤ LV_law_sent_right) (ea_cons (cF g_law_sent_right_kept_places (ok_kept_places T hkept_p2) (by decide : LW_kept_places ≤ LV_law_sent_right) (ea_cons (Ev.to (vr 9 n_law_sent_right_turned rfl) (eT_some eI turned1)) (ea_cons (Ev.to (vr 1 n_law_sent_right_first rfl) (eT_some eI first1)) ea_nil (fun _ => rfl)) (fun _ => rfl)) (fun _ => rfl) (fun _ => rfl)) (ea_cons (cT g_law_sent_right_tuple T.b_tuple bb_tuple (ok_tupL ((List.filter (fun z2 : Int => (!decide (z2 ∈ s2.2.1))) (rangeD 0 ((bits1).length : Int))).map (fun z2 : Int => z2))) (eab_cons (Ev.toB (EvN.ev (nLc [("k", 7)] (by decide +kernel) (It'.toB (iR1 g_law_sent_right_range T.b_range (Ev.toB (cB g_law_sent_right_len T.b_len bb_len (ok_lenT bits1) (eab_cons (Ev.toB (vr 0 n_law_sent_right_bits rfl)) eab_nil (fun _ => rfl)) (fun _ => rfl) (fun _ => rfl))) (rg_len hb2) (fun _ => rfl))) (lcr_filT (ea := eI) (eb := eI) (fun z2 : Int => (!decide (z2 ∈ s2.2.1))) (fun z2 : Int => z2) (fun z2 => step_if (by decide) (tN 7 (nms (by decide +kernel))) (te_cmp (ok_notInLT eq_I z2 s2.2.1) (Ev.toB (vr 7 (nm (by decide +kernel)) rfl)) (Ev.toB (vr 5 (nm (by decide +kernel)) rfl)) rfl) (fun _ => (vr 7 (nm (by decide +kernel)) rfl))) _) (zz_rg (rg_len hb2) (len_f _ _ _)) (fun _ _ => rfl)))) eab_nil (fun _ => rfl)) (fun _ => rfl) (fun _ => rfl)) ea_nil (fun _ => rfl)) (fun _ => rfl)) (fun _ => rfl) (fun _ => rfl))) (fun _ _ => rfl))) ?_ ?_
        · intro h
          have h := Option.some.inj h
          subst h
          exact blkx_ret (st_ret ev_bool)
        · intro h
          refine blk_ifx h (te_val (Ev.toB (cB g_law_sent_right_any T.b_any bb_any (ok_anyL (List.map (fun z3 : (Option Int) => ((z3.isNone))) listener1)) (eab_cons (Ev.toB (EvN.ev (nLc [("base", 12)] (by decide +kernel) (It'.toB (it_tup (vr 3 n_law_sent_right_listener rfl))) (lcr_mapT (ea := (eO eI)) (eb := eB) (fun z3 : (Option Int) => ((z3.isNone))) (fun z3 => step_one (by decide) (tN 12 (nms (by decide +kernel))) (ev_cmp (ok_isO nn_I z3) (Ev.toB (vr 12 (nm (by decide +kernel)) rfl)) (Ev.toB ev_none) rfl)) _) (zz_fil (len_m _ _)) (fun _ _ => rfl)))) eab_nil (fun _ => rfl)) (fun _ => rfl) (fun _ => rfl))) (fun _ _ => rfl)) ?_ ?_
          · intro h
            have h := Option.some.inj h
            subst h
            exact blkx_ret (st_ret ev_bool)
          · intro h
            obtain ⟨kept_p3, hkept_p3, h⟩ := bind_ex h
            obtain ⟨kept_p4, hkept_p4, h⟩ := bind_ex h
            obtain ⟨many1, hmany1, h⟩ := set_ex h
            refine blk_cons (ρ1 := [some (.sh ((eT eI) bits1)), some (.sh ((eT eI) first1)), some (.sh ((eT eI) second1)), some (.sh ((eT (eO eI)) listener1)), some (.sh ((eL (eP eI eI)) s2.1)), some (.sh ((eL eI) s2.2.1)), some (.sh ((eL eI) s2.2.2)), none, none, some (.sh ((eT eI) turned1)), some (.sh (eI many1)), none, none]) (sSet (d := eI many1) 10 s_law_sent_right_many (Ev.to (ev_op ok_add (Ev.toB (ev_op ok_add (Ev.toB (cB g_law_sent_right_len T.b_len bb_len (ok_lenL s2.2.1) (eab_cons (Ev.toB (vr 5 n_law_sent_right_kept rfl)) eab_nil (fun _ => rfl)) (fun _ => rfl) (fun _ => rfl))) (Ev.toB (cB g_law_sent_right_len T.b_len bb_len (ok_lenT kept_p3) (eab_cons (Ev.toB (cF g_law_sent_right_kept_places (ok_kept_places T hkept_p3) (by decide : LW_kept_places ≤ LV_law_sent_right) (ea_cons (vr 3 n_law_sent_right_listener rfl) (ea_cons (Ev.to (vr 1 n_law_sent_right_first rfl) (eT_some eI first1)) ea_nil (fun _ => rfl)) (fun _ => rfl)) (fun _ => rfl) (fun _ => rfl))) eab_nil (fun _ => rfl)) (fun _ => rfl) (fun _ => rfl))))) (Ev.toB (cB g_law_sent_right_len T.b_len bb_len (ok_lenT kept_p4) (eab_cons (Ev.toB (cF g_law_sent_right_kept_places (ok_kept_places T hkept_p4) (by decide : LW_kept_places ≤ LV_law_sent_right) (ea_cons (vr 3 n_law_sent_right_listener rfl) (ea_cons (Ev.to (vr 2 n_law_sent_right_second rfl) (eT_some eI second1)) ea_nil (fun _ => rfl)) (fun _ => rfl)) (fun _ => rfl) (fun _ => rfl))) eab_nil (fun _ => rfl)) (fun _ => rfl) (fun _ => rfl)))) (congrArg eI hmany1)) (fun _ _ => rfl)) ?_
            refine blk_ifx h (te_cmp (ok_neI (i := many1) (j := (((bits1).length : Int) + (2 * ((s2.2.2).length : Int))))) (Ev.toB (vr 10 n_law_sent_right_many rfl)) (Ev.toB (ev_op ok_add (Ev.toB (cB g_law_sent_right_len T.b_len bb_len (ok_lenT bits1) (eab_cons (Ev.toB (vr 0 n_law_sent_right_bits rfl)) eab_nil (fun _ => rfl)) (fun _ => rfl) (fun _ => rfl))) (Ev.toB (ev_op (ok_mul (mul_l (by decide))) (Ev.toB ev_int) (Ev.toB (cB g_law_sent_right_len T.b_len bb_len (ok_lenL s2.2.2) (eab_cons (Ev.toB (vr 6 n_law_sent_right_known rfl)) eab_nil (fun _ => rfl)) (fun _ => rfl) (fun _ => rfl))))))) rfl) ?_ ?_
            · intro h
              have h := Option.some.inj h
              subst h
              exact blkx_ret (st_ret ev_bool)
            · intro h
              obtain ⟨bits_k2, hbits_k2, h⟩ := bind_ex h
              obtain ⟨bits_k3, hbits_k3, h⟩ := bind_ex h
              obtain ⟨told1, htold1, h⟩ := set_ex h
              obtain ⟨known3, hknown3, h⟩ := set_ex h
              refine blk_cons (ρ1 := [some (.sh ((eT eI) bits1)), some (.sh ((eT eI) first1)), some (.sh ((eT eI) second1)), some (.sh ((eT (eO eI)) listener1)), some (.sh ((eL (eP eI eI)) s2.1)), some (.sh ((eL eI) s2.2.1)), some (.sh ((eT eI) known3)), none, none, some (.sh ((eT eI) turned1)), some (.sh (eI many1)), some (.sh ((eP (eT eI) (eT eI)) told1)), none]) (st_par (i := 11) (j := 6) l_law_sent_right_told.hi l_law_sent_right_known.hi (by decide) l_law_sent_right_told.hl l_law_sent_right_known.hl (Ev.s (Ev.to (ev_tup (ea_cons (cF g_law_sent_right_bits_known (ok_bits_known T hbits_k2) (by decide : LW_bits_known ≤ LV_law_sent_right) (ea_cons (Ev.to (vr 1 n_law_sent_right_first rfl) (eT_some eI first1)) (ea_cons (Ev.to (vr 2 n_law_sent_right_second rfl) (eT_some eI second1)) (ea_cons (vr 3 n_law_sent_right_listener rfl) ea_nil (fun _ => rfl)) (fun _ => rfl)) (fun _ => rfl)) (fun _ => rfl) (fun _ => rfl)) (ea_cons (cF g_law_sent_right_bits_known (ok_bits_known T hbits_k3) (by decide : LW_bits_known ≤ LV_law_sent_right) (ea_cons (Ev.to (vr 2 n_law_sent_right_second rfl) (eT_some eI second1)) (ea_cons (vr 3 n_law_sent_right_listener rfl) (ea_cons (Ev.to (vr 1 n_law_sent_right_first rfl) (eT_some eI first1)) ea_nil (fun _ => rfl)) (fun _ => rfl)) (fun _ => rfl)) (fun _ => rfl) (fun _ => rfl)) ea_nil (fun _ => rfl)) (fun _ => rfl)) (le_sz (by decide : 2 ≤ 100000))) (congrArg (eP (eT eI) (eT eI)) htold1))) (Ev.s (Ev.to (cT g_law_sent_right_tuple T.b_tuple bb_tuple (ok_tupL s2.2.2) (eab_cons (Ev.toB (vr 6 n_law_sent_right_known rfl)) eab_nil (fun _ => rfl)) (fun _ => rfl) (fun _ => rfl)) (congrArg (eT eI) hknown3))) (fun env h => swp_sc env h (by kernel_rfl)) (fun _ => rfl) (fun _ => rfl) (fun _ => rfl)) ?_
              have h := Option.some.inj h
              subst h
              exact blk_ret (st_ret (cF g_law_sent_right_law_like (ok_like T 2 ((eP (eT eI) (eT eI)) (known3, known3)) ((eP (eT eI) (eT eI)) told1) ((du_P (du_t du_I) (du_t du_I)).ok _) ((du_P (du_t du_I) (du_t du_I)).dp _)) (by decide : 4 ≤ LV_law_sent_right) (ea_cons (vr 11 n_law_sent_right_told rfl) (ea_cons (ev_tup (ea_cons (vr 6 n_law_sent_right_known rfl) (ea_cons (vr 6 n_law_sent_right_known rfl) ea_nil (fun _ => rfl)) (fun _ => rfl)) (le_sz (by decide : 2 ≤ 100000))) ea_nil (fun _ => rfl)) (fun _ => rfl)) (fun _ => rfl) (fun _ => rfl)))
abbrev LV_law_power : Nat := 1
abbrev LW_law_power : Nat := 2
def C_law_power : SC := ⟨["base", "many", "found", "turn"], defScope (topS 17), fun _ => true⟩
theorem FS_law_power : FnScope C_law_power.N ["base", "many"] (defScope (topS 17)) := ⟨rfl, rfl, rfl, by decide +kernel, rfl, by decide +kernel, by decide +kernel⟩
theorem s_law_power_found : NmS C_law_power 2 "found" := nms (by decide +kernel)
theorem n_law_power_many : Nm C_law_power 1 "many" := nm (by decide +kernel)
theorem g_law_power_range : Gn C_law_power "range" := gn (by decide +kernel)
theorem s_law_power_turn : NmS C_law_power 3 "turn" := nms (by decide +kernel)
theorem n_law_power_found : Nm C_law_power 2 "found" := nm (by decide +kernel)
theorem n_law_power_base : Nm C_law_power 0 "base" := nm (by decide +kernel)
theorem ok_law_power {G : Gb} (T : Facts G) {base1 : Int} {many1 : Int} {r : Int} (h : law_power_m base1 many1 = some r) : Fn G LW_law_power "_law_power" [eI base1, eI many1] (eI r) := by
  unfold law_power_m at h
  refine fn_def T.f_law_power FS_law_power rfl (r := .rt (eI r)) ?_ .rt
  show Blk G C_law_power _ [some (.sh (eI base1)), some (.sh (eI many1)), none, none] _ _
  obtain ⟨found1, hfound1, h⟩ := set_ex h
  refine blk_cons (ρ1 := [some (.sh (eI base1)), some (.sh (eI many1)), some (.sh (eI found1)), none]) (sSet (d := eI found1) 2 s_law_power_found (Ev.to ev_int (congrArg eI hfound1)) (fun _ _ => rfl)) ?_
  obtain ⟨hn1, h⟩ := need_ex h
  obtain ⟨s2, hs2, h⟩ := bind_ex h
  refine blk_cons (ρ1 := [some (.sh (eI base1)), some (.sh (eI many1)), some (.sh (eI s2)), none]) (st_for (iR1 g_law_power_range T.b_range (Ev.toB (vr 1 n_law_power_many rfl)) hn1 (fun _ => rfl)) (for_s (R := (fun (s1 : (Int)) => ([some (.sh (eI base1)), some (.sh (eI many1)), some (.sh (eI s1)), none] : PEnv))) (ea := eI) (step := (law_power_l1 base1)) ?_ _ _ _ hs2) (fun _ _ => rfl)) ?_
  · intro s1 x1 o h
    unfold law_power_l1 at h
    refine ⟨_, [some (.sh (eI base1)), some (.sh (eI many1)), some (.sh (eI s1)), some (.sh (eI x1))], (tN 3 s_law_power_turn), ?_⟩
    obtain ⟨hn3, h⟩ := need_ex h
    obtain ⟨found2, hfound2, h⟩ := set_ex h
    refine blk_cons (ρ1 := [some (.sh (eI base1)), some (.sh (eI many1)), some (.sh (eI found2)), some (.sh (eI x1))]) (sSet (d := eI found2) 2 s_law_power_found (Ev.to (ev_op (ok_mul hn3) (Ev.toB (vr 2 n_law_power_found rfl)) (Ev.toB (vr 0 n_law_power_base rfl))) (congrArg eI hfound2)) (fun _ _ => rfl)) ?_
    have h := Option.some.inj h
    subst h
    exact Blk.out blk_nil (.nx (.keep (.keep (.keep (.drop .nil)))))
  · have h := Option.some.inj h
    subst h
    exact blk_ret (st_ret (vr 2 n_law_power_found rfl))
abbrev LV_law_unseen_right : Nat := 7
abbrev LW_law_unseen_right : Nat := 8
def C_law_unseen_right : SC := ⟨["one", "other", "k", "due", "parts", "left", "part"], defScope (topS 18), fun _ => true⟩
theorem FS_law_unseen_right : FnScope C_law_unseen_right.N ["one", "other"] (defScope (topS 18)) := ⟨rfl, rfl, rfl, by decide +kernel, rfl, by decide +kernel, by decide +kernel⟩
theorem n_law_unseen_right_one : Nm C_law_unseen_right 0 "one" := nm (by decide +kernel)
theorem n_law_unseen_right_other : Nm C_law_unseen_right 1 "other" := nm (by decide +kernel)
theorem s_law_unseen_right_k : NmS C_law_unseen_right 2 "k" := nms (by decide +kernel)
theorem g_law_unseen_right_law_ratio : Gn C_law_unseen_right "_law_ratio" := gn (by decide +kernel)
theorem g_law_unseen_right_law_power : Gn C_law_unseen_right "_law_power" := gn (by decide +kernel)
theorem n_law_unseen_right_k : Nm C_law_unseen_right 2 "k" := nm (by decide +kernel)
theorem s_law_unseen_right_due : NmS C_law_unseen_right 3 "due" := nms (by decide +kernel)
theorem g_law_unseen_right_law_like : Gn C_law_unseen_right "_law_like" := gn (by decide +kernel)
theorem g_law_unseen_right_seen_listening : Gn C_law_unseen_right "seen_listening" := gn (by decide +kernel)
theorem n_law_unseen_right_due : Nm C_law_unseen_right 3 "due" := nm (by decide +kernel)
theorem s_law_unseen_right_parts : NmS C_law_unseen_right 4 "parts" := nms (by decide +kernel)
theorem n_law_unseen_right_parts : Nm C_law_unseen_right 4 "parts" := nm (by decide +kernel)
theorem l_law_unseen_right_left : NmL C_law_unseen_right 5 "left" := nml (by decide +kernel)
theorem n_law_unseen_right_left : Nm C_law_unseen_right 5 "left" := nm (by decide +kernel)
theorem ok_law_unseen_right {G : Gb} (T : Facts G) {one1 : Int} {other1 : Int} {r : Bool} (h : law_unseen_right_m one1 other1 = some r) : Fn G LW_law_unseen_right "_law_unseen_right" [eI one1, eI other1] (eB r) := by
  unfold law_unseen_right_m at h
  refine fn_def T.f_law_unseen_right FS_law_unseen_right rfl (r := .rt (eB r)) ?_ .rt
  show Blk G C_law_unseen_right _ [some (.sh (eI one1)), some (.sh (eI other1)), none, none, none, none, none] _ _
  obtain ⟨o1, ho1, h⟩ := bind_ex h
  refine blk_any (st_for (it_tup (ev_tup (ea_cons (vr 0 n_law_unseen_right_one rfl) (ea_cons (vr 1 n_law_unseen_right_other rfl) (ea_cons (ev_op ok_add (Ev.toB (vr 0 n_law_unseen_right_one rfl)) (Ev.toB (vr 1 n_law_unseen_right_other rfl))) ea_nil (fun _ => rfl)) (fun _ => rfl)) (fun _ => rfl)) (le_sz (by decide : 3 ≤ 100000)))) (for_o (R := (fun (s1 : (Unit)) => ([some (.sh (eI one1)), some (.sh (eI other1)), none, none, none, none, none] : PEnv))) (E := eB) (ea := eI) (step := (law_unseen_right_l1)) ?_ _ _ _ ho1) (fun _ _ => rfl)) ?_
  · intro s1 x1 o h
    unfold law_unseen_right_l1 at h
    refine ⟨_, [some (.sh (eI one1)), some (.sh (eI other1)), some (.sh (eI x1)), none, none, none, none], (tN 2 s_law_unseen_right_k), ?_⟩
    obtain ⟨law_po1, hlaw_po1, h⟩ := bind_ex h
    obtain ⟨law_po2, hlaw_po2, h⟩ := bind_ex h
    obtain ⟨law_po3, hlaw_po3, h⟩ := bind_ex h
    obtain ⟨law_ra1, hlaw_ra1, h⟩ := bind_ex h
    obtain ⟨due1, hdue1, h⟩ := set_ex h
    refine blk_cons (ρ1 := [some (.sh (eI one1)), some (.sh (eI other1)), some (.sh (eI x1)), some (.sh ((eP eI eI) due1)), none, none, none]) (sSet (d := (eP eI eI) due1) 3 s_law_unseen_right_due (Ev.to (cF g_law_unseen_right_law_ratio (ok_law_ratio T hlaw_ra1) (by decide : LW_law_ratio ≤ LV_law_unseen_right) (ea_cons (ev_op ok_sub (Ev.toB (cF g_law_unseen_right_law_power (ok_law_power T hlaw_po1) (by decide : LW_law_power ≤ LV_law_unseen_right) (ea_cons ev_int (ea_cons (vr 2 n_law_unseen_right_k rfl) ea_nil (fun _ => rfl)) (fun _ => rfl)) (fun _ => rfl) (fun _ => rfl))) (Ev.toB (cF g_law_unseen_right_law_power (ok_law_power T hlaw_po2) (by decide : LW_law_power ≤ LV_law_unseen_right) (ea_cons ev_int (ea_cons (vr 2 n_law_unseen_right_k rfl) ea_nil (fun _ => rfl)) (fun _ => rfl)) (fun _ => rfl) (fun _ => rfl)))) (ea_cons (cF g_law_unseen_right_law_power (ok_law_power T hlaw_po3) (by decide : LW_law_power ≤ LV_law_unseen_right) (ea_cons ev_int (ea_cons (vr 2 n_law_unseen_right_k rfl) ea_nil (fun _ => rfl)) (fun _ => rfl)) (fun _ => rfl) (fun _ => rfl)) ea_nil (fun _ => rfl)) (fun _ => rfl)) (fun _ => rfl) (fun _ => rfl)) (congrArg (eP eI eI) hdue1)) (fun _ _ => rfl)) ?_
    obtain ⟨seen_l1, hseen_l1, h⟩ := bind_ex h
    refine blk_ifx h (te_not (te_val (Ev.toB (cF g_law_unseen_right_law_like (ok_like T 1 ((eP eI eI) due1) ((eP eI eI) seen_l1) ((du_P du_I du_I).ok _) ((du_P du_I du_I).dp _)) (by decide : 3 ≤ LV_law_unseen_right) (ea_cons (cF g_law_unseen_right_seen_listening (ok_seen_listening T hseen_l1) (by decide : LW_seen_listening ≤ LV_law_unseen_right) (ea_cons (vr 2 n_law_unseen_right_k rfl) ea_nil (fun _ => rfl)) (fun _ => rfl) (fun _ => rfl)) (ea_cons (vr 3 n_law_unseen_right_due rfl) ea_nil (fun _ => rfl)) (fun _ => rfl)) (fun _ => rfl) (fun _ => rfl))) (fun _ _ => rfl))) ?_ ?_
    · intro h
      have h := Option.some.inj h
      subst h
      exact blkx_ret (st_ret ev_bool)
    · intro h
      have h := Option.some.inj h
      subst h
      exact Blk.out blk_nil (.nx (.keep (.keep (.drop (.drop (.keep (.keep (.keep .nil))))))))
  · rcases then_ex h with ⟨s2, e, h⟩ | ⟨b, e, h⟩
    · subst e
      show Blk G C_law_unseen_right _ [some (.sh (eI one1)), some (.sh (eI other1)), none, none, none, none, none] _ _
      obtain ⟨seen_l2, hseen_l2, h⟩ := bind_ex h
      obtain ⟨seen_l3, hseen_l3, h⟩ := bind_ex h
      obtain ⟨seen_l4, hseen_l4, h⟩ := bind_ex h
      obtain ⟨parts1, hparts1, h⟩ := set_ex h
      refine blk_cons (ρ1 := [some (.sh (eI one1)), some (.sh (eI other1)), none, none, some (.sh ((eL (eP eI eI)) parts1)), none, none]) (sSet (d := (eL (eP eI eI)) parts1) 4 s_law_unseen_right_parts (Ev.to (EvN.ev (evn_lst (ea_cons (cF g_law_unseen_right_seen_listening (ok_seen_listening T hseen_l2) (by decide : LW_seen_listening ≤ LV_law_unseen_right) (ea_cons (vr 0 n_law_unseen_right_one rfl) ea_nil (fun _ => rfl)) (fun _ => rfl) (fun _ => rfl)) (ea_cons (cF g_law_unseen_right_seen_listening (ok_seen_listening T hseen_l3) (by decide : LW_seen_listening ≤ LV_law_unseen_right) (ea_cons (vr 1 n_law_unseen_right_other rfl) ea_nil (fun _ => rfl)) (fun _ => rfl) (fun _ => rfl)) (ea_cons (cF g_law_unseen_right_seen_listening (ok_seen_listening T hseen_l4) (by decide : LW_seen_listening ≤ LV_law_unseen_right) (ea_cons (ev_op ok_add (Ev.toB (vr 0 n_law_unseen_right_one rfl)) (Ev.toB (vr 1 n_law_unseen_right_other rfl))) ea_nil (fun _ => rfl)) (fun _ => rfl) (fun _ => rfl)) ea_nil (fun _ => rfl)) (fun _ => rfl)) (fun _ => rfl)) (le_sz (by decide : 3 ≤ 100000)))) (congrArg (eL (eP eI eI)) hparts1)) (fun _ _ => rfl)) ?_
      obtain ⟨left1, hleft1, h⟩ := set_ex h
      refine blk_cons (ρ1 := [some (.sh (eI one1)), some (.sh (eI other1)), none, none, some (.sh ((eL (eP eI eI)) parts1)), some (.sh ((eL (eP eI eI)) left1)), none]) (sLcS 5 l_law_unseen_right_left [("part", 6)] (swp_local (by decide +kernel)) (by decide +kernel) (It'.toB (it_list (vr 4 n_law_unseen_right_parts rfl))) (LcR.to (lcr_mapT (ea := (eP eI eI)) (eb := (eP eI eI)) (fun z1 : (Int × Int) => ((z1.2 - z1.1), z1.2)) (fun z1 => step_one (by decide) (tN 6 (nms (by decide +kernel))) (ev_tup (ea_cons (ev_op ok_sub (Ev.toB (ev_ixT (d := eI z1.2) (Ev.toB (vr 6 (nm (by decide +kernel)) rfl)) (Ev.toB ev_int) rfl (fun _ _ => rfl))) (Ev.toB (ev_ixT (d := eI z1.1) (Ev.toB (vr 6 (nm (by decide +kernel)) rfl)) (Ev.toB ev_int) rfl (fun _ _ => rfl)))) (ea_cons (ev_ixT (d := eI z1.2) (Ev.toB (vr 6 (nm (by decide +kernel)) rfl)) (Ev.toB ev_int) rfl (fun _ _ => rfl)) ea_nil (fun _ => rfl)) (fun _ => rfl)) (le_sz (by decide : 2 ≤ 100000)))) _) (congrArg (List.map (eP eI eI)) hleft1)) (zz_to hleft1 (zz_fil (len_m _ _))) (fun _ _ => rfl)) ?_
      obtain ⟨x2, hx2, h⟩ := bind_ex h
      obtain ⟨x3, hx3, h⟩ := bind_ex h
      obtain ⟨hn1, h⟩ := need_ex h
      obtain ⟨x4, hx4, h⟩ := bind_ex h
      obtain ⟨x5, hx5, h⟩ := bind_ex h
      obtain ⟨hn2, h⟩ := need_ex h
      obtain ⟨law_ra2, hlaw_ra2, h⟩ := bind_ex h
      obtain ⟨x6, hx6, h⟩ := bind_ex h
      obtain ⟨x7, hx7, h⟩ := bind_ex h
      obtain ⟨law_ra3, hlaw_ra3, h⟩ := bind_ex h
      have h := Option.some.inj h
      subst h
      exact blk_ret (st_ret (ev_cmp (ok_eqT (eq_P eq_I eq_I) law_ra2 law_ra3) (Ev.toB (cF g_law_unseen_right_law_ratio (ok_law_ratio T hlaw_ra2) (by decide : LW_law_ratio ≤ LV_law_unseen_right) (ea_cons (ev_op (ok_mul hn1) (Ev.toB (ev_ixT (d := eI x2.1) (Ev.toB (ev_ix (Ev.toB (vr 5 n_law_unseen_right_left rfl)) (Ev.toB ev_int) (atI_map (eP eI eI) hx2) (fun _ _ => rfl))) (Ev.toB ev_int) rfl (fun _ _ => rfl))) (Ev.toB (ev_ixT (d := eI x3.1) (Ev.toB (ev_ix (Ev.toB (vr 5 n_law_unseen_right_left rfl)) (Ev.toB ev_int) (atI_map (eP eI eI) hx3) (fun _ _ => rfl))) (Ev.toB ev_int) rfl (fun _ _ => rfl)))) (ea_cons (ev_op (ok_mul hn2) (Ev.toB (ev_ixT (d := eI x4.2) (Ev.toB (ev_ix (Ev.toB (vr 5 n_law_unseen_right_left rfl)) (Ev.toB ev_int) (atI_map (eP eI eI) hx4) (fun _ _ => rfl))) (Ev.toB ev_int) rfl (fun _ _ => rfl))) (Ev.toB (ev_ixT (d := eI x5.2) (Ev.toB (ev_ix (Ev.toB (vr 5 n_law_unseen_right_left rfl)) (Ev.toB ev_int) (atI_map (eP eI eI) hx5) (fun _ _ => rfl))) (Ev.toB ev_int) rfl (fun _ _ => rfl)))) ea_nil (fun _ => rfl)) (fun _ => rfl)) (fun _ => rfl) (fun _ => rfl))) (Ev.toB (cF g_law_unseen_right_law_ratio (ok_law_ratio T hlaw_ra3) (by decide : LW_law_ratio ≤ LV_law_unseen_right) (ea_cons (ev_ixT (d := eI x6.1) (Ev.toB (ev_ix (Ev.toB (vr 5 n_law_unseen_right_left rfl)) (Ev.toB ev_int) (atI_map (eP eI eI) hx6) (fun _ _ => rfl))) (Ev.toB ev_int) rfl (fun _ _ => rfl)) (ea_cons (ev_ixT (d := eI x7.2) (Ev.toB (ev_ix (Ev.toB (vr 5 n_law_unseen_right_left rfl)) (Ev.toB ev_int) (atI_map (eP eI eI) hx7) (fun _ _ => rfl))) (Ev.toB ev_int) rfl (fun _ _ => rfl)) ea_nil (fun _ => rfl)) (fun _ => rfl)) (fun _ => rfl) (fun _ => rfl))) rfl))
    · subst e
      have h := Option.some.inj h
      subst h
      rfl
abbrev LV_law_all_ways_right : Nat := 7
abbrev LW_law_all_ways_right : Nat := 8
def C_law_all_ways_right : SC := ⟨["bits", "bases", "n", "total", "number", "listener", "told", "part", "k"], defScope (topS 19), fun _ => true⟩
theorem FS_law_all_ways_right : FnScope C_law_all_ways_right.N ["bits", "bases"] (defScope (topS 19)) := ⟨rfl, rfl, rfl, by decide +kernel, rfl, by decide +kernel, by decide +kernel⟩
theorem g_law_all_ways_right_len : Gn C_law_all_ways_right "len" := gn (by decide +kernel)
theorem n_law_all_ways_right_bits : Nm C_law_all_ways_right 0 "bits" := nm (by decide +kernel)
theorem l_law_all_ways_right_n : NmL C_law_all_ways_right 2 "n" := nml (by decide +kernel)
theorem l_law_all_ways_right_total : NmL C_law_all_ways_right 3 "total" := nml (by decide +kernel)
theorem n_law_all_ways_right_n : Nm C_law_all_ways_right 2 "n" := nm (by decide +kernel)
theorem g_law_all_ways_right_range : Gn C_law_all_ways_right "range" := gn (by decide +kernel)
theorem s_law_all_ways_right_number : NmS C_law_all_ways_right 4 "number" := nms (by decide +kernel)
theorem g_law_all_ways_right_tuple : Gn C_law_all_ways_right "tuple" := gn (by decide +kernel)
theorem s_law_all_ways_right_listener : NmS C_law_all_ways_right 5 "listener" := nms (by decide +kernel)
theorem g_law_all_ways_right_sent_bases : Gn C_law_all_ways_right "sent_bases" := gn (by decide +kernel)
theorem n_law_all_ways_right_bases : Nm C_law_all_ways_right 1 "bases" := nm (by decide +kernel)
theorem n_law_all_ways_right_listener : Nm C_law_all_ways_right 5 "listener" := nm (by decide +kernel)
theorem l_law_all_ways_right_told : NmL C_law_all_ways_right 6 "told" := nml (by decide +kernel)
theorem l_law_all_ways_right_part : NmL C_law_all_ways_right 7 "part" := nml (by decide +kernel)
theorem g_law_all_ways_right_isinstance : Gn C_law_all_ways_right "isinstance" := gn (by decide +kernel)
theorem n_law_all_ways_right_told : Nm C_law_all_ways_right 6 "told" := nm (by decide +kernel)
theorem s_law_all_ways_right_k : NmS C_law_all_ways_right 8 "k" := nms (by decide +kernel)
theorem g_law_all_ways_right_law_like : Gn C_law_all_ways_right "_law_like" := gn (by decide +kernel)
theorem n_law_all_ways_right_k : Nm C_law_all_ways_right 8 "k" := nm (by decide +kernel)
theorem g_law_all_ways_right_int : Gn C_law_all_ways_right "int" := gn (by decide +kernel)
theorem n_law_all_ways_right_part : Nm C_law_all_ways_right 7 "part" := nm (by decide +kernel)
theorem s_law_all_ways_right_part : NmS C_law_all_ways_right 7 "part" := nms (by decide +kernel)
theorem n_law_all_ways_right_total : Nm C_law_all_ways_right 3 "total" := nm (by decide +kernel)
theorem s_law_all_ways_right_total : NmS C_law_all_ways_right 3 "total" := nms (by decide +kernel)
theorem g_law_all_ways_right_seen_listening : Gn C_law_all_ways_right "seen_listening" := gn (by decide +kernel)
theorem g_law_all_ways_right_law_ratio : Gn C_law_all_ways_right "_law_ratio" := gn (by decide +kernel)
theorem ok_law_all_ways_right {G : Gb} (T : Facts G) {bits1 : (List Int)} {bases1 : (List Int)} {r : Bool} (h : law_all_ways_right_m bits1 bases1 = some r) : Fn G LW_law_all_ways_right "_law_all_ways_right" [(eT eI) bits1, (eT eI) bases1] (eB r) := by
  unfold law_all_ways_right_m at h
  refine fn_def T.f_law_all_ways_right FS_law_all_ways_right rfl (r := .rt (eB r)) ?_ .rt
  show Blk G C_law_all_ways_right _ [some (.sh ((eT eI) bits1)), some (.sh ((eT eI) bases1)), none, none, none, none, none, none, none] _ _
  obtain ⟨n1, hn1, h⟩ := set_ex h
  obtain ⟨total1, htotal1, h⟩ := set_ex h
  refine blk_cons (ρ1 := [some (.sh ((eT eI) bits1)), some (.sh ((eT eI) bases1)), some (.sh (eI n1)), some (.sh (eI total1)), none, none, none, none, none]) (st_par (i := 2) (j := 3) l_law_all_ways_right_n.hi l_law_all_ways_right_total.hi (by decide) l_law_all_ways_right_n.hl l_law_all_ways_right_total.hl (Ev.s (Ev.to (cB g_law_all_ways_right_len T.b_len bb_len (ok_lenT bits1) (eab_cons (Ev.toB (vr 0 n_law_all_ways_right_bits rfl)) eab_nil (fun _ => rfl)) (fun _ => rfl) (fun _ => rfl)) (congrArg eI hn1))) (Ev.s (Ev.to ev_int (congrArg eI htotal1))) (fun env h => swp_sc env h (by kernel_rfl)) (fun _ => rfl) (fun _ => rfl) (fun _ => rfl)) ?_
  obtain ⟨hn1, h⟩ := need_ex h
  obtain ⟨hn2, h⟩ := need_ex h
  obtain ⟨o2, ho2, h⟩ := bind_ex h
  refine blk_any (st_for (iR1 g_law_all_ways_right_range T.b_range (Ev.toB (ev_op (ok_shl hn1) (Ev.toB ev_int) (Ev.toB (vr 2 n_law_all_ways_right_n rfl)))) hn2 (fun _ => rfl)) (for_o (R := (fun (s1 : (Int)) => ([some (.sh ((eT eI) bits1)), some (.sh ((eT eI) bases1)), some (.sh (eI n1)), some (.sh (eI s1)), none, none, none, none, none] : PEnv))) (E := eB) (ea := eI) (step := (law_all_ways_right_l2 bits1 bases1 n1)) ?_ _ _ _ ho2) (fun _ _ => rfl)) ?_
  · intro s1 x1 o h
    unfold law_all_ways_right_l2 at h
    refine ⟨_, [some (.sh ((eT eI) bits1)), some (.sh ((eT eI) bases1)), some (.sh (eI n1)), some (.sh (eI s1)), some (.sh (eI x1)), none, none, none, none], (tN 4 s_law_all_ways_right_number), ?_⟩
    obtain ⟨hn3, h⟩ := need_ex h
    obtain ⟨ys1, hys1, h⟩ := bind_ex h
    obtain ⟨listener1, hlistener1, h⟩ := set_ex h
    refine blk_cons (ρ1 := [some (.sh ((eT eI) bits1)), some (.sh ((eT eI) bases1)), some (.sh (eI n1)), some (.sh (eI s1)), some (.sh (eI x1)), some (.sh ((eT eI) listener1)), none, none, none]) (sSet (d := (eT eI) listener1) 5 s_law_all_ways_right_listener (Ev.to (cT g_law_all_ways_right_tuple T.b_tuple bb_tuple (ok_tupL ys1) (eab_cons (Ev.toB (EvN.ev (nLc [("k", 8)] (by decide +kernel) (It'.toB (iR1 g_law_all_ways_right_range T.b_range (Ev.toB (vr 2 n_law_all_ways_right_n rfl)) hn3 (fun _ => rfl))) (lcr_map (ea := eI) (eb := eI) (fun z1 : Int => (Option.bind (idx [1, 2, 4, 8, 16] z1) fun x2 => need (DivOk x1 x2) <| some ((x1 / x2) % 2))) (fun z1 y h => by (obtain ⟨x2, hx2, h⟩ := bind_ex h; obtain ⟨hn4, h⟩ := need_ex h; have h := Option.some.inj h; subst h; exact step_one (by decide) (tN 8 (nms (by decide +kernel))) (ev_op (ok_mod (by decide)) (Ev.toB (cT (gn (by decide +kernel)) T.b_int bb_int (ok_intI (i := (x1 / x2))) (eab_cons (Ev.toB (ev_op (ok_fdiv hn4) (Ev.toB (vr 4 (nm (by decide +kernel)) rfl)) (Ev.toB (ev_ixT (Ev.toB (ev_tup (ea_cons ev_int (ea_cons ev_int (ea_cons ev_int (ea_cons ev_int (ea_cons ev_int ea_nil (fun _ => rfl)) (fun _ => rfl)) (fun _ => rfl)) (fun _ => rfl)) (fun _ => rfl)) (le_sz (by decide : 5 ≤ 100000)))) (Ev.toB (vr 8 (nm (by decide +kernel)) rfl)) (atI_map eI hx2) (fun _ _ => rfl))))) eab_nil (fun _ => rfl)) (fun _ => rfl) (fun _ => rfl))) (Ev.toB ev_int)))) _ _ hys1) (zz_rg hn3 (Nat.le_of_eq (mapO_len hys1))) (fun _ _ => rfl)))) eab_nil (fun _ => rfl)) (fun _ => rfl) (fun _ => rfl)) (congrArg (eT eI) hlistener1)) (fun _ _ => rfl)) ?_
    obtain ⟨sent_b1, hsent_b1, h⟩ := bind_ex h
    obtain ⟨hn5, h⟩ := need_ex h
    obtain ⟨told1, htold1, h⟩ := set_ex h
    obtain ⟨part1, hpart1, h⟩ := set_ex h
    refine blk_cons (ρ1 := [some (.sh ((eT eI) bits1)), some (.sh ((eT eI) bases1)), some (.sh (eI n1)), some (.sh (eI s1)), some (.sh (eI x1)), some (.sh ((eT eI) listener1)), some (.sh ((eT (eP eI eI)) told1)), some (.sh (eI part1)), none]) (st_par (i := 6) (j := 7) l_law_all_ways_right_told.hi l_law_all_ways_right_part.hi (by decide) l_law_all_ways_right_told.hl l_law_all_ways_right_part.hl (Ev.s (Ev.to (cF g_law_all_ways_right_sent_bases (ok_sent_bases T hsent_b1) (by decide : LW_sent_bases ≤ LV_law_all_ways_right) (ea_cons (vr 0 n_law_all_ways_right_bits rfl) (ea_cons (vr 1 n_law_all_ways_right_bases rfl) (ea_cons (vr 1 n_law_all_ways_right_bases rfl) (ea_cons (Ev.to (vr 5 n_law_all_ways_right_listener rfl) (eT_some eI listener1)) ea_nil (fun _ => rfl)) (fun _ => rfl)) (fun _ => rfl)) (fun _ => rfl)) (fun _ => rfl) (fun _ => rfl)) (congrArg (eT (eP eI eI)) htold1))) (Ev.s (Ev.to (ev_op (ok_shl hn5) (Ev.toB ev_int) (Ev.toB (vr 2 n_law_all_ways_right_n rfl))) (congrArg eI hpart1))) (fun env h => swp_sc env h (by kernel_rfl)) (fun _ => rfl) (fun _ => rfl) (fun _ => rfl)) ?_
    refine blk_ifx h (Tw.te (tw_or (te_not (te_val (Ev.toB (cIs g_law_all_ways_right_isinstance T.b_isinstance g_law_all_ways_right_tuple T.b_tuple bb_tuple (Ev.toB (vr 6 n_law_all_ways_right_told rfl)) (show kitB "tuple" "tuple" = some true by decide +kernel) (fun _ => rfl))) (fun _ _ => rfl))) (tw_or1 (te_cmp (ok_neI (i := ((told1).length : Int)) (j := n1)) (Ev.toB (cB g_law_all_ways_right_len T.b_len bb_len (ok_lenT told1) (eab_cons (Ev.toB (vr 6 n_law_all_ways_right_told rfl)) eab_nil (fun _ => rfl)) (fun _ => rfl) (fun _ => rfl))) (Ev.toB (vr 2 n_law_all_ways_right_n rfl)) rfl)))) ?_ ?_
    · intro h
      have h := Option.some.inj h
      subst h
      exact blkx_ret (st_ret ev_bool)
    · intro h
      obtain ⟨hn6, h⟩ := need_ex h
      obtain ⟨o1, ho1, h⟩ := bind_ex h
      refine blk_any (st_for (iR1 g_law_all_ways_right_range T.b_range (Ev.toB (vr 2 n_law_all_ways_right_n rfl)) hn6 (fun _ => rfl)) (for_o (R := (fun (s2 : (Int)) => ([some (.sh ((eT eI) bits1)), some (.sh ((eT eI) bases1)), some (.sh (eI n1)), some (.sh (eI s1)), some (.sh (eI x1)), some (.sh ((eT eI) listener1)), some (.sh ((eT (eP eI eI)) told1)), some (.sh (eI s2)), none] : PEnv))) (E := eB) (ea := eI) (step := (law_all_ways_right_l1 bits1 bases1 listener1 told1)) ?_ _ _ _ ho1) (fun _ _ => rfl)) ?_
      · intro s2 x3 o h
        unfold law_all_ways_right_l1 at h
        refine ⟨_, [some (.sh ((eT eI) bits1)), some (.sh ((eT eI) bases1)), some (.sh (eI n1)), some (.sh (eI s1)), some (.sh (eI x1)), some (.sh ((eT eI) listener1)), some (.sh ((eT (eP eI eI)) told1)), some (.sh (eI s2)), some (.sh (eI x3))], (tN 8 s_law_all_ways_right_k), ?_⟩
        obtain ⟨x4, hx4, h⟩ := bind_ex h
        obtain ⟨x6, hx6, h⟩ := bind_ex h
        obtain ⟨x7, hx7, h⟩ := bind_ex h
        obtain ⟨x8, hx8, h⟩ := bind_ex h
        obtain ⟨x9, hx9, h⟩ := bind_ex h
        refine blk_ifx h (te_not (te_val (Ev.toB (cF g_law_all_ways_right_law_like (ok_like T 1 ((eP eI eI) x9) ((eP eI eI) x4) ((du_P du_I du_I).ok _) ((du_P du_I du_I).dp _)) (by decide : 3 ≤ LV_law_all_ways_right) (ea_cons (ev_ixT (Ev.toB (vr 6 n_law_all_ways_right_told rfl)) (Ev.toB (vr 8 n_law_all_ways_right_k rfl)) (atI_map (eP eI eI) hx4) (fun _ _ => rfl)) (ea_cons (ev_ixT (Ev.toB (ev_tup (ea_cons (ev_tup (ea_cons (ev_ixT (Ev.toB (vr 0 n_law_all_ways_right_bits rfl)) (Ev.toB (vr 8 n_law_all_ways_right_k rfl)) (atI_map eI hx6) (fun _ _ => rfl)) (ea_cons ev_int ea_nil (fun _ => rfl)) (fun _ => rfl)) (le_sz (by decide : 2 ≤ 100000))) (ea_cons (ev_tup (ea_cons ev_int (ea_cons ev_int ea_nil (fun _ => rfl)) (fun _ => rfl)) (le_sz (by decide : 2 ≤ 100000))) ea_nil (fun _ => rfl)) (fun _ => rfl)) (le_sz (by decide : 2 ≤ 100000)))) (Ev.toB (cT g_law_all_ways_right_int T.b_int bb_int (ok_intB (b := (decide (x7 ≠ x8)))) (eab_cons (Ev.toB (ev_cmp (ok_neI (i := x7) (j := x8)) (Ev.toB (ev_ixT (Ev.toB (vr 5 n_law_all_ways_right_listener rfl)) (Ev.toB (vr 8 n_law_all_ways_right_k rfl)) (atI_map eI hx7) (fun _ _ => rfl))) (Ev.toB (ev_ixT (Ev.toB (vr 1 n_law_all_ways_right_bases rfl)) (Ev.toB (vr 8 n_law_all_ways_right_k rfl)) (atI_map eI hx8) (fun _ _ => rfl))) rfl)) eab_nil (fun _ => rfl)) (fun _ => rfl) (fun _ => rfl))) (atI_map (eP eI eI) hx9) (fun _ _ => rfl)) ea_nil (fun _ => rfl)) (fun _ => rfl)) (fun _ => rfl) (fun _ => rfl))) (fun _ _ => rfl))) ?_ ?_
        · intro h
          have h := Option.some.inj h
          subst h
          exact blkx_ret (st_ret ev_bool)
        · intro h
          obtain ⟨x22, hx22, h⟩ := bind_ex h
          obtain ⟨x23, hx23, h⟩ := bind_ex h
          obtain ⟨x24, hx24, h⟩ := bind_ex h
          obtain ⟨x25, hx25, h⟩ := bind_ex h
          obtain ⟨x26, hx26, h⟩ := bind_ex h
          obtain ⟨hn9, h⟩ := need_ex h
          obtain ⟨x27, hx27, h⟩ := bind_ex h
          obtain ⟨hn10, h⟩ := need_ex h
          obtain ⟨part2, hpart2, h⟩ := set_ex h
          refine blk_cons (ρ1 := [some (.sh ((eT eI) bits1)), some (.sh ((eT eI) bases1)), some (.sh (eI n1)), some (.sh (eI s1)), some (.sh (eI x1)), some (.sh ((eT eI) listener1)), some (.sh ((eT (eP eI eI)) told1)), some (.sh (eI part2)), some (.sh (eI x3))]) (sSet (d := eI part2) 7 s_law_all_ways_right_part (Ev.to (ev_op (ok_fdiv hn10) (Ev.toB (ev_op (ok_mul hn9) (Ev.toB (vr 7 n_law_all_ways_right_part rfl)) (Ev.toB (ev_ixT (Ev.toB (ev_tup (ea_cons (ev_op ok_sub (Ev.toB (ev_ixT (d := eI x22.2) (Ev.toB (ev_ixT (Ev.toB (vr 6 n_law_all_ways_right_told rfl)) (Ev.toB (vr 8 n_law_all_ways_right_k rfl)) (atI_map (eP eI eI) hx22) (fun _ _ => rfl))) (Ev.toB ev_int) rfl (fun _ _ => rfl))) (Ev.toB (ev_ixT (d := eI x23.1) (Ev.toB (ev_ixT (Ev.toB (vr 6 n_law_all_ways_right_told rfl)) (Ev.toB (vr 8 n_law_all_ways_right_k rfl)) (atI_map (eP eI eI) hx23) (fun _ _ => rfl))) (Ev.toB ev_int) rfl (fun _ _ => rfl)))) (ea_cons (ev_ixT (d := eI x24.1) (Ev.toB (ev_ixT (Ev.toB (vr 6 n_law_all_ways_right_told rfl)) (Ev.toB (vr 8 n_law_all_ways_right_k rfl)) (atI_map (eP eI eI) hx24) (fun _ _ => rfl))) (Ev.toB ev_int) rfl (fun _ _ => rfl)) ea_nil (fun _ => rfl)) (fun _ => rfl)) (le_sz (by decide : 2 ≤ 100000)))) (Ev.toB (ev_ixT (Ev.toB (vr 0 n_law_all_ways_right_bits rfl)) (Ev.toB (vr 8 n_law_all_ways_right_k rfl)) (atI_map eI hx25) (fun _ _ => rfl))) (atI_map eI hx26) (fun _ _ => rfl))))) (Ev.toB (ev_ixT (d := eI x27.2) (Ev.toB (ev_ixT (Ev.toB (vr 6 n_law_all_ways_right_told rfl)) (Ev.toB (vr 8 n_law_all_ways_right_k rfl)) (atI_map (eP eI eI) hx27) (fun _ _ => rfl))) (Ev.toB ev_int) rfl (fun _ _ => rfl)))) (congrArg eI hpart2)) (fun _ _ => rfl)) ?_
          have h := Option.some.inj h
          subst h
          exact Blk.out blk_nil (.nx (.keep (.keep (.keep (.keep (.keep (.keep (.keep (.keep (.drop .nil))))))))))
      · rcases then_ex h with ⟨s3, e, h⟩ | ⟨b, e, h⟩
        · subst e
          show Blk G C_law_all_ways_right _ [some (.sh ((eT eI) bits1)), some (.sh ((eT eI) bases1)), some (.sh (eI n1)), some (.sh (eI s1)), some (.sh (eI x1)), some (.sh ((eT eI) listener1)), some (.sh ((eT (eP eI eI)) told1)), some (.sh (eI s3)), none] _ _
          obtain ⟨total2, htotal2, h⟩ := set_ex h
          refine blk_cons (ρ1 := [some (.sh ((eT eI) bits1)), some (.sh ((eT eI) bases1)), some (.sh (eI n1)), some (.sh (eI total2)), some (.sh (eI x1)), some (.sh ((eT eI) listener1)), some (.sh ((eT (eP eI eI)) told1)), some (.sh (eI s3)), none]) (sSet (d := eI total2) 3 s_law_all_ways_right_total (Ev.to (ev_op ok_add (Ev.toB (vr 3 n_law_all_ways_right_total rfl)) (Ev.toB (vr 7 n_law_all_ways_right_part rfl))) (congrArg eI htotal2)) (fun _ _ => rfl)) ?_
          have h := Option.some.inj h
          subst h
          exact Blk.out blk_nil (.nx (.keep (.keep (.keep (.keep (.drop (.drop (.drop (.drop (.keep .nil))))))))))
        · subst e
          have h := Option.some.inj h
          subst h
          rfl
  · rcases then_ex h with ⟨s4, e, h⟩ | ⟨b, e, h⟩
    · subst e
      show Blk G C_law_all_ways_right _ [some (.sh ((eT eI) bits1)), some (.sh ((eT eI) bases1)), some (.sh (eI n1)), some (.sh (eI s4)), none, none, none, none, none] _ _
      obtain ⟨seen_l1, hseen_l1, h⟩ := bind_ex h
      obtain ⟨hn11, h⟩ := need_ex h
      obtain ⟨law_ra1, hlaw_ra1, h⟩ := bind_ex h
      have h := Option.some.inj h
      subst h
      exact blk_ret (st_ret (cF g_law_all_ways_right_law_like (ok_like T 1 ((eP eI eI) law_ra1) ((eP eI eI) seen_l1) ((du_P du_I du_I).ok _) ((du_P du_I du_I).dp _)) (by decide : 3 ≤ LV_law_all_ways_right) (ea_cons (cF g_law_all_ways_right_seen_listening (ok_seen_listening T hseen_l1) (by decide : LW_seen_listening ≤ LV_law_all_ways_right) (ea_cons (vr 2 n_law_all_ways_right_n rfl) ea_nil (fun _ => rfl)) (fun _ => rfl) (fun _ => rfl)) (ea_cons (cF g_law_all_ways_right_law_ratio (ok_law_ratio T hlaw_ra1) (by decide : LW_law_ratio ≤ LV_law_all_ways_right) (ea_cons (ev_op ok_sub (Ev.toB (ev_op (ok_shl hn11) (Ev.toB ev_int) (Ev.toB (ev_op ok_add (Ev.toB (vr 2 n_law_all_ways_right_n rfl)) (Ev.toB (vr 2 n_law_all_ways_right_n rfl)))))) (Ev.toB (vr 3 n_law_all_ways_right_total rfl))) (ea_cons (ev_op (ok_shl hn11) (Ev.toB ev_int) (Ev.toB (ev_op ok_add (Ev.toB (vr 2 n_law_all_ways_right_n rfl)) (Ev.toB (vr 2 n_law_all_ways_right_n rfl))))) ea_nil (fun _ => rfl)) (fun _ => rfl)) (fun _ => rfl) (fun _ => rfl)) ea_nil (fun _ => rfl)) (fun _ => rfl)) (fun _ => rfl) (fun _ => rfl)))
    · subst e
      have h := Option.some.inj h
      subst h
      rfl
abbrev LV_law_halved : Nat := 1
abbrev LW_law_halved : Nat := 2
def C_law_halved : SC := ⟨["unlike", "low", "high", "told", "turn", "middle"], defScope (topS 20), fun _ => true⟩
theorem FS_law_halved : FnScope C_law_halved.N ["unlike"] (defScope (topS 20)) := ⟨rfl, rfl, rfl, by decide +kernel, rfl, by decide +kernel, by decide +kernel⟩
theorem g_law_halved_len : Gn C_law_halved "len" := gn (by decide +kernel)
theorem n_law_halved_unlike : Nm C_law_halved 0 "unlike" := nm (by decide +kernel)
theorem l_law_halved_low : NmL C_law_halved 1 "low" := nml (by decide +kernel)
theorem l_law_halved_high : NmL C_law_halved 2 "high" := nml (by decide +kernel)
theorem l_law_halved_told : NmL C_law_halved 3 "told" := nml (by decide +kernel)
theorem g_law_halved_range : Gn C_law_halved "range" := gn (by decide +kernel)
theorem s_law_halved_turn : NmS C_law_halved 4 "turn" := nms (by decide +kernel)
theorem n_law_halved_high : Nm C_law_halved 2 "high" := nm (by decide +kernel)
theorem n_law_halved_low : Nm C_law_halved 1 "low" := nm (by decide +kernel)
theorem n_law_halved_told : Nm C_law_halved 3 "told" := nm (by decide +kernel)
theorem l_law_halved_middle : NmL C_law_halved 5 "middle" := nml (by decide +kernel)
theorem g_law_halved_int : Gn C_law_halved "int" := gn (by decide +kernel)
theorem g_law_halved_sum : Gn C_law_halved "sum" := gn (by decide +kernel)
theorem n_law_halved_middle : Nm C_law_halved 5 "middle" := nm (by decide +kernel)
theorem s_law_halved_high : NmS C_law_halved 2 "high" := nms (by decide +kernel)
theorem s_law_halved_low : NmS C_law_halved 1 "low" := nms (by decide +kernel)
theorem ok_law_halved {G : Gb} (T : Facts G) {unlike1 : (List Int)} {r : (Int × Int)} (h : law_halved_m unlike1 = some r) : Fn G LW_law_halved "_law_halved" [(eL eI) unlike1] ((eP eI eI) r) := by
  unfold law_halved_m at h
  refine fn_def T.f_law_halved FS_law_halved rfl (r := .rt ((eP eI eI) r)) ?_ .rt
  show Blk G C_law_halved _ [some (.sh ((eL eI) unlike1)), none, none, none, none, none] _ _
  obtain ⟨low1, hlow1, h⟩ := set_ex h
  obtain ⟨high1, hhigh1, h⟩ := set_ex h
  obtain ⟨told1, htold1, h⟩ := set_ex h
  refine blk_cons (ρ1 := [some (.sh ((eL eI) unlike1)), some (.sh (eI low1)), some (.sh (eI high1)), some (.sh (eI told1)), none, none]) (st_par3 (i := 1) (j := 2) (l := 3) l_law_halved_low.hi l_law_halved_high.hi l_law_halved_told.hi (by decide) (by decide) (by decide) l_law_halved_low.hl l_law_halved_high.hl l_law_halved_told.hl (Ev.s (Ev.to ev_int (congrArg eI hlow1))) (Ev.s (Ev.to (cB g_law_halved_len T.b_len bb_len (ok_lenL unlike1) (eab_cons (Ev.toB (vr 0 n_law_halved_unlike rfl)) eab_nil (fun _ => rfl)) (fun _ => rfl) (fun _ => rfl)) (congrArg eI hhigh1))) (Ev.s (Ev.to ev_int (congrArg eI htold1))) (fun env h => swp_sc env h (by kernel_rfl)) (fun _ => rfl) (fun _ => rfl) (fun _ => rfl) (fun _ => rfl)) ?_
  obtain ⟨hn1, h⟩ := need_ex h
  obtain ⟨o1, ho1, h⟩ := bind_ex h
  refine blk_any (st_for (iR1 g_law_halved_range T.b_range (Ev.toB ev_int) hn1 (fun _ => rfl)) (for_o (R := (fun (s1 : (Int × Int × Int)) => ([some (.sh ((eL eI) unlike1)), some (.sh (eI s1.2.2)), some (.sh (eI s1.2.1)), some (.sh (eI s1.1)), none, none] : PEnv))) (E := (eP eI eI)) (ea := eI) (step := (law_halved_l1 unlike1)) ?_ _ _ _ ho1) (fun _ _ => rfl)) ?_
  · intro s1 x1 o h
    unfold law_halved_l1 at h
    refine ⟨_, [some (.sh ((eL eI) unlike1)), some (.sh (eI s1.2.2)), some (.sh (eI s1.2.1)), some (.sh (eI s1.1)), some (.sh (eI x1)), none], (tN 4 s_law_halved_turn), ?_⟩
    refine blk_ifx h (te_cmp (ok_lt (i := (s1.2.1 - s1.2.2)) (j := 2)) (Ev.toB (ev_op ok_sub (Ev.toB (vr 2 n_law_halved_high rfl)) (Ev.toB (vr 1 n_law_halved_low rfl)))) (Ev.toB ev_int) rfl) ?_ ?_
    · intro h
      have h := Option.some.inj h
      subst h
      exact blkx_brk st_break (.keep (.keep (.keep (.keep (.drop (.keep .nil))))))
    · intro h
      obtain ⟨middle1, hmiddle1, h⟩ := set_ex h
      obtain ⟨told2, htold2, h⟩ := set_ex h
      refine blk_cons (ρ1 := [some (.sh ((eL eI) unlike1)), some (.sh (eI s1.2.2)), some (.sh (eI s1.2.1)), some (.sh (eI told2)), some (.sh (eI x1)), some (.sh (eI middle1))]) (st_par (i := 5) (j := 3) l_law_halved_middle.hi l_law_halved_told.hi (by decide) l_law_halved_middle.hl l_law_halved_told.hl (Ev.s (Ev.to (ev_op ok_add (Ev.toB (vr 1 n_law_halved_low rfl)) (Ev.toB (ev_op (ok_fdiv (div_c (by decide))) (Ev.toB (ev_op ok_sub (Ev.toB (vr 2 n_law_halved_high rfl)) (Ev.toB (vr 1 n_law_halved_low rfl)))) (Ev.toB ev_int)))) (congrArg eI hmiddle1))) (Ev.s (Ev.to (ev_op ok_add (Ev.toB (vr 3 n_law_halved_told rfl)) (Ev.toB ev_int)) (congrArg eI htold2))) (fun env h => swp_sc env h (by kernel_rfl)) (fun _ => rfl) (fun _ => rfl) (fun _ => rfl)) ?_
      obtain ⟨j1, hj1, h⟩ := bind_ex h
      refine blk_cons (ρ1 := [some (.sh ((eL eI) unlike1)), some (.sh (eI j1.2)), some (.sh (eI j1.1)), some (.sh (eI told2)), some (.sh (eI x1)), some (.sh (eI middle1))]) (st_ifJ hj1 (te_cmp (ok_eqI (i := ((List.sum (cutD unlike1 (some s1.2.2) (some middle1))) % 2)) (j := 1)) (Ev.toB (ev_op (ok_mod (by decide)) (Ev.toB (cT g_law_halved_int T.b_int bb_int (ok_intI (i := (List.sum (cutD unlike1 (some s1.2.2) (some middle1))))) (eab_cons (Ev.toB (cB g_law_halved_sum T.b_sum bb_sum (ok_sumLT (cutD unlike1 (some s1.2.2) (some middle1))) (eab_cons (Ev.toB (EvN.ev (evn_sliceX (xs := unlike1) (Ev.toB (vr 0 n_law_halved_unlike rfl)) (ep_some (Ev.toB (vr 1 n_law_halved_low rfl))) (ep_some (Ev.toB (vr 5 n_law_halved_middle rfl)))))) eab_nil (fun _ => rfl)) (fun _ => rfl) (fun _ => rfl))) eab_nil (fun _ => rfl)) (fun _ => rfl) (fun _ => rfl))) (Ev.toB ev_int))) (Ev.toB ev_int) rfl) ?_ ?_) ?_
      · intro h
        obtain ⟨high2, hhigh2, h⟩ := set_ex h
        refine blk_cons (ρ1 := [some (.sh ((eL eI) unlike1)), some (.sh (eI s1.2.2)), some (.sh (eI high2)), some (.sh (eI told2)), some (.sh (eI x1)), some (.sh (eI middle1))]) (sSet (d := eI high2) 2 s_law_halved_high (Ev.to (vr 5 n_law_halved_middle rfl) (congrArg eI hhigh2)) (fun _ _ => rfl)) ?_
        have h := Option.some.inj h
        subst h
        exact Blk.out blk_nil (.nx (.keep (.keep (.keep (.keep (.keep (.keep .nil)))))))
      · intro h
        obtain ⟨low2, hlow2, h⟩ := set_ex h
        refine blk_cons (ρ1 := [some (.sh ((eL eI) unlike1)), some (.sh (eI low2)), some (.sh (eI s1.2.1)), some (.sh (eI told2)), some (.sh (eI x1)), some (.sh (eI middle1))]) (sSet (d := eI low2) 1 s_law_halved_low (Ev.to (vr 5 n_law_halved_middle rfl) (congrArg eI hlow2)) (fun _ _ => rfl)) ?_
        have h := Option.some.inj h
        subst h
        exact Blk.out blk_nil (.nx (.keep (.keep (.keep (.keep (.keep (.keep .nil)))))))
      · have h := Option.some.inj h
        subst h
        exact Blk.out blk_nil (.nx (.keep (.keep (.keep (.keep (.drop (.drop .nil)))))))
  · rcases then_ex h with ⟨s2, e, h⟩ | ⟨b, e, h⟩
    · subst e
      show Blk G C_law_halved _ [some (.sh ((eL eI) unlike1)), some (.sh (eI s2.2.2)), some (.sh (eI s2.2.1)), some (.sh (eI s2.1)), none, none] _ _
      have h := Option.some.inj h
      subst h
      exact blk_ret (st_ret (ev_tup (ea_cons (vr 1 n_law_halved_low rfl) (ea_cons (vr 3 n_law_halved_told rfl) ea_nil (fun _ => rfl)) (fun _ => rfl)) (le_sz (by decide : 2 ≤ 100000))))
    · subst e
      have h := Option.some.inj h
      subst h
      rfl
abbrev LV_law_odd_right : Nat := 5
abbrev LW_law_odd_right : Nat := 6
def C_law_odd_right : SC := ⟨["mine", "yours", "third", "n", "unlike", "due", "both", "mended", "k"], defScope (topS 21), fun _ => true⟩
theorem FS_law_odd_right : FnScope C_law_odd_right.N ["mine", "yours", "third"] (defScope (topS 21)) := ⟨rfl, rfl, rfl, by decide +kernel, rfl, by decide +kernel, by decide +kernel⟩
theorem g_law_odd_right_len : Gn C_law_odd_right "len" := gn (by decide +kernel)
theorem n_law_odd_right_mine : Nm C_law_odd_right 0 "mine" := nm (by decide +kernel)
theorem s_law_odd_right_n : NmS C_law_odd_right 3 "n" := nms (by decide +kernel)
theorem n_law_odd_right_n : Nm C_law_odd_right 3 "n" := nm (by decide +kernel)
theorem g_law_odd_right_range : Gn C_law_odd_right "range" := gn (by decide +kernel)
theorem l_law_odd_right_unlike : NmL C_law_odd_right 4 "unlike" := nml (by decide +kernel)
theorem s_law_odd_right_due : NmS C_law_odd_right 5 "due" := nms (by decide +kernel)
theorem g_law_odd_right_int : Gn C_law_odd_right "int" := gn (by decide +kernel)
theorem g_law_odd_right_sum : Gn C_law_odd_right "sum" := gn (by decide +kernel)
theorem n_law_odd_right_unlike : Nm C_law_odd_right 4 "unlike" := nm (by decide +kernel)
theorem g_law_odd_right_law_halved : Gn C_law_odd_right "_law_halved" := gn (by decide +kernel)
theorem g_law_odd_right_tuple : Gn C_law_odd_right "tuple" := gn (by decide +kernel)
theorem s_law_odd_right_both : NmS C_law_odd_right 6 "both" := nms (by decide +kernel)
theorem g_law_odd_right_law_like : Gn C_law_odd_right "_law_like" := gn (by decide +kernel)
theorem g_law_odd_right_found_odd : Gn C_law_odd_right "found_odd" := gn (by decide +kernel)
theorem n_law_odd_right_yours : Nm C_law_odd_right 1 "yours" := nm (by decide +kernel)
theorem n_law_odd_right_due : Nm C_law_odd_right 5 "due" := nm (by decide +kernel)
theorem n_law_odd_right_both : Nm C_law_odd_right 6 "both" := nm (by decide +kernel)
theorem s_law_odd_right_mended : NmS C_law_odd_right 7 "mended" := nms (by decide +kernel)
theorem n_law_odd_right_mended : Nm C_law_odd_right 7 "mended" := nm (by decide +kernel)
theorem ok_law_odd_right {G : Gb} (T : Facts G) {mine1 : (List Int)} {yours1 : (List Int)} {third1 : (List Int)} {r : Bool} (h : law_odd_right_m mine1 yours1 third1 = some r) : Fn G LW_law_odd_right "_law_odd_right" [(eT eI) mine1, (eT eI) yours1, (eT eI) third1] (eB r) := by
  unfold law_odd_right_m at h
  refine fn_def T.f_law_odd_right FS_law_odd_right rfl (r := .rt (eB r)) ?_ .rt
  show Blk G C_law_odd_right _ [some (.sh ((eT eI) mine1)), some (.sh ((eT eI) yours1)), some (.sh ((eT eI) third1)), none, none, none, none, none, none] _ _
  obtain ⟨n1, hn1, h⟩ := set_ex h
  refine blk_cons (ρ1 := [some (.sh ((eT eI) mine1)), some (.sh ((eT eI) yours1)), some (.sh ((eT eI) third1)), some (.sh (eI n1)), none, none, none, none, none]) (sSet (d := eI n1) 3 s_law_odd_right_n (Ev.to (cB g_law_odd_right_len T.b_len bb_len (ok_lenT mine1) (eab_cons (Ev.toB (vr 0 n_law_odd_right_mine rfl)) eab_nil (fun _ => rfl)) (fun _ => rfl) (fun _ => rfl)) (congrArg eI hn1)) (fun _ _ => rfl)) ?_
  obtain ⟨hn1, h⟩ := need_ex h
  obtain ⟨ys1, hys1, h⟩ := bind_ex h
  obtain ⟨unlike1, hunlike1, h⟩ := set_ex h
  refine blk_cons (ρ1 := [some (.sh ((eT eI) mine1)), some (.sh ((eT eI) yours1)), some (.sh ((eT eI) third1)), some (.sh (eI n1)), some (.sh ((eL eI) unlike1)), none, none, none, none]) (sLcS 4 l_law_odd_right_unlike [("k", 8)] (swp_local (by decide +kernel)) (by decide +kernel) (It'.toB (iR1 g_law_odd_right_range T.b_range (Ev.toB (vr 3 n_law_odd_right_n rfl)) hn1 (fun _ => rfl))) (LcR.to (lcr_map (ea := eI) (eb := eI) (fun z1 : Int => (Option.bind (idx mine1 z1) fun x1 => Option.bind (idx yours1 z1) fun x2 => some (Builtin.bitXor x1 x2))) (fun z1 y h => by (obtain ⟨x1, hx1, h⟩ := bind_ex h; obtain ⟨x2, hx2, h⟩ := bind_ex h; have h := Option.some.inj h; subst h; exact step_one (by decide) (tN 8 (nms (by decide +kernel))) (ev_op ok_xor (Ev.toB (ev_ixT (Ev.toB (vr 0 (nm (by decide +kernel)) rfl)) (Ev.toB (vr 8 (nm (by decide +kernel)) rfl)) (atI_map eI hx1) (fun _ _ => rfl))) (Ev.toB (ev_ixT (Ev.toB (vr 1 (nm (by decide +kernel)) rfl)) (Ev.toB (vr 8 (nm (by decide +kernel)) rfl)) (atI_map eI hx2) (fun _ _ => rfl)))))) _ _ hys1) (congrArg (List.map eI) hunlike1)) (zz_to hunlike1 (zz_rg hn1 (Nat.le_of_eq (mapO_len hys1)))) (fun _ _ => rfl)) ?_
  obtain ⟨due1, hdue1, h⟩ := set_ex h
  refine blk_cons (ρ1 := [some (.sh ((eT eI) mine1)), some (.sh ((eT eI) yours1)), some (.sh ((eT eI) third1)), some (.sh (eI n1)), some (.sh ((eL eI) unlike1)), some (.sh ((eO (eP eI eI)) due1)), none, none, none]) (sSet (d := (eO (eP eI eI)) due1) 5 s_law_odd_right_due (Ev.to ev_none (congrArg (eO (eP eI eI)) hdue1)) (fun _ _ => rfl)) ?_
  obtain ⟨j1, hj1, h⟩ := bind_ex h
  refine blk_cons (ρ1 := [some (.sh ((eT eI) mine1)), some (.sh ((eT eI) yours1)), some (.sh ((eT eI) third1)), some (.sh (eI n1)), some (.sh ((eL eI) unlike1)), some (.sh ((eO (eP eI eI)) j1)), none, none, none]) (st_ifJ hj1 (te_cmp (ok_eqI (i := ((List.sum unlike1) % 2)) (j := 1)) (Ev.toB (ev_op (ok_mod (by decide)) (Ev.toB (cT g_law_odd_right_int T.b_int bb_int (ok_intI (i := (List.sum unlike1))) (eab_cons (Ev.toB (cB g_law_odd_right_sum T.b_sum bb_sum (ok_sumLT unlike1) (eab_cons (Ev.toB (vr 4 n_law_odd_right_unlike rfl)) eab_nil (fun _ => rfl)) (fun _ => rfl) (fun _ => rfl))) eab_nil (fun _ => rfl)) (fun _ => rfl) (fun _ => rfl))) (Ev.toB ev_int))) (Ev.toB ev_int) rfl) ?_ ?_) ?_
  · intro h
    obtain ⟨law_ha2, hlaw_ha2, h⟩ := bind_ex h
    obtain ⟨due2, hdue2, h⟩ := set_ex h
    refine blk_cons (ρ1 := [some (.sh ((eT eI) mine1)), some (.sh ((eT eI) yours1)), some (.sh ((eT eI) third1)), some (.sh (eI n1)), some (.sh ((eL eI) unlike1)), some (.sh ((eO (eP eI eI)) due2)), none, none, none]) (sSet (d := (eO (eP eI eI)) due2) 5 s_law_odd_right_due (Ev.to (cF g_law_odd_right_law_halved (ok_law_halved T hlaw_ha2) (by decide : LW_law_halved ≤ LV_law_odd_right) (ea_cons (vr 4 n_law_odd_right_unlike rfl) ea_nil (fun _ => rfl)) (fun _ => rfl) (fun _ => rfl)) (congrArg (eO (eP eI eI)) hdue2)) (fun _ _ => rfl)) ?_
    have h := Option.some.inj h
    subst h
    exact Blk.out blk_nil (.nx (.keep (.keep (.keep (.keep (.keep (.keep (.keep (.keep (.keep .nil))))))))))
  · intro h
    have h := Option.some.inj h
    subst h
    exact Blk.out blk_nil (.nx (.keep (.keep (.keep (.keep (.keep (.keep (.keep (.keep (.keep .nil))))))))))
  · obtain ⟨hn2, h⟩ := need_ex h
    obtain ⟨ys2, hys2, h⟩ := bind_ex h
    obtain ⟨ys3, hys3, h⟩ := bind_ex h
    obtain ⟨both1, hboth1, h⟩ := set_ex h
    refine blk_cons (ρ1 := [some (.sh ((eT eI) mine1)), some (.sh ((eT eI) yours1)), some (.sh ((eT eI) third1)), some (.sh (eI n1)), some (.sh ((eL eI) unlike1)), some (.sh ((eO (eP eI eI)) j1)), some (.sh ((eP (eT eI) (eT eI)) both1)), none, none]) (sSet (d := (eP (eT eI) (eT eI)) both1) 6 s_law_odd_right_both (Ev.to (ev_tup (ea_cons (cT g_law_odd_right_tuple T.b_tuple bb_tuple (ok_tupL ys2) (eab_cons (Ev.toB (EvN.ev (nLc [("k", 8)] (by decide +kernel) (It'.toB (iR1 g_law_odd_right_range T.b_range (Ev.toB (vr 3 n_law_odd_right_n rfl)) hn2 (fun _ => rfl))) (lcr_map (ea := eI) (eb := eI) (fun z2 : Int => (Option.bind (idx mine1 z2) fun x3 => Option.bind (idx third1 z2) fun x4 => some (Builtin.bitXor x3 x4))) (fun z2 y h => by (obtain ⟨x3, hx3, h⟩ := bind_ex h; obtain ⟨x4, hx4, h⟩ := bind_ex h; have h := Option.some.inj h; subst h; exact step_one (by decide) (tN 8 (nms (by decide +kernel))) (ev_op ok_xor (Ev.toB (ev_ixT (Ev.toB (vr 0 (nm (by decide +kernel)) rfl)) (Ev.toB (vr 8 (nm (by decide +kernel)) rfl)) (atI_map eI hx3) (fun _ _ => rfl))) (Ev.toB (ev_ixT (Ev.toB (vr 2 (nm (by decide +kernel)) rfl)) (Ev.toB (vr 8 (nm (by decide +kernel)) rfl)) (atI_map eI hx4) (fun _ _ => rfl)))))) _ _ hys2) (zz_rg hn2 (Nat.le_of_eq (mapO_len hys2))) (fun _ _ => rfl)))) eab_nil (fun _ => rfl)) (fun _ => rfl) (fun _ => rfl)) (ea_cons (cT g_law_odd_right_tuple T.b_tuple bb_tuple (ok_tupL ys3) (eab_cons (Ev.toB (EvN.ev (nLc [("k", 8)] (by decide +kernel) (It'.toB (iR1 g_law_odd_right_range T.b_range (Ev.toB (vr 3 n_law_odd_right_n rfl)) hn2 (fun _ => rfl))) (lcr_map (ea := eI) (eb := eI) (fun z3 : Int => (Option.bind (idx yours1 z3) fun x5 => Option.bind (idx third1 z3) fun x6 => some (Builtin.bitXor x5 x6))) (fun z3 y h => by (obtain ⟨x5, hx5, h⟩ := bind_ex h; obtain ⟨x6, hx6, h⟩ := bind_ex h; have h := Option.some.inj h; subst h; exact step_one (by decide) (tN 8 (nms (by decide +kernel))) (ev_op ok_xor (Ev.toB (ev_ixT (Ev.toB (vr 1 (nm (by decide +kernel)) rfl)) (Ev.toB (vr 8 (nm (by decide +kernel)) rfl)) (atI_map eI hx5) (fun _ _ => rfl))) (Ev.toB (ev_ixT (Ev.toB (vr 2 (nm (by decide +kernel)) rfl)) (Ev.toB (vr 8 (nm (by decide +kernel)) rfl)) (atI_map eI hx6) (fun _ _ => rfl)))))) _ _ hys3) (zz_rg hn2 (Nat.le_of_eq (mapO_len hys3))) (fun _ _ => rfl)))) eab_nil (fun _ => rfl)) (fun _ => rfl) (fun _ => rfl)) ea_nil (fun _ => rfl)) (fun _ => rfl)) (le_sz (by decide : 2 ≤ 100000))) (congrArg (eP (eT eI) (eT eI)) hboth1)) (fun _ _ => rfl)) ?_
    obtain ⟨found1, hfound1, h⟩ := bind_ex h
    obtain ⟨found2, hfound2, h⟩ := bind_ex h
    refine blk_ifx h (te_not (te_val (Ev.toB (cF g_law_odd_right_law_like (ok_like T 2 ((eP (eO (eP eI eI)) (eO (eP eI eI))) (j1, j1)) ((eP (eO (eP eI eI)) (eO (eP eI eI))) (found1, found2)) ((du_P (du_O (du_P du_I du_I)) (du_O (du_P du_I du_I))).ok _) ((du_P (du_O (du_P du_I du_I)) (du_O (du_P du_I du_I))).dp _)) (by decide : 4 ≤ LV_law_odd_right) (ea_cons (ev_tup (ea_cons (cF g_law_odd_right_found_odd (ok_found_odd T hfound1) (by decide : LW_found_odd ≤ LV_law_odd_right) (ea_cons (vr 0 n_law_odd_right_mine rfl) (ea_cons (vr 1 n_law_odd_right_yours rfl) ea_nil (fun _ => rfl)) (fun _ => rfl)) (fun _ => rfl) (fun _ => rfl)) (ea_cons (cF g_law_odd_right_found_odd (ok_found_odd T hfound2) (by decide : LW_found_odd ≤ LV_law_odd_right) (ea_cons (vr 1 n_law_odd_right_yours rfl) (ea_cons (vr 0 n_law_odd_right_mine rfl) ea_nil (fun _ => rfl)) (fun _ => rfl)) (fun _ => rfl) (fun _ => rfl)) ea_nil (fun _ => rfl)) (fun _ => rfl)) (le_sz (by decide : 2 ≤ 100000))) (ea_cons (ev_tup (ea_cons (vr 5 n_law_odd_right_due rfl) (ea_cons (vr 5 n_law_odd_right_due rfl) ea_nil (fun _ => rfl)) (fun _ => rfl)) (le_sz (by decide : 2 ≤ 100000))) ea_nil (fun _ => rfl)) (fun _ => rfl)) (fun _ => rfl) (fun _ => rfl))) (fun _ _ => rfl))) ?_ ?_
    · intro h
      have h := Option.some.inj h
      subst h
      exact blkx_ret (st_ret ev_bool)
    · intro h
      obtain ⟨found3, hfound3, h⟩ := bind_ex h
      refine blk_ifx h (te_not (te_val (Ev.toB (cF g_law_odd_right_law_like (ok_like T 1 ((eO (eP eI eI)) j1) ((eO (eP eI eI)) found3) ((du_O (du_P du_I du_I)).ok _) ((du_O (du_P du_I du_I)).dp _)) (by decide : 3 ≤ LV_law_odd_right) (ea_cons (cF g_law_odd_right_found_odd (ok_found_odd T hfound3) (by decide : LW_found_odd ≤ LV_law_odd_right) (ea_cons (ev_ixT (d := (eT eI) both1.1) (Ev.toB (vr 6 n_law_odd_right_both rfl)) (Ev.toB ev_int) rfl (fun _ _ => rfl)) (ea_cons (ev_ixT (d := (eT eI) both1.2) (Ev.toB (vr 6 n_law_odd_right_both rfl)) (Ev.toB ev_int) rfl (fun _ _ => rfl)) ea_nil (fun _ => rfl)) (fun _ => rfl)) (fun _ => rfl) (fun _ => rfl)) (ea_cons (vr 5 n_law_odd_right_due rfl) ea_nil (fun _ => rfl)) (fun _ => rfl)) (fun _ => rfl) (fun _ => rfl))) (fun _ _ => rfl))) ?_ ?_
      · intro h
        have h := Option.some.inj h
        subst h
        exact blkx_ret (st_ret ev_bool)
      · intro h
        refine blk_ifx h (Tw.te (tw_or (te_cmp (ok_isO nn_P j1) (Ev.toB (vr 5 n_law_odd_right_due rfl)) (Ev.toB ev_none) rfl) (tw_or1 (te_cmp (ok_eqI (i := (List.sum unlike1)) (j := 1)) (Ev.toB (cB g_law_odd_right_sum T.b_sum bb_sum (ok_sumLT unlike1) (eab_cons (Ev.toB (vr 4 n_law_odd_right_unlike rfl)) eab_nil (fun _ => rfl)) (fun _ => rfl) (fun _ => rfl))) (Ev.toB ev_int) rfl)))) ?_ ?_
        · intro h
          obtain ⟨b1, hb1, h⟩ := bind_ex h
          have h := Option.some.inj h
          subst h
          exact blkx_ret (st_ret (ev_orO hb1 (ev_cmp (ok_isO nn_P j1) (Ev.toB (vr 5 n_law_odd_right_due rfl)) (Ev.toB ev_none) rfl) (fun h => by (obtain ⟨u1, hu1, h⟩ := bind_ex h; obtain ⟨x7, hx7, h⟩ := bind_ex h; have h := Option.some.inj h; subst h; exact (ev_one (ev_cmp (ok_eqI (i := x7) (j := 1)) (Ev.toB (ev_ix (Ev.toB (vr 4 n_law_odd_right_unlike rfl)) (Ev.toB (ev_ixT (d := eI u1.1) (Ev.toB (Ev.to (vr 5 n_law_odd_right_due rfl) (congrArg (eO (eP eI eI)) hu1))) (Ev.toB ev_int) rfl (fun _ _ => rfl))) (atI_map eI hx7) (fun _ _ => rfl))) (Ev.toB ev_int) rfl))))))
        · intro h
          obtain ⟨u2, hu2, h⟩ := bind_ex h
          obtain ⟨u3, hu3, h⟩ := bind_ex h
          obtain ⟨x8, hx8, h⟩ := bind_ex h
          obtain ⟨hn3, h⟩ := need_ex h
          obtain ⟨u4, hu4, h⟩ := bind_ex h
          obtain ⟨hn4, h⟩ := need_ex h
          obtain ⟨mended1, hmended1, h⟩ := set_ex h
          refine blk_cons (ρ1 := [some (.sh ((eT eI) mine1)), some (.sh ((eT eI) yours1)), some (.sh ((eT eI) third1)), some (.sh (eI n1)), some (.sh ((eL eI) unlike1)), some (.sh ((eO (eP eI eI)) j1)), some (.sh ((eP (eT eI) (eT eI)) both1)), some (.sh ((eT eI) mended1)), none]) (sSet (d := (eT eI) mended1) 7 s_law_odd_right_mended (Ev.to (ev_op (ok_catT hn4) (Ev.toB (ev_op (ok_catT hn3) (Ev.toB (ev_sliceX (xs := yours1) (vr 1 n_law_odd_right_yours rfl) ep_none (ep_some (Ev.toB (ev_ixT (d := eI u2.1) (Ev.toB (Ev.to (vr 5 n_law_odd_right_due rfl) (congrArg (eO (eP eI eI)) hu2))) (Ev.toB ev_int) rfl (fun _ _ => rfl)))))) (Ev.toB (ev_tup (ea_cons (ev_ixT (Ev.toB (vr 0 n_law_odd_right_mine rfl)) (Ev.toB (ev_ixT (d := eI u3.1) (Ev.toB (Ev.to (vr 5 n_law_odd_right_due rfl) (congrArg (eO (eP eI eI)) hu3))) (Ev.toB ev_int) rfl (fun _ _ => rfl))) (atI_map eI hx8) (fun _ _ => rfl)) ea_nil (fun _ => rfl)) (le_sz (by decide : 1 ≤ 100000)))))) (Ev.toB (ev_sliceX (xs := yours1) (vr 1 n_law_odd_right_yours rfl) (ep_some (Ev.toB (ev_op ok_add (Ev.toB (ev_ixT (d := eI u4.1) (Ev.toB (Ev.to (vr 5 n_law_odd_right_due rfl) (congrArg (eO (eP eI eI)) hu4))) (Ev.toB ev_int) rfl (fun _ _ => rfl))) (Ev.toB ev_int)))) ep_none))) (congrArg (eT eI) hmended1)) (fun _ _ => rfl)) ?_
          obtain ⟨u5, hu5, h⟩ := bind_ex h
          obtain ⟨x9, hx9, h⟩ := bind_ex h
          obtain ⟨b2, hb2, h⟩ := bind_ex h
          have h := Option.some.inj h
          subst h
          exact blk_ret (st_ret (ev_andO hb2 (ev_cmp (ok_eqI (i := x9) (j := 1)) (Ev.toB (ev_ix (Ev.toB (vr 4 n_law_odd_right_unlike rfl)) (Ev.toB (ev_ixT (d := eI u5.1) (Ev.toB (Ev.to (vr 5 n_law_odd_right_due rfl) (congrArg (eO (eP eI eI)) hu5))) (Ev.toB ev_int) rfl (fun _ _ => rfl))) (atI_map eI hx9) (fun _ _ => rfl))) (Ev.toB ev_int) rfl) (fun h => by (obtain ⟨found4, hfound4, h⟩ := bind_ex h; have h := Option.some.inj h; subst h; exact (ev_one (ev_cmp (ok_isO nn_P found4) (Ev.toB (cF g_law_odd_right_found_odd (ok_found_odd T hfound4) (by decide : LW_found_odd ≤ LV_law_odd_right) (ea_cons (vr 0 n_law_odd_right_mine rfl) (ea_cons (vr 7 n_law_odd_right_mended rfl) ea_nil (fun _ => rfl)) (fun _ => rfl)) (fun _ => rfl) (fun _ => rfl))) (Ev.toB ev_none) rfl))))))
abbrev LV_law : Nat := 9
abbrev LW_law : Nat := 10
def C_law : SC := ⟨["script", "row", "n", "bits", "first", "second", "listener", "few", "some", "size", "part", "mine", "third", "yours", "spot", "other", "k"], defScope (topS 22), fun _ => true⟩
theorem FS_law : FnScope C_law.N ["script"] (defScope (topS 22)) := ⟨rfl, rfl, rfl, by decide +kernel, rfl, by decide +kernel, by decide +kernel⟩
theorem g_law_law_row : Gn C_law "_law_row" := gn (by decide +kernel)
theorem n_law_script : Nm C_law 0 "script" := nm (by decide +kernel)
theorem s_law_row : NmS C_law 1 "row" := nms (by decide +kernel)
theorem g_law_int : Gn C_law "int" := gn (by decide +kernel)
theorem n_law_row : Nm C_law 1 "row" := nm (by decide +kernel)
theorem s_law_n : NmS C_law 2 "n" := nms (by decide +kernel)
theorem g_law_tuple : Gn C_law "tuple" := gn (by decide +kernel)
theorem n_law_n : Nm C_law 2 "n" := nm (by decide +kernel)
theorem g_law_range : Gn C_law "range" := gn (by decide +kernel)
theorem s_law_bits : NmS C_law 3 "bits" := nms (by decide +kernel)
theorem s_law_first : NmS C_law 4 "first" := nms (by decide +kernel)
theorem s_law_second : NmS C_law 5 "second" := nms (by decide +kernel)
theorem s_law_listener : NmS C_law 6 "listener" := nms (by decide +kernel)
theorem g_law_law_sent_right : Gn C_law "_law_sent_right" := gn (by decide +kernel)
theorem n_law_bits : Nm C_law 3 "bits" := nm (by decide +kernel)
theorem n_law_first : Nm C_law 4 "first" := nm (by decide +kernel)
theorem n_law_second : Nm C_law 5 "second" := nm (by decide +kernel)
theorem n_law_listener : Nm C_law 6 "listener" := nm (by decide +kernel)
theorem g_law_law_unseen_right : Gn C_law "_law_unseen_right" := gn (by decide +kernel)
theorem s_law_few : NmS C_law 7 "few" := nms (by decide +kernel)
theorem n_law_few : Nm C_law 7 "few" := nm (by decide +kernel)
theorem s_law_some : NmS C_law 8 "some" := nms (by decide +kernel)
theorem g_law_law_all_ways_right : Gn C_law "_law_all_ways_right" := gn (by decide +kernel)
theorem n_law_some : Nm C_law 8 "some" := nm (by decide +kernel)
theorem s_law_size : NmS C_law 9 "size" := nms (by decide +kernel)
theorem s_law_part : NmS C_law 10 "part" := nms (by decide +kernel)
theorem n_law_size : Nm C_law 9 "size" := nm (by decide +kernel)
theorem s_law_mine : NmS C_law 11 "mine" := nms (by decide +kernel)
theorem s_law_third : NmS C_law 12 "third" := nms (by decide +kernel)
theorem l_law_yours : NmL C_law 13 "yours" := nml (by decide +kernel)
theorem s_law_spot : NmS C_law 14 "spot" := nms (by decide +kernel)
theorem n_law_mine : Nm C_law 11 "mine" := nm (by decide +kernel)
theorem n_law_spot : Nm C_law 14 "spot" := nm (by decide +kernel)
theorem n_law_yours : Nm C_law 13 "yours" := nm (by decide +kernel)
theorem g_law_law_odd_right : Gn C_law "_law_odd_right" := gn (by decide +kernel)
theorem n_law_third : Nm C_law 12 "third" := nm (by decide +kernel)
theorem s_law_other : NmS C_law 15 "other" := nms (by decide +kernel)
theorem n_law_other : Nm C_law 15 "other" := nm (by decide +kernel)
theorem blk_law {G : Gb} (T : Facts G) {script1 : List Int} {r : Bool} (h : law_m script1 = some r) : Blk G C_law LV_law (startE C_law.N [eL eI script1]) (defBody (topS 22)) (.rt (eB r)) := by
  unfold law_m at h
  show Blk G C_law _ [some (.sh ((eL eI) script1)), none, none, none, none, none, none, none, none, none, none, none, none, none, none, none, none] _ _
  obtain ⟨law_ro1, hlaw_ro1, h⟩ := bind_ex h
  obtain ⟨row1, hrow1, h⟩ := set_ex h
  refine blk_cons (ρ1 := [some (.sh ((eL eI) script1)), some (.sh ((eL eI) row1)), none, none, none, none, none, none, none, none, none, none, none, none, none, none, none]) (sSet (d := (eL eI) row1) 1 s_law_row (Ev.to (cF g_law_law_row (ok_law_row T hlaw_ro1) (by decide : LW_law_row ≤ LV_law) (ea_cons (vr 0 n_law_script rfl) (ea_cons ev_int ea_nil (fun _ => rfl)) (fun _ => rfl)) (fun _ => rfl) (fun _ => rfl)) (congrArg (eL eI) hrow1)) (fun _ _ => rfl)) ?_
  obtain ⟨x1, hx1, h⟩ := bind_ex h
  obtain ⟨n1, hn1, h⟩ := set_ex h
  refine blk_cons (ρ1 := [some (.sh ((eL eI) script1)), some (.sh ((eL eI) row1)), some (.sh (eI n1)), none, none, none, none, none, none, none, none, none, none, none, none, none, none]) (sSet (d := eI n1) 2 s_law_n (Ev.to (ev_op (ok_mod (by decide)) (Ev.toB (cT g_law_int T.b_int bb_int (ok_intI (i := x1)) (eab_cons (Ev.toB (ev_ix (Ev.toB (vr 1 n_law_row rfl)) (Ev.toB ev_int) (atI_map eI hx1) (fun _ _ => rfl))) eab_nil (fun _ => rfl)) (fun _ => rfl) (fun _ => rfl))) (Ev.toB ev_int)) (congrArg eI hn1)) (fun _ _ => rfl)) ?_
  obtain ⟨hn1, h⟩ := need_ex h
  obtain ⟨ys1, hys1, h⟩ := bind_ex h
  obtain ⟨bits1, hbits1, h⟩ := set_ex h
  refine blk_cons (ρ1 := [some (.sh ((eL eI) script1)), some (.sh ((eL eI) row1)), some (.sh (eI n1)), some (.sh ((eT eI) bits1)), none, none, none, none, none, none, none, none, none, none, none, none, none]) (sSet (d := (eT eI) bits1) 3 s_law_bits (Ev.to (cT g_law_tuple T.b_tuple bb_tuple (ok_tupL ys1) (eab_cons (Ev.toB (EvN.ev (nLc [("k", 16)] (by decide +kernel) (It'.toB (iR1 g_law_range T.b_range (Ev.toB (vr 2 n_law_n rfl)) hn1 (fun _ => rfl))) (lcr_map (ea := eI) (eb := eI) (fun z1 : Int => (Option.bind (idx row1 (1 + z1)) fun x2 => some (x2 % 2))) (fun z1 y h => by (obtain ⟨x2, hx2, h⟩ := bind_ex h; have h := Option.some.inj h; subst h; exact step_one (by decide) (tN 16 (nms (by decide +kernel))) (ev_op (ok_mod (by decide)) (Ev.toB (cT (gn (by decide +kernel)) T.b_int bb_int (ok_intI (i := x2)) (eab_cons (Ev.toB (ev_ix (Ev.toB (vr 1 (nm (by decide +kernel)) rfl)) (Ev.toB (ev_op ok_add (Ev.toB ev_int) (Ev.toB (vr 16 (nm (by decide +kernel)) rfl)))) (atI_map eI hx2) (fun _ _ => rfl))) eab_nil (fun _ => rfl)) (fun _ => rfl) (fun _ => rfl))) (Ev.toB ev_int)))) _ _ hys1) (zz_rg hn1 (Nat.le_of_eq (mapO_len hys1))) (fun _ _ => rfl)))) eab_nil (fun _ => rfl)) (fun _ => rfl) (fun _ => rfl)) (congrArg (eT eI) hbits1)) (fun _ _ => rfl)) ?_
  obtain ⟨hn2, h⟩ := need_ex h
  obtain ⟨ys2, hys2, h⟩ := bind_ex h
  obtain ⟨first1, hfirst1, h⟩ := set_ex h
  refine blk_cons (ρ1 := [some (.sh ((eL eI) script1)), some (.sh ((eL eI) row1)), some (.sh (eI n1)), some (.sh ((eT eI) bits1)), some (.sh ((eT eI) first1)), none, none, none, none, none, none, none, none, none, none, none, none]) (sSet (d := (eT eI) first1) 4 s_law_first (Ev.to (cT g_law_tuple T.b_tuple bb_tuple (ok_tupL ys2) (eab_cons (Ev.toB (EvN.ev (nLc [("k", 16)] (by decide +kernel) (It'.toB (iR1 g_law_range T.b_range (Ev.toB (vr 2 n_law_n rfl)) hn2 (fun _ => rfl))) (lcr_map (ea := eI) (eb := eI) (fun z2 : Int => (Option.bind (idx row1 (1 + z2)) fun x3 => some ((x3 / 2) % 2))) (fun z2 y h => by (obtain ⟨x3, hx3, h⟩ := bind_ex h; have h := Option.some.inj h; subst h; exact step_one (by decide) (tN 16 (nms (by decide +kernel))) (ev_op (ok_mod (by decide)) (Ev.toB (ev_op (ok_fdiv (div_c (by decide))) (Ev.toB (cT (gn (by decide +kernel)) T.b_int bb_int (ok_intI (i := x3)) (eab_cons (Ev.toB (ev_ix (Ev.toB (vr 1 (nm (by decide +kernel)) rfl)) (Ev.toB (ev_op ok_add (Ev.toB ev_int) (Ev.toB (vr 16 (nm (by decide +kernel)) rfl)))) (atI_map eI hx3) (fun _ _ => rfl))) eab_nil (fun _ => rfl)) (fun _ => rfl) (fun _ => rfl))) (Ev.toB ev_int))) (Ev.toB ev_int)))) _ _ hys2) (zz_rg hn2 (Nat.le_of_eq (mapO_len hys2))) (fun _ _ => rfl)))) eab_nil (fun _ => rfl)) (fun _ => rfl) (fun _ => rfl)) (congrArg (eT eI) hfirst1)) (fun _ _ => rfl)) ?_
  obtain ⟨hn3, h⟩ := need_ex h
  obtain ⟨ys3, hys3, h⟩ := bind_ex h
  obtain ⟨second1, hsecond1, h⟩ := set_ex h
  refine blk_cons (ρ1 := [some (.sh ((eL eI) script1)), some (.sh ((eL eI) row1)), some (.sh (eI n1)), some (.sh ((eT eI) bits1)), some (.sh ((eT eI) first1)), some (.sh ((eT eI) second1)), none, none, none, none, none, none, none, none, none, none, none]) (sSet (d := (eT eI) second1) 5 s_law_second (Ev.to (cT g_law_tuple T.b_tuple bb_tuple (ok_tupL ys3) (eab_cons (Ev.toB (EvN.ev (nLc [("k", 16)] (by decide +kernel) (It'.toB (iR1 g_law_range T.b_range (Ev.toB (vr 2 n_law_n rfl)) hn3 (fun _ => rfl))) (lcr_map (ea := eI) (eb := eI) (fun z3 : Int => (Option.bind (idx row1 (41 + z3)) fun x4 => some (x4 % 2))) (fun z3 y h => by (obtain ⟨x4, hx4, h⟩ := bind_ex h; have h := Option.some.inj h; subst h; exact step_one (by decide) (tN 16 (nms (by decide +kernel))) (ev_op (ok_mod (by decide)) (Ev.toB (cT (gn (by decide +kernel)) T.b_int bb_int (ok_intI (i := x4)) (eab_cons (Ev.toB (ev_ix (Ev.toB (vr 1 (nm (by decide +kernel)) rfl)) (Ev.toB (ev_op ok_add (Ev.toB ev_int) (Ev.toB (vr 16 (nm (by decide +kernel)) rfl)))) (atI_map eI hx4) (fun _ _ => rfl))) eab_nil (fun _ => rfl)) (fun _ => rfl) (fun _ => rfl))) (Ev.toB ev_int)))) _ _ hys3) (zz_rg hn3 (Nat.le_of_eq (mapO_len hys3))) (fun _ _ => rfl)))) eab_nil (fun _ => rfl)) (fun _ => rfl) (fun _ => rfl)) (congrArg (eT eI) hsecond1)) (fun _ _ => rfl)) ?_
  obtain ⟨hn4, h⟩ := need_ex h
  obtain ⟨ys4, hys4, h⟩ := bind_ex h
  obtain ⟨listener1, hlistener1, h⟩ := set_ex h
  refine blk_cons (ρ1 := [some (.sh ((eL eI) script1)), some (.sh ((eL eI) row1)), some (.sh (eI n1)), some (.sh ((eT eI) bits1)), some (.sh ((eT eI) first1)), some (.sh ((eT eI) second1)), some (.sh ((eT (eO eI)) listener1)), none, none, none, none, none, none, none, none, none, none]) (sSet (d := (eT (eO eI)) listener1) 6 s_law_listener (Ev.to (cT g_law_tuple T.b_tuple bb_tuple (ok_tupL ys4) (eab_cons (Ev.toB (EvN.ev (nLc [("k", 16)] (by decide +kernel) (It'.toB (iR1 g_law_range T.b_range (Ev.toB (vr 2 n_law_n rfl)) hn4 (fun _ => rfl))) (lcr_map (ea := eI) (eb := (eO eI)) (fun z4 : Int => (Option.bind (idx row1 (41 + z4)) fun x5 => Option.bind (idx row1 81) fun x6 => need (0 < (2 + (4 * (x6 % 2)))) <| Option.bind (idx [(some 0), (some 1), (none : (Option Int)), (some 0), (none : (Option Int)), (some 1)] ((x5 / 2) % (2 + (4 * (x6 % 2))))) fun x7 => some x7)) (fun z4 y h => by (obtain ⟨x5, hx5, h⟩ := bind_ex h; obtain ⟨x6, hx6, h⟩ := bind_ex h; obtain ⟨hn5, h⟩ := need_ex h; obtain ⟨x7, hx7, h⟩ := bind_ex h; have h := Option.some.inj h; subst h; exact step_one (by decide) (tN 16 (nms (by decide +kernel))) (ev_ixT (Ev.toB (ev_tup (ea_cons ev_int (ea_cons ev_int (ea_cons ev_none (ea_cons ev_int (ea_cons ev_none (ea_cons ev_int ea_nil (fun _ => rfl)) (fun _ => rfl)) (fun _ => rfl)) (fun _ => rfl)) (fun _ => rfl)) (fun _ => rfl)) (le_sz (by decide : 6 ≤ 100000)))) (Ev.toB (ev_op (ok_mod hn5) (Ev.toB (ev_op (ok_fdiv (div_c (by decide))) (Ev.toB (cT (gn (by decide +kernel)) T.b_int bb_int (ok_intI (i := x5)) (eab_cons (Ev.toB (ev_ix (Ev.toB (vr 1 (nm (by decide +kernel)) rfl)) (Ev.toB (ev_op ok_add (Ev.toB ev_int) (Ev.toB (vr 16 (nm (by decide +kernel)) rfl)))) (atI_map eI hx5) (fun _ _ => rfl))) eab_nil (fun _ => rfl)) (fun _ => rfl) (fun _ => rfl))) (Ev.toB ev_int))) (Ev.toB (ev_op ok_add (Ev.toB ev_int) (Ev.toB (ev_op (ok_mul (mul_l (by decide))) (Ev.toB ev_int) (Ev.toB (ev_op (ok_mod (by decide)) (Ev.toB (cT (gn (by decide +kernel)) T.b_int bb_int (ok_intI (i := x6)) (eab_cons (Ev.toB (ev_ix (Ev.toB (vr 1 (nm (by decide +kernel)) rfl)) (Ev.toB ev_int) (atI_map eI hx6) (fun _ _ => rfl))) eab_nil (fun _ => rfl)) (fun _ => rfl) (fun _ => rfl))) (Ev.toB ev_int))))))))) (atI_map (eO eI) hx7) (fun _ _ => rfl)))) _ _ hys4) (zz_rg hn4 (Nat.le_of_eq (mapO_len hys4))) (fun _ _ => rfl)))) eab_nil (fun _ => rfl)) (fun _ => rfl) (fun _ => rfl)) (congrArg (eT (eO eI)) hlistener1)) (fun _ _ => rfl)) ?_
  obtain ⟨law_se1, hlaw_se1, h⟩ := bind_ex h
  refine blk_ifx h (te_not (te_val (Ev.toB (cF g_law_law_sent_right (ok_law_sent_right T hlaw_se1) (by decide : LW_law_sent_right ≤ LV_law) (ea_cons (vr 3 n_law_bits rfl) (ea_cons (vr 4 n_law_first rfl) (ea_cons (vr 5 n_law_second rfl) (ea_cons (vr 6 n_law_listener rfl) ea_nil (fun _ => rfl)) (fun _ => rfl)) (fun _ => rfl)) (fun _ => rfl)) (fun _ => rfl) (fun _ => rfl))) (fun _ _ => rfl))) ?_ ?_
  · intro h
    have h := Option.some.inj h
    subst h
    exact blkx_ret (st_ret ev_bool)
  · intro h
    obtain ⟨x8, hx8, h⟩ := bind_ex h
    obtain ⟨x9, hx9, h⟩ := bind_ex h
    obtain ⟨law_un1, hlaw_un1, h⟩ := bind_ex h
    refine blk_ifx h (te_not (te_val (Ev.toB (cF g_law_law_unseen_right (ok_law_unseen_right T hlaw_un1) (by decide : LW_law_unseen_right ≤ LV_law) (ea_cons (ev_op (ok_mod (by decide)) (Ev.toB (cT g_law_int T.b_int bb_int (ok_intI (i := x8)) (eab_cons (Ev.toB (ev_ix (Ev.toB (vr 1 n_law_row rfl)) (Ev.toB ev_int) (atI_map eI hx8) (fun _ _ => rfl))) eab_nil (fun _ => rfl)) (fun _ => rfl) (fun _ => rfl))) (Ev.toB ev_int)) (ea_cons (ev_op (ok_mod (by decide)) (Ev.toB (cT g_law_int T.b_int bb_int (ok_intI (i := x9)) (eab_cons (Ev.toB (ev_ix (Ev.toB (vr 1 n_law_row rfl)) (Ev.toB ev_int) (atI_map eI hx9) (fun _ _ => rfl))) eab_nil (fun _ => rfl)) (fun _ => rfl) (fun _ => rfl))) (Ev.toB ev_int)) ea_nil (fun _ => rfl)) (fun _ => rfl)) (fun _ => rfl) (fun _ => rfl))) (fun _ _ => rfl))) ?_ ?_
    · intro h
      have h := Option.some.inj h
      subst h
      exact blkx_ret (st_ret ev_bool)
    · intro h
      obtain ⟨x10, hx10, h⟩ := bind_ex h
      obtain ⟨few1, hfew1, h⟩ := set_ex h
      refine blk_cons (ρ1 := [some (.sh ((eL eI) script1)), some (.sh ((eL eI) row1)), some (.sh (eI n1)), some (.sh ((eT eI) bits1)), some (.sh ((eT eI) first1)), some (.sh ((eT eI) second1)), some (.sh ((eT (eO eI)) listener1)), some (.sh (eI few1)), none, none, none, none, none, none, none, none, none]) (sSet (d := eI few1) 7 s_law_few (Ev.to (ev_op (ok_mod (by decide)) (Ev.toB (cT g_law_int T.b_int bb_int (ok_intI (i := x10)) (eab_cons (Ev.toB (ev_ix (Ev.toB (vr 1 n_law_row rfl)) (Ev.toB ev_int) (atI_map eI hx10) (fun _ _ => rfl))) eab_nil (fun _ => rfl)) (fun _ => rfl) (fun _ => rfl))) (Ev.toB ev_int)) (congrArg eI hfew1)) (fun _ _ => rfl)) ?_
      obtain ⟨hn6, h⟩ := need_ex h
      obtain ⟨ys5, hys5, h⟩ := bind_ex h
      obtain ⟨some1, hsome1, h⟩ := set_ex h
      refine blk_cons (ρ1 := [some (.sh ((eL eI) script1)), some (.sh ((eL eI) row1)), some (.sh (eI n1)), some (.sh ((eT eI) bits1)), some (.sh ((eT eI) first1)), some (.sh ((eT eI) second1)), some (.sh ((eT (eO eI)) listener1)), some (.sh (eI few1)), some (.sh ((eT eI) some1)), none, none, none, none, none, none, none, none]) (sSet (d := (eT eI) some1) 8 s_law_some (Ev.to (cT g_law_tuple T.b_tuple bb_tuple (ok_tupL ys5) (eab_cons (Ev.toB (EvN.ev (nLc [("k", 16)] (by decide +kernel) (It'.toB (iR1 g_law_range T.b_range (Ev.toB (vr 7 n_law_few rfl)) hn6 (fun _ => rfl))) (lcr_map (ea := eI) (eb := eI) (fun z5 : Int => (Option.bind (idx row1 (85 + z5)) fun x11 => some (x11 % 2))) (fun z5 y h => by (obtain ⟨x11, hx11, h⟩ := bind_ex h; have h := Option.some.inj h; subst h; exact step_one (by decide) (tN 16 (nms (by decide +kernel))) (ev_op (ok_mod (by decide)) (Ev.toB (cT (gn (by decide +kernel)) T.b_int bb_int (ok_intI (i := x11)) (eab_cons (Ev.toB (ev_ix (Ev.toB (vr 1 (nm (by decide +kernel)) rfl)) (Ev.toB (ev_op ok_add (Ev.toB ev_int) (Ev.toB (vr 16 (nm (by decide +kernel)) rfl)))) (atI_map eI hx11) (fun _ _ => rfl))) eab_nil (fun _ => rfl)) (fun _ => rfl) (fun _ => rfl))) (Ev.toB ev_int)))) _ _ hys5) (zz_rg hn6 (Nat.le_of_eq (mapO_len hys5))) (fun _ _ => rfl)))) eab_nil (fun _ => rfl)) (fun _ => rfl) (fun _ => rfl)) (congrArg (eT eI) hsome1)) (fun _ _ => rfl)) ?_
      obtain ⟨hn7, h⟩ := need_ex h
      obtain ⟨ys6, hys6, h⟩ := bind_ex h
      obtain ⟨law_al1, hlaw_al1, h⟩ := bind_ex h
      refine blk_ifx h (te_not (te_val (Ev.toB (cF g_law_law_all_ways_right (ok_law_all_ways_right T hlaw_al1) (by decide : LW_law_all_ways_right ≤ LV_law) (ea_cons (vr 8 n_law_some rfl) (ea_cons (cT g_law_tuple T.b_tuple bb_tuple (ok_tupL ys6) (eab_cons (Ev.toB (EvN.ev (nLc [("k", 16)] (by decide +kernel) (It'.toB (iR1 g_law_range T.b_range (Ev.toB (vr 7 n_law_few rfl)) hn7 (fun _ => rfl))) (lcr_map (ea := eI) (eb := eI) (fun z6 : Int => (Option.bind (idx row1 (85 + z6)) fun x12 => some ((x12 / 2) % 2))) (fun z6 y h => by (obtain ⟨x12, hx12, h⟩ := bind_ex h; have h := Option.some.inj h; subst h; exact step_one (by decide) (tN 16 (nms (by decide +kernel))) (ev_op (ok_mod (by decide)) (Ev.toB (ev_op (ok_fdiv (div_c (by decide))) (Ev.toB (cT (gn (by decide +kernel)) T.b_int bb_int (ok_intI (i := x12)) (eab_cons (Ev.toB (ev_ix (Ev.toB (vr 1 (nm (by decide +kernel)) rfl)) (Ev.toB (ev_op ok_add (Ev.toB ev_int) (Ev.toB (vr 16 (nm (by decide +kernel)) rfl)))) (atI_map eI hx12) (fun _ _ => rfl))) eab_nil (fun _ => rfl)) (fun _ => rfl) (fun _ => rfl))) (Ev.toB ev_int))) (Ev.toB ev_int)))) _ _ hys6) (zz_rg hn7 (Nat.le_of_eq (mapO_len hys6))) (fun _ _ => rfl)))) eab_nil (fun _ => rfl)) (fun _ => rfl) (fun _ => rfl)) ea_nil (fun _ => rfl)) (fun _ => rfl)) (fun _ => rfl) (fun _ => rfl))) (fun _ _ => rfl))) ?_ ?_
      · intro h
        have h := Option.some.inj h
        subst h
        exact blkx_ret (st_ret ev_bool)
      · intro h
        obtain ⟨x13, hx13, h⟩ := bind_ex h
        obtain ⟨x14, hx14, h⟩ := bind_ex h
        obtain ⟨x15, hx15, h⟩ := bind_ex h
        obtain ⟨size1, hsize1, h⟩ := set_ex h
        obtain ⟨part1, hpart1, h⟩ := set_ex h
        refine blk_cons (ρ1 := [some (.sh ((eL eI) script1)), some (.sh ((eL eI) row1)), some (.sh (eI n1)), some (.sh ((eT eI) bits1)), some (.sh ((eT eI) first1)), some (.sh ((eT eI) second1)), some (.sh ((eT (eO eI)) listener1)), some (.sh (eI few1)), some (.sh ((eT eI) some1)), some (.sh (eI size1)), some (.sh (eI part1)), none, none, none, none, none, none]) (st_unp2 s_law_size s_law_part (Ev.s (Ev.to (ev_op ok_add (Ev.toB ev_int) (Ev.toB (ev_op (ok_mod (by decide)) (Ev.toB (cT g_law_int T.b_int bb_int (ok_intI (i := x13)) (eab_cons (Ev.toB (ev_ix (Ev.toB (vr 1 n_law_row rfl)) (Ev.toB ev_int) (atI_map eI hx13) (fun _ _ => rfl))) eab_nil (fun _ => rfl)) (fun _ => rfl) (fun _ => rfl))) (Ev.toB ev_int)))) (congrArg eI hsize1))) (Ev.s (Ev.to (ev_ixT (Ev.toB (ev_tup (ea_cons ev_int (ea_cons ev_int (ea_cons ev_int (ea_cons ev_int ea_nil (fun _ => rfl)) (fun _ => rfl)) (fun _ => rfl)) (fun _ => rfl)) (le_sz (by decide : 4 ≤ 100000)))) (Ev.toB (ev_op (ok_mod (by decide)) (Ev.toB (cT g_law_int T.b_int bb_int (ok_intI (i := x14)) (eab_cons (Ev.toB (ev_ix (Ev.toB (vr 1 n_law_row rfl)) (Ev.toB ev_int) (atI_map eI hx14) (fun _ _ => rfl))) eab_nil (fun _ => rfl)) (fun _ => rfl) (fun _ => rfl))) (Ev.toB ev_int))) (atI_map eI hx15) (fun _ _ => rfl)) (congrArg eI hpart1))) (fun env h => swp_sc env h (by kernel_rfl)) (fun _ => rfl) (fun _ => rfl)) ?_
        obtain ⟨x16, hx16, h⟩ := bind_ex h
        obtain ⟨j1, hj1, h⟩ := bind_ex h
        refine blk_cons (ρ1 := [some (.sh ((eL eI) script1)), some (.sh ((eL eI) row1)), some (.sh (eI n1)), some (.sh ((eT eI) bits1)), some (.sh ((eT eI) first1)), some (.sh ((eT eI) second1)), some (.sh ((eT (eO eI)) listener1)), some (.sh (eI few1)), some (.sh ((eT eI) some1)), some (.sh (eI j1)), some (.sh (eI part1)), none, none, none, none, none, none]) (st_ifJ hj1 (te_cmp (ok_eqI (i := (x16 % 3)) (j := 2)) (Ev.toB (ev_op (ok_mod (by decide)) (Ev.toB (cT g_law_int T.b_int bb_int (ok_intI (i := x16)) (eab_cons (Ev.toB (ev_ix (Ev.toB (vr 1 n_law_row rfl)) (Ev.toB ev_int) (atI_map eI hx16) (fun _ _ => rfl))) eab_nil (fun _ => rfl)) (fun _ => rfl) (fun _ => rfl))) (Ev.toB ev_int))) (Ev.toB ev_int) rfl) ?_ ?_) ?_
        · intro h
          obtain ⟨x18, hx18, h⟩ := bind_ex h
          obtain ⟨size2, hsize2, h⟩ := set_ex h
          refine blk_cons (ρ1 := [some (.sh ((eL eI) script1)), some (.sh ((eL eI) row1)), some (.sh (eI n1)), some (.sh ((eT eI) bits1)), some (.sh ((eT eI) first1)), some (.sh ((eT eI) second1)), some (.sh ((eT (eO eI)) listener1)), some (.sh (eI few1)), some (.sh ((eT eI) some1)), some (.sh (eI size2)), some (.sh (eI part1)), none, none, none, none, none, none]) (sSet (d := eI size2) 9 s_law_size (Ev.to (ev_op ok_add (Ev.toB ev_int) (Ev.toB (ev_op (ok_mod (by decide)) (Ev.toB (ev_op (ok_fdiv (div_c (by decide))) (Ev.toB (cT g_law_int T.b_int bb_int (ok_intI (i := x18)) (eab_cons (Ev.toB (ev_ix (Ev.toB (vr 1 n_law_row rfl)) (Ev.toB ev_int) (atI_map eI hx18) (fun _ _ => rfl))) eab_nil (fun _ => rfl)) (fun _ => rfl) (fun _ => rfl))) (Ev.toB ev_int))) (Ev.toB ev_int)))) (congrArg eI hsize2)) (fun _ _ => rfl)) ?_
          have h := Option.some.inj h
          subst h
          exact Blk.out blk_nil (.nx (.keep (.keep (.keep (.keep (.keep (.keep (.keep (.keep (.keep (.keep (.keep (.keep (.keep (.keep (.keep (.keep (.keep .nil))))))))))))))))))
        · intro h
          have h := Option.some.inj h
          subst h
          exact Blk.out blk_nil (.nx (.keep (.keep (.keep (.keep (.keep (.keep (.keep (.keep (.keep (.keep (.keep (.keep (.keep (.keep (.keep (.keep (.keep .nil))))))))))))))))))
        · obtain ⟨hn8, h⟩ := need_ex h
          obtain ⟨ys7, hys7, h⟩ := bind_ex h
          obtain ⟨mine1, hmine1, h⟩ := set_ex h
          refine blk_cons (ρ1 := [some (.sh ((eL eI) script1)), some (.sh ((eL eI) row1)), some (.sh (eI n1)), some (.sh ((eT eI) bits1)), some (.sh ((eT eI) first1)), some (.sh ((eT eI) second1)), some (.sh ((eT (eO eI)) listener1)), some (.sh (eI few1)), some (.sh ((eT eI) some1)), some (.sh (eI j1)), some (.sh (eI part1)), some (.sh ((eT eI) mine1)), none, none, none, none, none]) (sSet (d := (eT eI) mine1) 11 s_law_mine (Ev.to (cT g_law_tuple T.b_tuple bb_tuple (ok_tupL ys7) (eab_cons (Ev.toB (EvN.ev (nLc [("k", 16)] (by decide +kernel) (It'.toB (iR1 g_law_range T.b_range (Ev.toB (vr 9 n_law_size rfl)) hn8 (fun _ => rfl))) (lcr_map (ea := eI) (eb := eI) (fun z7 : Int => (Option.bind (idx row1 (94 + z7)) fun x19 => some ((x19 / 4) % 2))) (fun z7 y h => by (obtain ⟨x19, hx19, h⟩ := bind_ex h; have h := Option.some.inj h; subst h; exact step_one (by decide) (tN 16 (nms (by decide +kernel))) (ev_op (ok_mod (by decide)) (Ev.toB (ev_op (ok_fdiv (div_c (by decide))) (Ev.toB (cT (gn (by decide +kernel)) T.b_int bb_int (ok_intI (i := x19)) (eab_cons (Ev.toB (ev_ix (Ev.toB (vr 1 (nm (by decide +kernel)) rfl)) (Ev.toB (ev_op ok_add (Ev.toB ev_int) (Ev.toB (vr 16 (nm (by decide +kernel)) rfl)))) (atI_map eI hx19) (fun _ _ => rfl))) eab_nil (fun _ => rfl)) (fun _ => rfl) (fun _ => rfl))) (Ev.toB ev_int))) (Ev.toB ev_int)))) _ _ hys7) (zz_rg hn8 (Nat.le_of_eq (mapO_len hys7))) (fun _ _ => rfl)))) eab_nil (fun _ => rfl)) (fun _ => rfl) (fun _ => rfl)) (congrArg (eT eI) hmine1)) (fun _ _ => rfl)) ?_
          obtain ⟨hn9, h⟩ := need_ex h
          obtain ⟨ys8, hys8, h⟩ := bind_ex h
          obtain ⟨third1, hthird1, h⟩ := set_ex h
          refine blk_cons (ρ1 := [some (.sh ((eL eI) script1)), some (.sh ((eL eI) row1)), some (.sh (eI n1)), some (.sh ((eT eI) bits1)), some (.sh ((eT eI) first1)), some (.sh ((eT eI) second1)), some (.sh ((eT (eO eI)) listener1)), some (.sh (eI few1)), some (.sh ((eT eI) some1)), some (.sh (eI j1)), some (.sh (eI part1)), some (.sh ((eT eI) mine1)), some (.sh ((eT eI) third1)), none, none, none, none]) (sSet (d := (eT eI) third1) 12 s_law_third (Ev.to (cT g_law_tuple T.b_tuple bb_tuple (ok_tupL ys8) (eab_cons (Ev.toB (EvN.ev (nLc [("k", 16)] (by decide +kernel) (It'.toB (iR1 g_law_range T.b_range (Ev.toB (vr 9 n_law_size rfl)) hn9 (fun _ => rfl))) (lcr_map (ea := eI) (eb := eI) (fun z8 : Int => (Option.bind (idx row1 (94 + z8)) fun x20 => some ((x20 / 8) % 2))) (fun z8 y h => by (obtain ⟨x20, hx20, h⟩ := bind_ex h; have h := Option.some.inj h; subst h; exact step_one (by decide) (tN 16 (nms (by decide +kernel))) (ev_op (ok_mod (by decide)) (Ev.toB (ev_op (ok_fdiv (div_c (by decide))) (Ev.toB (cT (gn (by decide +kernel)) T.b_int bb_int (ok_intI (i := x20)) (eab_cons (Ev.toB (ev_ix (Ev.toB (vr 1 (nm (by decide +kernel)) rfl)) (Ev.toB (ev_op ok_add (Ev.toB ev_int) (Ev.toB (vr 16 (nm (by decide +kernel)) rfl)))) (atI_map eI hx20) (fun _ _ => rfl))) eab_nil (fun _ => rfl)) (fun _ => rfl) (fun _ => rfl))) (Ev.toB ev_int))) (Ev.toB ev_int)))) _ _ hys8) (zz_rg hn9 (Nat.le_of_eq (mapO_len hys8))) (fun _ _ => rfl)))) eab_nil (fun _ => rfl)) (fun _ => rfl) (fun _ => rfl)) (congrArg (eT eI) hthird1)) (fun _ _ => rfl)) ?_
          obtain ⟨hn10, h⟩ := need_ex h
          obtain ⟨ys9, hys9, h⟩ := bind_ex h
          obtain ⟨yours1, hyours1, h⟩ := set_ex h
          refine blk_cons (ρ1 := [some (.sh ((eL eI) script1)), some (.sh ((eL eI) row1)), some (.sh (eI n1)), some (.sh ((eT eI) bits1)), some (.sh ((eT eI) first1)), some (.sh ((eT eI) second1)), some (.sh ((eT (eO eI)) listener1)), some (.sh (eI few1)), some (.sh ((eT eI) some1)), some (.sh (eI j1)), some (.sh (eI part1)), some (.sh ((eT eI) mine1)), some (.sh ((eT eI) third1)), some (.ow ((eL eI) yours1)), none, none, none]) (sLc 13 l_law_yours [("k", 16)] (swp_local (by decide +kernel)) (by decide +kernel) (It'.toB (iR1 g_law_range T.b_range (Ev.toB (vr 9 n_law_size rfl)) hn10 (fun _ => rfl))) (LcR.to (lcr_map (ea := eI) (eb := eI) (fun z9 : Int => (Option.bind (idx mine1 z9) fun x21 => Option.bind (idx row1 (94 + z9)) fun x22 => need (0 < part1) <| some (Builtin.bitXor x21 (if (decide (((x22 / 16) % part1) = 1)) = true then 1 else 0)))) (fun z9 y h => by (obtain ⟨x21, hx21, h⟩ := bind_ex h; obtain ⟨x22, hx22, h⟩ := bind_ex h; obtain ⟨hn11, h⟩ := need_ex h; have h := Option.some.inj h; subst h; exact step_one (by decide) (tN 16 (nms (by decide +kernel))) (ev_op ok_xor (Ev.toB (ev_ixT (Ev.toB (vr 11 (nm (by decide +kernel)) rfl)) (Ev.toB (vr 16 (nm (by decide +kernel)) rfl)) (atI_map eI hx21) (fun _ _ => rfl))) (Ev.toB (cT (gn (by decide +kernel)) T.b_int bb_int (ok_intB (b := (decide (((x22 / 16) % part1) = 1)))) (eab_cons (Ev.toB (ev_cmp (ok_eqI (i := ((x22 / 16) % part1)) (j := 1)) (Ev.toB (ev_op (ok_mod hn11) (Ev.toB (ev_op (ok_fdiv (div_c (by decide))) (Ev.toB (cT (gn (by decide +kernel)) T.b_int bb_int (ok_intI (i := x22)) (eab_cons (Ev.toB (ev_ix (Ev.toB (vr 1 (nm (by decide +kernel)) rfl)) (Ev.toB (ev_op ok_add (Ev.toB ev_int) (Ev.toB (vr 16 (nm (by decide +kernel)) rfl)))) (atI_map eI hx22) (fun _ _ => rfl))) eab_nil (fun _ => rfl)) (fun _ => rfl) (fun _ => rfl))) (Ev.toB ev_int))) (Ev.toB (vr 10 (nm (by decide +kernel)) rfl)))) (Ev.toB ev_int) rfl)) eab_nil (fun _ => rfl)) (fun _ => rfl) (fun _ => rfl)))))) _ _ hys9) (congrArg (List.map eI) hyours1)) (zz_to hyours1 (zz_rg hn10 (Nat.le_of_eq (mapO_len hys9)))) (fun _ _ => rfl)) ?_
          obtain ⟨x23, hx23, h⟩ := bind_ex h
          obtain ⟨hn12, h⟩ := need_ex h
          obtain ⟨spot1, hspot1, h⟩ := set_ex h
          refine blk_cons (ρ1 := [some (.sh ((eL eI) script1)), some (.sh ((eL eI) row1)), some (.sh (eI n1)), some (.sh ((eT eI) bits1)), some (.sh ((eT eI) first1)), some (.sh ((eT eI) second1)), some (.sh ((eT (eO eI)) listener1)), some (.sh (eI few1)), some (.sh ((eT eI) some1)), some (.sh (eI j1)), some (.sh (eI part1)), some (.sh ((eT eI) mine1)), some (.sh ((eT eI) third1)), some (.ow ((eL eI) yours1)), some (.sh (eI spot1)), none, none]) (sSet (d := eI spot1) 14 s_law_spot (Ev.to (ev_op (ok_mod hn12) (Ev.toB (cT g_law_int T.b_int bb_int (ok_intI (i := x23)) (eab_cons (Ev.toB (ev_ix (Ev.toB (vr 1 n_law_row rfl)) (Ev.toB ev_int) (atI_map eI hx23) (fun _ _ => rfl))) eab_nil (fun _ => rfl)) (fun _ => rfl) (fun _ => rfl))) (Ev.toB (vr 9 n_law_size rfl))) (congrArg eI hspot1)) (fun _ _ => rfl)) ?_
          obtain ⟨x24, hx24, h⟩ := bind_ex h
          obtain ⟨yours2, hyours2, h⟩ := bind_ex h
          refine blk_cons (ρ1 := [some (.sh ((eL eI) script1)), some (.sh ((eL eI) row1)), some (.sh (eI n1)), some (.sh ((eT eI) bits1)), some (.sh ((eT eI) first1)), some (.sh ((eT eI) second1)), some (.sh ((eT (eO eI)) listener1)), some (.sh (eI few1)), some (.sh ((eT eI) some1)), some (.sh (eI j1)), some (.sh (eI part1)), some (.sh ((eT eI) mine1)), some (.sh ((eT eI) third1)), some (.ow ((eL eI) yours2)), some (.sh (eI spot1)), none, none]) (sItemX (f := eI) (xs := yours1) (ys := yours2) (v := (1 - x24)) 13 n_law_yours rfl (ev_op ok_sub (Ev.toB ev_int) (Ev.toB (ev_ixT (Ev.toB (vr 11 n_law_mine rfl)) (Ev.toB (vr 14 n_law_spot rfl)) (atI_map eI hx24) (fun _ _ => rfl)))) (Ev.toB (vr 14 n_law_spot rfl)) hyours2 (fun _ => rfl) (fun _ => rfl) (fun _ => rfl) (fun _ _ => rfl)) ?_
          obtain ⟨law_od1, hlaw_od1, h⟩ := bind_ex h
          refine blk_ifx h (te_not (te_val (Ev.toB (cF g_law_law_odd_right (ok_law_odd_right T hlaw_od1) (by decide : LW_law_odd_right ≤ LV_law) (ea_cons (vr 11 n_law_mine rfl) (ea_cons (cT g_law_tuple T.b_tuple bb_tuple (ok_tupL yours2) (eab_cons (vo 13 n_law_yours rfl) eab_nil (fun _ => rfl)) (fun _ => rfl) (fun _ => rfl)) (ea_cons (vr 12 n_law_third rfl) ea_nil (fun _ => rfl)) (fun _ => rfl)) (fun _ => rfl)) (fun _ => rfl) (fun _ => rfl))) (fun _ _ => rfl))) ?_ ?_
          · intro h
            refine BlkX.weak (ρ1 := [some (.sh ((eL eI) script1)), some (.sh ((eL eI) row1)), some (.sh (eI n1)), some (.sh ((eT eI) bits1)), some (.sh ((eT eI) first1)), some (.sh ((eT eI) second1)), some (.sh ((eT (eO eI)) listener1)), some (.sh (eI few1)), some (.sh ((eT eI) some1)), some (.sh (eI j1)), some (.sh (eI part1)), some (.sh ((eT eI) mine1)), some (.sh ((eT eI) third1)), some (.sh ((eL eI) yours2)), some (.sh (eI spot1)), none, none]) ?_ (.keep (.keep (.keep (.keep (.keep (.keep (.keep (.keep (.keep (.keep (.keep (.keep (.keep (.frz (.keep (.keep (.keep .nil)))))))))))))))))
            have h := Option.some.inj h
            subst h
            exact blkx_ret (st_ret ev_bool)
          · intro h
            obtain ⟨x25, hx25, h⟩ := bind_ex h
            obtain ⟨hn13, h⟩ := need_ex h
            obtain ⟨other1, hother1, h⟩ := set_ex h
            refine blk_cons (ρ1 := [some (.sh ((eL eI) script1)), some (.sh ((eL eI) row1)), some (.sh (eI n1)), some (.sh ((eT eI) bits1)), some (.sh ((eT eI) first1)), some (.sh ((eT eI) second1)), some (.sh ((eT (eO eI)) listener1)), some (.sh (eI few1)), some (.sh ((eT eI) some1)), some (.sh (eI j1)), some (.sh (eI part1)), some (.sh ((eT eI) mine1)), some (.sh ((eT eI) third1)), some (.ow ((eL eI) yours2)), some (.sh (eI spot1)), some (.sh (eI other1)), none]) (sSet (d := eI other1) 15 s_law_other (Ev.to (ev_op (ok_mod hn13) (Ev.toB (cT g_law_int T.b_int bb_int (ok_intI (i := x25)) (eab_cons (Ev.toB (ev_ix (Ev.toB (vr 1 n_law_row rfl)) (Ev.toB ev_int) (atI_map eI hx25) (fun _ _ => rfl))) eab_nil (fun _ => rfl)) (fun _ => rfl) (fun _ => rfl))) (Ev.toB (vr 9 n_law_size rfl))) (congrArg eI hother1)) (fun _ _ => rfl)) ?_
            obtain ⟨x26, hx26, h⟩ := bind_ex h
            obtain ⟨yours3, hyours3, h⟩ := bind_ex h
            refine blk_cons (ρ1 := [some (.sh ((eL eI) script1)), some (.sh ((eL eI) row1)), some (.sh (eI n1)), some (.sh ((eT eI) bits1)), some (.sh ((eT eI) first1)), some (.sh ((eT eI) second1)), some (.sh ((eT (eO eI)) listener1)), some (.sh (eI few1)), some (.sh ((eT eI) some1)), some (.sh (eI j1)), some (.sh (eI part1)), some (.sh ((eT eI) mine1)), some (.sh ((eT eI) third1)), some (.ow ((eL eI) yours3)), some (.sh (eI spot1)), some (.sh (eI other1)), none]) (sItemX (f := eI) (xs := yours2) (ys := yours3) (v := (1 - x26)) 13 n_law_yours rfl (ev_op ok_sub (Ev.toB ev_int) (Ev.toB (ev_ix (vo 13 n_law_yours rfl) (Ev.toB (vr 15 n_law_other rfl)) (atI_map eI hx26) (fun _ _ => rfl)))) (Ev.toB (vr 15 n_law_other rfl)) hyours3 (fun _ => rfl) (fun _ => rfl) (fun _ => rfl) (fun _ _ => rfl)) ?_
            refine Blk.weak (ρ1 := [some (.sh ((eL eI) script1)), some (.sh ((eL eI) row1)), some (.sh (eI n1)), some (.sh ((eT eI) bits1)), some (.sh ((eT eI) first1)), some (.sh ((eT eI) second1)), some (.sh ((eT (eO eI)) listener1)), some (.sh (eI few1)), some (.sh ((eT eI) some1)), some (.sh (eI j1)), some (.sh (eI part1)), some (.sh ((eT eI) mine1)), some (.sh ((eT eI) third1)), some (.sh ((eL eI) yours3)), some (.sh (eI spot1)), some (.sh (eI other1)), none]) ?_ (.keep (.keep (.keep (.keep (.keep (.keep (.keep (.keep (.keep (.keep (.keep (.keep (.keep (.frz (.keep (.keep (.keep .nil)))))))))))))))))
            obtain ⟨b1, hb1, h⟩ := bind_ex h
            have h := Option.some.inj h
            subst h
            exact blk_ret (st_ret (ev_orO hb1 (ev_cmp (ok_eqT (eq_t eq_I) yours3 mine1) (Ev.toB (cT g_law_tuple T.b_tuple bb_tuple (ok_tupL yours3) (eab_cons (Ev.toB (vr 13 n_law_yours rfl)) eab_nil (fun _ => rfl)) (fun _ => rfl) (fun _ => rfl))) (Ev.toB (vr 11 n_law_mine rfl)) rfl) (fun h => by (obtain ⟨law_od2, hlaw_od2, h⟩ := bind_ex h; have h := Option.some.inj h; subst h; exact (ev_one (cF g_law_law_odd_right (ok_law_odd_right T hlaw_od2) (by decide : LW_law_odd_right ≤ LV_law) (ea_cons (vr 11 n_law_mine rfl) (ea_cons (cT g_law_tuple T.b_tuple bb_tuple (ok_tupL yours3) (eab_cons (Ev.toB (vr 13 n_law_yours rfl)) eab_nil (fun _ => rfl)) (fun _ => rfl) (fun _ => rfl)) (ea_cons (vr 12 n_law_third rfl) ea_nil (fun _ => rfl)) (fun _ => rfl)) (fun _ => rfl)) (fun _ => rfl) (fun _ => rfl)))))))
/-! ### the head -/
def d_divisor : He.DefD := ⟨("divisor", none), "divisor", "divisor", defArgs (topS 1), defBody (topS 1), defScope (topS 1), [], []⟩
def d_lowest : He.DefD := ⟨("lowest", none), "lowest", "lowest", defArgs (topS 2), defBody (topS 2), defScope (topS 2), [], []⟩
def d_sent_bases : He.DefD := ⟨("sent_bases", none), "sent_bases", "sent_bases", defArgs (topS 4), defBody (topS 4), defScope (topS 4), [], []⟩
def d_kept_places : He.DefD := ⟨("kept_places", none), "kept_places", "kept_places", defArgs (topS 5), defBody (topS 5), defScope (topS 5), [], []⟩
def d_seen_listening : He.DefD := ⟨("seen_listening", none), "seen_listening", "seen_listening", defArgs (topS 6), defBody (topS 6), defScope (topS 6), [], []⟩
def d_bits_known : He.DefD := ⟨("bits_known", none), "bits_known", "bits_known", defArgs (topS 7), defBody (topS 7), defScope (topS 7), [], []⟩
def d_found_odd : He.DefD := ⟨("found_odd", none), "found_odd", "found_odd", defArgs (topS 8), defBody (topS 8), defScope (topS 8), [], []⟩
def d_law_mixed : He.DefD := ⟨("_law_mixed", none), "_law_mixed", "_law_mixed", defArgs (topS 10), defBody (topS 10), defScope (topS 10), [], []⟩
def d_law_row : He.DefD := ⟨("_law_row", none), "_law_row", "_law_row", defArgs (topS 11), defBody (topS 11), defScope (topS 11), [], []⟩
def d_law_is_int : He.DefD := ⟨("_law_is_int", none), "_law_is_int", "_law_is_int", defArgs (topS 12), defBody (topS 12), defScope (topS 12), [], []⟩
def d_law_like : He.DefD := ⟨("_law_like", none), "_law_like", "_law_like", defArgs (topS 13), defBody (topS 13), defScope (topS 13), [], []⟩
def d_law_common : He.DefD := ⟨("_law_common", none), "_law_common", "_law_common", defArgs (topS 14), defBody (topS 14), defScope (topS 14), [], []⟩
def d_law_ratio : He.DefD := ⟨("_law_ratio", none), "_law_ratio", "_law_ratio", defArgs (topS 15), defBody (topS 15), defScope (topS 15), [], []⟩
def d_law_sent_right : He.DefD := ⟨("_law_sent_right", none), "_law_sent_right", "_law_sent_right", defArgs (topS 16), defBody (topS 16), defScope (topS 16), [], []⟩
def d_law_power : He.DefD := ⟨("_law_power", none), "_law_power", "_law_power", defArgs (topS 17), defBody (topS 17), defScope (topS 17), [], []⟩
def d_law_unseen_right : He.DefD := ⟨("_law_unseen_right", none), "_law_unseen_right", "_law_unseen_right", defArgs (topS 18), defBody (topS 18), defScope (topS 18), [], []⟩
def d_law_all_ways_right : He.DefD := ⟨("_law_all_ways_right", none), "_law_all_ways_right", "_law_all_ways_right", defArgs (topS 19), defBody (topS 19), defScope (topS 19), [], []⟩
def d_law_halved : He.DefD := ⟨("_law_halved", none), "_law_halved", "_law_halved", defArgs (topS 20), defBody (topS 20), defScope (topS 20), [], []⟩
def d_law_odd_right : He.DefD := ⟨("_law_odd_right", none), "_law_odd_right", "_law_odd_right", defArgs (topS 21), defBody (topS 21), defScope (topS 21), [], []⟩
def d_law : He.DefD := ⟨("law", none), "law", "law", defArgs (topS 22), defBody (topS 22), defScope (topS 22), [], []⟩
def fnL : List He.DefD := [d_divisor, d_lowest, d_sent_bases, d_kept_places, d_seen_listening, d_bits_known, d_found_odd, d_law_mixed, d_law_row, d_law_is_int, d_law_like, d_law_common, d_law_ratio, d_law_sent_right, d_law_power, d_law_unseen_right, d_law_all_ways_right, d_law_halved, d_law_odd_right, d_law]
def faL : List He.Fa := [.glo "divisor", .glo "lowest", .glo "sent_bases", .glo "kept_places", .glo "seen_listening", .glo "bits_known", .glo "found_odd", .glo "_law_mixed", .glo "_law_row", .glo "_law_is_int", .glo "_law_like", .glo "_law_common", .glo "_law_ratio", .glo "_law_sent_right", .glo "_law_power", .glo "_law_unseen_right", .glo "_law_all_ways_right", .glo "_law_halved", .glo "_law_odd_right", .glo "law", .free "isinstance", .free "int", .free "bool", .free "tuple", .free "str", .free "all", .free "len", .free "range", .free "abs", .free "enumerate", .free "zip", .free "sum", .free "any"]
abbrev RR : PySem.W.OpenRow := PySem.W.OpenLaw.row PySem.Challenge.rw_sealskept_k40_whole_listened_bases
abbrev hk : PySem.W.Hook := He.hookD 4 faL fnL
def ob (s : PySem.W.SharedT) : He.AlD := He.obsDG 4 faL fnL (HandSHeadRun.getT s)
theorem ob_eq (s : PySem.W.SharedT) : ob s = hk.obs s.abs := He.obsDG_eq (HandSHeadRun.getT_eq s)
def loose0 : List PySem.Str := ["divisor", "lowest", "sent_bases", "kept_places", "seen_listening", "bits_known", "found_odd", "_law_mixed", "_law_row", "_law_is_int", "_law_like", "_law_common", "_law_ratio", "_law_sent_right", "_law_power", "_law_unseen_right", "_law_all_ways_right", "_law_halved", "_law_odd_right"]
theorem runs (w : World) : HandSHeadRun.RunEq RR (PySem.W.view RR.prog [22]) hk ob 3000 (loose0) w := by
  intro os
  kernel_rfl
theorem facts {P : Program} {w : World} {K : PySem.W.Frag} {h : Heap} {mg : Str → Option Value} {base : Heap} (X : K.In h) (Gn : h.Ns mainGlobals mg) (c : He.SaysD faL fnL K) : Facts ⟨P, w, K, mg, base⟩ := by
  obtain ⟨fd0, F0⟩ := c.def_ 0 (d := d_divisor) rfl
  obtain ⟨fd1, F1⟩ := c.def_ 1 (d := d_lowest) rfl
  obtain ⟨fd2, F2⟩ := c.def_ 2 (d := d_sent_bases) rfl
  obtain ⟨fd3, F3⟩ := c.def_ 3 (d := d_kept_places) rfl
  obtain ⟨fd4, F4⟩ := c.def_ 4 (d := d_seen_listening) rfl
  obtain ⟨fd5, F5⟩ := c.def_ 5 (d := d_bits_known) rfl
  obtain ⟨fd6, F6⟩ := c.def_ 6 (d := d_found_odd) rfl
  obtain ⟨fd7, F7⟩ := c.def_ 7 (d := d_law_mixed) rfl
  obtain ⟨fd8, F8⟩ := c.def_ 8 (d := d_law_row) rfl
  obtain ⟨fd9, F9⟩ := c.def_ 9 (d := d_law_is_int) rfl
  obtain ⟨fd10, F10⟩ := c.def_ 10 (d := d_law_like) rfl
  obtain ⟨fd11, F11⟩ := c.def_ 11 (d := d_law_common) rfl
  obtain ⟨fd12, F12⟩ := c.def_ 12 (d := d_law_ratio) rfl
  obtain ⟨fd13, F13⟩ := c.def_ 13 (d := d_law_sent_right) rfl
  obtain ⟨fd14, F14⟩ := c.def_ 14 (d := d_law_power) rfl
  obtain ⟨fd15, F15⟩ := c.def_ 15 (d := d_law_unseen_right) rfl
  obtain ⟨fd16, F16⟩ := c.def_ 16 (d := d_law_all_ways_right) rfl
  obtain ⟨fd17, F17⟩ := c.def_ 17 (d := d_law_halved) rfl
  obtain ⟨fd18, F18⟩ := c.def_ 18 (d := d_law_odd_right) rfl
  obtain ⟨fd19, F19⟩ := c.def_ 19 (d := d_law) rfl
  exact ⟨⟨_, fd0, F0, He.glo_ok X Gn (c.fact 0 (f := .glo "divisor") rfl), F0.bindsN fun _ _ _ _ _ _ us hl => match us, hl with | [_, _], _ => rfl⟩, ⟨_, fd1, F1, He.glo_ok X Gn (c.fact 1 (f := .glo "lowest") rfl), F1.bindsN fun _ _ _ _ _ _ us hl => match us, hl with | [_, _], _ => rfl⟩, ⟨_, fd2, F2, He.glo_ok X Gn (c.fact 2 (f := .glo "sent_bases") rfl), F2.bindsN fun _ _ _ _ _ _ us hl => match us, hl with | [_, _, _, _], _ => rfl⟩, ⟨_, fd3, F3, He.glo_ok X Gn (c.fact 3 (f := .glo "kept_places") rfl), F3.bindsN fun _ _ _ _ _ _ us hl => match us, hl with | [_, _], _ => rfl⟩, ⟨_, fd4, F4, He.glo_ok X Gn (c.fact 4 (f := .glo "seen_listening") rfl), F4.bindsN fun _ _ _ _ _ _ us hl => match us, hl with | [_], _ => rfl⟩, ⟨_, fd5, F5, He.glo_ok X Gn (c.fact 5 (f := .glo "bits_known") rfl), F5.bindsN fun _ _ _ _ _ _ us hl => match us, hl with | [_, _, _], _ => rfl⟩, ⟨_, fd6, F6, He.glo_ok X Gn (c.fact 6 (f := .glo "found_odd") rfl), F6.bindsN fun _ _ _ _ _ _ us hl => match us, hl with | [_, _], _ => rfl⟩, ⟨_, fd7, F7, He.glo_ok X Gn (c.fact 7 (f := .glo "_law_mixed") rfl), F7.bindsN fun _ _ _ _ _ _ us hl => match us, hl with | [_, _], _ => rfl⟩, ⟨_, fd8, F8, He.glo_ok X Gn (c.fact 8 (f := .glo "_law_row") rfl), F8.bindsN fun _ _ _ _ _ _ us hl => match us, hl with | [_, _], _ => rfl⟩, ⟨_, fd9, F9, He.glo_ok X Gn (c.fact 9 (f := .glo "_law_is_int") rfl), F9.bindsN fun _ _ _ _ _ _ us hl => match us, hl with | [_], _ => rfl⟩, ⟨_, fd10, F10, He.glo_ok X Gn (c.fact 10 (f := .glo "_law_like") rfl), F10.bindsN fun _ _ _ _ _ _ us hl => match us, hl with | [_, _], _ => rfl⟩, ⟨_, fd11, F11, He.glo_ok X Gn (c.fact 11 (f := .glo "_law_common") rfl), F11.bindsN fun _ _ _ _ _ _ us hl => match us, hl with | [_, _], _ => rfl⟩, ⟨_, fd12, F12, He.glo_ok X Gn (c.fact 12 (f := .glo "_law_ratio") rfl), F12.bindsN fun _ _ _ _ _ _ us hl => match us, hl with | [_, _], _ => rfl⟩, ⟨_, fd13, F13, He.glo_ok X Gn (c.fact 13 (f := .glo "_law_sent_right") rfl), F13.bindsN fun _ _ _ _ _ _ us hl => match us, hl with | [_, _, _, _], _ => rfl⟩, ⟨_, fd14, F14, He.glo_ok X Gn (c.fact 14 (f := .glo "_law_power") rfl), F14.bindsN fun _ _ _ _ _ _ us hl => match us, hl with | [_, _], _ => rfl⟩, ⟨_, fd15, F15, He.glo_ok X Gn (c.fact 15 (f := .glo "_law_unseen_right") rfl), F15.bindsN fun _ _ _ _ _ _ us hl => match us, hl with | [_, _], _ => rfl⟩, ⟨_, fd16, F16, He.glo_ok X Gn (c.fact 16 (f := .glo "_law_all_ways_right") rfl), F16.bindsN fun _ _ _ _ _ _ us hl => match us, hl with | [_, _], _ => rfl⟩, ⟨_, fd17, F17, He.glo_ok X Gn (c.fact 17 (f := .glo "_law_halved") rfl), F17.bindsN fun _ _ _ _ _ _ us hl => match us, hl with | [_], _ => rfl⟩, ⟨_, fd18, F18, He.glo_ok X Gn (c.fact 18 (f := .glo "_law_odd_right") rfl), F18.bindsN fun _ _ _ _ _ _ us hl => match us, hl with | [_, _, _], _ => rfl⟩, ⟨_, fd19, F19, He.glo_ok X Gn (c.fact 19 (f := .glo "law") rfl), F19.bindsN fun _ _ _ _ _ _ us hl => match us, hl with | [_], _ => rfl⟩, He.free_ok X Gn (c.fact 20 (f := .free "isinstance") rfl), He.free_ok X Gn (c.fact 21 (f := .free "int") rfl), He.free_ok X Gn (c.fact 22 (f := .free "bool") rfl), He.free_ok X Gn (c.fact 23 (f := .free "tuple") rfl), He.free_ok X Gn (c.fact 24 (f := .free "str") rfl), He.free_ok X Gn (c.fact 25 (f := .free "all") rfl), He.free_ok X Gn (c.fact 26 (f := .free "len") rfl), He.free_ok X Gn (c.fact 27 (f := .free "range") rfl), He.free_ok X Gn (c.fact 28 (f := .free "abs") rfl), He.free_ok X Gn (c.fact 29 (f := .free "enumerate") rfl), He.free_ok X Gn (c.fact 30 (f := .free "zip") rfl), He.free_ok X Gn (c.fact 31 (f := .free "sum") rfl), He.free_ok X Gn (c.fact 32 (f := .free "any") rfl)⟩
theorem lawFn {P : Program} {w : World} {K : PySem.W.Frag} {h : Heap} {mg : Str → Option Value} {f : Addr} (hl : ∀ ns : List Int, ns.length ≤ 63 → law_m ns = some true) (X : K.In h) (Gn : h.Ns mainGlobals mg) (hfa : mg ("law" : Str) = some (.ref f)) (c : He.SaysD faL fnL K) :
    ∃ fd : FuncData, (∀ (s : Shared) (v : Value), BindsTo s fd ⟨[v], []⟩ [("script", v)]) ∧ ∀ base : Heap, K.In base → base.Ns mainGlobals mg → FnOk P w K mg base CX0 (LV_law + 1) f fd ["script"] (spLaw K) := by
  obtain ⟨fd, F⟩ := c.def_ 19 (d := d_law) rfl
  have e := hfa.symm.trans (He.glo_ok X Gn (c.fact 19 (f := .glo "law") rfl))
  cases e
  have b := FunD.bindsA (ps := ["script"]) F fun _ _ _ _ _ _ us hl => match us, hl with | [_], _ => rfl
  exact ⟨fd, fun s v => b s [v] rfl, fun base _ _ => fn_law (G := ⟨P, w, K, mg, base⟩) F FS_law rfl fun ns h => blk_law (facts X Gn c) (hl ns h)⟩
end K40
open PySem PySem.W PySem.Calls PyProof.Rows
theorem PySem.Challenge.cw_sealskept_k40_whole_listened_bases_holds : PySem.Challenge.rw_sealskept_k40_whole_listened_bases.Holds := by
  w_on; o_law
  refine HandSHeadRun.head_any (r := OpenLaw.row PySem.Challenge.rw_sealskept_k40_whole_listened_bases) (q := view (OpenLaw.row PySem.Challenge.rw_sealskept_k40_whole_listened_bases).prog [22]) (H := K40.hk) (ob := K40.ob) (M := 3000) (loose := K40.loose0) (d := HandSHeadRun.topDef (OpenLaw.row PySem.Challenge.rw_sealskept_k40_whole_listened_bases).prog 22) (kwd := []) K40.ob_eq
    (by kernel_rfl) (fun s => by kernel_rfl) K40.runs (by kernel_rfl) (by kernel_rfl) (by kernel_rfl) (by rfl) (by first | assumption | decide +kernel) (by decide +kernel) ⟨rfl, rfl, rfl, rfl, rfl, by decide +kernel⟩ ?hw ?hc
  case hw => w_witness2
  case hc =>
    refine L2.walk_ofE (l := PySem.Challenge.rw_sealskept_k40_whole_listened_bases) (n := 63) (k := K40.LV_law + 1) (x := "script") (CX := L2.CX0) rfl (by decide) (by kernel_rfl) ⟨rfl, by decide, by decide⟩ ?F (fun _ _ _ _ z => z)
    intro w mg fa h Y G hmg0
    obtain ⟨K, KX, c⟩ := Y
    have hmg : mg ("law" : PySem.Str) = some (.ref fa) := by
      have e : (HandSHeadRun.topDef (OpenLaw.row PySem.Challenge.rw_sealskept_k40_whole_listened_bases).prog 22).name = ("law" : PySem.Str) := by kernel_rfl
      rw [← e]
      exact hmg0
    obtain ⟨fd, hb, hF⟩ := K40.lawFn (P := PySem.Challenge.rw_sealskept_k40_whole_listened_bases.prog) (w := w) K40.law_true KX G hmg c
    exact ⟨K, fd, Pl.spLaw K, KX, hb, fun H a ns hl _ hS => ⟨a, ns, hl, rfl, hS, fun _ => rfl⟩, hF⟩
