import PyProof.Rows.All
import Wide.All
import OpenK.AllK
import Wide.FinOn
import KE.KStateDown
import Lean
import HandS.Base
import HandS.Call
import HandS.Ends
import HandS.More
import HandS.Words
import HandS.WordsExc
import HandS.Defaults
import HandS.Head0
import HandS.Head1
import HandS.Head2
import HandS.HeadEnd
import HandS.HeadHook1
import HandS.HeadHook2
import HandS.Comp
import HandS.Conv
import HandS.Deep
import HandS.IsInst
import HandS.Iter
import HandS.List
import HandS.Rev
import HandS.SortInts
import HandS.Strs
import HandS.Style
import HandS.Text
import HandS.TryOnly
import HandS.TupAny
import HandS.TupMul
import HandS.Walk
import HandS.Wide
import HandS.WideBits
import HandS.Zip
import HandS.Zip0
import KE.DataCmp
import KE.DataMinMax
import KE.KTupSum
import KE.SortData
import PyProof.Draws
import PyProof.EnumMake
import PySem.Challenge.RW_sealskept_k39_whole_draws_of_ballots
set_option Elab.async false
set_option linter.all false
set_option maxRecDepth 100000
set_option maxHeartbeats 0
/-! Pl, part A: plain data over the abstract heap; the frozen part F of it; environments of plain data. -/
namespace Pl
open PySem PySem.Spec PyProof.Rows L2

abbrev KK := PySem.W.Frag
def keyD : Key → PyData
  | .inl i => .int i
  | .inr x => .str x

mutual
/-- v stands for the plain datum d, by what the frozen part F (and the written part K) says -/
inductive Rp (K : KK) (F : Hp) : V → PyData → Prop
  | non : Rp K F .non .none
  | bl (b : Bool) : Rp K F (.bl b) (.bool b)
  | int (i : Int) : Rp K F (.int i) (.int i)
  | str (x : Str) : Rp K F (.str x) (.str x)
  | lst {a : Addr} {xs : List V} {ds : List PyData} : SqL K F a xs → RpA K F xs ds → Rp K F (.ref a) (.list ds)
  | tup {a : Addr} {xs : List V} {ds : List PyData} : SqT K F a xs → RpA K F xs ds → Rp K F (.ref a) (.tuple ds)
  | dK {a : Addr} {kvs : List (Key × V)} {ds : List (PyData × PyData)} : F a = some (.dK kvs) → RpK K F kvs ds → Rp K F (.ref a) (.dict ds)
  | dT {a : Addr} {kvs : List (List Key × V)} {ds : List (PyData × PyData)} : F a = some (.dT kvs) → RpT K F kvs ds → Rp K F (.ref a) (.dict ds)
inductive RpA (K : KK) (F : Hp) : List V → List PyData → Prop
  | nil : RpA K F [] []
  | cons {v : V} {vs : List V} {d : PyData} {ds : List PyData} : Rp K F v d → RpA K F vs ds → RpA K F (v :: vs) (d :: ds)
inductive RpK (K : KK) (F : Hp) : List (Key × V) → List (PyData × PyData) → Prop
  | nil : RpK K F [] []
  | cons {k : Key} {v : V} {vs : List (Key × V)} {d : PyData} {ds : List (PyData × PyData)} : Rp K F v d → RpK K F vs ds → RpK K F ((k, v) :: vs) ((keyD k, d) :: ds)
inductive RpT (K : KK) (F : Hp) : List (List Key × V) → List (PyData × PyData) → Prop
  | nil : RpT K F [] []
  | cons {k : List Key} {v : V} {vs : List (List Key × V)} {d : PyData} {ds : List (PyData × PyData)} : Rp K F v d → RpT K F vs ds → RpT K F ((k, v) :: vs) ((.tuple (k.map keyD), d) :: ds)
end

theorem same_tup {K : KK} {H H' : Hp} {a : Addr} {xs : List V} (e : Same H H') (h : SqT K H a xs) : SqT K H' a xs := by
  rcases h with (h | ⟨o, h⟩) | h
  · exact .inl (.inl (e _ _ h))
  · exact .inl (.inr ⟨o, e _ _ h⟩)
  · exact .inr h

section
variable {K : KK} {F F' : Hp}
theorem Rp.mono (s : Same F F') {v : V} {d : PyData} (h : Rp K F v d) : Rp K F' v d :=
  Rp.rec (motive_1 := fun v d _ => Rp K F' v d) (motive_2 := fun vs ds _ => RpA K F' vs ds) (motive_3 := fun vs ds _ => RpK K F' vs ds) (motive_4 := fun vs ds _ => RpT K F' vs ds)
    .non .bl .int .str (fun q _ r => .lst (s.seq q) r) (fun q _ r => .tup (same_tup s q) r) (fun q _ r => .dK (s _ _ q) r) (fun q _ r => .dT (s _ _ q) r)
    .nil (fun _ _ r t => .cons r t) .nil (fun _ _ r t => .cons r t) .nil (fun _ _ r t => .cons r t) h
theorem RpA.mono (s : Same F F') : ∀ {vs : List V} {ds : List PyData}, RpA K F vs ds → RpA K F' vs ds
  | _, _, .nil => .nil
  | _, _, .cons r t => .cons (r.mono s) (RpA.mono s t)
theorem RpK.mono (s : Same F F') : ∀ {vs : List (Key × V)} {ds : List (PyData × PyData)}, RpK K F vs ds → RpK K F' vs ds
  | _, _, .nil => .nil
  | _, _, .cons r t => .cons (r.mono s) (RpK.mono s t)
theorem RpT.mono (s : Same F F') : ∀ {vs : List (List Key × V)} {ds : List (PyData × PyData)}, RpT K F vs ds → RpT K F' vs ds
  | _, _, .nil => .nil
  | _, _, .cons r t => .cons (r.mono s) (RpT.mono s t)
theorem RpA.length : ∀ {vs : List V} {ds : List PyData}, RpA K F vs ds → vs.length = ds.length
  | _, _, .nil => rfl
  | _, _, .cons _ t => congrArg (· + 1) (RpA.length t)
theorem RpA.get : ∀ {vs : List V} {ds : List PyData} {i : Nat} {v : V}, RpA K F vs ds → vs[i]? = some v → ∃ d, ds[i]? = some d ∧ Rp K F v d
  | _, _, _, _, .nil, e => by simp at e
  | _, _, 0, _, .cons r _, e => by simp at e; subst e; exact ⟨_, rfl, r⟩
  | _, _, i + 1, v, .cons _ t, e => by
    obtain ⟨d, h1, h2⟩ := RpA.get (i := i) (v := v) t (by simpa using e)
    exact ⟨d, by simpa using h1, h2⟩
theorem RpA.at : ∀ {vs : List V} {ds : List PyData} {i : Nat} {d : PyData}, RpA K F vs ds → ds[i]? = some d → ∃ v, vs[i]? = some v ∧ Rp K F v d
  | _, _, _, _, .nil, e => by simp at e
  | _, _, 0, _, .cons r _, e => by simp at e; subst e; exact ⟨_, rfl, r⟩
  | _, _, i + 1, d, .cons _ t, e => by
    obtain ⟨v, h1, h2⟩ := RpA.at (i := i) (d := d) t (by simpa using e)
    exact ⟨v, by simpa using h1, h2⟩
theorem RpA.append : ∀ {vs ws : List V} {ds es : List PyData}, RpA K F vs ds → RpA K F ws es → RpA K F (vs ++ ws) (ds ++ es)
  | _, _, _, _, .nil, s => s
  | _, _, _, _, .cons r t, s => .cons r (RpA.append t s)
theorem RpA.take : ∀ {vs : List V} {ds : List PyData} (n : Nat), RpA K F vs ds → RpA K F (vs.take n) (ds.take n)
  | _, _, 0, _ => .nil
  | _, _, _ + 1, .nil => .nil
  | _, _, n + 1, .cons r t => .cons r (RpA.take n t)
theorem RpA.drop : ∀ {vs : List V} {ds : List PyData} (n : Nat), RpA K F vs ds → RpA K F (vs.drop n) (ds.drop n)
  | _, _, 0, r => r
  | _, _, _ + 1, .nil => .nil
  | _, _, n + 1, .cons _ t => RpA.drop n t
theorem RpA.set {v : V} {d : PyData} (r : Rp K F v d) : ∀ {vs : List V} {ds : List PyData} (i : Nat), RpA K F vs ds → RpA K F (vs.set i v) (ds.set i d)
  | _, _, _, .nil => .nil
  | _, _, 0, .cons _ t => .cons r t
  | _, _, i + 1, .cons q t => .cons q (RpA.set r i t)
theorem RpA.rev {vs : List V} {ds : List PyData} (h : RpA K F vs ds) : RpA K F vs.reverse ds.reverse := by
  have aux : ∀ {vs : List V} {ds : List PyData}, RpA K F vs ds → RpA K F vs.reverse ds.reverse := by
    intro vs
    induction vs with
    | nil => intro ds h; cases h; exact .nil
    | cons v vs ih =>
      intro ds h
      cases h with
      | cons r t =>
        rw [List.reverse_cons, List.reverse_cons]
        exact RpA.append (ih t) (.cons r .nil)
  exact aux h
theorem RpA.rep {vs : List V} {ds : List PyData} (h : RpA K F vs ds) : ∀ k : Nat, RpA K F (List.replicate k vs).flatten (List.replicate k ds).flatten
  | 0 => .nil
  | k + 1 => by
    rw [List.replicate_succ, List.replicate_succ, List.flatten_cons, List.flatten_cons]
    exact h.append (RpA.rep h k)
theorem RpA.ints : ∀ {vs : List V} {ns : List Int}, RpA K F vs (ns.map .int) → vs = ns.map V.int
  | _, [], .nil => rfl
  | _, n :: ns, .cons r t => by
    cases r
    rw [RpA.ints (ns := ns) t]
    rfl
theorem RpA.ofInts (ns : List Int) : RpA K F (ns.map V.int) (ns.map .int) := by
  induction ns with
  | nil => exact .nil
  | cons n ns ih => exact .cons (.int n) ih
theorem RpA.bools : ∀ {vs : List V} {ns : List Bool}, RpA K F vs (ns.map .bool) → vs = ns.map V.bl
  | _, [], .nil => rfl
  | _, n :: ns, .cons r t => by
    cases r
    rw [RpA.bools (ns := ns) t]
    rfl
theorem RpA.strs : ∀ {vs : List V} {ns : List Str}, RpA K F vs (ns.map .str) → vs = ns.map V.str
  | _, [], .nil => rfl
  | _, n :: ns, .cons r t => by
    cases r
    rw [RpA.strs (ns := ns) t]
    rfl
theorem RpA.ofStrs (ns : List Str) : RpA K F (ns.map V.str) (ns.map .str) := by
  induction ns with
  | nil => exact .nil
  | cons n ns ih => exact .cons (.str n) ih
end

/-! ### data without dicts, without lists -/
mutual
def noDct : PyData → Bool
  | .list xs => noDctA xs
  | .tuple xs => noDctA xs
  | .dict _ => false
  | _ => true
def noDctA : List PyData → Bool
  | [] => true
  | d :: ds => noDct d && noDctA ds
end
mutual
/-- nothing in it can be changed -/
def flat : PyData → Bool
  | .list _ => false
  | .tuple xs => flatA xs
  | .dict _ => false
  | _ => true
def flatA : List PyData → Bool
  | [] => true
  | d :: ds => flat d && flatA ds
end
theorem and_l {a b : Bool} (h : (a && b) = true) : a = true := (Bool.and_eq_true_iff.mp h).1
theorem and_r {a b : Bool} (h : (a && b) = true) : b = true := (Bool.and_eq_true_iff.mp h).2
theorem Rp.dp {K : KK} {F : Hp} {v : V} {d : PyData} (h : Rp K F v d) : noDct d = true → Dp K F v d :=
  Rp.rec (motive_1 := fun v d _ => noDct d = true → Dp K F v d) (motive_2 := fun vs ds _ => noDctA ds = true → DpAll K F vs ds) (motive_3 := fun vs ds _ => True) (motive_4 := fun vs ds _ => True)
    (fun _ => .non) (fun b _ => .bl b) (fun i _ => .int i) (fun x _ => .str x) (fun q _ r e => .lst q (r e)) (fun q _ r e => .tup q (r e)) (fun _ _ _ e => nomatch e) (fun _ _ _ e => nomatch e)
    (fun _ => .nil) (fun _ _ r t e => .cons (r (and_l e)) (t (and_r e))) trivial (fun _ _ _ _ => trivial) trivial (fun _ _ _ _ => trivial) h
/-- data that is flat stands by the tuples alone -/
theorem Rp.narrow {K : KK} {F F' : Hp} (s : ∀ a xs, SqT K F a xs → SqT K F' a xs) {v : V} {d : PyData} (h : Rp K F v d) : flat d = true → Rp K F' v d :=
  Rp.rec (motive_1 := fun v d _ => flat d = true → Rp K F' v d) (motive_2 := fun vs ds _ => flatA ds = true → RpA K F' vs ds) (motive_3 := fun vs ds _ => True) (motive_4 := fun vs ds _ => True)
    (fun _ => .non) (fun b _ => .bl b) (fun i _ => .int i) (fun x _ => .str x) (fun _ _ _ e => nomatch e) (fun q _ r e => .tup (s _ _ q) (r e)) (fun _ _ _ e => nomatch e) (fun _ _ _ e => nomatch e)
    (fun _ => .nil) (fun _ _ r t e => .cons (r (and_l e)) (t (and_r e))) trivial (fun _ _ _ _ => trivial) trivial (fun _ _ _ _ => trivial) h

/-! ### how the heaps grow -/
/-- what no slot owns -/
def stays : HO → Bool
  | .tup _ => true
  | .frz _ _ => true
  | _ => false
structure Ext (F H F' H' : Hp) : Prop where
  hs : Same H H'
  fs : Same F F'
  sub : Same F' H'
  new : ∀ a o, F' a = some o → F a = some o ∨ H a = none ∨ stays o = true
theorem Ext.refl {F H : Hp} (s : Same F H) : Ext F H F H := ⟨Same.refl _, Same.refl _, s, fun _ _ e => .inl e⟩
theorem Ext.trans {F H F1 H1 F2 H2 : Hp} (a : Ext F H F1 H1) (b : Ext F1 H1 F2 H2) : Ext F H F2 H2 :=
  ⟨a.hs.trans b.hs, a.fs.trans b.fs, b.sub, fun p o e => (b.new p o e).elim (a.new p o) fun q => .inr (q.imp a.hs.free id)⟩
theorem same_upd {H : Hp} {p : Addr} {o : HO} (h : H p = none) : Same H (upd H p o) := fun b x e => by
  rw [upd_ne (ne_of_none e h)]
  exact e
theorem none_of_sub {F H : Hp} {p : Addr} (s : Same F H) (h : H p = none) : F p = none := s.free h
/-- an object laid and frozen at once -/
theorem Ext.lay {F H : Hp} {p : Addr} {o : HO} (s : Same F H) (h : H p = none) : Ext F H (upd F p o) (upd H p o) :=
  ⟨same_upd h, same_upd (s.free h), fun b x e => by
    by_cases hb : b = p
    · subst hb; rw [upd_same] at e ⊢; exact e
    · rw [upd_ne hb] at e ⊢; exact s _ _ e, fun b x e => by
    by_cases hb : b = p
    · subst hb; exact .inr (.inl h)
    · rw [upd_ne hb] at e; exact .inl e⟩
/-- an object laid, not frozen -/
theorem Ext.put {F H : Hp} {p : Addr} {o : HO} (s : Same F H) (h : H p = none) : Ext F H F (upd H p o) :=
  ⟨same_upd h, Same.refl _, s.trans (same_upd h), fun _ _ e => .inl e⟩
/-- a new object frozen -/
theorem Ext.freeze {F H F' H' : Hp} {p : Addr} {o : HO} (e : Ext F H F' H') (h : H p = none) (h' : H' p = some o) (hf : F' p = none) : Ext F H (upd F' p o) H' :=
  ⟨e.hs, e.fs.trans (same_upd hf), fun b x q => by
    by_cases hb : b = p
    · subst hb; rw [upd_same] at q; cases q; exact h'
    · rw [upd_ne hb] at q; exact e.sub _ _ q, fun b x q => by
    by_cases hb : b = p
    · subst hb; exact .inr (.inl h)
    · rw [upd_ne hb] at q; exact e.new _ _ q⟩

/-! ### what stands at an owned address -/
inductive OwnAt (K : KK) (F : Hp) : HO → PyData → Prop
  | lst {xs : List V} {ds : List PyData} : RpA K F xs ds → OwnAt K F (.lst xs) (.list ds)
  | dK {kvs : List (Key × V)} {ds : List (PyData × PyData)} : RpK K F kvs ds → OwnAt K F (.dK kvs) (.dict ds)
  | dT {kvs : List (List Key × V)} {ds : List (PyData × PyData)} : RpT K F kvs ds → OwnAt K F (.dT kvs) (.dict ds)
section
variable {K : KK} {F F' H H' : Hp} {o : HO} {d : PyData} {v : V} {a : Addr}
theorem OwnAt.mono (s : Same F F') (h : OwnAt K F o d) : OwnAt K F' o d := by
  cases h with
  | lst r => exact .lst (r.mono s)
  | dK r => exact .dK (r.mono s)
  | dT r => exact .dT (r.mono s)
theorem OwnAt.rp (h : OwnAt K F o d) (s : Same F F') (e : F' a = some o) : Rp K F' (.ref a) d := by
  cases h with
  | lst r => exact .lst (.inl (.inl e)) (r.mono s)
  | dK r => exact .dK e (r.mono s)
  | dT r => exact .dT e (r.mono s)
/-- borrowed: by the frozen part, or an owned object whose parts are by the frozen part -/
def RpB (K : KK) (F H : Hp) (v : V) (d : PyData) : Prop := Rp K F v d ∨ ∃ a o, v = .ref a ∧ H a = some o ∧ OwnAt K F o d
theorem Rp.b (h : Rp K F v d) : RpB K F H v d := .inl h
theorem RpB.ext (h : RpB K F H v d) (e : Ext F H F' H') : RpB K F' H' v d := by
  rcases h with h | ⟨a, o, e1, e2, h⟩
  · exact .inl (h.mono e.fs)
  · exact .inr ⟨a, o, e1, e.hs _ _ e2, h.mono e.fs⟩
theorem RpB.full (h : RpB K F H v d) (s : Same F H) : Rp K H v d := by
  rcases h with h | ⟨a, o, e1, e2, h⟩
  · exact h.mono s
  · subst e1; exact h.rp s e2
theorem RpB.int {i : Int} (h : RpB K F H v (.int i)) : v = .int i := by
  rcases h with h | ⟨a, o, e1, e2, h⟩
  · cases h; rfl
  · cases h
theorem RpB.bool {b : Bool} (h : RpB K F H v (.bool b)) : v = .bl b := by
  rcases h with h | ⟨a, o, e1, e2, h⟩
  · cases h; rfl
  · cases h
theorem RpB.str {x : Str} (h : RpB K F H v (.str x)) : v = .str x := by
  rcases h with h | ⟨a, o, e1, e2, h⟩
  · cases h; rfl
  · cases h
theorem RpB.lst {ds : List PyData} (h : RpB K F H v (.list ds)) (s : Same F H) : ∃ a xs, v = .ref a ∧ SqL K H a xs ∧ RpA K F xs ds := by
  rcases h with h | ⟨a, o, e1, e2, h⟩
  · cases h with
    | lst q r => exact ⟨_, _, rfl, s.seq q, r⟩
  · cases h with
    | lst r => exact ⟨a, _, e1, .inl (.inl e2), r⟩
theorem RpB.tup {ds : List PyData} (h : RpB K F H v (.tuple ds)) (s : Same F H) : ∃ a xs, v = .ref a ∧ SqT K H a xs ∧ RpA K F xs ds := by
  rcases h with h | ⟨a, o, e1, e2, h⟩
  · cases h with
    | tup q r => exact ⟨_, _, rfl, same_tup s q, r⟩
  · cases h
end
mutual
inductive RpBA (K : KK) (F H : Hp) : List V → List PyData → Prop
  | nil : RpBA K F H [] []
  | cons {v : V} {vs : List V} {d : PyData} {ds : List PyData} : RpB K F H v d → RpBA K F H vs ds → RpBA K F H (v :: vs) (d :: ds)
end
theorem RpBA.ext {K : KK} {F F' H H' : Hp} (e : Ext F H F' H') : ∀ {vs : List V} {ds : List PyData}, RpBA K F H vs ds → RpBA K F' H' vs ds
  | _, _, .nil => .nil
  | _, _, .cons r t => .cons (r.ext e) (RpBA.ext e t)
theorem RpBA.full {K : KK} {F H : Hp} (s : Same F H) : ∀ {vs : List V} {ds : List PyData}, RpBA K F H vs ds → RpA K H vs ds
  | _, _, .nil => .nil
  | _, _, .cons r t => .cons (r.full s) (RpBA.full s t)
theorem RpA.ba {K : KK} {F H : Hp} : ∀ {vs : List V} {ds : List PyData}, RpA K F vs ds → RpBA K F H vs ds
  | _, _, .nil => .nil
  | _, _, .cons r t => .cons (.inl r) (RpA.ba t)

/-! ### environments -/
/-- a slot: a shared (frozen) datum, or an object that this slot alone owns -/
inductive SV where
  | sh (d : PyData)
  | ow (d : PyData)
abbrev PEnv := List (Option SV)

structure SRel (K : KK) (F0 H0 : Hp) (ρ : PEnv) (σ : L2.St) (F H : Hp) : Prop where
  ext : Ext F0 H0 F H
  len : σ.length = ρ.length
  sh : ∀ (i : Nat) d, ρ[i]? = some (some (.sh d)) → ∃ v, σ[i]? = some (some v) ∧ Rp K F v d
  ow : ∀ (i : Nat) d, ρ[i]? = some (some (.ow d)) → ∃ a o, σ[i]? = some (some (.ref a)) ∧ H a = some o ∧ OwnAt K F o d ∧ F a = none ∧ H0 a = none
  apart : ∀ (i j : Nat) d d' a, i ≠ j → ρ[i]? = some (some (.ow d)) → ρ[j]? = some (some (.ow d')) → σ[i]? = some (some (.ref a)) → σ[j]? = some (some (.ref a)) → False
section
variable {K : KK} {F0 H0 F H F' H' : Hp} {ρ ρ' : PEnv} {σ : L2.St}
/-- behind an expression -/
theorem SRel.go (S : SRel K F0 H0 ρ σ F H) (e : Ext F H F' H') : SRel K F0 H0 ρ σ F' H' where
  ext := S.ext.trans e
  len := S.len
  sh := fun i d h => let ⟨v, h1, h2⟩ := S.sh i d h; ⟨v, h1, h2.mono e.fs⟩
  ow := fun i d h => by
    obtain ⟨a, o, h1, h2, h3, h4, h5⟩ := S.ow i d h
    refine ⟨a, o, h1, e.hs _ _ h2, h3.mono e.fs, ?_, h5⟩
    cases q : F' a with
    | none => rfl
    | some u =>
      rcases e.new a u q with z | z | z
      · rw [h4] at z; cases z
      · rw [h2] at z; cases z
      · have z2 := (e.hs _ _ h2).symm.trans (e.sub _ _ q)
        cases z2
        cases h3 <;> cases z
  apart := S.apart
/-- a slot set to a shared datum -/
theorem SRel.put (S : SRel K F0 H0 ρ σ F H) {i : Nat} {v : V} {d : PyData} (r : Rp K F v d) : SRel K F0 H0 (ρ.set i (some (.sh d))) (σ.set i (some v)) F H where
  ext := S.ext
  len := by rw [List.length_set, List.length_set, S.len]
  sh := fun j d' h => by
    by_cases hj : i = j
    · subst hj
      by_cases hl : i < ρ.length
      · rw [List.getElem?_set_self hl] at h
        cases h
        exact ⟨v, List.getElem?_set_self (by rw [S.len]; exact hl), r⟩
      · rw [List.getElem?_eq_none (by simpa using hl)] at h; cases h
    · rw [List.getElem?_set_ne hj] at h ⊢
      exact S.sh j d' h
  ow := fun j d' h => by
    by_cases hj : i = j
    · subst hj
      by_cases hl : i < ρ.length
      · rw [List.getElem?_set_self hl] at h; cases h
      · rw [List.getElem?_eq_none (by simpa using hl)] at h; cases h
    · rw [List.getElem?_set_ne hj] at h ⊢
      exact S.ow j d' h
  apart := fun j k d1 d2 a hjk h1 h2 h3 h4 => by
    have nj : i ≠ j := fun e => by
      subst e
      by_cases hl : i < ρ.length
      · rw [List.getElem?_set_self hl] at h1; cases h1
      · rw [List.getElem?_eq_none (by simpa using hl)] at h1; cases h1
    have nk : i ≠ k := fun e => by
      subst e
      by_cases hl : i < ρ.length
      · rw [List.getElem?_set_self hl] at h2; cases h2
      · rw [List.getElem?_eq_none (by simpa using hl)] at h2; cases h2
    rw [List.getElem?_set_ne nj] at h1 h3
    rw [List.getElem?_set_ne nk] at h2 h4
    exact S.apart j k d1 d2 a hjk h1 h2 h3 h4
/-- a slot set to a new object that it owns -/
theorem SRel.own (S : SRel K F0 H0 ρ σ F H) (e : Ext F H F' H') {i : Nat} {a : Addr} {o : HO} {d : PyData} (hn : H a = none) (ha : H' a = some o) (hf : F' a = none) (r : OwnAt K F' o d) :
    SRel K F0 H0 (ρ.set i (some (.ow d))) (σ.set i (some (.ref a))) F' H' := by
  have S' := S.go e
  have old : ∀ (j : Nat) (d' : PyData), ρ[j]? = some (some (.ow d')) → σ[j]? = some (some (.ref a)) → False := fun j d' h1 h2 => by
    obtain ⟨b, u, q1, q2, _⟩ := S.ow j d' h1
    rw [q1] at h2
    cases h2
    rw [hn] at q2; cases q2
  refine ⟨S'.ext, by rw [List.length_set, List.length_set, S.len], fun j d' h => ?_, fun j d' h => ?_, fun j k d1 d2 b hjk h1 h2 h3 h4 => ?_⟩
  · by_cases hj : i = j
    · subst hj
      by_cases hl : i < ρ.length
      · rw [List.getElem?_set_self hl] at h; cases h
      · rw [List.getElem?_eq_none (by simpa using hl)] at h; cases h
    · rw [List.getElem?_set_ne hj] at h ⊢
      exact S'.sh j d' h
  · by_cases hj : i = j
    · subst hj
      by_cases hl : i < ρ.length
      · rw [List.getElem?_set_self hl] at h
        cases h
        exact ⟨a, o, List.getElem?_set_self (by rw [S.len]; exact hl), ha, r, hf, S.ext.hs.free hn⟩
      · rw [List.getElem?_eq_none (by simpa using hl)] at h; cases h
    · rw [List.getElem?_set_ne hj] at h ⊢
      exact S'.ow j d' h
  · have hl : ∀ (k : Nat) d, (ρ.set i (some (.ow d)))[k]? = none ∨ k < ρ.length := fun k d => by
      by_cases z : k < ρ.length
      · exact .inr z
      · exact .inl (List.getElem?_eq_none (by simpa using z))
    by_cases hj : i = j
    · subst hj
      have hk : i ≠ k := hjk
      rw [List.getElem?_set_ne hk] at h2 h4
      have li : i < ρ.length := by
        rcases hl i d with z | z
        · rw [z] at h1; cases h1
        · exact z
      rw [List.getElem?_set_self (by rw [S.len]; exact li)] at h3
      cases h3
      exact old k d2 h2 h4
    · rw [List.getElem?_set_ne hj] at h1 h3
      by_cases hk : i = k
      · subst hk
        have li : i < ρ.length := by
          rcases hl i d with z | z
          · rw [z] at h2; cases h2
          · exact z
        rw [List.getElem?_set_self (by rw [S.len]; exact li)] at h4
        cases h4
        exact old j d1 h1 h3
      · rw [List.getElem?_set_ne hk] at h2 h4
        exact S.apart j k d1 d2 b hjk h1 h2 h3 h4
/-- the object of an owned slot changed -/
theorem SRel.mut (S : SRel K F0 H0 ρ σ F H) {i : Nat} {a : Addr} {o : HO} {d d' : PyData} (h : ρ[i]? = some (some (.ow d))) (hs : σ[i]? = some (some (.ref a))) (r : OwnAt K F o d') :
    SRel K F0 H0 (ρ.set i (some (.ow d'))) σ F (upd H a o) := by
  obtain ⟨b, u, q1, q2, q3, q4, q5⟩ := S.ow i d h
  rw [hs] at q1
  cases q1
  have li : i < ρ.length := (List.getElem?_eq_some_iff.mp h).1
  have ow' : ∀ (j : Nat) (e : PyData), (ρ.set i (some (.ow d')))[j]? = some (some (.ow e)) → ∃ e', ρ[j]? = some (some (.ow e')) := fun j e q => by
    by_cases hj : i = j
    · subst hj; exact ⟨d, h⟩
    · rw [List.getElem?_set_ne hj] at q; exact ⟨e, q⟩
  refine ⟨⟨fun b x e => ?_, S.ext.fs, fun b x e => ?_, S.ext.new⟩, by rw [List.length_set]; exact S.len, fun j e q => ?_, fun j e q => ?_, fun j k d1 d2 b hjk h1 h2 h3 h4 => ?_⟩
  · rw [upd_ne (ne_of_none e q5)]; exact S.ext.hs _ _ e
  · rw [upd_ne (ne_of_none e q4)]; exact S.ext.sub _ _ e
  · by_cases hj : i = j
    · subst hj; rw [List.getElem?_set_self li] at q; cases q
    · rw [List.getElem?_set_ne hj] at q; exact S.sh j e q
  · by_cases hj : i = j
    · subst hj
      rw [List.getElem?_set_self li] at q
      cases q
      exact ⟨a, o, hs, upd_same, r, q4, q5⟩
    · rw [List.getElem?_set_ne hj] at q
      obtain ⟨b, u', p1, p2, p3, p4, p5⟩ := S.ow j e q
      have nb : b ≠ a := fun z => by
        subst z
        exact S.apart i j d e b hj h q hs p1
      exact ⟨b, u', p1, by rw [upd_ne nb]; exact p2, p3, p4, p5⟩
  · obtain ⟨e1, z1⟩ := ow' j d1 h1
    obtain ⟨e2, z2⟩ := ow' k d2 h2
    exact S.apart j k e1 e2 b hjk z1 z2 h3 h4
/-- an environment that claims less: slots forgotten, owned ones frozen -/
inductive Cov : PEnv → PEnv → Prop
  | nil : Cov [] []
  | keep {x : Option SV} {ρ ρ' : PEnv} : Cov ρ ρ' → Cov (x :: ρ) (x :: ρ')
  | drop {x : Option SV} {ρ ρ' : PEnv} : Cov ρ ρ' → Cov (x :: ρ) (none :: ρ')
  | frz {d : PyData} {ρ ρ' : PEnv} : Cov ρ ρ' → Cov (some (.ow d) :: ρ) (some (.sh d) :: ρ')
theorem Cov.refl : ∀ ρ : PEnv, Cov ρ ρ
  | [] => .nil
  | _ :: ρ => .keep (Cov.refl ρ)
theorem Cov.length : ∀ {ρ ρ' : PEnv}, Cov ρ ρ' → ρ.length = ρ'.length
  | _, _, .nil => rfl
  | _, _, .keep c => congrArg (· + 1) (Cov.length c)
  | _, _, .drop c => congrArg (· + 1) (Cov.length c)
  | _, _, .frz c => congrArg (· + 1) (Cov.length c)
theorem Cov.sh : ∀ {ρ ρ' : PEnv} {i : Nat} {d : PyData}, Cov ρ ρ' → ρ'[i]? = some (some (.sh d)) → ρ[i]? = some (some (.sh d)) ∨ ρ[i]? = some (some (.ow d))
  | _, _, 0, _, .keep _, h => .inl (by simpa using h)
  | _, _, 0, _, .drop _, h => by simp at h
  | _, _, 0, _, .frz _, h => by simp at h; subst h; exact .inr rfl
  | _, _, i + 1, d, .keep c, h => by simpa using Cov.sh (i := i) (d := d) c (by simpa using h)
  | _, _, i + 1, d, .drop c, h => by simpa using Cov.sh (i := i) (d := d) c (by simpa using h)
  | _, _, i + 1, d, .frz c, h => by simpa using Cov.sh (i := i) (d := d) c (by simpa using h)
theorem Cov.ow : ∀ {ρ ρ' : PEnv} {i : Nat} {d : PyData}, Cov ρ ρ' → ρ'[i]? = some (some (.ow d)) → ρ[i]? = some (some (.ow d))
  | _, _, 0, _, .keep _, h => by simpa using h
  | _, _, 0, _, .drop _, h => by simp at h
  | _, _, 0, _, .frz _, h => by simp at h
  | _, _, i + 1, d, .keep c, h => by simpa using Cov.ow (i := i) (d := d) c (by simpa using h)
  | _, _, i + 1, d, .drop c, h => by simpa using Cov.ow (i := i) (d := d) c (by simpa using h)
  | _, _, i + 1, d, .frz c, h => by simpa using Cov.ow (i := i) (d := d) c (by simpa using h)
/-- the owned slots that ρ' has as shared ones, frozen -/
noncomputable def frzH (ρ ρ' : PEnv) (σ : L2.St) (F H : Hp) : Hp := fun a =>
  open Classical in if ∃ (i : Nat) (d : PyData), ρ[i]? = some (some (.ow d)) ∧ ρ'[i]? = some (some (.sh d)) ∧ σ[i]? = some (some (.ref a)) then H a else F a
theorem SRel.weak (S : SRel K F0 H0 ρ σ F H) (c : Cov ρ ρ') : ∃ F', Same F F' ∧ SRel K F0 H0 ρ' σ F' H := by
  have hF : ∀ a, frzH ρ ρ' σ F H a = F a ∨ (frzH ρ ρ' σ F H a = H a ∧ F a = none ∧ H0 a = none ∧ (∃ o, H a = some o) ∧ ∃ (i : Nat) (d : PyData), ρ[i]? = some (some (.ow d)) ∧ ρ'[i]? = some (some (.sh d)) ∧ σ[i]? = some (some (.ref a))) := fun a => by
    unfold frzH
    split
    · rename_i h
      obtain ⟨i, d, h1, h2, h3⟩ := h
      obtain ⟨b, u, q1, q2, _, q4, q5⟩ := S.ow i d h1
      rw [h3] at q1
      cases q1
      exact .inr ⟨rfl, q4, q5, ⟨u, q2⟩, i, d, h1, h2, h3⟩
    · exact .inl rfl
  have sF : Same F (frzH ρ ρ' σ F H) := fun a o e => by
    rcases hF a with z | ⟨_, z, _⟩
    · rw [z]; exact e
    · rw [e] at z; cases z
  refine ⟨frzH ρ ρ' σ F H, sF, ⟨⟨S.ext.hs, S.ext.fs.trans sF, fun a o e => ?_, fun a o e => ?_⟩, S.len.trans c.length, fun i d h => ?_, fun i d h => ?_, fun i j d d' a hij h1 h2 h3 h4 => ?_⟩⟩
  · rcases hF a with z | ⟨z, _⟩
    · rw [z] at e; exact S.ext.sub _ _ e
    · rw [z] at e; exact e
  · rcases hF a with z | ⟨_, _, z, _⟩
    · rw [z] at e; exact S.ext.new _ _ e
    · exact .inr (.inl z)
  · rcases c.sh h with q | q
    · obtain ⟨v, h1, h2⟩ := S.sh i d q
      exact ⟨v, h1, h2.mono sF⟩
    · obtain ⟨a, o, h1, h2, h3, h4, h5⟩ := S.ow i d q
      refine ⟨_, h1, h3.rp sF ?_⟩
      unfold frzH
      rw [if_pos ⟨i, d, q, h, h1⟩]
      exact h2
  · have q := c.ow h
    obtain ⟨a, o, h1, h2, h3, h4, h5⟩ := S.ow i d q
    refine ⟨a, o, h1, h2, h3.mono sF, ?_, h5⟩
    rcases hF a with z | ⟨_, _, _, _, j, e, p1, p2, p3⟩
    · rw [z]; exact h4
    · exfalso
      by_cases hij : i = j
      · subst hij
        rw [h] at p2; cases p2
      · exact S.apart i j d e a hij q p1 h1 p3
  · exact S.apart i j d d' a hij (c.ow h1) (c.ow h2) h3 h4
end
end Pl
/-! Pl, part B: contexts; expressions that evaluate to plain data. -/
namespace Pl
open PySem PySem.Spec PyProof.Rows L2

structure Gb where
  P : Program
  w : World
  K : KK
  mg : Str → Option Value
  base : Heap
/-- the names by slot, the scope, the names that may be stored through cells -/
structure SC where
  N : List Str
  sc : Scope
  fs : Str → Bool
structure CxOk (G : Gb) (C : SC) (k : Nat) (X : Cx) : Prop where
  eP : X.prog = G.P
  ew : X.w = G.w
  eK : X.K = G.K
  em : X.mg = G.mg
  eb : X.base = G.base
  eN : X.N = C.N
  es : X.env.scope = C.sc
  calm : X.calm = true
  room : Room k X.A
  nd : C.N.Nodup
  fn : ∀ x, C.fs x = true → X.fn x = true
  xe : X.xe = fun _ _ => False

def tEv (K : KK) (ρ : PEnv) (d : PyData) : TE := fun σ H Q => ∃ F0 H0 F, SRel K F0 H0 ρ σ F H ∧ ∀ v F' H', Ext F H F' H' → Rp K F' v d → Q v H'
def tEvB (K : KK) (ρ : PEnv) (d : PyData) : TE := fun σ H Q => ∃ F0 H0 F, SRel K F0 H0 ρ σ F H ∧ ∀ v F' H', Ext F H F' H' → RpB K F' H' v d → Q v H'
def tEvN (K : KK) (ρ : PEnv) (d : PyData) : TE := fun σ H Q => ∃ F0 H0 F, SRel K F0 H0 ρ σ F H ∧ ∀ a o F' H', Ext F H F' H' → H a = none → H' a = some o → F' a = none → OwnAt K F' o d → Q (.ref a) H'
def tTe (K : KK) (ρ : PEnv) (b : Bool) : TT := fun σ H Q => ∃ F0 H0 F, SRel K F0 H0 ρ σ F H ∧ ∀ F' H', Ext F H F' H' → Q b H'
def tEA (K : KK) (ρ : PEnv) (ds : List PyData) : TA := fun σ H Q => ∃ F0 H0 F, SRel K F0 H0 ρ σ F H ∧ ∀ vs F' H', Ext F H F' H' → RpA K F' vs ds → Q vs H'
def tEAB (K : KK) (ρ : PEnv) (ds : List PyData) : TA := fun σ H Q => ∃ F0 H0 F, SRel K F0 H0 ρ σ F H ∧ ∀ vs F' H', Ext F H F' H' → RpBA K F' H' vs ds → Q vs H'

section
variable (G : Gb) (C : SC) (k : Nat) (ρ : PEnv)
/-- e evaluates to the datum d -/
def Ev (e : Expr) (d : PyData) : Prop := ∀ X, CxOk G C k X → PE X e (tEv G.K ρ d)
def EvB (e : Expr) (d : PyData) : Prop := ∀ X, CxOk G C k X → PE X e (tEvB G.K ρ d)
/-- e evaluates to a new object with the content d -/
def EvN (e : Expr) (d : PyData) : Prop := ∀ X, CxOk G C k X → PE X e (tEvN G.K ρ d)
def Te (e : Expr) (b : Bool) : Prop := ∀ X, CxOk G C k X → PT X e (tTe G.K ρ b)
def Tw (e : Expr) (b : Bool) : Prop := ∀ X, CxOk G C k X → PW X e (tTe G.K ρ b)
def EA (es : List Expr) (ds : List PyData) : Prop := ∀ X, CxOk G C k X → PA X es (tEA G.K ρ ds)
def EAB (es : List Expr) (ds : List PyData) : Prop := ∀ X, CxOk G C k X → PA X es (tEAB G.K ρ ds)
/-- an operator on data -/
def OpOk (f : Value → Value → Sem Value) (d e r : PyData) : Prop := ∀ X, CxOk G C k X → OpR X f fun x y H Q => ∃ F, Same F H ∧ RpB G.K F H x d ∧ RpB G.K F H y e ∧ ∀ v F' H', Ext F H F' H' → Rp G.K F' v r → Q v H'
def OpNew (f : Value → Value → Sem Value) (d e r : PyData) : Prop := ∀ X, CxOk G C k X → OpR X f fun x y H Q => ∃ F, Same F H ∧ RpB G.K F H x d ∧ RpB G.K F H y e ∧ ∀ a o F' H', Ext F H F' H' → H a = none → H' a = some o → F' a = none → OwnAt G.K F' o r → Q (.ref a) H'
def UnOk (f : Value → Sem Value) (d r : PyData) : Prop := ∀ X, CxOk G C k X → UnR X f fun x H Q => ∃ F, Same F H ∧ RpB G.K F H x d ∧ ∀ v F' H', Ext F H F' H' → Rp G.K F' v r → Q v H'
/-- a call of a built-in by values -/
def CallOk (f : Value) (ds : List PyData) (r : PyData) : Prop := ∀ X, CxOk G C k X → CallR X f fun xs H Q => ∃ F, Same F H ∧ RpBA G.K F H xs ds ∧ ∀ v F' H', Ext F H F' H' → Rp G.K F' v r → Q v H'
def CallNew (f : Value) (ds : List PyData) (r : PyData) : Prop := ∀ X, CxOk G C k X → CallR X f fun xs H Q => ∃ F, Same F H ∧ RpBA G.K F H xs ds ∧ ∀ a o F' H', Ext F H F' H' → H a = none → H' a = some o → F' a = none → OwnAt G.K F' o r → Q (.ref a) H'
end

section
variable {X : Cx} {e : Expr}
theorem pe_imp {t t' : TE} (h : PE X e t) (i : ∀ σ H Q, t' σ H Q → t σ H Q) : PE X e t' := ⟨fun pins s σ H Q I q => h.run pins s σ H Q I (i σ H Q q)⟩
theorem pt_imp {t t' : TT} (h : PT X e t) (i : ∀ σ H Q, t' σ H Q → t σ H Q) : PT X e t' := ⟨fun pins s σ H Q I q => h.run pins s σ H Q I (i σ H Q q)⟩
theorem pw_imp {t t' : TT} (h : PW X e t) (i : ∀ σ H Q, t' σ H Q → t σ H Q) : PW X e t' := ⟨fun w pins s σ H Q I q => h.run w pins s σ H Q I (i σ H Q q)⟩
theorem pa_imp {es : List Expr} {t t' : TA} (h : PA X es t) (i : ∀ σ H Q, t' σ H Q → t σ H Q) : PA X es t' := ⟨fun p pins s σ H Q I q => h.run p pins s σ H Q I (i σ H Q q)⟩
theorem op_imp {f : Value → Value → Sem Value} {r r' : R2} (h : OpR X f r) (i : ∀ x y H Q, r' x y H Q → r x y H Q) : OpR X f r' := fun pins s σ H x y v u Q I rx ry q => h pins s σ H x y v u Q I rx ry (i x y H Q q)
theorem un_imp {f : Value → Sem Value} {r r' : V → Hp → VK → Prop} (h : UnR X f r) (i : ∀ x H Q, r' x H Q → r x H Q) : UnR X f r' := fun pins s σ H x v Q I rx q => h pins s σ H x v Q I rx (i x H Q q)
theorem call_imp {f : Value} {r r' : List V → Hp → VK → Prop} (h : CallR X f r) (i : ∀ xs H Q, r' xs H Q → r xs H Q) : CallR X f r' := fun pins s σ H xs us Q I rx q => h pins s σ H xs us Q I rx (i xs H Q q)
end

section
variable {G : Gb} {C : SC} {k : Nat} {ρ : PEnv} {e a b c : Expr} {es : List Expr} {d d' d1 d2 d3 : PyData} {ds : List PyData} {pos : Pos} {t u : Bool}
theorem Ev.toB (h : Ev G C k ρ e d) : EvB G C k ρ e d := fun X hX => pe_imp (h X hX) fun σ H Q ⟨F0, H0, F, S, q⟩ => ⟨F0, H0, F, S, fun v F' H' x r => q v F' H' x (.inl r)⟩
theorem EvN.ev (h : EvN G C k ρ e d) : Ev G C k ρ e d := fun X hX => pe_imp (h X hX) fun σ H Q ⟨F0, H0, F, S, q⟩ => ⟨F0, H0, F, S, fun a o F' H' x hn ha hf r =>
  q _ _ H' (x.freeze hn ha hf) (r.rp (same_upd hf) upd_same)⟩
/-! ### names, constants -/
theorem ev_name (i : Nat) {x : Str} (hi : C.N[i]? = some x) (hv : C.sc.names.lookup x = some .local ∨ C.sc.names.lookup x = some .cell ∨ C.sc.names.lookup x = some .free) (h : ρ[i]? = some (some (.sh d)))
    (hd : (x == ("__debug__" : Str)) = false) (hc : (x == ("__classdict__" : Str)) = false) : Ev G C k ρ (.Name x pos) d := fun X hX => by
  refine pe_imp (pe_var (i := i) (by rw [hX.eN]; exact hi) (by unfold Vis; rw [hX.es]; exact hv) hd hc) fun σ H Q ⟨F0, H0, F, S, q⟩ => ?_
  obtain ⟨v, h1, h2⟩ := S.sh i d h
  exact ⟨v, h1, q v F H (Ext.refl S.ext.sub) h2⟩
theorem evb_own (i : Nat) {x : Str} (hi : C.N[i]? = some x) (hv : C.sc.names.lookup x = some .local ∨ C.sc.names.lookup x = some .cell ∨ C.sc.names.lookup x = some .free) (h : ρ[i]? = some (some (.ow d)))
    (hd : (x == ("__debug__" : Str)) = false) (hc : (x == ("__classdict__" : Str)) = false) : EvB G C k ρ (.Name x pos) d := fun X hX => by
  refine pe_imp (pe_var (i := i) (by rw [hX.eN]; exact hi) (by unfold Vis; rw [hX.es]; exact hv) hd hc) fun σ H Q ⟨F0, H0, F, S, q⟩ => ?_
  obtain ⟨a, o, h1, h2, h3, _⟩ := S.ow i d h
  exact ⟨.ref a, h1, q _ F H (Ext.refl S.ext.sub) (.inr ⟨a, o, rfl, h2, h3⟩)⟩
theorem ev_const {v : V} (hp : ∀ X, PE X e (tC v)) (hr : ∀ K F, Rp K F v d) : Ev G C k ρ e d := fun X _ => pe_imp (hp X) fun σ H Q ⟨F0, H0, F, S, q⟩ => q v F H (Ext.refl S.ext.sub) (hr _ _)
theorem ev_int {i : Int} {j} : Ev G C k ρ (.Constant (.int i) j pos) (.int i) := ev_const (fun _ => pe_int) fun _ _ => .int i
theorem ev_bool {i : Bool} {j} : Ev G C k ρ (.Constant (.bool i) j pos) (.bool i) := ev_const (fun _ => pe_bl) fun _ _ => .bl i
theorem ev_none {j} : Ev G C k ρ (.Constant .none j pos) .none := ev_const (fun _ => pe_non) fun _ _ => .non
theorem ev_str {x : Str} {j} : Ev G C k ρ (.Constant (.str x) j pos) (.str x) := ev_const (fun _ => pe_str) fun _ _ => .str x
/-- a constant of the module -/
theorem ev_glob {x : Str} {v : V} {w : Value} (hg : C.sc.names.lookup x = some .globalImplicit) (hm : G.mg x = some w) (r : RelV v w) (hr : ∀ F, Rp G.K F v d) (hd : (x == ("__debug__" : Str)) = false) : Ev G C k ρ (.Name x pos) d := fun X hX =>
  pe_imp (pe_glob (by unfold Gl Env.kindOf; rw [hX.es]; exact hg) (by rw [hX.em]; exact hm) r hd) fun σ H Q ⟨F0, H0, F, S, q⟩ => q v F H (Ext.refl S.ext.sub) (hr _)
/-! ### operators -/
theorem ev_op {op : Operator} (ho : OpOk G C k (binaryOp op) d1 d2 d) (ha : EvB G C k ρ a d1) (hb : EvB G C k ρ b d2) : Ev G C k ρ (.BinOp a op b pos) d := fun X hX =>
  pe_imp (pe_op (ho X hX) (ha X hX) (hb X hX)) fun σ H Q ⟨F0, H0, F, S, q⟩ => ⟨F0, H0, F, S, fun x F1 H1 e1 r1 => ⟨F0, H0, F1, S.go e1, fun y F2 H2 e2 r2 => ⟨F2, e2.sub, r1.ext e2, r2, fun v F3 H3 e3 r3 => q v F3 H3 ((e1.trans e2).trans e3) r3⟩⟩⟩
theorem evn_op {op : Operator} (ho : OpNew G C k (binaryOp op) d1 d2 d) (ha : EvB G C k ρ a d1) (hb : EvB G C k ρ b d2) : EvN G C k ρ (.BinOp a op b pos) d := fun X hX =>
  pe_imp (pe_op (ho X hX) (ha X hX) (hb X hX)) fun σ H Q ⟨F0, H0, F, S, q⟩ => ⟨F0, H0, F, S, fun x F1 H1 e1 r1 => ⟨F0, H0, F1, S.go e1, fun y F2 H2 e2 r2 => ⟨F2, e2.sub, r1.ext e2, r2, fun p o F3 H3 e3 hn ha hf r3 =>
    q p o F3 H3 ((e1.trans e2).trans e3) ((e1.trans e2).hs.free hn) ha hf r3⟩⟩⟩
theorem ev_un {op : UnaryOp} (ho : UnOk G C k (unaryOp op) d1 d) (ha : EvB G C k ρ a d1) : Ev G C k ρ (.UnaryOp op a pos) d := fun X hX =>
  pe_imp (pe_un (ho X hX) (ha X hX)) fun σ H Q ⟨F0, H0, F, S, q⟩ => ⟨F0, H0, F, S, fun x F1 H1 e1 r1 => ⟨F1, e1.sub, r1, fun v F2 H2 e2 r2 => q v F2 H2 (e1.trans e2) r2⟩⟩
theorem ev_cmp {op : CmpOp} (ho : OpOk G C k (compareOp op) d1 d2 d) (ha : EvB G C k ρ a d1) (hb : EvB G C k ρ b d2) (hm : behindInMarks op b = false) : Ev G C k ρ (.Compare a [op] [b] pos) d := fun X hX =>
  pe_imp (pe_cmpR (ho X hX) (ha X hX) (hb X hX) hm) fun σ H Q ⟨F0, H0, F, S, q⟩ => ⟨F0, H0, F, S, fun x F1 H1 e1 r1 => ⟨F0, H0, F1, S.go e1, fun y F2 H2 e2 r2 => ⟨F2, e2.sub, r1.ext e2, r2, fun v F3 H3 e3 r3 => q v F3 H3 ((e1.trans e2).trans e3) r3⟩⟩⟩
theorem te_cmp {op : CmpOp} (ho : OpOk G C k (compareOp op) d1 d2 (.bool t)) (ha : EvB G C k ρ a d1) (hb : EvB G C k ρ b d2) (hm : behindInMarks op b = false) : Te G C k ρ (.Compare a [op] [b] pos) t := fun X hX =>
  pt_imp (pt_cmpR (ho X hX) (ha X hX) (hb X hX) hm) fun σ H Q ⟨F0, H0, F, S, q⟩ => ⟨F0, H0, F, S, fun x F1 H1 e1 r1 => ⟨F0, H0, F1, S.go e1, fun y F2 H2 e2 r2 => ⟨F2, e2.sub, r1.ext e2, r2, fun v F3 H3 e3 r3 => by
    cases r3
    exact ⟨t, rfl, q F3 H3 ((e1.trans e2).trans e3)⟩⟩⟩⟩
/-- a op b op c: both asked, or the first alone -/
theorem ev_chain {op op' : CmpOp} (ho : OpOk G C k (compareOp op) d1 d2 (.bool true)) (ho' : OpOk G C k (compareOp op') d2 d3 d) (ha : EvB G C k ρ a d1) (hb : EvB G C k ρ b d2) (hc : EvB G C k ρ c d3) (hm : lastMarks [op, op'] [b, c] = false) :
    Ev G C k ρ (.Compare a [op, op'] [b, c] pos) d := fun X hX =>
  pe_imp (pe_chain (ho X hX) (ho' X hX) (ha X hX) (hb X hX) (hc X hX) hm) fun σ H Q ⟨F0, H0, F, S, q⟩ => ⟨F0, H0, F, S, fun x F1 H1 e1 r1 => ⟨F0, H0, F1, S.go e1, fun y F2 H2 e2 r2 => ⟨F2, e2.sub, r1.ext e2, r2, fun v F3 H3 e3 r3 => by
    cases r3
    refine ⟨true, rfl, iteT ⟨F0, H0, F3, ((S.go e1).go e2).go e3, fun z F4 H4 e4 r4 => ⟨F4, e4.sub, (r2.ext e3).ext e4, r4, fun v F5 H5 e5 r5 => q v F5 H5 (((((e1.trans e2).trans e3).trans e4)).trans e5) r5⟩⟩⟩⟩⟩⟩
theorem ev_chainF {op op' : CmpOp} (ho : OpOk G C k (compareOp op) d1 d2 (.bool false)) (ha : EvB G C k ρ a d1) (hb : EvB G C k ρ b d2) (hc : ∀ X, CxOk G C k X → ∃ t, PE X c t) (ho' : ∀ X, CxOk G C k X → ∃ r, OpR X (compareOp op') r) (hm : lastMarks [op, op'] [b, c] = false) :
    Ev G C k ρ (.Compare a [op, op'] [b, c] pos) (.bool false) := fun X hX => by
  obtain ⟨t, hc⟩ := hc X hX
  obtain ⟨r, ho'⟩ := ho' X hX
  exact pe_imp (pe_chain (ho X hX) ho' (ha X hX) (hb X hX) hc hm) fun σ H Q ⟨F0, H0, F, S, q⟩ => ⟨F0, H0, F, S, fun x F1 H1 e1 r1 => ⟨F0, H0, F1, S.go e1, fun y F2 H2 e2 r2 => ⟨F2, e2.sub, r1.ext e2, r2, fun v F3 H3 e3 r3 => by
    cases r3
    exact ⟨false, rfl, iteF (q _ F3 H3 ((e1.trans e2).trans e3) (.bl false))⟩⟩⟩⟩
/-! ### tests -/
/-- a value as a test -/
theorem te_val (h : EvB G C k ρ e (.bool t)) (he : ∀ env whole, isTrue e env whole = (do let v ← whole; standAt e.pos; holding [v] (truthy v))) : Te G C k ρ e t := fun X hX =>
  pt_imp (pt_val (h X hX) (he _)) fun σ H Q ⟨F0, H0, F, S, q⟩ => ⟨F0, H0, F, S, fun x F1 H1 e1 r1 => by
    rw [r1.bool]
    exact ⟨t, rfl, q F1 H1 e1⟩⟩
/-- the truth of a datum -/
def truD : PyData → Option Bool
  | .none => some false
  | .bool b => some b
  | .int i => some (i != 0)
  | .list xs => some (!xs.isEmpty)
  | .tuple xs => some (!xs.isEmpty)
  | _ => none
theorem isEmpty_eq {K : KK} {F : Hp} {vs : List V} {ds : List PyData} (r : RpA K F vs ds) : vs.isEmpty = ds.isEmpty := by cases r <;> rfl
theorem te_truth (h : EvB G C k ρ e d) (ht : truD d = some t) (he : ∀ env whole, isTrue e env whole = (do let v ← whole; standAt e.pos; holding [v] (truthy v))) : Te G C k ρ e t := fun X hX => by
  refine pt_imp (pt_truth (h X hX) (he _)) fun σ H Q ⟨F0, H0, F, S, q⟩ => ⟨F0, H0, F, S, fun x F1 H1 e1 r1 => ⟨t, ?_, q F1 H1 e1⟩⟩
  rw [hX.eK]
  cases d with
  | none =>
    cases ht
    rcases r1 with r | ⟨_, _, _, _, r⟩
    · cases r; rfl
    · cases r
  | bool b =>
    cases ht
    rw [r1.bool]; rfl
  | int i =>
    cases ht
    rw [r1.int]; rfl
  | list ds =>
    cases ht
    obtain ⟨p, xs, rfl, h1, h2⟩ := r1.lst e1.sub
    exact .inl ⟨xs, h1, by rw [isEmpty_eq h2]⟩
  | tuple ds =>
    cases ht
    obtain ⟨p, xs, rfl, h1, h2⟩ := r1.tup e1.sub
    exact .inr (.inl ⟨xs, h1, by rw [isEmpty_eq h2]⟩)
  | _ => cases ht
theorem te_not (h : Te G C k ρ e t) : Te G C k ρ (.UnaryOp .Not e pos) (!t) := fun X hX => pt_imp (pt_not (h X hX)) fun σ H Q ⟨F0, H0, F, S, q⟩ => ⟨F0, H0, F, S, fun F1 H1 e1 => q F1 H1 e1⟩
theorem Tw.te (h : Tw G C k ρ e t) : Te G C k ρ e t := fun X hX => (h X hX).pt
theorem tw_and1 (h : Te G C k ρ e t) : Tw G C k ρ (.BoolOp .And [e] pos) t := fun X hX => pw_and1 (h X hX)
theorem tw_or1 (h : Te G C k ρ e t) : Tw G C k ρ (.BoolOp .Or [e] pos) t := fun X hX => pw_or1 (h X hX)
/-- a test of which nothing is known, not reached -/
def tNo : TT := fun _ _ _ => False
theorem pt_no {X : Cx} : PT X e tNo := ⟨fun _ _ _ _ _ _ h => h.elim⟩
theorem pw_no {X : Cx} : PW X e tNo := ⟨fun _ _ _ _ _ _ _ h => h.elim⟩
def tNoE : TE := fun _ _ _ => False
theorem pe_no {X : Cx} : PE X e tNoE := ⟨fun _ _ _ _ _ _ h => h.elim⟩
theorem tw_andT {rest : List Expr} (ha : Te G C k ρ a true) (hb : Tw G C k ρ (.BoolOp .And (b :: rest) pos) t) : Tw G C k ρ (.BoolOp .And (a :: b :: rest) pos) t := fun X hX =>
  pw_imp (pw_and (ha X hX) (hb X hX)) fun σ H Q ⟨F0, H0, F, S, q⟩ => ⟨F0, H0, F, S, fun F1 H1 e1 => iteT ⟨F0, H0, F1, S.go e1, fun F2 H2 e2 => q F2 H2 (e1.trans e2)⟩⟩
theorem tw_andF {rest : List Expr} (ha : Te G C k ρ a false) : Tw G C k ρ (.BoolOp .And (a :: b :: rest) pos) false := fun X hX =>
  pw_imp (pw_and (ha X hX) pw_no) fun σ H Q ⟨F0, H0, F, S, q⟩ => ⟨F0, H0, F, S, fun F1 H1 e1 => iteF (q F1 H1 e1)⟩
theorem tw_orF {rest : List Expr} (ha : Te G C k ρ a false) (hb : Tw G C k ρ (.BoolOp .Or (b :: rest) pos) t) : Tw G C k ρ (.BoolOp .Or (a :: b :: rest) pos) t := fun X hX =>
  pw_imp (pw_or (ha X hX) (hb X hX)) fun σ H Q ⟨F0, H0, F, S, q⟩ => ⟨F0, H0, F, S, fun F1 H1 e1 => iteF ⟨F0, H0, F1, S.go e1, fun F2 H2 e2 => q F2 H2 (e1.trans e2)⟩⟩
theorem tw_orT {rest : List Expr} (ha : Te G C k ρ a true) : Tw G C k ρ (.BoolOp .Or (a :: b :: rest) pos) true := fun X hX =>
  pw_imp (pw_or (ha X hX) pw_no) fun σ H Q ⟨F0, H0, F, S, q⟩ => ⟨F0, H0, F, S, fun F1 H1 e1 => iteT (q F1 H1 e1)⟩
/-! ### and, or, not as values (bools) -/
theorem ev_one {op} (h : Ev G C k ρ e d) : Ev G C k ρ (.BoolOp op [e] pos) d := fun X hX => pe_one (h X hX)
theorem ev_andT {rest : List Expr} (ha : Ev G C k ρ a (.bool true)) (hb : Ev G C k ρ (.BoolOp .And (b :: rest) pos) d) : Ev G C k ρ (.BoolOp .And (a :: b :: rest) pos) d := fun X hX =>
  pe_imp (pe_and (ha X hX) (hb X hX)) fun σ H Q ⟨F0, H0, F, S, q⟩ => ⟨F0, H0, F, S, fun x F1 H1 e1 r1 => by cases r1; exact ⟨true, rfl, iteT ⟨F0, H0, F1, S.go e1, fun v F2 H2 e2 r2 => q v F2 H2 (e1.trans e2) r2⟩⟩⟩
theorem ev_andF {rest : List Expr} (ha : Ev G C k ρ a (.bool false)) : Ev G C k ρ (.BoolOp .And (a :: b :: rest) pos) (.bool false) := fun X hX =>
  pe_imp (pe_and (ha X hX) pe_no) fun σ H Q ⟨F0, H0, F, S, q⟩ => ⟨F0, H0, F, S, fun x F1 H1 e1 r1 => by cases r1; exact ⟨false, rfl, iteF (q _ F1 H1 e1 (.bl false))⟩⟩
theorem ev_orF {rest : List Expr} (ha : Ev G C k ρ a (.bool false)) (hb : Ev G C k ρ (.BoolOp .Or (b :: rest) pos) d) : Ev G C k ρ (.BoolOp .Or (a :: b :: rest) pos) d := fun X hX =>
  pe_imp (pe_or (ha X hX) (hb X hX)) fun σ H Q ⟨F0, H0, F, S, q⟩ => ⟨F0, H0, F, S, fun x F1 H1 e1 r1 => by cases r1; exact ⟨false, rfl, iteF ⟨F0, H0, F1, S.go e1, fun v F2 H2 e2 r2 => q v F2 H2 (e1.trans e2) r2⟩⟩⟩
theorem ev_orT {rest : List Expr} (ha : Ev G C k ρ a (.bool true)) : Ev G C k ρ (.BoolOp .Or (a :: b :: rest) pos) (.bool true) := fun X hX =>
  pe_imp (pe_or (ha X hX) pe_no) fun σ H Q ⟨F0, H0, F, S, q⟩ => ⟨F0, H0, F, S, fun x F1 H1 e1 r1 => by cases r1; exact ⟨true, rfl, iteT (q _ F1 H1 e1 (.bl true))⟩⟩
theorem ev_notB (ha : Ev G C k ρ a (.bool t)) : Ev G C k ρ (.UnaryOp .Not a pos) (.bool (!t)) := fun X hX =>
  pe_imp (pe_not (ha X hX)) fun σ H Q ⟨F0, H0, F, S, q⟩ => ⟨F0, H0, F, S, fun x F1 H1 e1 r1 => by cases r1; exact ⟨t, rfl, q _ F1 H1 e1 (.bl _)⟩⟩
theorem ev_ifT (hc : Te G C k ρ c true) (ha : Ev G C k ρ a d) : Ev G C k ρ (.IfExp c a b pos) d := fun X hX =>
  pe_imp (pe_ifExp (hc X hX) (ha X hX) pe_no) fun σ H Q ⟨F0, H0, F, S, q⟩ => ⟨F0, H0, F, S, fun F1 H1 e1 => iteT ⟨F0, H0, F1, S.go e1, fun v F2 H2 e2 r2 => q v F2 H2 (e1.trans e2) r2⟩⟩
theorem ev_ifF (hc : Te G C k ρ c false) (hb : Ev G C k ρ b d) : Ev G C k ρ (.IfExp c a b pos) d := fun X hX =>
  pe_imp (pe_ifExp (hc X hX) pe_no (hb X hX)) fun σ H Q ⟨F0, H0, F, S, q⟩ => ⟨F0, H0, F, S, fun F1 H1 e1 => iteF ⟨F0, H0, F1, S.go e1, fun v F2 H2 e2 r2 => q v F2 H2 (e1.trans e2) r2⟩⟩
/-! ### argument lists, displays -/
theorem ea_nil : EA G C k ρ [] [] := fun X hX => pa_imp pa_nil fun σ H Q ⟨F0, H0, F, S, q⟩ => q [] F H (Ext.refl S.ext.sub) .nil
theorem ea_cons (ha : Ev G C k ρ e d) (hr : EA G C k ρ es ds) (hs : ∀ env, starEach (e :: es) env = (false, eval e env) :: starEach es env) : EA G C k ρ (e :: es) (d :: ds) := fun X hX =>
  pa_imp (pa_cons (ha X hX) (hr X hX) (hs _)) fun σ H Q ⟨F0, H0, F, S, q⟩ => ⟨F0, H0, F, S, fun v F1 H1 e1 r1 => ⟨F0, H0, F1, S.go e1, fun vs F2 H2 e2 r2 => q _ F2 H2 (e1.trans e2) (.cons (r1.mono e2.fs) r2)⟩⟩
theorem eab_nil : EAB G C k ρ [] [] := fun X hX => pa_imp pa_nil fun σ H Q ⟨F0, H0, F, S, q⟩ => q [] F H (Ext.refl S.ext.sub) .nil
theorem eab_cons (ha : EvB G C k ρ e d) (hr : EAB G C k ρ es ds) (hs : ∀ env, starEach (e :: es) env = (false, eval e env) :: starEach es env) : EAB G C k ρ (e :: es) (d :: ds) := fun X hX =>
  pa_imp (pa_cons (ha X hX) (hr X hX) (hs _)) fun σ H Q ⟨F0, H0, F, S, q⟩ => ⟨F0, H0, F, S, fun v F1 H1 e1 r1 => ⟨F0, H0, F1, S.go e1, fun vs F2 H2 e2 r2 => q _ F2 H2 (e1.trans e2) (.cons (r1.ext e2) r2)⟩⟩
theorem EA.toB (h : EA G C k ρ es ds) : EAB G C k ρ es ds := fun X hX => pa_imp (h X hX) fun σ H Q ⟨F0, H0, F, S, q⟩ => ⟨F0, H0, F, S, fun vs F1 H1 e1 r1 => q vs F1 H1 e1 r1.ba⟩
theorem ev_tup {m} (h : EA G C k ρ es ds) (hl : ds.length ≤ sizeLine) : Ev G C k ρ (.Tuple es m pos) (.tuple ds) := fun X hX =>
  pe_imp (pe_tup (h X hX)) fun σ H Q ⟨F0, H0, F, S, q⟩ => ⟨F0, H0, F, S, fun vs F1 H1 e1 r1 => ⟨by rw [r1.length]; exact hl, fun p hp => q _ _ _ (e1.trans (Ext.lay e1.sub hp)) (.tup (.inl (.inl upd_same)) (r1.mono (same_upd (e1.sub.free hp))))⟩⟩
theorem evn_lst (h : EA G C k ρ es ds) (hl : ds.length ≤ sizeLine) : EvN G C k ρ (.List es pos) (.list ds) := fun X hX =>
  pe_imp (pe_lst (h X hX)) fun σ H Q ⟨F0, H0, F, S, q⟩ => ⟨F0, H0, F, S, fun vs F1 H1 e1 r1 => ⟨by rw [r1.length]; exact hl, fun p hp => q p _ F1 _ (e1.trans (Ext.put e1.sub hp)) (e1.hs.free hp) upd_same (e1.sub.free hp) (.lst r1)⟩⟩
/-! ### calls of built-ins -/
theorem ev_callB {x : Str} {id : String} {p : Pos} (hc : CallOk G C k (.builtin id) ds d) (hg : C.sc.names.lookup x = some .globalImplicit) (hm : G.mg x = none) (hv : bootBuiltins x = some (.builtin id)) (ha : EAB G C k ρ (e :: es) ds)
    (hn : x ≠ "__name__") (hdb : (x == ("__debug__" : Str)) = false) (he : ∀ env, starEach (e :: es) env = (false, eval e env) :: starEach es env) (hpl : ∀ env, (backTo pos (starEach es env)).any (·.1) = false) :
    Ev G C k ρ (.Call (.Name x p) (e :: es) [] pos) d := fun X hX =>
  pe_imp (pe_callB (hc X hX) (by unfold Gl Env.kindOf; rw [hX.es]; exact hg) (by rw [hX.em]; exact hm) hv (ha X hX) hn hdb (he _) (hpl _)) fun σ H Q ⟨F0, H0, F, S, q⟩ => ⟨F0, H0, F, S, fun vs F1 H1 e1 r1 => ⟨F1, e1.sub, r1, fun v F2 H2 e2 r2 => q v F2 H2 (e1.trans e2) r2⟩⟩
theorem evn_callB {x : Str} {id : String} {p : Pos} (hc : CallNew G C k (.builtin id) ds d) (hg : C.sc.names.lookup x = some .globalImplicit) (hm : G.mg x = none) (hv : bootBuiltins x = some (.builtin id)) (ha : EAB G C k ρ (e :: es) ds)
    (hn : x ≠ "__name__") (hdb : (x == ("__debug__" : Str)) = false) (he : ∀ env, starEach (e :: es) env = (false, eval e env) :: starEach es env) (hpl : ∀ env, (backTo pos (starEach es env)).any (·.1) = false) :
    EvN G C k ρ (.Call (.Name x p) (e :: es) [] pos) d := fun X hX =>
  pe_imp (pe_callB (hc X hX) (by unfold Gl Env.kindOf; rw [hX.es]; exact hg) (by rw [hX.em]; exact hm) hv (ha X hX) hn hdb (he _) (hpl _)) fun σ H Q ⟨F0, H0, F, S, q⟩ => ⟨F0, H0, F, S, fun vs F1 H1 e1 r1 => ⟨F1, e1.sub, r1, fun p o F2 H2 e2 hn ha hf r2 => q p o F2 H2 (e1.trans e2) (e1.hs.free hn) ha hf r2⟩⟩
theorem ev_callT {x : Str} {T : String} {p : Pos} (hc : CallOk G C k (.type T) ds d) (hg : C.sc.names.lookup x = some .globalImplicit) (hm : G.mg x = none) (hv : bootBuiltins x = some (.type T)) (ha : EAB G C k ρ (e :: es) ds)
    (hn : x ≠ "__name__") (hdb : (x == ("__debug__" : Str)) = false) (he : ∀ env, starEach (e :: es) env = (false, eval e env) :: starEach es env) (hpl : ∀ env, (backTo pos (starEach es env)).any (·.1) = false) :
    Ev G C k ρ (.Call (.Name x p) (e :: es) [] pos) d := fun X hX =>
  pe_imp (pe_callTy (hc X hX) (by unfold Gl Env.kindOf; rw [hX.es]; exact hg) (by rw [hX.em]; exact hm) hv (ha X hX) hn hdb (he _) (hpl _)) fun σ H Q ⟨F0, H0, F, S, q⟩ => ⟨F0, H0, F, S, fun vs F1 H1 e1 r1 => ⟨F1, e1.sub, r1, fun v F2 H2 e2 r2 => q v F2 H2 (e1.trans e2) r2⟩⟩
theorem evn_callT {x : Str} {T : String} {p : Pos} (hc : CallNew G C k (.type T) ds d) (hg : C.sc.names.lookup x = some .globalImplicit) (hm : G.mg x = none) (hv : bootBuiltins x = some (.type T)) (ha : EAB G C k ρ (e :: es) ds)
    (hn : x ≠ "__name__") (hdb : (x == ("__debug__" : Str)) = false) (he : ∀ env, starEach (e :: es) env = (false, eval e env) :: starEach es env) (hpl : ∀ env, (backTo pos (starEach es env)).any (·.1) = false) :
    EvN G C k ρ (.Call (.Name x p) (e :: es) [] pos) d := fun X hX =>
  pe_imp (pe_callTy (hc X hX) (by unfold Gl Env.kindOf; rw [hX.es]; exact hg) (by rw [hX.em]; exact hm) hv (ha X hX) hn hdb (he _) (hpl _)) fun σ H Q ⟨F0, H0, F, S, q⟩ => ⟨F0, H0, F, S, fun vs F1 H1 e1 r1 => ⟨F1, e1.sub, r1, fun p o F2 H2 e2 hn ha hf r2 => q p o F2 H2 (e1.trans e2) (e1.hs.free hn) ha hf r2⟩⟩
end
end Pl
/-! Pl, part C: the operators and built-ins on plain data. -/
namespace Pl
open PySem PySem.Spec PyProof.Rows L2

section
variable {G : Gb} {C : SC} {k : Nat}
/-! ### whole numbers -/
theorem ok_int2 {f : Value → Value → Sem Value} {P : Int → Int → Prop} {g : Int → Int → V} {i j : Int} {d : PyData} (h : ∀ X : Cx, OpR X f (rI P g)) (hp : P i j) (hd : ∀ K F, Rp K F (g i j) d) : OpOk G C k f (.int i) (.int j) d := fun X hX =>
  op_imp (h X) fun x y H Q ⟨F, sF, rx, ry, q⟩ => ⟨i, j, rx.int, ry.int, hp, q _ F H (Ext.refl sF) (hd _ _)⟩
theorem ok_int0 {f : Value → Value → Sem Value} {g : Int → Int → V} {i j : Int} {d : PyData} (h : ∀ X : Cx, OpR X f (rI0 g)) (hd : ∀ K F, Rp K F (g i j) d) : OpOk G C k f (.int i) (.int j) d := fun X hX =>
  op_imp (h X) fun x y H Q ⟨F, sF, rx, ry, q⟩ => ⟨i, j, rx.int, ry.int, q _ F H (Ext.refl sF) (hd _ _)⟩
theorem ok_add {i j : Int} : OpOk G C k (binaryOp .Add) (.int i) (.int j) (.int (i + j)) := ok_int0 (fun _ => op_add) fun _ _ => .int _
theorem ok_sub {i j : Int} : OpOk G C k (binaryOp .Sub) (.int i) (.int j) (.int (i - j)) := ok_int0 (fun _ => op_sub) fun _ _ => .int _
/-- a product's size -/
def MulOk (i j : Int) : Prop := CMul i j ∨ CMulW i j
theorem ok_mul {i j : Int} (h : MulOk i j) : OpOk G C k (binaryOp .Mult) (.int i) (.int j) (.int (i * j)) := by
  rcases h with h | h
  · exact ok_int2 (fun _ => op_mul) h fun _ _ => .int _
  · exact ok_int2 (fun _ => op_mulW) h fun _ _ => .int _
def DivOk (i j : Int) : Prop := 0 < j ∧ (j < 1073741824 ∨ j.natAbs.log2 < 9000)
theorem ok_fdiv {i j : Int} (h : DivOk i j) : OpOk G C k (binaryOp .FloorDiv) (.int i) (.int j) (.int (i / j)) := by
  obtain ⟨h0, h | h⟩ := h
  · exact ok_int2 (P := CDiv) (fun _ => op_fdiv) ⟨h0, h⟩ fun _ _ => .int _
  · exact ok_int2 (P := CDivW) (fun _ => op_fdivW) ⟨h0, h⟩ fun _ _ => .int _
theorem ok_fdivN {i j : Int} (h : j ≠ 0 ∧ j.natAbs < 1073741824) : OpOk G C k (binaryOp .FloorDiv) (.int i) (.int j) (.int (i.fdiv j)) := ok_int2 (fun _ => op_fdivN) h fun _ _ => .int _
theorem ok_mod {i j : Int} (h : 0 < j) : OpOk G C k (binaryOp .Mod) (.int i) (.int j) (.int (i % j)) := ok_int2 (fun _ => op_mod) h fun _ _ => .int _
theorem ok_modN {i j : Int} (h : j ≠ 0) : OpOk G C k (binaryOp .Mod) (.int i) (.int j) (.int (i.fmod j)) := ok_int2 (fun _ => op_modN) h fun _ _ => .int _
theorem ok_pow {i j : Int} (h : CPow i j) : OpOk G C k (binaryOp .Pow) (.int i) (.int j) (.int (i ^ j.toNat)) := ok_int2 (fun _ => op_pow) h fun _ _ => .int _
theorem ok_shl {i j : Int} (h : CPow i j) : OpOk G C k (binaryOp .LShift) (.int i) (.int j) (.int (i * 2 ^ j.toNat)) := ok_int2 (fun _ => op_shl) h fun _ _ => .int _
theorem ok_shr {i j : Int} (h : 0 ≤ j) : OpOk G C k (binaryOp .RShift) (.int i) (.int j) (.int (i / 2 ^ j.toNat)) := ok_int2 (fun _ => op_shr) h fun _ _ => .int _
theorem ok_and {i j : Int} : OpOk G C k (binaryOp .BitAnd) (.int i) (.int j) (.int (Builtin.bitAnd i j)) := ok_int0 (fun _ => op_and) fun _ _ => .int _
theorem ok_or {i j : Int} : OpOk G C k (binaryOp .BitOr) (.int i) (.int j) (.int (Builtin.bitOr i j)) := ok_int0 (fun _ => op_or) fun _ _ => .int _
theorem ok_xor {i j : Int} : OpOk G C k (binaryOp .BitXor) (.int i) (.int j) (.int (Builtin.bitXor i j)) := ok_int0 (fun _ => op_xor) fun _ _ => .int _
theorem ok_neg {i : Int} : UnOk G C k (unaryOp .USub) (.int i) (.int (-i)) := fun X hX => un_imp un_neg fun x H Q ⟨F, sF, rx, q⟩ => ⟨i, rx.int, q _ F H (Ext.refl sF) (.int _)⟩
theorem ok_inv {i : Int} : UnOk G C k (unaryOp .Invert) (.int i) (.int (Builtin.bitNot i)) := fun X hX => un_imp un_inv fun x H Q ⟨F, sF, rx, q⟩ => ⟨i, rx.int, q _ F H (Ext.refl sF) (.int _)⟩
/-! in place -/
theorem ok_iadd {i j : Int} : OpOk G C k (inplaceOp .Add) (.int i) (.int j) (.int (i + j)) := ok_int0 (fun _ => iop_add) fun _ _ => .int _
theorem ok_isub {i j : Int} : OpOk G C k (inplaceOp .Sub) (.int i) (.int j) (.int (i - j)) := ok_int0 (fun _ => iop_sub) fun _ _ => .int _
theorem ok_imul {i j : Int} (h : CMul i j) : OpOk G C k (inplaceOp .Mult) (.int i) (.int j) (.int (i * j)) := ok_int2 (fun _ => iop_mul) h fun _ _ => .int _
theorem ok_ifdiv {i j : Int} (h : CDiv i j) : OpOk G C k (inplaceOp .FloorDiv) (.int i) (.int j) (.int (i / j)) := ok_int2 (fun _ => iop_fdiv) h fun _ _ => .int _
theorem ok_imod {i j : Int} (h : 0 < j) : OpOk G C k (inplaceOp .Mod) (.int i) (.int j) (.int (i % j)) := ok_int2 (fun _ => iop_mod) h fun _ _ => .int _
theorem ok_ior {i j : Int} : OpOk G C k (inplaceOp .BitOr) (.int i) (.int j) (.int (Builtin.bitOr i j)) := ok_int0 (fun _ => iop_or) fun _ _ => .int _
theorem ok_ixor {i j : Int} : OpOk G C k (inplaceOp .BitXor) (.int i) (.int j) (.int (Builtin.bitXor i j)) := ok_int0 (fun _ => iop_xor) fun _ _ => .int _
/-! ### comparisons -/
theorem ok_lt {i j : Int} : OpOk G C k (compareOp .Lt) (.int i) (.int j) (.bool (decide (i < j))) := ok_int0 (fun _ => op_lt) fun _ _ => .bl _
theorem ok_le {i j : Int} : OpOk G C k (compareOp .LtE) (.int i) (.int j) (.bool (decide (i ≤ j))) := ok_int0 (fun _ => op_le) fun _ _ => .bl _
theorem ok_gt {i j : Int} : OpOk G C k (compareOp .Gt) (.int i) (.int j) (.bool (decide (j < i))) := ok_int0 (fun _ => op_gt) fun _ _ => .bl _
theorem ok_ge {i j : Int} : OpOk G C k (compareOp .GtE) (.int i) (.int j) (.bool (decide (j ≤ i))) := ok_int0 (fun _ => op_ge) fun _ _ => .bl _
/-- what can be compared by == at any depth -/
def Eqb (d : PyData) : Prop := noDct d = true ∧ SeqAt.shaped d = true
theorem ok_eq {d e : PyData} (hd : Eqb d) (he : Eqb e) : OpOk G C k (compareOp .Eq) d e (.bool (PyData.eqv d e)) := fun X hX => by
  refine op_imp (op_eqD hX.room.units) fun x y H Q ⟨F, sF, rx, ry, q⟩ => ?_
  rw [hX.eK]
  exact ⟨d, e, (rx.full sF).dp hd.1, (ry.full sF).dp he.1, hd.2, he.2, q _ F H (Ext.refl sF) (.bl _)⟩
theorem ok_ne {d e : PyData} (hd : Eqb d) (he : Eqb e) : OpOk G C k (compareOp .NotEq) d e (.bool (!PyData.eqv d e)) := fun X hX => by
  refine op_imp (op_neD hX.room.units) fun x y H Q ⟨F, sF, rx, ry, q⟩ => ?_
  rw [hX.eK]
  exact ⟨d, e, (rx.full sF).dp hd.1, (ry.full sF).dp he.1, hd.2, he.2, q _ F H (Ext.refl sF) (.bl _)⟩
theorem ok_eqI {i j : Int} : OpOk G C k (compareOp .Eq) (.int i) (.int j) (.bool (decide (i = j))) := fun X hX => by
  refine op_imp op_eq fun x y H Q ⟨F, sF, rx, ry, q⟩ => ?_
  rw [rx.int, ry.int]
  refine ⟨rfl, ?_⟩
  rw [dec_int, Bool.beq_eq_decide_eq]
  exact q _ F H (Ext.refl sF) (.bl _)
theorem ok_neI {i j : Int} : OpOk G C k (compareOp .NotEq) (.int i) (.int j) (.bool (decide (i ≠ j))) := fun X hX => by
  refine op_imp op_ne fun x y H Q ⟨F, sF, rx, ry, q⟩ => ?_
  rw [rx.int, ry.int]
  refine ⟨rfl, ?_⟩
  rw [dec_int, Bool.beq_eq_decide_eq, ← decide_not]
  exact q _ F H (Ext.refl sF) (.bl _)
theorem ok_eqS {i j : Str} : OpOk G C k (compareOp .Eq) (.str i) (.str j) (.bool (decide (i = j))) := fun X hX => by
  refine op_imp op_eq fun x y H Q ⟨F, sF, rx, ry, q⟩ => ?_
  rw [rx.str, ry.str]
  refine ⟨rfl, ?_⟩
  rw [dec_str, Bool.beq_eq_decide_eq]
  exact q _ F H (Ext.refl sF) (.bl _)
theorem ok_neS {i j : Str} : OpOk G C k (compareOp .NotEq) (.str i) (.str j) (.bool (decide (i ≠ j))) := fun X hX => by
  refine op_imp op_ne fun x y H Q ⟨F, sF, rx, ry, q⟩ => ?_
  rw [rx.str, ry.str]
  refine ⟨rfl, ?_⟩
  rw [dec_str, Bool.beq_eq_decide_eq, ← decide_not]
  exact q _ F H (Ext.refl sF) (.bl _)
theorem ok_eqB {i j : Bool} : OpOk G C k (compareOp .Eq) (.bool i) (.bool j) (.bool (i == j)) := fun X hX => by
  refine op_imp op_eq fun x y H Q ⟨F, sF, rx, ry, q⟩ => ?_
  rw [rx.bool, ry.bool]
  refine ⟨rfl, ?_⟩
  rw [dec_bl]
  exact q _ F H (Ext.refl sF) (.bl _)
theorem ok_neB {i j : Bool} : OpOk G C k (compareOp .NotEq) (.bool i) (.bool j) (.bool (!(i == j))) := fun X hX => by
  refine op_imp op_ne fun x y H Q ⟨F, sF, rx, ry, q⟩ => ?_
  rw [rx.bool, ry.bool]
  refine ⟨rfl, ?_⟩
  rw [dec_bl]
  exact q _ F H (Ext.refl sF) (.bl _)
theorem RpB.none {K : KK} {F H : Hp} {v : V} (h : RpB K F H v .none) : v = .non := by
  rcases h with h | ⟨a, o, e1, e2, h⟩
  · cases h; rfl
  · cases h
def isNoneD : PyData → Bool
  | .none => true
  | _ => false
theorem RpB.isNone {K : KK} {F H : Hp} {v : V} {d : PyData} (h : RpB K F H v d) : decide (v = .non) = isNoneD d := by
  rcases h with h | ⟨a, o, e1, e2, h⟩
  · cases h <;> rfl
  · subst e1; cases h <;> rfl
theorem ok_is {d : PyData} : OpOk G C k (compareOp .Is) d .none (.bool (isNoneD d)) := fun X hX => op_imp op_isN fun x y H Q ⟨F, sF, rx, ry, q⟩ => ⟨ry.none, by rw [rx.isNone]; exact q _ F H (Ext.refl sF) (.bl _)⟩
theorem ok_isnot {d : PyData} : OpOk G C k (compareOp .IsNot) d .none (.bool (!isNoneD d)) := fun X hX => op_imp op_notN fun x y H Q ⟨F, sF, rx, ry, q⟩ => ⟨ry.none, by rw [rx.isNone]; exact q _ F H (Ext.refl sF) (.bl _)⟩
/-! order of data -/
section
variable {d e : PyData}
theorem room65 {A : Around} (h : Room k A) {d e : PyData} (hd : SeqAt.shaped d = true) : A.units + min d.depth e.depth < cLine := by
  have h1 := h.units
  have h2 : d.depth ≤ 64 := of_decide_eq_true (and_r (show (d.canLay0 && decide (d.depth ≤ 64)) = true from hd))
  omega
theorem ok_cmpD {op : CmpOp} {b : Bool} (hd : Eqb d) (he : Eqb e) (h : ∀ (prog : Program) (w : World) (A : Around) (E : Value → Shared → Prop) (s : Shared) (a c : Value) (as bs : List Addr) (Q : Value → Shared → Prop), Reads s.heap a d as → Reads s.heap c e bs → A.units + min d.depth e.depth < cLine → Q (.bool b) s →
    wpAny (model prog w) A (compareOp op a c) Q E s) : OpOk G C k (compareOp op) d e (.bool b) := fun X hX => by
  intro pins s σ H x y v u Q I rx ry ⟨F, sF, bx, by_, q⟩
  rw [← hX.eK] at bx by_
  obtain ⟨as, r1⟩ := Dp.reads I d x v ((bx.full sF).dp hd.1) rx
  obtain ⟨bs, r2⟩ := Dp.reads I e y u ((by_.full sF).dp he.1) ry
  exact h _ _ _ _ _ _ _ _ _ _ r1 r2 (room65 hX.room hd.2) ⟨.bl b, H, I, rfl, q _ F H (Ext.refl sF) (.bl b)⟩
theorem ok_ltD (hd : Eqb d) (he : Eqb e) (h : PySem.W.alike d e = true) (hn : d ≠ .none) : OpOk G C k (compareOp .Lt) d e (.bool (PySem.W.dataLt d e)) := ok_cmpD hd he fun _ _ _ _ _ _ _ _ _ _ r1 r2 hu q => PySem.W.lt_data r1 r2 h hn hu q
theorem ok_gtD (hd : Eqb d) (he : Eqb e) (h : PySem.W.alike d e = true) (hn : d ≠ .none) : OpOk G C k (compareOp .Gt) d e (.bool (PySem.W.dataLt e d)) := ok_cmpD hd he fun _ _ _ _ _ _ _ _ _ _ r1 r2 hu q => PySem.W.gt_data r1 r2 h hn hu q
theorem ok_leD (hd : Eqb d) (he : Eqb e) (h : PySem.W.alike d e = true) (hn : d ≠ .none) : OpOk G C k (compareOp .LtE) d e (.bool (!PySem.W.dataLt e d)) := ok_cmpD hd he fun _ _ _ _ _ _ _ _ _ _ r1 r2 hu q => PySem.W.le_data r1 r2 h hn hu q
theorem ok_geD (hd : Eqb d) (he : Eqb e) (h : PySem.W.alike d e = true) (hn : d ≠ .none) : OpOk G C k (compareOp .GtE) d e (.bool (!PySem.W.dataLt d e)) := ok_cmpD hd he fun _ _ _ _ _ _ _ _ _ _ r1 r2 hu q => PySem.W.ge_data r1 r2 h hn hu q
end
/-! in, not in -/
theorem depth_le {d : PyData} (hd : SeqAt.shaped d = true) : d.depth ≤ 64 := of_decide_eq_true (and_r (show (d.canLay0 && decide (d.depth ≤ 64)) = true from hd))
theorem ok_inL {d : PyData} {ds : List PyData} (hd : Eqb d) (he : Eqb (.list ds)) : OpOk G C k (compareOp .In) d (.list ds) (.bool (ds.any fun z => PyData.eqv z d)) := fun X hX => by
  intro pins s σ H x y v u Q I rx ry ⟨F, sF, bx, by_, q⟩
  rw [← hX.eK] at bx by_
  obtain ⟨as, r1⟩ := Dp.reads I d x v ((bx.full sF).dp hd.1) rx
  obtain ⟨bs, r2⟩ := Dp.reads I (.list ds) y u ((by_.full sF).dp he.1) ry
  have hu := hX.room.un
  exact SeqAt.in_list_reads r2 r1 (SeqAt.canLay_of_shaped he.2) (SeqAt.canLay_of_shaped hd.2) (room_in_shaped hd.2 (by omega)) ⟨.bl _, H, I, rfl, q _ F H (Ext.refl sF) (.bl _)⟩
theorem ok_notInL {d : PyData} {ds : List PyData} (hd : Eqb d) (he : Eqb (.list ds)) : OpOk G C k (compareOp .NotIn) d (.list ds) (.bool (!ds.any fun z => PyData.eqv z d)) := fun X hX => by
  intro pins s σ H x y v u Q I rx ry ⟨F, sF, bx, by_, q⟩
  rw [← hX.eK] at bx by_
  obtain ⟨as, r1⟩ := Dp.reads I d x v ((bx.full sF).dp hd.1) rx
  obtain ⟨bs, r2⟩ := Dp.reads I (.list ds) y u ((by_.full sF).dp he.1) ry
  have hu := hX.room.un
  exact SeqAt.notIn_list_reads r2 r1 (SeqAt.canLay_of_shaped he.2) (SeqAt.canLay_of_shaped hd.2) (room_in_shaped hd.2 (by omega)) ⟨.bl _, H, I, rfl, q _ F H (Ext.refl sF) (.bl _)⟩
theorem ok_inT {d : PyData} {ds : List PyData} (hd : Eqb d) (he : Eqb (.tuple ds)) : OpOk G C k (compareOp .In) d (.tuple ds) (.bool (ds.any fun z => PyData.eqv z d)) := fun X hX => by
  intro pins s σ H x y v u Q I rx ry ⟨F, sF, bx, by_, q⟩
  rw [← hX.eK] at bx by_
  obtain ⟨as, r1⟩ := Dp.reads I d x v ((bx.full sF).dp hd.1) rx
  obtain ⟨bs, r2⟩ := Dp.reads I (.tuple ds) y u ((by_.full sF).dp he.1) ry
  have hu := hX.room.un
  exact SeqAt.in_tuple_reads r2 r1 (SeqAt.canLay_of_shaped he.2) (SeqAt.canLay_of_shaped hd.2) (room_in_shaped hd.2 (by omega)) ⟨.bl _, H, I, rfl, q _ F H (Ext.refl sF) (.bl _)⟩
theorem ok_notInT {d : PyData} {ds : List PyData} (hd : Eqb d) (he : Eqb (.tuple ds)) : OpOk G C k (compareOp .NotIn) d (.tuple ds) (.bool (!ds.any fun z => PyData.eqv z d)) := fun X hX => by
  intro pins s σ H x y v u Q I rx ry ⟨F, sF, bx, by_, q⟩
  rw [← hX.eK] at bx by_
  obtain ⟨as, r1⟩ := Dp.reads I d x v ((bx.full sF).dp hd.1) rx
  obtain ⟨bs, r2⟩ := Dp.reads I (.tuple ds) y u ((by_.full sF).dp he.1) ry
  have hu := hX.room.un
  exact SeqAt.notIn_tuple_reads r2 r1 (SeqAt.canLay_of_shaped he.2) (SeqAt.canLay_of_shaped hd.2) (room_in_shaped hd.2 (by omega)) ⟨.bl _, H, I, rfl, q _ F H (Ext.refl sF) (.bl _)⟩
end
end Pl
/-! Pl, part D: sequences. -/
namespace Pl
open PySem PySem.Spec PyProof.Rows L2

section
variable {X : Cx}
/-- list + list, however they stand -/
def rCatL (K : KK) : R2 := fun x y H Q => ∃ l b xs zs, x = .ref l ∧ y = .ref b ∧ SqL K H l xs ∧ SqL K H b zs ∧ xs.length + zs.length ≤ sizeLine ∧ ∀ p, H p = none → Q (.ref p) (upd H p (.lst (xs ++ zs)))
theorem op_catL : OpR X (binaryOp .Add) (rCatL X.K) := by
  intro pins s σ H x y v u Q I rx ry h
  obtain ⟨l, b, xs, zs, rfl, rfl, hH, hB, hz, q⟩ := h
  cases rx
  cases ry
  obtain ⟨its, r, ⟨⟨cls, dd, data, sl⟩, n, ho, hc, hd0, hd⟩, z⟩ := I.list hH
  obtain ⟨its2, r2, ⟨⟨cls2, dd2, data2, sl2⟩, n2, ho2, hc2, hd02, hd2⟩, z2⟩ := I.list hB
  simp only at hc hd hc2 hd2
  subst hc hd hc2 hd2
  have h1 := r.length
  have h2 := r2.length
  have e : its.toArray ++ its2.toArray = (its ++ its2).toArray := by simp
  refine concat_meets ⟨_, ho, rfl⟩ ⟨_, ho2, rfl⟩ noFill_list_add seq_list_add PySem.F.slot_list_add PySem.F.entry_list_add (PySem.F.args_list_add_2 _ _) (list_addW l b its.toArray its2.toArray n n2 dd dd2 sl sl2 (by rw [List.size_toArray, List.size_toArray]; omega)) ⟨ho, ho2, ?_⟩
  rw [e]
  exact ⟨.ref _, _, I.lnew (t' := s.toks) (r.append r2) (by rw [List.length_append]; omega), rfl, q _ I.fresh⟩
/-- sum of a tuple of ints -/
theorem cr_sumT (hc : X.calm = true) : CallR X (.builtin "sum") (fun vs H Q => ∃ (a : Addr) (ns : List Int), vs = [V.ref a] ∧ SqT X.K H a (ns.map V.int) ∧ Q (.int ns.sum) H) := by
  intro pins s σ H vs us Q I r h
  obtain ⟨a, ns, rfl, hs, q⟩ := h
  obtain ⟨its, rv, hl, _⟩ := I.tuple hs
  rw [Vals.ref1 r]
  have hi := rv.ints
  obtain ⟨xs, e⟩ := hi.allInts.items
  have hn : numsOf (intItems xs).toList = ns := by rw [← e]; exact hi.numsOf
  rw [nums_intItems] at hn
  obtain ⟨o, ho, hcl, n, hd⟩ := hl
  have ht : s.heap.IsTuple a (intItems xs) := ⟨o, ho, hcl, n, by rw [hd, e]⟩
  refine PySem.W.ktm_sumG (I.ok.hd hc) ht fun h' tk t' hk => ?_
  refine ⟨.int ns.sum, H, I.kept hk, ⟨t', ?_⟩, q⟩
  rw [preSum_eq, List.take_of_length_le (by simp), hn]
end

section
variable {G : Gb} {C : SC} {k : Nat} {ρ : PEnv}
theorem ok_cat {ds es : List PyData} (hl : ds.length + es.length ≤ sizeLine) : OpOk G C k (binaryOp .Add) (.tuple ds) (.tuple es) (.tuple (ds ++ es)) := fun X hX => by
  refine op_imp op_catA fun x y H Q ⟨F, sF, rx, ry, q⟩ => ?_
  rw [hX.eK]
  obtain ⟨a, xs, rfl, h1, r1⟩ := rx.tup sF
  obtain ⟨b, ys, rfl, h2, r2⟩ := ry.tup sF
  have l1 := r1.length
  have l2 := r2.length
  rcases rx with rx | ⟨_, _, _, _, rx⟩
  · rcases ry with ry | ⟨_, _, _, _, ry⟩
    · refine ⟨a, b, xs, ys, rfl, rfl, h1, h2, by omega, fun e => ?_, fun _ e => ?_, fun _ _ p hp => ?_⟩
      · subst e
        cases r1
        exact q _ F H (Ext.refl sF) ry
      · subst e
        cases r2
        rw [List.append_nil] at q
        exact q _ F H (Ext.refl sF) rx
      · exact q _ _ _ (Ext.lay sF hp) (.tup (.inl (.inl upd_same)) ((r1.append r2).mono (same_upd (sF.free hp))))
    · cases ry
  · cases rx
theorem new_cat {ds es : List PyData} (hl : ds.length + es.length ≤ sizeLine) : OpNew G C k (binaryOp .Add) (.list ds) (.list es) (.list (ds ++ es)) := fun X hX => by
  refine op_imp op_catL fun x y H Q ⟨F, sF, rx, ry, q⟩ => ?_
  rw [hX.eK]
  obtain ⟨a, xs, rfl, h1, r1⟩ := rx.lst sF
  obtain ⟨b, ys, rfl, h2, r2⟩ := ry.lst sF
  have l1 := r1.length
  have l2 := r2.length
  exact ⟨a, b, xs, ys, rfl, rfl, h1, h2, by omega, fun p hp => q p _ F _ (Ext.put sF hp) hp upd_same (sF.free hp) (.lst (r1.append r2))⟩
theorem rep_length {α : Type} (n : Nat) (l : List α) : (List.replicate n l).flatten.length = n * l.length := by
  rw [List.length_flatten, List.map_replicate, List.sum_replicate_nat]
/-- [..] * n -/
theorem evn_rep {a b : Expr} {ds : List PyData} {n : Int} {pos : Pos} (ha : EvN G C k ρ a (.list ds)) (hb : EvB G C k ρ b (.int n)) (h1 : -(2 ^ 63) ≤ n) (h2 : n < 2 ^ 63) (hl : ds.length * n.toNat ≤ sizeLine) :
    EvN G C k ρ (.BinOp a .Mult b pos) (.list (List.replicate n.toNat ds).flatten) := fun X hX =>
  pe_imp (pe_op op_rep (ha X hX) (hb X hX)) fun σ H Q ⟨F0, H0, F, S, q⟩ => ⟨F0, H0, F, S, fun p o F1 H1 e1 hn hp hf r1 => ⟨F0, H0, F1, S.go e1, fun y F2 H2 e2 r2 => by
    cases r1 with
    | lst r1 =>
      have l1 := r1.length
      refine ⟨p, n, _, rfl, r2.int, e2.hs _ _ hp, h1, h2, by rw [l1]; exact hl, fun p2 hp2 => ?_⟩
      have e := e1.trans e2
      refine q p2 _ F2 _ (e.trans (Ext.put e2.sub hp2)) (e.hs.free hp2) upd_same (e2.sub.free hp2) (.lst (RpA.rep (r1.mono e2.fs) _))⟩⟩
/-! ### texts -/
theorem ok_catS {x y : Str} (hl : x.length + y.length ≤ sizeLine) : OpOk G C k (binaryOp .Add) (.str x) (.str y) (.str (x ++ y)) := fun X hX =>
  op_imp op_add_str fun _ _ H Q ⟨F, sF, rx, ry, q⟩ => ⟨x, y, rx.str, ry.str, hl, q _ F H (Ext.refl sF) (.str _)⟩
/-! ### subscripts -/
theorem ev_ix {a b : Expr} {ds : List PyData} {i : Int} {d : PyData} {pos : Pos} (ha : EvB G C k ρ a (.list ds)) (hb : EvB G C k ρ b (.int i)) (h : atI ds i = some d) (hs : PlainIx b) : Ev G C k ρ (.Subscript a b pos) d := fun X hX =>
  pe_imp (pe_ix ix_list (ha X hX) (hb X hX) hs) fun σ H Q ⟨F0, H0, F, S, q⟩ => ⟨F0, H0, F, S, fun x F1 H1 e1 r1 => ⟨F0, H0, F1, S.go e1, fun y F2 H2 e2 r2 => by
    obtain ⟨p, xs, rfl, h1, h2⟩ := (r1.ext e2).lst e2.sub
    obtain ⟨j, hj, hjd, hlt, hlo, hhi⟩ := atI_get h
    obtain ⟨v, hv, rv⟩ := h2.at hjd
    refine ⟨p, xs, i, v, rfl, r2.int, by rw [hX.eK]; exact h1, ?_, q v F2 H2 (e1.trans e2) rv⟩
    unfold atI at h ⊢
    rw [h2.length]
    cases e : ixN ds.length i with
    | none => rw [e] at h; cases h
    | some m =>
      obtain ⟨z, _⟩ := ixN_seq e
      rw [hj] at z
      cases z
      exact hv⟩⟩
theorem ev_ixT {a b : Expr} {ds : List PyData} {i : Int} {d : PyData} {pos : Pos} (ha : EvB G C k ρ a (.tuple ds)) (hb : EvB G C k ρ b (.int i)) (h : atI ds i = some d) (hs : PlainIx b) : Ev G C k ρ (.Subscript a b pos) d := fun X hX =>
  pe_imp (pe_ix ix_tup (ha X hX) (hb X hX) hs) fun σ H Q ⟨F0, H0, F, S, q⟩ => ⟨F0, H0, F, S, fun x F1 H1 e1 r1 => ⟨F0, H0, F1, S.go e1, fun y F2 H2 e2 r2 => by
    obtain ⟨p, xs, rfl, h1, h2⟩ := (r1.ext e2).tup e2.sub
    obtain ⟨j, hj, hjd, hlt, hlo, hhi⟩ := atI_get h
    obtain ⟨v, hv, rv⟩ := h2.at hjd
    refine ⟨p, xs, i, v, rfl, r2.int, by rw [hX.eK]; exact h1, ?_, q v F2 H2 (e1.trans e2) rv⟩
    unfold atI at h ⊢
    rw [h2.length]
    cases e : ixN ds.length i with
    | none => rw [e] at h; cases h
    | some m =>
      obtain ⟨z, _⟩ := ixN_seq e
      rw [hj] at z
      cases z
      exact hv⟩⟩
theorem ev_ixS {a b : Expr} {z : Str} {i : Int} {c : Nat} {pos : Pos} (ha : EvB G C k ρ a (.str z)) (hb : EvB G C k ρ b (.int i)) (hz : z.length ≤ sizeLine) (h : atI z.cps.toList i = some c) (hs : PlainIx b) : Ev G C k ρ (.Subscript a b pos) (.str ⟨#[c]⟩) := fun X hX =>
  pe_imp (pe_ix ix_str (ha X hX) (hb X hX) hs) fun σ H Q ⟨F0, H0, F, S, q⟩ => ⟨F0, H0, F, S, fun x F1 H1 e1 r1 => ⟨F0, H0, F1, S.go e1, fun y F2 H2 e2 r2 =>
    ⟨z, i, c, r1.str, r2.int, hz, h, q _ F2 H2 (e1.trans e2) (.str _)⟩⟩⟩
/-! slices -/
/-- a part of a slice: left out, or an int -/
def EP' (G : Gb) (C : SC) (k : Nat) (ρ : PEnv) (e : Option Expr) (o : Option Int) : Prop := ∀ X, CxOk G C k X → PO X e fun σ H Q => ∃ F0 H0 F, SRel G.K F0 H0 ρ σ F H ∧ ∀ F' H', Ext F H F' H' → Q o H'
theorem po_imp {X : Cx} {e : Option Expr} {t t' : TO} (h : PO X e t) (i : ∀ σ H Q, t' σ H Q → t σ H Q) : PO X e t' := ⟨fun pins s σ H Q I q => h.run pins s σ H Q I (i σ H Q q)⟩
theorem ep_none : EP' G C k ρ none none := fun X hX => po_imp po_none fun σ H Q ⟨F0, H0, F, S, q⟩ => q F H (Ext.refl S.ext.sub)
theorem ep_some {e : Expr} {i : Int} (h : EvB G C k ρ e (.int i)) : EP' G C k ρ (some e) (some i) := fun X hX => po_imp (po_some (h X hX)) fun σ H Q ⟨F0, H0, F, S, q⟩ => ⟨F0, H0, F, S, fun x F1 H1 e1 r1 => ⟨i, r1.int, q F1 H1 e1⟩⟩
/-- xs[lo:hi] -/
def cutD {α : Type} (xs : List α) (lo hi : Option Int) : List α := (xs.drop (HT.sIx xs.length 0 lo)).take (HT.sIx xs.length xs.length hi - HT.sIx xs.length 0 lo)
theorem cutD_length {α : Type} (xs : List α) (lo hi : Option Int) : (cutD xs lo hi).length ≤ xs.length := by
  unfold cutD
  rw [List.length_take, List.length_drop]
  omega
theorem RpA.cut {K : KK} {F : Hp} {vs : List V} {ds : List PyData} (r : RpA K F vs ds) (lo hi : Option Int) : RpA K F (cutV vs lo hi) (cutD ds lo hi) := by
  unfold cutV cutD
  rw [r.length]
  exact (r.drop _).take _
theorem evn_slice {e : Expr} {lo hi : Option Expr} {l u : Option Int} {ds : List PyData} {p2 pos : Pos} (he : EvB G C k ρ e (.list ds)) (hl : EP' G C k ρ lo l) (hu : EP' G C k ρ hi u) : EvN G C k ρ (.Subscript e (.Slice lo hi none p2) pos) (.list (cutD ds l u)) := fun X hX =>
  pe_imp (pe_slice sl_list (he X hX) (hl X hX) (hu X hX)) fun σ H Q ⟨F0, H0, F, S, q⟩ => ⟨F0, H0, F, S, fun x F1 H1 e1 r1 => ⟨F0, H0, F1, S.go e1, fun F2 H2 e2 => ⟨F0, H0, F2, (S.go e1).go e2, fun F3 H3 e3 => by
    have e23 := e2.trans e3
    obtain ⟨p, xs, rfl, h1, h2⟩ := (r1.ext e23).lst e3.sub
    have e := e1.trans e23
    exact ⟨p, xs, rfl, by rw [hX.eK]; exact h1, fun p2 hp2 => q p2 _ F3 _ (e.trans (Ext.put e3.sub hp2)) (e.hs.free hp2) upd_same (e3.sub.free hp2) (.lst (h2.cut _ _))⟩⟩⟩⟩
theorem cut_whole {α : Type} {xs : List α} {lo hi : Option Int} (h : HT.sIx xs.length 0 lo = 0 ∧ HT.sIx xs.length xs.length hi = xs.length) : cutD xs lo hi = xs := by
  unfold cutD
  rw [h.1, h.2, List.drop_zero, Nat.sub_zero, List.take_length]
theorem ev_sliceT {e : Expr} {lo hi : Option Expr} {l u : Option Int} {ds : List PyData} {p2 pos : Pos} (he : Ev G C k ρ e (.tuple ds)) (hl : EP' G C k ρ lo l) (hu : EP' G C k ρ hi u) : Ev G C k ρ (.Subscript e (.Slice lo hi none p2) pos) (.tuple (cutD ds l u)) := fun X hX =>
  pe_imp (pe_slice sl_tupA (he X hX) (hl X hX) (hu X hX)) fun σ H Q ⟨F0, H0, F, S, q⟩ => ⟨F0, H0, F, S, fun x F1 H1 e1 r1 => ⟨F0, H0, F1, S.go e1, fun F2 H2 e2 => ⟨F0, H0, F2, (S.go e1).go e2, fun F3 H3 e3 => by
    have e23 := e2.trans e3
    have r3 := r1.mono e23.fs
    obtain ⟨p, xs, rfl, h1, h2⟩ := (Rp.b (H := H3) r3).tup e3.sub
    have e := e1.trans e23
    have hl := h2.length
    refine ⟨p, xs, rfl, by rw [hX.eK]; exact h1, fun hw => ?_, fun hw p2 hp2 => ?_⟩
    · rw [hl] at hw
      rw [cut_whole hw] at q
      exact q _ F3 H3 e r3
    · exact q _ _ _ (e.trans (Ext.lay e3.sub hp2)) (.tup (.inl (.inl upd_same)) ((h2.cut _ _).mono (same_upd (e3.sub.free hp2))))⟩⟩⟩
end
end Pl
/-! Pl, part E: built-in functions on plain data. -/
namespace Pl
open PySem PySem.Spec PyProof.Rows L2

section
variable {G : Gb} {C : SC} {k : Nat} {ρ : PEnv}
theorem ba1 {K : KK} {F H : Hp} {xs : List V} {d : PyData} (h : RpBA K F H xs [d]) : ∃ x, xs = [x] ∧ RpB K F H x d := by
  cases h with
  | cons r t => cases t; exact ⟨_, rfl, r⟩
theorem ba2 {K : KK} {F H : Hp} {xs : List V} {d e : PyData} (h : RpBA K F H xs [d, e]) : ∃ x y, xs = [x, y] ∧ RpB K F H x d ∧ RpB K F H y e := by
  cases h with
  | cons r t => obtain ⟨y, rfl, r2⟩ := ba1 t; exact ⟨_, y, rfl, r, r2⟩
/-- how many items -/
def lenD : PyData → Option Int
  | .list xs => some xs.length
  | .tuple xs => some xs.length
  | .str z => if z.length ≤ sizeLine then some z.length else none
  | _ => none
theorem ok_len {d : PyData} {n : Int} (h : lenD d = some n) : CallOk G C k (.builtin "len") [d] (.int n) := fun X hX => by
  refine call_imp call_len fun xs H Q ⟨F, sF, r, q⟩ => ?_
  rw [hX.eK]
  obtain ⟨x, rfl, rx⟩ := ba1 r
  cases d with
  | list ds =>
    cases h
    obtain ⟨p, ys, rfl, h1, h2⟩ := rx.lst sF
    exact ⟨_, ds.length, rfl, .inl ⟨ys, h1, h2.length.symm⟩, q _ F H (Ext.refl sF) (.int _)⟩
  | tuple ds =>
    cases h
    obtain ⟨p, ys, rfl, h1, h2⟩ := rx.tup sF
    exact ⟨_, ds.length, rfl, .inr ⟨ys, h1, h2.length.symm⟩, q _ F H (Ext.refl sF) (.int _)⟩
  | str z =>
    have h' : (if z.length ≤ sizeLine then some (z.length : Int) else none) = some n := h
    by_cases hz : z.length ≤ sizeLine
    · rw [if_pos hz] at h'
      cases h'
      rw [rx.str]
      exact ⟨_, z.length, rfl, ⟨hz, rfl⟩, q _ F H (Ext.refl sF) (.int _)⟩
    · rw [if_neg hz] at h'
      cases h'
  | _ => cases h
theorem ok_abs {i : Int} : CallOk G C k (.builtin "abs") [.int i] (.int (if i < 0 then -i else i)) := fun X hX => by
  refine call_imp call_abs fun xs H Q ⟨F, sF, r, q⟩ => ?_
  obtain ⟨x, rfl, rx⟩ := ba1 r
  rw [rx.int]
  exact ⟨i, rfl, q _ F H (Ext.refl sF) (.int _)⟩
theorem ok_max2 {i j : Int} : CallOk G C k (.builtin "max") [.int i, .int j] (.int (if j > i then j else i)) := fun X hX => by
  refine call_imp (call_max2 hX.calm) fun xs H Q ⟨F, sF, r, q⟩ => ?_
  obtain ⟨x, y, rfl, rx, ry⟩ := ba2 r
  rw [rx.int, ry.int]
  exact ⟨i, j, rfl, q _ F H (Ext.refl sF) (.int _)⟩
theorem ok_min2 {i j : Int} : CallOk G C k (.builtin "min") [.int i, .int j] (.int (if j < i then j else i)) := fun X hX => by
  refine call_imp (call_min2 hX.calm) fun xs H Q ⟨F, sF, r, q⟩ => ?_
  obtain ⟨x, y, rfl, rx, ry⟩ := ba2 r
  rw [rx.int, ry.int]
  exact ⟨i, j, rfl, q _ F H (Ext.refl sF) (.int _)⟩
theorem ok_intI {i : Int} : CallOk G C k (.type "int") [.int i] (.int i) := fun X hX => by
  refine call_imp call_int1 fun xs H Q ⟨F, sF, r, q⟩ => ?_
  obtain ⟨x, rfl, rx⟩ := ba1 r
  rw [rx.int]
  exact .inl ⟨i, rfl, q _ F H (Ext.refl sF) (.int _)⟩
theorem ok_intB {b : Bool} : CallOk G C k (.type "int") [.bool b] (.int (if b then 1 else 0)) := fun X hX => by
  refine call_imp call_int1 fun xs H Q ⟨F, sF, r, q⟩ => ?_
  obtain ⟨x, rfl, rx⟩ := ba1 r
  rw [rx.bool]
  exact .inr ⟨b, rfl, q _ F H (Ext.refl sF) (.int _)⟩
theorem ok_strI {i : Int} (h : i.natAbs.log2 < 1920) : CallOk G C k (.type "str") [.int i] (.str (toString i)) := fun X hX => by
  refine call_imp call_str_int fun xs H Q ⟨F, sF, r, q⟩ => ?_
  obtain ⟨x, rfl, rx⟩ := ba1 r
  rw [rx.int]
  exact ⟨i, rfl, h, q _ F H (Ext.refl sF) (.str _)⟩
theorem ok_sumL {ns : List Int} : CallOk G C k (.builtin "sum") [.list (ns.map .int)] (.int ns.sum) := fun X hX => by
  refine call_imp (cr_sum hX.calm) fun xs H Q ⟨F, sF, r, q⟩ => ?_
  rw [hX.eK]
  obtain ⟨x, rfl, rx⟩ := ba1 r
  obtain ⟨p, ys, rfl, h1, h2⟩ := rx.lst sF
  rw [h2.ints] at h1
  exact ⟨p, ns, rfl, h1, q _ F H (Ext.refl sF) (.int _)⟩
theorem ok_sumT {ns : List Int} : CallOk G C k (.builtin "sum") [.tuple (ns.map .int)] (.int ns.sum) := fun X hX => by
  refine call_imp (cr_sumT hX.calm) fun xs H Q ⟨F, sF, r, q⟩ => ?_
  rw [hX.eK]
  obtain ⟨x, rfl, rx⟩ := ba1 r
  obtain ⟨p, ys, rfl, h1, h2⟩ := rx.tup sF
  rw [h2.ints] at h1
  exact ⟨p, ns, rfl, h1, q _ F H (Ext.refl sF) (.int _)⟩
theorem ok_any {bs : List Bool} : CallOk G C k (.builtin "any") [.list (bs.map .bool)] (.bool (bs.any id)) := fun X hX => by
  refine call_imp (cr_any hX.calm) fun xs H Q ⟨F, sF, r, q⟩ => ?_
  unfold rAny
  rw [hX.eK]
  obtain ⟨x, rfl, rx⟩ := ba1 r
  obtain ⟨p, ys, rfl, h1, h2⟩ := rx.lst sF
  rw [h2.bools] at h1
  exact ⟨p, bs, rfl, h1, q _ F H (Ext.refl sF) (.bl _)⟩
theorem ok_all {bs : List Bool} : CallOk G C k (.builtin "all") [.list (bs.map .bool)] (.bool (bs.all id)) := fun X hX => by
  refine call_imp (cr_all hX.calm) fun xs H Q ⟨F, sF, r, q⟩ => ?_
  unfold rAll
  rw [hX.eK]
  obtain ⟨x, rfl, rx⟩ := ba1 r
  obtain ⟨p, ys, rfl, h1, h2⟩ := rx.lst sF
  rw [h2.bools] at h1
  exact ⟨p, bs, rfl, h1, q _ F H (Ext.refl sF) (.bl _)⟩
theorem ok_tupleL {ds : List PyData} : CallOk G C k (.type "tuple") [.list ds] (.tuple ds) := fun X hX => by
  refine call_imp call_tuple_of fun xs H Q ⟨F, sF, r, q⟩ => ?_
  rw [hX.eK]
  obtain ⟨x, rfl, rx⟩ := ba1 r
  obtain ⟨p, ys, rfl, h1, h2⟩ := rx.lst sF
  exact ⟨p, ys, rfl, .inl ⟨h1, fun l hl => q _ _ _ (Ext.lay sF hl) (.tup (.inl (.inl upd_same)) (h2.mono (same_upd (sF.free hl))))⟩⟩
theorem ok_tupleT {ds : List PyData} : CallOk G C k (.type "tuple") [.tuple ds] (.tuple ds) := fun X hX => by
  refine call_imp call_tuple_of fun xs H Q ⟨F, sF, r, q⟩ => ?_
  rw [hX.eK]
  obtain ⟨x, rfl, rx⟩ := ba1 r
  obtain ⟨p, ys, rfl, h1, h2⟩ := rx.tup sF
  rcases rx with rx | ⟨_, _, _, _, rx⟩
  · exact ⟨p, ys, rfl, .inr ⟨h1, q _ F H (Ext.refl sF) rx⟩⟩
  · cases rx
theorem new_listL {ds : List PyData} : CallNew G C k (.type "list") [.list ds] (.list ds) := fun X hX => by
  refine call_imp call_list_of fun xs H Q ⟨F, sF, r, q⟩ => ?_
  rw [hX.eK]
  obtain ⟨x, rfl, rx⟩ := ba1 r
  obtain ⟨p, ys, rfl, h1, h2⟩ := rx.lst sF
  exact ⟨p, ys, rfl, .inl h1, fun l hl => q l _ F _ (Ext.put sF hl) hl upd_same (sF.free hl) (.lst h2)⟩
theorem new_listT {ds : List PyData} : CallNew G C k (.type "list") [.tuple ds] (.list ds) := fun X hX => by
  refine call_imp call_list_of fun xs H Q ⟨F, sF, r, q⟩ => ?_
  rw [hX.eK]
  obtain ⟨x, rfl, rx⟩ := ba1 r
  obtain ⟨p, ys, rfl, h1, h2⟩ := rx.tup sF
  exact ⟨p, ys, rfl, .inr h1, fun l hl => q l _ F _ (Ext.put sF hl) hl upd_same (sF.free hl) (.lst h2)⟩
/-! sorted -/
theorem vals_snd {R : Value → V × PyData → Prop} (hR : ∀ v p, R v p → RelV p.1 v) : ∀ {us : List Value} {ps : List (V × PyData)}, PySem.W.EachIs R us ps → Vals (ps.map (·.1)) us
  | _, _, .nil => .nil
  | _, _, .cons r t => .cons (hR _ _ r) (vals_snd hR t)
theorem each_zip {K : KK} {F : Hp} : ∀ {xs : List V} {ds : List PyData} {us : List Value}, RpA K F xs ds → Vals xs us → PySem.W.EachIs (fun v (p : V × PyData) => RelV p.1 v ∧ Rp K F p.1 p.2) us (xs.zip ds)
  | _, _, _, .nil, .nil => .nil
  | _, _, _, .cons r t, .cons q u => .cons ⟨q, r⟩ (each_zip t u)
theorem each_all {R : Value → V × PyData → Prop} {P : V × PyData → Prop} (h : ∀ v p, R v p → P p) : ∀ {us : List Value} {ps : List (V × PyData)}, PySem.W.EachIs R us ps → ∀ p ∈ ps, P p
  | _, _, .nil, _, m => nomatch m
  | _, _, .cons r t, p, m => by
    rcases List.mem_cons.mp m with e | m
    · subst e; exact h _ _ r
    · exact each_all h t p m
theorem rpa_of {K : KK} {F : Hp} : ∀ (ps : List (V × PyData)), (∀ p ∈ ps, Rp K F p.1 p.2) → RpA K F (ps.map (·.1)) (ps.map (·.2))
  | [], _ => .nil
  | p :: ps, h => .cons (h p List.mem_cons_self) (rpa_of ps fun q m => h q (List.mem_cons_of_mem _ m))
theorem zip_snd {α β : Type} : ∀ {xs : List α} {ys : List β}, xs.length = ys.length → (xs.zip ys).map (·.2) = ys
  | [], [], _ => rfl
  | x :: xs, y :: ys, h => by
    show y :: (xs.zip ys).map (·.2) = _
    rw [zip_snd (by simpa using h)]
  | [], _ :: _, h => by simp at h
  | _ :: _, [], h => by simp at h
theorem noDct_mem : ∀ {ds : List PyData}, noDctA ds = true → ∀ d ∈ ds, noDct d = true
  | [], _, _, m => nomatch m
  | d :: ds, h, e, m => by
    rcases List.mem_cons.mp m with z | m
    · subst z; exact and_l h
    · exact noDct_mem (and_r h) e m
/-- what can be sorted -/
structure Sortb (ds : List PyData) : Prop where
  nd : noDctA ds = true
  al : PySem.W.AllAlike ds
  sb : PySem.W.Sortable ds
  dp : ∀ d ∈ ds, d.depth ≤ 64
/-- sorted(ds) -/
def sortD (ds : List PyData) : List PyData := ds.mergeSort (fun a b => !PySem.W.dataLt b a)
theorem map_merge (ps : List (V × PyData)) : (ps.mergeSort (PySem.W.dataLe false (·.2))).map (·.2) = sortD (ps.map (·.2)) := by
  unfold sortD
  rw [List.map_mergeSort]
  intro a ha b hb
  rw [PySem.W.dataLe_eq]
  rfl
theorem sorted_run {X : Cx} (hX : CxOk G C k X) {ds : List PyData} (hs : Sortb ds) {pins : List (Addr × Obj)} {σ : L2.St} {H F : Hp} {s : Shared} {a : Addr} {xs : List V} {its : List Value} {Q : VK} (I : Inv X pins σ H s) (sF : Same F H) (h2 : RpA G.K F xs ds) (rv : Vals xs its) (hz : xs.length ≤ sizeLine) (hl : s.heap.IsList a its.toArray)
    (q : ∀ (a : Addr) (o : HO) (F' H' : Hp), Ext F H F' H' → H a = none → H' a = some o → F' a = none → OwnAt G.K F' o (.list (sortD ds)) → Q (.ref a) H') :
    wpAny (model X.prog X.w) X.A (call (.builtin "sorted") [.ref a]) (EP X pins σ Q) X.xe s := by
  have e := each_zip h2 rv
  have hlen := h2.length
  have hsnd : (xs.zip ds).map (·.2) = ds := zip_snd hlen
  have hzl : (xs.zip ds).length = xs.length := by rw [List.length_zip]; omega
  have nd : ∀ p ∈ xs.zip ds, noDct p.2 = true := fun p hp => noDct_mem hs.nd _ (by rw [← hsnd]; exact List.mem_map_of_mem hp)
  have er : PySem.W.EachIs (fun v (p : V × PyData) => ∃ as, Reads s.heap v p.2 as) its (xs.zip ds) := by
    have aux : ∀ {us : List Value} {ps : List (V × PyData)}, (∀ p ∈ ps, noDct p.2 = true) → PySem.W.EachIs (fun v (p : V × PyData) => RelV p.1 v ∧ Rp G.K F p.1 p.2) us ps → PySem.W.EachIs (fun v (p : V × PyData) => ∃ as, Reads s.heap v p.2 as) us ps := by
      intro us ps hn h
      induction h with
      | nil => exact .nil
      | cons r t ih =>
        refine .cons ?_ (ih fun p hp => hn p (List.mem_cons_of_mem _ hp))
        have r2 := r.2.mono sF
        rw [← hX.eK] at r2
        exact Dp.reads I _ _ _ (r2.dp (hn _ List.mem_cons_self)) r.1
    exact aux nd e
  have hr := hX.room.units
  refine PySem.W.sorted_data (bs := xs.zip ds) (enc := (·.2)) hl e er (by rw [hsnd]; exact hs.al) (by rw [hsnd]; exact hs.sb) (by rw [hzl]; exact hz) (fun p hp => ?_) fun out ho ho2 => ?_
  · have hd := hs.dp p.2 (by rw [← hsnd]; exact List.mem_map_of_mem hp)
    have := hX.room.un
    omega
  · obtain ⟨ep, he'⟩ := PyProof.Rows.sortedAll_at s.heap its out.toArray
    have hn : H (s.heap.objs.size + 1) = none := I.hok.fresh (Nat.le_succ _)
    generalize hps : (xs.zip ds).mergeSort (PySem.W.dataLe false (·.2)) = ps at ho2
    have hv : Vals (ps.map (·.1)) out := vals_snd (fun v p r => r.1) ho2
    have hr2 : RpA G.K F (ps.map (·.1)) (ps.map (·.2)) := rpa_of _ (each_all (fun v p r => r.2) ho2)
    have hps2 : ps.map (·.2) = sortD ds := by rw [← hps, map_merge, hsnd]
    rw [hps2] at hr2
    have hll : (ps.map (·.1)).length ≤ sizeLine := by rw [hv.length, ho, hzl]; exact hz
    exact ⟨.ref _, upd H (s.heap.objs.size + 1) (.lst (ps.map (·.1))), I.laid (t' := s.toks) (fun _ _ => PyProof.Rows.sortedAll_old) (Nat.le_succ _) ⟨hll, out, ep, hv, by simpa using he'⟩, rfl,
      q _ _ F _ (Ext.put sF hn) hn upd_same (sF.free hn) (.lst hr2)⟩
theorem new_sorted {ds : List PyData} (hs : Sortb ds) : CallNew G C k (.builtin "sorted") [.list ds] (.list (sortD ds)) := fun X hX => by
  intro pins s σ H xs us Q I r ⟨F, sF, rb, q⟩
  obtain ⟨x, rfl, rx⟩ := ba1 rb
  obtain ⟨p, ys, rfl, h1, h2⟩ := rx.lst sF
  rw [← hX.eK] at h1
  obtain ⟨its, rv, hl, hz⟩ := I.list h1
  rw [Vals.ref1 r]
  exact sorted_run hX hs I sF h2 rv hz hl.isList q
end
end Pl
/-! Pl, part F: targets, what is walked, comprehensions. -/
namespace Pl
open PySem PySem.Spec PyProof.Rows L2

/-- every list and tuple is of a bounded length -/
def Bd (K : KK) (H : Hp) : Prop := ∀ a xs, SqL K H a xs ∨ SqT K H a xs → xs.length ≤ sizeLine
theorem Inv.bd {X : Cx} {pins : List (Addr × Obj)} {σ : L2.St} {H : Hp} {s : Shared} (I : L2.Inv X pins σ H s) : Bd X.K H := fun a xs h => by
  rcases h with h | h
  · obtain ⟨_, _, _, z⟩ := I.list h; exact z
  · obtain ⟨_, _, _, z⟩ := I.tuple h; exact z
section
variable {X : Cx} {e : Expr}
theorem pe_bd {t : TE} (h : PE X e t) : PE X e (fun σ H Q => t σ H fun v H' => Bd X.K H' → Q v H') := ⟨fun pins s σ H Q I q => thn (h.run pins s σ H _ I q) fun u s' ⟨v, H', I', r, q'⟩ => ⟨v, H', I', r, q' (Inv.bd I')⟩⟩
theorem pe_un {ι : Type} {P : ι → Prop} {t : ι → TE} (h : ∀ i, P i → PE X e (t i)) : PE X e (fun σ H Q => ∃ i, P i ∧ t i σ H Q) := ⟨fun pins s σ H Q I ⟨i, p, q⟩ => (h i p).run pins s σ H Q I q⟩
theorem pg_un {ι : Type} {P : ι → Prop} {t : ι → TG} (h : ∀ i, P i → PG X e (t i)) : PG X e (fun v σ H Q => ∃ i, P i ∧ t i v σ H Q) := ⟨fun pins s σ H v u Q I r ⟨i, p, q⟩ => (h i p).run pins s σ H v u Q I r q⟩
theorem pts_un {ι : Type} {es : List Expr} {P : ι → Prop} {t : ι → TT} (h : ∀ i, P i → PTs X es (t i)) : PTs X es (fun σ H Q => ∃ i, P i ∧ t i σ H Q) := ⟨fun pins s σ H Q I ⟨i, p, q⟩ => (h i p).run pins s σ H Q I q⟩
theorem pg_imp {t t' : TG} (h : PG X e t) (i : ∀ v σ H Q, t' v σ H Q → t v σ H Q) : PG X e t' := ⟨fun pins s σ H v u Q I r q => h.run pins s σ H v u Q I r (i v σ H Q q)⟩
theorem pgs_imp {es : List Expr} {t t' : TGs} (h : PGs X es t) (i : ∀ v σ H Q, t' v σ H Q → t v σ H Q) : PGs X es t' := ⟨fun pins s σ H v u Q I r q => h.run pins s σ H v u Q I r (i v σ H Q q)⟩
theorem pts_imp {es : List Expr} {t t' : TT} (h : PTs X es t) (i : ∀ σ H Q, t' σ H Q → t σ H Q) : PTs X es t' := ⟨fun pins s σ H Q I q => h.run pins s σ H Q I (i σ H Q q)⟩
theorem pi_imp {tg : Expr} {t t' : TI} (h : PI X tg e t) (i : ∀ σ H Q, t' σ H Q → t σ H Q) : PI X tg e t' := ⟨fun pins s σ H Q I q => h.run pins s σ H Q I (i σ H Q q)⟩
theorem pi_un {tg : Expr} {ι : Type} {P : ι → Prop} {t : ι → TI} (h : ∀ i, P i → PI X tg e (t i)) : PI X tg e (fun σ H Q => ∃ i, P i ∧ t i σ H Q) := ⟨fun pins s σ H Q I ⟨i, p, q⟩ => (h i p).run pins s σ H Q I q⟩
end

/-! ### targets -/
/-- slots that may have changed -/
def Off (is : List Nat) (σ σ' : L2.St) : Prop := σ'.length = σ.length ∧ ∀ j, j ∉ is → σ'[j]? = σ[j]?
def tTg (K : KK) (ρ : PEnv) (is : List Nat) (d : PyData) (ρ' : PEnv) : TG := fun v σ H Q => ∃ F0 H0 F, SRel K F0 H0 ρ σ F H ∧ Rp K F v d ∧ ∀ σ', Off is σ σ' → SRel K F0 H0 ρ' σ' F H → Q σ' H
def tTgs (K : KK) (ρ : PEnv) (is : List Nat) (ds : List PyData) (ρ' : PEnv) : TGs := fun vs σ H Q => ∃ F0 H0 F, SRel K F0 H0 ρ σ F H ∧ RpA K F vs ds ∧ ∀ σ', Off is σ σ' → SRel K F0 H0 ρ' σ' F H → Q σ' H
def Tg (G : Gb) (C : SC) (k : Nat) (ρ : PEnv) (tg : Expr) (is : List Nat) (d : PyData) (ρ' : PEnv) : Prop := ∀ X, CxOk G C k X → PG X tg (tTg G.K ρ is d ρ')
def Tgs (G : Gb) (C : SC) (k : Nat) (ρ : PEnv) (tgs : List Expr) (is : List Nat) (ds : List PyData) (ρ' : PEnv) : Prop := ∀ X, CxOk G C k X → PGs X tgs (tTgs G.K ρ is ds ρ')
def wipeE (ρ : PEnv) : List Nat → PEnv
  | [] => ρ
  | v :: vs => (wipeE ρ vs).set v none
theorem Cov.wipe (ρ : PEnv) : ∀ vs : List Nat, ∀ i : Nat, ∀ x, (wipeE ρ vs)[i]? = some (some x) → ρ[i]? = some (some x) ∧ i ∉ vs
  | [], i, x, h => ⟨h, by simp⟩
  | v :: vs, i, x, h => by
    unfold wipeE at h
    by_cases hi : v = i
    · subst hi
      by_cases hv : v < (wipeE ρ vs).length
      · rw [List.getElem?_set_self hv] at h; cases h
      · rw [List.getElem?_eq_none (by simpa using hv)] at h; cases h
    · rw [List.getElem?_set_ne hi] at h
      obtain ⟨h1, h2⟩ := Cov.wipe ρ vs i x h
      exact ⟨h1, by simp only [List.mem_cons, not_or]; exact ⟨fun e => hi e.symm, h2⟩⟩
theorem wipeE_length (ρ : PEnv) : ∀ vs : List Nat, (wipeE ρ vs).length = ρ.length
  | [] => rfl
  | v :: vs => by unfold wipeE; rw [List.length_set, wipeE_length ρ vs]
theorem wipe_at {σ : L2.St} : ∀ {vs : List Nat} {i : Nat}, i ∉ vs → (wipe σ vs)[i]? = σ[i]?
  | [], _, _ => rfl
  | v :: vs, i, h => by
    simp only [List.mem_cons, not_or] at h
    unfold wipe
    rw [List.getElem?_set_ne (fun e => h.1 e.symm)]
    exact wipe_at h.2
theorem wipe_in {σ : L2.St} : ∀ {vs : List Nat} {i : Nat}, i ∈ vs → i < σ.length → (wipe σ vs)[i]? = some none
  | v :: vs, i, h, hl => by
    unfold wipe
    by_cases hv : v = i
    · subst hv
      rw [List.getElem?_set_self (by rw [wipe_length]; exact hl)]
    · rw [List.getElem?_set_ne hv]
      exact wipe_in (List.mem_of_ne_of_mem (fun e => hv e.symm) h) hl
theorem wipe_eq {σ σ' : L2.St} {vs : List Nat} (hl : σ'.length = σ.length) (h : ∀ j, j ∉ vs → σ'[j]? = σ[j]?) : wipe σ' vs = wipe σ vs := by
  refine List.ext_getElem? fun i => ?_
  by_cases hi : i ∈ vs
  · by_cases hlt : i < σ.length
    · rw [wipe_in hi hlt, wipe_in hi (by rw [hl]; exact hlt)]
    · rw [List.getElem?_eq_none (by rw [wipe_length]; omega), List.getElem?_eq_none (by rw [wipe_length]; omega)]
  · rw [wipe_at hi, wipe_at hi, h i hi]
theorem SRel.wipe {K : KK} {F0 H0 F H : Hp} {ρ : PEnv} {σ : L2.St} (S : SRel K F0 H0 ρ σ F H) (vs : List Nat) : SRel K F0 H0 (wipeE ρ vs) (L2.wipe σ vs) F H where
  ext := S.ext
  len := by rw [wipe_length, wipeE_length, S.len]
  sh := fun i d h => by
    obtain ⟨h1, h2⟩ := Cov.wipe ρ vs i _ h
    obtain ⟨v, q1, q2⟩ := S.sh i d h1
    exact ⟨v, by rw [wipe_at h2]; exact q1, q2⟩
  ow := fun i d h => by
    obtain ⟨h1, h2⟩ := Cov.wipe ρ vs i _ h
    obtain ⟨a, o, q1, q2⟩ := S.ow i d h1
    exact ⟨a, o, by rw [wipe_at h2]; exact q1, q2⟩
  apart := fun i j d d' a hij h1 h2 h3 h4 => by
    obtain ⟨p1, n1⟩ := Cov.wipe ρ vs i _ h1
    obtain ⟨p2, n2⟩ := Cov.wipe ρ vs j _ h2
    rw [wipe_at n1] at h3
    rw [wipe_at n2] at h4
    exact S.apart i j d d' a hij p1 p2 h3 h4

section
variable {G : Gb} {C : SC} {k : Nat} {ρ ρ1 ρ2 : PEnv} {e tg : Expr} {es : List Expr} {d : PyData} {ds : List PyData} {pos : Pos}
theorem tg_name (i : Nat) {x : Str} (hi : C.N[i]? = some x) (hx : C.sc.names.lookup x = some .local ∨ C.sc.names.lookup x = some .cell) (hf : C.fs x = true ∨ C.sc.names.lookup x = some .local) :
    Tg G C k ρ (.Name x pos) [i] d (ρ.set i (some (.sh d))) := fun X hX => by
  refine pg_imp (pg_name (i := i) (by rw [hX.eN]; exact hX.nd) (by rw [hX.eN]; exact hi) (by unfold L2.Loc; rw [hX.es]; exact hx) ?_) fun v σ H Q ⟨F0, H0, F, S, r, q⟩ => ?_
  · rcases hf with h | h
    · exact .inl (hX.fn _ h)
    · exact .inr (by rw [hX.es]; exact h)
  · exact q _ ⟨by rw [List.length_set], fun j hj => List.getElem?_set_ne (fun z => hj (by simp [z]))⟩ (S.put r)
theorem tgs_nil : Tgs G C k ρ [] [] [] ρ := fun X hX => pgs_imp pgs_nil fun vs σ H Q ⟨F0, H0, F, S, r, q⟩ => by
  cases r
  exact ⟨rfl, q σ ⟨rfl, fun _ _ => rfl⟩ S⟩
theorem tgs_cons {is js : List Nat} (h1 : Tg G C k ρ e is d ρ1) (h2 : Tgs G C k ρ1 es js ds ρ2) (hs : ∀ env, (assignEach (e :: es) env).map (·.2) = assign e env :: (assignEach es env).map (·.2)) : Tgs G C k ρ (e :: es) (is ++ js) (d :: ds) ρ2 := fun X hX =>
  pgs_imp (pgs_cons (h1 X hX) (h2 X hX) (hs _)) fun vs σ H Q ⟨F0, H0, F, S, r, q⟩ => by
    cases r with
    | cons r t =>
      exact ⟨_, _, rfl, F0, H0, F, S, r, fun σ1 o1 S1 => ⟨F0, H0, F, S1, t, fun σ2 o2 S2 => q σ2 ⟨o2.1.trans o1.1, fun j hj => (o2.2 j fun z => hj (List.mem_append_right _ z)).trans (o1.2 j fun z => hj (List.mem_append_left _ z))⟩ S2⟩⟩
theorem tg_tup {n m : Nat} {is : List Nat} (h : Tgs G C k ρ es is ds ρ1) (hl : ds.length = n) (hn : ∀ env, (assignEach es env).length = n) (hst : ∀ env, (assignEach es env).findIdx? (·.1) = none) : Tg G C k ρ (.Tuple es m pos) is (.tuple ds) ρ1 := fun X hX =>
  pg_imp (pg_tup hX.calm (h X hX) (hn _) (hst _)) fun v σ H Q ⟨F0, H0, F, S, r, q⟩ => by
    obtain ⟨a, xs, rfl, h1, h2⟩ := (Rp.b (H := H) r).tup S.ext.sub
    exact ⟨a, xs, rfl, by rw [hX.eK]; exact h1, by rw [h2.length]; exact hl, F0, H0, F, S, h2, q⟩
end

/-! ### what is walked -/
/-- at each turn the next of ds, while the heap grows -/
def Sup (K : KK) (J : It) (ds : List PyData) (P : Hp → Hp → Prop) : Prop := ∀ F H, P F H → Same F H →
  (∀ i d, ds[i]? = some d → J.go i H ∧ ∀ x H', J.yld i H x H' → ∃ F', Ext F H F' H' ∧ Rp K F' x d) ∧ J.stop ds.length H
/-- walked while all that is frozen stays -/
def tIt (K : KK) (ρ : PEnv) (ds : List PyData) (z : Prop) : TI := fun σ H R => ∃ F0 H0 F, SRel K F0 H0 ρ σ F H ∧ ∀ J F' H', Ext F H F' H' → z → Sup K J ds (fun F2 _ => Same F' F2) → R J H'
/-- walked while all objects stay -/
def tItB (K : KK) (ρ : PEnv) (ds : List PyData) (z : Prop) : TI := fun σ H R => ∃ F0 H0 F, SRel K F0 H0 ρ σ F H ∧ ∀ J F' H', Ext F H F' H' → z → Sup K J ds (fun F2 H2 => Ext F' H' F2 H2) → R J H'
def It' (G : Gb) (C : SC) (k : Nat) (ρ : PEnv) (tg e : Expr) (ds : List PyData) (z : Prop) : Prop := ∀ X, CxOk G C k X → PI X tg e (tIt G.K ρ ds z)
def ItB (G : Gb) (C : SC) (k : Nat) (ρ : PEnv) (tg e : Expr) (ds : List PyData) (z : Prop) : Prop := ∀ X, CxOk G C k X → PI X tg e (tItB G.K ρ ds z)
section
variable {K : KK} {F F' H H' : Hp} {J : It} {ds : List PyData}
theorem sup_walk {n : Nat} {Gp : Hp → Prop} {Y : Nat → Hp → V → Hp → Prop} (w : Walk J n Gp Y) (hn : n = ds.length) {P : Hp → Hp → Prop} (hg : ∀ F H, P F H → Same F H → Gp H)
    (hy : ∀ F H i x d H', P F H → Same F H → ds[i]? = some d → Y i H x H' → ∃ F', Ext F H F' H' ∧ Rp K F' x d) : Sup K J ds P := fun F H p sF => by
  subst hn
  refine ⟨fun i d hd => ?_, w.stops H (hg F H p sF)⟩
  have hi : i < ds.length := (List.getElem?_eq_some_iff.mp hd).1
  exact ⟨w.goes i H hi (hg F H p sF), fun x H' y => hy F H i x d H' p sF hd (w.yields i H x H' hi (hg F H p sF) y)⟩
end
section
variable {G : Gb} {C : SC} {k : Nat} {ρ ρ1 ρ2 : PEnv} {e tg : Expr} {es : List Expr} {d : PyData} {ds : List PyData} {pos p : Pos}
theorem It'.toB {z : Prop} (h : It' G C k ρ tg e ds z) : ItB G C k ρ tg e ds z := fun X hX => pi_imp (h X hX) fun σ H R ⟨F0, H0, F, S, q⟩ => ⟨F0, H0, F, S, fun J F' H' x bd s => q J F' H' x bd fun F2 H2 e2 sF => s F2 H2 e2.fs sF⟩
/-- over a list, a tuple -/
theorem it_list (h : Ev G C k ρ e (.list ds)) : It' G C k ρ tg e ds (ds.length ≤ sizeLine) := fun X hX =>
  pi_imp (pi_list (pe_bd (h X hX))) fun σ H R ⟨F0, H0, F, S, q⟩ => ⟨F0, H0, F, S, fun v F1 H1 e1 r1 bd => by
    rw [hX.eK] at bd ⊢
    cases r1 with
    | @lst a xs _ h1 h2 =>
      refine ⟨_, rfl, ⟨_, e1.sub.seq h1⟩, q _ F1 H1 e1 (by rw [← h2.length]; exact bd _ _ (.inl (e1.sub.seq h1))) (sup_walk (walk_list (xs := xs)) h2.length (fun F2 H2 s sF => (s.trans sF).seq h1) fun F2 H2 i x d H' s sF hd y => ?_)⟩
      obtain ⟨rfl, hx⟩ := y
      obtain ⟨d', hd', r⟩ := h2.get hx
      rw [hd] at hd'
      cases hd'
      exact ⟨F2, Ext.refl sF, r.mono s⟩⟩
theorem it_tup (h : Ev G C k ρ e (.tuple ds)) : It' G C k ρ tg e ds (ds.length ≤ sizeLine) := fun X hX =>
  pi_imp (pi_tup (pe_bd (h X hX))) fun σ H R ⟨F0, H0, F, S, q⟩ => ⟨F0, H0, F, S, fun v F1 H1 e1 r1 bd => by
    rw [hX.eK] at bd ⊢
    cases r1 with
    | @tup a xs _ h1 h2 =>
      refine ⟨_, rfl, ⟨_, same_tup e1.sub h1⟩, q _ F1 H1 e1 (by rw [← h2.length]; exact bd _ _ (.inr (same_tup e1.sub h1))) (sup_walk (walk_tup (xs := xs)) h2.length (fun F2 H2 s sF => same_tup (s.trans sF) h1) fun F2 H2 i x d H' s sF hd y => ?_)⟩
      obtain ⟨rfl, hx⟩ := y
      obtain ⟨d', hd', r⟩ := h2.get hx
      rw [hd] at hd'
      cases hd'
      exact ⟨F2, Ext.refl sF, r.mono s⟩⟩
/-- over an owned list, while all objects stay (a comprehension) -/
theorem itb_list (h : EvB G C k ρ e (.list ds)) : ItB G C k ρ tg e ds (ds.length ≤ sizeLine) := fun X hX =>
  pi_imp (pi_list (pe_bd (h X hX))) fun σ H R ⟨F0, H0, F, S, q⟩ => ⟨F0, H0, F, S, fun v F1 H1 e1 r1 bd => by
    rw [hX.eK] at bd ⊢
    obtain ⟨a, xs, rfl, h1, h2⟩ := r1.lst e1.sub
    refine ⟨_, rfl, ⟨_, h1⟩, q _ F1 H1 e1 (by rw [← h2.length]; exact bd _ _ (.inl h1)) (sup_walk (walk_list (xs := xs)) h2.length (fun F2 H2 s sF => s.hs.seq h1) fun F2 H2 i x d H' s sF hd y => ?_)⟩
    obtain ⟨rfl, hx⟩ := y
    obtain ⟨d', hd', r⟩ := h2.get hx
    rw [hd] at hd'
    cases hd'
    exact ⟨F2, Ext.refl sF, r.mono s.fs⟩⟩
/-- lo, lo + 1, .. below hi -/
def rangeD (lo hi : Int) : List Int := (List.range (hi - lo).toNat).map fun (i : Nat) => lo + (i : Int)
theorem rangeD_get {lo hi : Int} {i : Nat} {d : PyData} (h : ((rangeD lo hi).map PyData.int)[i]? = some d) : d = .int (lo + i) := by
  unfold rangeD at h
  rw [List.map_map, List.getElem?_map] at h
  cases e : (List.range (hi - lo).toNat)[i]? with
  | none => rw [e] at h; cases h
  | some j =>
    rw [e] at h
    have hj : j = i := by
      obtain ⟨h1, h2⟩ := List.getElem?_eq_some_iff.mp e
      simpa using h2.symm
    subst hj
    cases h
    rfl
theorem rangeD_len {lo hi : Int} : (hi - lo).toNat = ((rangeD lo hi).map PyData.int).length := by unfold rangeD; simp
theorem it_range1 {a : Expr} {j : Int} (hg : C.sc.names.lookup ("range" : Str) = some .globalImplicit) (hm : G.mg "range" = none) (ha : EvB G C k ρ a (.int j)) (h1 : -(2 ^ 62) ≤ j) (h2 : j < 2 ^ 62) (hs : ∀ env, starEach [a] env = [(false, eval a env)]) :
    It' G C k ρ tg (.Call (.Name "range" p) [a] [] pos) ((rangeD 0 j).map .int) True := fun X hX =>
  pi_imp (pi_range1 (by unfold Gl Env.kindOf; rw [hX.es]; exact hg) (by rw [hX.em]; exact hm) (pa_cons (pe_bd (ha X hX)) pa_nil (by rw [hs]; rfl)) (hs _)) fun σ H R ⟨F0, H0, F, S, q⟩ => ⟨F0, H0, F, S, fun v F1 H1 e1 r1 bd => by
    rw [hX.eK] at bd
    rw [r1.int]
    refine ⟨j, rfl, h1, h2, q _ F1 H1 e1 trivial (sup_walk walk_range (by rw [← rangeD_len, Int.sub_zero]) (fun _ _ _ _ => trivial) fun F2 H2 i x d H' s sF hd y => ?_)⟩
    obtain ⟨rfl, rfl⟩ := y
    rw [rangeD_get hd]
    exact ⟨F2, Ext.refl sF, .int _⟩⟩
theorem it_range2 {a b : Expr} {i j : Int} (hg : C.sc.names.lookup ("range" : Str) = some .globalImplicit) (hm : G.mg "range" = none) (ha : EvB G C k ρ a (.int i)) (hb : EvB G C k ρ b (.int j)) (h1 : -(2 ^ 62) ≤ i ∧ i < 2 ^ 62 ∧ -(2 ^ 62) ≤ j ∧ j < 2 ^ 62)
    (hs : ∀ env, starEach [a, b] env = [(false, eval a env), (false, eval b env)]) (hs2 : ∀ env, starEach [b] env = [(false, eval b env)]) :
    It' G C k ρ tg (.Call (.Name "range" p) [a, b] [] pos) ((rangeD i j).map .int) True := fun X hX =>
  pi_imp (pi_range2 (by unfold Gl Env.kindOf; rw [hX.es]; exact hg) (by rw [hX.em]; exact hm) (pa_cons (ha X hX) (pa_cons (pe_bd (hb X hX)) pa_nil (by rw [hs2]; rfl)) (by rw [hs, hs2])) (hs _) (hs2 _)) fun σ H R ⟨F0, H0, F, S, q⟩ => ⟨F0, H0, F, S, fun v F1 H1 e1 r1 => ⟨F0, H0, F1, S.go e1, fun w F2 H2 e2 r2 bd => by
    rw [hX.eK] at bd
    rw [r1.int, r2.int]
    refine ⟨i, j, rfl, h1, q _ F2 H2 (e1.trans e2) trivial (sup_walk walk_range rangeD_len (fun _ _ _ _ => trivial) fun F3 H3 m x d H' s sF hd y => ?_)⟩
    obtain ⟨rfl, rfl⟩ := y
    rw [rangeD_get hd]
    exact ⟨F3, Ext.refl sF, .int _⟩⟩⟩
end

/-! ### comprehensions -/
/-- the block's names -/
def SC.blk (C : SC) (scope : Scope) : SC := ⟨C.N, relS scope C.sc, fun x => scope.names.lookup x == some .cell⟩
def Ts (G : Gb) (C : SC) (k : Nat) (ρ : PEnv) (es : List Expr) (b : Bool) : Prop := ∀ X, CxOk G C k X → PTs X es (tTe G.K ρ b)
/-- one item: it gives y, or nothing -/
def LcStep (G : Gb) (C : SC) (k : Nat) (ρ : PEnv) (vs : List Nat) (tg : Expr) (ifs : List Expr) (elt : Expr) (d : PyData) (o : Option PyData) : Prop :=
  ∃ is ρ', (∀ i ∈ is, i ∈ vs) ∧ Tg G C k ρ tg is d ρ' ∧ ((∃ y, o = some y ∧ Ts G C k ρ' ifs true ∧ Ev G C k ρ' elt y) ∨ (o = none ∧ Ts G C k ρ' ifs false))
section
variable {G : Gb} {C : SC} {k : Nat} {ρ ρ1 ρ2 : PEnv} {e tg : Expr} {es : List Expr} {d : PyData} {ds : List PyData} {pos p : Pos}
theorem ts_nil : Ts G C k ρ [] true := fun X hX => pts_imp pts_nil fun σ H Q ⟨F0, H0, F, S, q⟩ => q F H (Ext.refl S.ext.sub)
theorem ts_one {b : Bool} (h : Te G C k ρ e b) : Ts G C k ρ [e] b := fun X hX => pts_one (h X hX)
theorem CxOk.blk {X : Cx} (hX : CxOk G C k X) {s : Shared} {H : Hp} {scope : Scope} {cl : List (Str × Addr)} {Ca : Addr} {fp : List Addr} : CxOk G (C.blk scope) k (X.blk s H scope (compEnvC scope cl Ca X.env) fp) :=
  ⟨hX.eP, hX.ew, hX.eK, hX.em, hX.eb, hX.eN, by show relS scope X.env.scope = relS scope C.sc; rw [hX.es], hX.calm, hX.room, hX.nd, fun x h => h, rfl⟩
/-- all items of a comprehension -/
inductive LcR (G : Gb) (C : SC) (k : Nat) (ρ : PEnv) (vs : List Nat) (tg : Expr) (ifs : List Expr) (elt : Expr) : List PyData → List PyData → Prop
  | nil : LcR G C k ρ vs tg ifs elt [] []
  | keep {d y : PyData} {ds ys : List PyData} : LcStep G C k ρ vs tg ifs elt d (some y) → LcR G C k ρ vs tg ifs elt ds ys → LcR G C k ρ vs tg ifs elt (d :: ds) (y :: ys)
  | skip {d : PyData} {ds ys : List PyData} : LcStep G C k ρ vs tg ifs elt d none → LcR G C k ρ vs tg ifs elt ds ys → LcR G C k ρ vs tg ifs elt (d :: ds) ys
theorem Ext.growD {F H F1 H1 : Hp} {D : Addr} {o o' : HO} (e : Ext F H F1 H1) (hn : H D = none) (hf : F1 D = none) (hD : H1 D = some o) : Ext F H F1 (upd H1 D o') :=
  ⟨fun a x q => by rw [upd_ne (ne_of_none q hn)]; exact e.hs _ _ q, e.fs, fun a x q => by rw [upd_ne (ne_of_none q hf)]; exact e.sub _ _ q, e.new⟩
/-- the block's readings, whatever the item -/
def gU (G : Gb) (C : SC) (k : Nat) (scope : Scope) (ρ : PEnv) (own : List (Str × Nat)) (tg : Expr) : TG := fun v σ H Q => ∃ i : PyData × List Nat × PEnv, (Tg G (C.blk scope) k (wipeE ρ (own.map (·.2))) tg i.2.1 i.1 i.2.2) ∧ tTg G.K (wipeE ρ (own.map (·.2))) i.2.1 i.1 i.2.2 v σ H Q
def ttU (G : Gb) (C : SC) (k : Nat) (scope : Scope) (ifs : List Expr) : TT := fun σ H Q => ∃ i : PEnv × Bool, Ts G (C.blk scope) k i.1 ifs i.2 ∧ tTe G.K i.1 i.2 σ H Q
def teU (G : Gb) (C : SC) (k : Nat) (scope : Scope) (elt : Expr) : TE := fun σ H Q => ∃ i : PEnv × PyData, Ev G (C.blk scope) k i.1 elt i.2 ∧ tEv G.K i.1 i.2 σ H Q
/-- [elt for tg in iter if ..] -/
theorem lc_read {elt iter : Expr} {ifs : List Expr} {scope : Scope} {own : List (Str × Nat)} {ys : List PyData} (ok : BlkOk C.N C.sc scope own) {z : Prop} (hi : ItB G C k ρ tg iter ds z)
    (hs : LcR G (C.blk scope) k (wipeE ρ (own.map (·.2))) (own.map (·.2)) tg ifs elt ds ys) (hzz : z → ys.length ≤ sizeLine) {σ : L2.St} {H : Hp} {Q : VK} (h : tEvN G.K ρ (.list ys) σ H Q) :
    tLc (tItB G.K ρ ds z) (gU G C k scope ρ own tg) (ttU G C k scope ifs) (teU G C k scope elt) (own.map (·.2)) σ H Q := by
  obtain ⟨F0, H0, F, S, q⟩ := h
  refine ⟨F0, H0, F, S, fun J F1 H1 e1 hz0 sup D hD => ?_⟩
  have hz := hzz hz0
  have S1 := S.go e1
  have fD : F1 D = none := e1.sub.free hD
  refine ⟨fun i m H => m = ds.length - i ∧ i ≤ ds.length ∧ ∃ F2 acc done rest, Ext F1 H1 F2 H ∧ H D = some (.lst acc) ∧ F2 D = none ∧ RpA G.K F2 acc done ∧ LcR G (C.blk scope) k (wipeE ρ (own.map (·.2))) (own.map (·.2)) tg ifs elt (ds.drop i) rest ∧ done ++ rest = ys,
    ⟨ds.length, by simp, Nat.zero_le _, F1, [], [], ys, Ext.put e1.sub hD, upd_same, fD, .nil, by simpa using hs, rfl⟩, ?_⟩
  rintro i m H2 ⟨rfl, hi2, F2, acc, done, rest, e2, hD2, fD2, ra, lr, hys⟩
  obtain ⟨go, stop⟩ := sup F2 H2 e2 e2.sub
  by_cases hlt : i < ds.length
  · have hd : ds[i]? = some ds[i] := List.getElem?_eq_getElem hlt
    obtain ⟨g1, g2⟩ := go i _ hd
    refine .inr ⟨g1, fun H' => i + 1 ≤ ds.length ∧ ∃ F2 acc done rest, Ext F1 H1 F2 H' ∧ H' D = some (.lst acc) ∧ F2 D = none ∧ RpA G.K F2 acc done ∧ LcR G (C.blk scope) k (wipeE ρ (own.map (·.2))) (own.map (·.2)) tg ifs elt (ds.drop (i + 1)) rest ∧ done ++ rest = ys,
      fun H' ⟨h1, h2⟩ => ⟨ds.length - (i + 1), by omega, rfl, h1, h2⟩, fun x H3 y => ?_⟩
    obtain ⟨F3, e3, rx⟩ := g2 x H3 y
    have e13 := e2.trans e3
    have noD : ∀ {Fa Ha Fb Hb : Hp}, Ext Fa Ha Fb Hb → Fa D = none → (∃ o, Ha D = some (.lst o)) → Fb D = none := fun {Fa Ha Fb Hb} ee h1 ⟨o, h2⟩ => by
      cases z : Fb D with
      | none => rfl
      | some u =>
        rcases ee.new D u z with w | w | w
        · rw [h1] at w; cases w
        · rw [h2] at w; cases w
        · have z2 := (ee.hs _ _ h2).symm.trans (ee.sub _ _ z)
          cases z2
          cases w
    have hdrop : ds.drop i = ds[i] :: ds.drop (i + 1) := List.drop_eq_getElem_cons hlt
    rw [hdrop] at lr
    have wp : ∀ {is : List Nat} {σ' : L2.St}, (∀ i ∈ is, i ∈ own.map (·.2)) → Off is (L2.wipe σ (own.map (·.2))) σ' → L2.wipe σ' (own.map (·.2)) = L2.wipe σ (own.map (·.2)) := fun {is σ'} hsub off =>
      wipe_eq (off.1.trans (wipe_length _ _)) fun j hj => by rw [off.2 j fun z => hj (hsub j z), wipe_at hj]
    cases lr with
    | @keep _ y' _ rest' hst lr' =>
      obtain ⟨is, ρ', hsub, htg, ⟨y2, hy2, hts, hev⟩ | ⟨hn, _⟩⟩ := hst
      · cases hy2
        refine ⟨(ds[i], is, ρ'), htg, F0, H0, F3, (S1.go e13).wipe _, rx, fun σ' off S' => ⟨wp hsub off, ?_⟩⟩
        refine ⟨(ρ', true), hts, F0, H0, F3, S', fun F4 H4 e4 => iteT ⟨(ρ', y'), hev, F0, H0, F4, S'.go e4, fun v F5 H5 e5 r5 => ?_⟩⟩
        have e25 := (e3.trans e4).trans e5
        have hD5 := e25.hs _ _ hD2
        have fD5 := noD e25 fD2 ⟨_, hD2⟩
        have hl := ra.length
        refine ⟨acc, hD5, ?_, hlt, F5, acc ++ [v], done ++ [y'], rest', (e2.trans e25).growD hD fD5 hD5, upd_same, fD5, (ra.mono e25.fs).append (.cons r5 .nil), lr', by rw [List.append_assoc]; exact hys⟩
        have hl2 := congrArg List.length hys
        rw [List.length_append, List.length_cons] at hl2
        omega
      · cases hn
    | skip hst lr' =>
      obtain ⟨is, ρ', hsub, htg, ⟨y2, hy2, _⟩ | ⟨_, hts⟩⟩ := hst
      · cases hy2
      · refine ⟨(ds[i], is, ρ'), htg, F0, H0, F3, (S1.go e13).wipe _, rx, fun σ' off S' => ⟨wp hsub off, ?_⟩⟩
        refine ⟨(ρ', false), hts, F0, H0, F3, S', fun F4 H4 e4 => iteF ?_⟩
        have e24 := e3.trans e4
        exact ⟨hlt, F4, acc, done, rest, e2.trans e24, e24.hs _ _ hD2, noD e24 fD2 ⟨_, hD2⟩, ra.mono e24.fs, lr', hys⟩
  · have e : i = ds.length := by omega
    subst e
    rw [List.drop_length] at lr
    cases lr
    rw [List.append_nil] at hys
    subst hys
    exact .inl ⟨stop, q D _ F2 H2 (e1.trans e2) (e1.hs.free hD) hD2 fD2 (.lst ra)⟩
theorem evn_lc {elt iter : Expr} {ifs : List Expr} {scope : Scope} {own : List (Str × Nat)} {ys : List PyData} (ok : BlkOk C.N C.sc scope own) {z : Prop} (hi : ItB G C k ρ tg iter ds z)
    (hs : LcR G (C.blk scope) k (wipeE ρ (own.map (·.2))) (own.map (·.2)) tg ifs elt ds ys) (hzz : z → ys.length ≤ sizeLine) (hfs : ∀ env x, foldedSetIterable iter env x = pure x) :
    EvN G C k ρ (.ListComp elt [⟨tg, iter, ifs, 0⟩] scope pos) (.list ys) := fun X hX =>
  pe_imp (pe_lc (own := own) (g := gU G C k scope ρ own tg) (tt := ttU G C k scope ifs) (te := teU G C k scope elt)
    hX.calm (by rw [hX.eN]; exact hX.nd) (hi X hX) (by rw [hX.eN, hX.es]; exact ok) (fun s H Ca cl fp => pg_un fun i h => h _ hX.blk) (fun s H Ca cl fp => pts_un fun i h => h _ hX.blk) (fun s H Ca cl fp => pe_un fun i h => h _ hX.blk) (hfs _)) fun σ H Q h => lc_read ok hi hs hzz h
end
end Pl
/-! Pl, part G: calls of the text's own defs; statements; defs. -/
namespace Pl
open PySem PySem.Spec PyProof.Rows L2

/-- what a call with the data ds promises: the datum d -/
def spV (K : KK) (ds : List PyData) (d : PyData) : Sp := fun vs H Q _ => ∃ F, Same F H ∧ RpA K F vs ds ∧ ∀ v F' H', Ext F H F' H' → Rp K F' v d → Q v H'
/-- the def x called with ds hands back d -/
def Fn (G : Gb) (j : Nat) (x : Str) (ds : List PyData) (d : PyData) : Prop := ∃ f fd ps, FnOk G.P G.w G.K G.mg G.base CX0 j f fd ps (spV G.K ds d) ∧ G.mg x = some (.ref f) ∧ PySem.W.keepIn G.K (.ref f) = true ∧ Binds G.K fd ps []
theorem Fn.mono {G : Gb} {j j' : Nat} {x : Str} {ds : List PyData} {d : PyData} (h : Fn G j x ds d) (l : j ≤ j') : Fn G j' x ds d := let ⟨f, fd, ps, h1, h2, h3, h4⟩ := h; ⟨f, fd, ps, h1.mono l, h2, h3, h4⟩

/-- F1 and the tuples of F' -/
noncomputable def addT (F1 F' : Hp) : Hp := fun a => match F1 a with
  | some o => some o
  | none => match F' a with
    | some u => if stays u = true then some u else none
    | none => none
theorem addT_of {F1 F' : Hp} {a : Addr} {o : HO} (h : addT F1 F' a = some o) : F1 a = some o ∨ (F' a = some o ∧ stays o = true) := by
  unfold addT at h
  cases e : F1 a with
  | some u => rw [e] at h; exact .inl h
  | none =>
    rw [e] at h
    cases e' : F' a with
    | none => rw [e'] at h; cases h
    | some u =>
      rw [e'] at h
      by_cases c : stays u = true
      · have h' : (if stays u = true then some u else none) = some o := h
        rw [if_pos c] at h'
        cases h'
        exact .inr ⟨rfl, c⟩
      · have h' : (if stays u = true then some u else none) = some o := h
        rw [if_neg c] at h'
        cases h'
theorem addT_l {F1 F' : Hp} : Same F1 (addT F1 F') := fun a o e => by unfold addT; rw [e]
theorem addT_tup {F1 F' H' : Hp} (s1 : Same F1 H') (s2 : Same F' H') {a : Addr} {o : HO} (c : stays o = true) (h : F' a = some o) : addT F1 F' a = some o := by
  unfold addT
  cases e : F1 a with
  | some u =>
    have h1 := s1 _ _ e
    rw [s2 _ _ h] at h1
    cases h1
    rfl
  | none =>
    rw [h]
    exact if_pos c
section
variable {G : Gb} {C : SC} {k j : Nat} {ρ ρ1 ρ2 : PEnv} {e tg : Expr} {es : List Expr} {d : PyData} {ds : List PyData} {pos p : Pos}
/-- f(..), shared arguments -/
theorem ev_call {x : Str} (h : Fn G j x ds d) (hj : j ≤ k) (hg : C.sc.names.lookup x = some .globalImplicit) (ha : EA G C k ρ (e :: es) ds) (hdb : (x == ("__debug__" : Str)) = false) (he : ∀ env, starEach (e :: es) env = (false, eval e env) :: starEach es env) (hpl : ∀ env, (backTo pos (starEach es env)).any (·.1) = false) :
    Ev G C k ρ (.Call (.Name x p) (e :: es) [] pos) d := fun X hX => by
  obtain ⟨f, fd, ps, h1, h2, h3, h4⟩ := h
  refine pe_imp (pe_call (CX := CX0) (E := E0) (dvs := []) (by rw [hX.eP, hX.ew, hX.eK, hX.em, hX.eb]; exact h1) (hX.room.mono hj) (by unfold Gl Env.kindOf; rw [hX.es]; exact hg) (by rw [hX.em]; exact h2) (by rw [hX.eK]; exact h3) (by rw [hX.eK]; exact h4) .nil pass0 (ha X hX) hdb (he _) (hpl _))
    fun σ H Q ⟨F0, H0, F, S, q⟩ => ⟨F0, H0, F, S, fun vs F1 H1 e1 r1 => ?_⟩
  show spV G.K ds d (vs ++ []) H1 Q E0
  rw [List.append_nil]
  exact ⟨F1, e1.sub, r1, fun v F2 H2 e2 r2 => q v F2 H2 (e1.trans e2) r2⟩
/-- f(..), arguments that may be owned; the answer is flat -/
theorem ev_callB' {x : Str} (h : Fn G j x ds d) (hfl : flat d = true) (hj : j ≤ k) (hg : C.sc.names.lookup x = some .globalImplicit) (ha : EAB G C k ρ (e :: es) ds) (hdb : (x == ("__debug__" : Str)) = false) (he : ∀ env, starEach (e :: es) env = (false, eval e env) :: starEach es env) (hpl : ∀ env, (backTo pos (starEach es env)).any (·.1) = false) :
    Ev G C k ρ (.Call (.Name x p) (e :: es) [] pos) d := fun X hX => by
  obtain ⟨f, fd, ps, h1, h2, h3, h4⟩ := h
  refine pe_imp (pe_call (CX := CX0) (E := E0) (dvs := []) (by rw [hX.eP, hX.ew, hX.eK, hX.em, hX.eb]; exact h1) (hX.room.mono hj) (by unfold Gl Env.kindOf; rw [hX.es]; exact hg) (by rw [hX.em]; exact h2) (by rw [hX.eK]; exact h3) (by rw [hX.eK]; exact h4) .nil pass0 (ha X hX) hdb (he _) (hpl _))
    fun σ H Q ⟨F0, H0, F, S, q⟩ => ⟨F0, H0, F, S, fun vs F1 H1 e1 r1 => ?_⟩
  show spV G.K ds d (vs ++ []) H1 Q E0
  rw [List.append_nil]
  refine ⟨H1, Same.refl _, r1.full e1.sub, fun v F2 H2 e2 r2 => ?_⟩
  have s1 : Same F1 H2 := e1.sub.trans e2.hs
  have x : Ext F1 H1 (addT F1 F2) H2 := ⟨e2.hs, addT_l, fun a o z => by
    rcases addT_of z with z | ⟨z, _⟩
    · exact s1 _ _ z
    · exact e2.sub _ _ z, fun a o z => by
    rcases addT_of z with z | ⟨z, w⟩
    · exact .inl z
    · exact .inr (.inr w)⟩
  refine q v _ H2 (e1.trans x) (r2.narrow (fun a xs t => ?_) hfl)
  rcases t with (t | ⟨o, t⟩) | t
  · exact .inl (.inl (addT_tup s1 e2.sub rfl t))
  · exact .inl (.inr ⟨o, addT_tup s1 e2.sub rfl t⟩)
  · exact .inr t
end
end Pl
/-! Pl, part H: statements, loops, defs. -/
namespace Pl
open PySem PySem.Spec PyProof.Rows L2

/-- how a block ends -/
inductive Out where
  | nx (ρ : PEnv)
  | rt (d : PyData)
  | bk (ρ : PEnv)
  | ct (ρ : PEnv)
/-- what is wanted of the end -/
def OutK (K : KK) (F0 H0 Fa : Hp) (D : Ends) : Out → Prop
  | .nx ρ => ∀ σ F H, SRel K F0 H0 ρ σ F H → Same Fa F → D.nx σ H
  | .rt d => ∀ v F H, Ext F0 H0 F H → Rp K F v d → D.rt v H
  | .bk ρ => ∀ σ F H, SRel K F0 H0 ρ σ F H → Same Fa F → D.bk σ H
  | .ct ρ => ∀ σ F H, SRel K F0 H0 ρ σ F H → Same Fa F → D.ct σ H
theorem OutK.mono {K : KK} {F0 H0 Fa Fb : Hp} {D : Ends} (s : Same Fa Fb) : ∀ {r : Out}, OutK K F0 H0 Fa D r → OutK K F0 H0 Fb D r
  | .nx _, h => fun σ F H S t => h σ F H S (s.trans t)
  | .rt _, h => h
  | .bk _, h => fun σ F H S t => h σ F H S (s.trans t)
  | .ct _, h => fun σ F H S t => h σ F H S (s.trans t)
def tOut (K : KK) (ρ : PEnv) (r : Out) : TS := fun D σ H => ∃ F0 H0 F, SRel K F0 H0 ρ σ F H ∧ OutK K F0 H0 F D r
def St1 (G : Gb) (C : SC) (k : Nat) (ρ : PEnv) (st : Stmt) (r : Out) : Prop := ∀ X, CxOk G C k X → PS X st (tOut G.K ρ r)
def Blk (G : Gb) (C : SC) (k : Nat) (ρ : PEnv) (sts : List Stmt) (r : Out) : Prop := ∀ X, CxOk G C k X → PSs X sts (tOut G.K ρ r)
/-- an end that claims less -/
inductive OutCov : Out → Out → Prop
  | nx {ρ ρ' : PEnv} : Cov ρ ρ' → OutCov (.nx ρ) (.nx ρ')
  | rt {d : PyData} : OutCov (.rt d) (.rt d)
  | bk {ρ ρ' : PEnv} : Cov ρ ρ' → OutCov (.bk ρ) (.bk ρ')
  | ct {ρ ρ' : PEnv} : Cov ρ ρ' → OutCov (.ct ρ) (.ct ρ')
theorem OutCov.k {K : KK} {F0 H0 Fa : Hp} {D : Ends} {r r' : Out} (c : OutCov r r') (h : OutK K F0 H0 Fa D r') : OutK K F0 H0 Fa D r := by
  cases c with
  | nx c => exact fun σ F H S t => let ⟨F', s, S'⟩ := S.weak c; h σ F' H S' (t.trans s)
  | rt => exact h
  | bk c => exact fun σ F H S t => let ⟨F', s, S'⟩ := S.weak c; h σ F' H S' (t.trans s)
  | ct c => exact fun σ F H S t => let ⟨F', s, S'⟩ := S.weak c; h σ F' H S' (t.trans s)
section
variable {X : Cx}
theorem ps_imp {st : Stmt} {t t' : TS} (h : PS X st t) (i : ∀ D σ H, t' D σ H → t D σ H) : PS X st t' := ⟨fun pins s σ H D I q => h.run pins s σ H D I (i D σ H q)⟩
theorem pss_imp {sts : List Stmt} {t t' : TS} (h : PSs X sts t) (i : ∀ D σ H, t' D σ H → t D σ H) : PSs X sts t' := ⟨fun pins s σ H D I q => h.run pins s σ H D I (i D σ H q)⟩
theorem pss_un {sts : List Stmt} {ι : Type} {P : ι → Prop} {t : ι → TS} (h : ∀ i, P i → PSs X sts (t i)) : PSs X sts (fun D σ H => ∃ i, P i ∧ t i D σ H) := ⟨fun pins s σ H D I ⟨i, p, q⟩ => (h i p).run pins s σ H D I q⟩
theorem pt_un {e : Expr} {ι : Type} {P : ι → Prop} {t : ι → TT} (h : ∀ i, P i → PT X e (t i)) : PT X e (fun σ H Q => ∃ i, P i ∧ t i σ H Q) := ⟨fun pins s σ H Q I ⟨i, p, q⟩ => (h i p).run pins s σ H Q I q⟩
end
section
variable {G : Gb} {C : SC} {k j : Nat} {ρ ρ1 ρ2 : PEnv} {e tg c : Expr} {es : List Expr} {d d1 d2 : PyData} {ds : List PyData} {pos p : Pos} {st : Stmt} {ss a b : List Stmt} {r r' : Out}
/-! ### blocks -/
theorem blk_nil : Blk G C k ρ [] (.nx ρ) := fun X hX => pss_imp pss_nil fun D σ H ⟨F0, H0, F, S, q⟩ => q σ F H S (Same.refl _)
theorem blk_cons (h1 : St1 G C k ρ st (.nx ρ1)) (h2 : Blk G C k ρ1 ss r) : Blk G C k ρ (st :: ss) r := fun X hX =>
  pss_imp (pss_cons (h1 X hX) (h2 X hX)) fun D σ H ⟨F0, H0, F, S, q⟩ => ⟨F0, H0, F, S, fun σ1 F1 H1 S1 t => ⟨F0, H0, F1, S1, q.mono t⟩⟩
theorem blk_one (h : St1 G C k ρ st r) : Blk G C k ρ [st] r := fun X hX => pss_one (h X hX)
theorem blk_ret (h : St1 G C k ρ st (.rt d)) : Blk G C k ρ (st :: ss) (.rt d) := fun X hX =>
  pss_imp (pss_cons (h X hX) pss_never) fun D σ H ⟨F0, H0, F, S, q⟩ => ⟨F0, H0, F, S, q⟩
theorem blk_brk (h : St1 G C k ρ st (.bk ρ1)) : Blk G C k ρ (st :: ss) (.bk ρ1) := fun X hX =>
  pss_imp (pss_cons (h X hX) pss_never) fun D σ H ⟨F0, H0, F, S, q⟩ => ⟨F0, H0, F, S, q⟩
theorem blk_cont (h : St1 G C k ρ st (.ct ρ1)) : Blk G C k ρ (st :: ss) (.ct ρ1) := fun X hX =>
  pss_imp (pss_cons (h X hX) pss_never) fun D σ H ⟨F0, H0, F, S, q⟩ => ⟨F0, H0, F, S, q⟩
theorem Blk.weak (h : Blk G C k ρ1 ss r) (cv : Cov ρ ρ1) : Blk G C k ρ ss r := fun X hX =>
  pss_imp (h X hX) fun D σ H ⟨F0, H0, F, S, q⟩ => let ⟨F', s, S'⟩ := S.weak cv; ⟨F0, H0, F', S', q.mono s⟩
theorem Blk.out (h : Blk G C k ρ ss r) (cv : OutCov r r') : Blk G C k ρ ss r' := fun X hX =>
  pss_imp (h X hX) fun D σ H ⟨F0, H0, F, S, q⟩ => ⟨F0, H0, F, S, cv.k q⟩
theorem St1.weak (h : St1 G C k ρ1 st r) (cv : Cov ρ ρ1) : St1 G C k ρ st r := fun X hX =>
  ps_imp (h X hX) fun D σ H ⟨F0, H0, F, S, q⟩ => let ⟨F', s, S'⟩ := S.weak cv; ⟨F0, H0, F', S', q.mono s⟩
theorem St1.out (h : St1 G C k ρ st r) (cv : OutCov r r') : St1 G C k ρ st r' := fun X hX =>
  ps_imp (h X hX) fun D σ H ⟨F0, H0, F, S, q⟩ => ⟨F0, H0, F, S, cv.k q⟩
/-! ### simple statements -/
theorem st_ret (h : Ev G C k ρ e d) : St1 G C k ρ (.Return (some e) pos) (.rt d) := fun X hX =>
  ps_imp (ps_ret (h X hX)) fun D σ H ⟨F0, H0, F, S, q⟩ => ⟨F0, H0, F, S, fun v F1 H1 e1 r1 => q v F1 H1 (S.ext.trans e1) r1⟩
theorem st_retN : St1 G C k ρ (.Return none pos) (.rt .none) := fun X hX => ps_imp ps_retN fun D σ H ⟨F0, H0, F, S, q⟩ => q .non F H S.ext .non
theorem st_pass : St1 G C k ρ (.Pass pos) (.nx ρ) := fun X hX => ps_imp ps_pass fun D σ H ⟨F0, H0, F, S, q⟩ => q σ F H S (Same.refl _)
theorem st_break : St1 G C k ρ (.Break pos) (.bk ρ) := fun X hX => ps_imp ps_break fun D σ H ⟨F0, H0, F, S, q⟩ => q σ F H S (Same.refl _)
theorem st_cont : St1 G C k ρ (.Continue pos) (.ct ρ) := fun X hX => ps_imp ps_continue fun D σ H ⟨F0, H0, F, S, q⟩ => q σ F H S (Same.refl _)
/-- x = e, e a shared datum -/
theorem st_set (i : Nat) {x : Str} {pos' : Pos} (hi : C.N[i]? = some x) (hx : C.sc.names.lookup x = some .local ∨ C.sc.names.lookup x = some .cell) (hf : C.fs x = true ∨ C.sc.names.lookup x = some .local) (he : Ev G C k ρ e d) (hs : ∀ env : Env, env.scope = C.sc → swapsWith e (some (.Name x pos')) pos.line env = pure false) :
    St1 G C k ρ (.Assign [.Name x pos'] e pos) (.nx (ρ.set i (some (.sh d)))) := fun X hX =>
  ps_imp (ps_set (i := i) (by rw [hX.eN]; exact hX.nd) (by rw [hX.eN]; exact hi) (by unfold L2.Loc; rw [hX.es]; exact hx) (he X hX) (hs _ hX.es) (hf.imp (hX.fn _) fun h => by rw [hX.es]; exact h)) fun D σ H ⟨F0, H0, F, S, q⟩ =>
    ⟨F0, H0, F, S, fun v F1 H1 e1 r1 => q _ F1 H1 ((S.go e1).put r1) e1.fs⟩
/-- x = e, e a new object, owned -/
theorem st_own (i : Nat) {x : Str} {pos' : Pos} (hi : C.N[i]? = some x) (hx : C.sc.names.lookup x = some .local ∨ C.sc.names.lookup x = some .cell) (hf : C.fs x = true ∨ C.sc.names.lookup x = some .local) (he : EvN G C k ρ e d) (hs : ∀ env : Env, env.scope = C.sc → swapsWith e (some (.Name x pos')) pos.line env = pure false) :
    St1 G C k ρ (.Assign [.Name x pos'] e pos) (.nx (ρ.set i (some (.ow d)))) := fun X hX =>
  ps_imp (ps_set (i := i) (by rw [hX.eN]; exact hX.nd) (by rw [hX.eN]; exact hi) (by unfold L2.Loc; rw [hX.es]; exact hx) (he X hX) (hs _ hX.es) (hf.imp (hX.fn _) fun h => by rw [hX.es]; exact h)) fun D σ H ⟨F0, H0, F, S, q⟩ =>
    ⟨F0, H0, F, S, fun p o F1 H1 e1 hn ho hf r1 => q _ F1 H1 (S.own e1 hn ho hf r1) e1.fs⟩
/-- target = e -/
theorem st_asg {is : List Nat} (he : Ev G C k ρ e d) (hg : Tg G C k ρ tg is d ρ1) (hs : ∀ env, swapsWithSole [tg] e pos.line env = pure false) (hw : ∀ env, swappedStores [tg] e env = pure none) (h1 : ∀ env, (assignEach [tg] env).map (·.2) = [assign tg env]) :
    St1 G C k ρ (.Assign [tg] e pos) (.nx ρ1) := fun X hX =>
  ps_imp (ps_asg (he X hX) (hg X hX) (hs _) (hw _) (h1 _)) fun D σ H ⟨F0, H0, F, S, q⟩ => ⟨F0, H0, F, S, fun v F1 H1 e1 r1 => ⟨F0, H0, F1, S.go e1, r1, fun σ' _ S' => q σ' F1 H1 S' e1.fs⟩⟩
/-- x op= e -/
theorem st_aug (i : Nat) {x : Str} {op : Operator} {pos' : Pos} (hi : C.N[i]? = some x) (hx : C.sc.names.lookup x = some .local ∨ C.sc.names.lookup x = some .cell) (hf : C.fs x = true ∨ C.sc.names.lookup x = some .local) (h : ρ[i]? = some (some (.sh d1))) (he : EvB G C k ρ e d2) (ho : OpOk G C k (inplaceOp op) d1 d2 d) :
    St1 G C k ρ (.AugAssign (.Name x pos') op e pos) (.nx (ρ.set i (some (.sh d)))) := fun X hX =>
  ps_imp (ps_aug (i := i) (by rw [hX.eN]; exact hX.nd) (by rw [hX.eN]; exact hi) (by unfold L2.Loc; rw [hX.es]; exact hx) (he X hX) (fun pins s σ H x y v u Q I r1 r2 q => ho X hX pins s σ H x y v u Q I r1 r2 q) (hf.imp (hX.fn _) fun h => by rw [hX.es]; exact h)) fun D σ H ⟨F0, H0, F, S, q⟩ => by
    obtain ⟨v, h1, h2⟩ := S.sh i d1 h
    exact ⟨v, h1, F0, H0, F, S, fun w F1 H1 e1 r1 => ⟨F1, e1.sub, .inl (h2.mono e1.fs), r1, fun z F2 H2 e2 r2 => q _ F2 H2 ((S.go (e1.trans e2)).put r2) (e1.trans e2).fs⟩⟩
/-! ### if -/
theorem st_ifT (hc : Te G C k ρ c true) (ha : Blk G C k ρ a r) : St1 G C k ρ (.If c a b pos) r := fun X hX =>
  ps_imp (ps_if (hc X hX) (ha X hX) pss_never) fun D σ H ⟨F0, H0, F, S, q⟩ => ⟨F0, H0, F, S, fun F1 H1 e1 => iteT ⟨F0, H0, F1, S.go e1, q.mono e1.fs⟩⟩
theorem st_ifF (hc : Te G C k ρ c false) (hb : Blk G C k ρ b r) : St1 G C k ρ (.If c a b pos) r := fun X hX =>
  ps_imp (ps_if (hc X hX) pss_never (hb X hX)) fun D σ H ⟨F0, H0, F, S, q⟩ => ⟨F0, H0, F, S, fun F1 H1 e1 => iteF ⟨F0, H0, F1, S.go e1, q.mono e1.fs⟩⟩
/-! ### lists that are changed -/
theorem vis_of {X : Cx} (hX : CxOk G C k X) {x : Str} (hx : C.sc.names.lookup x = some .local ∨ C.sc.names.lookup x = some .cell ∨ C.sc.names.lookup x = some .free) : Vis X.env.scope x := by unfold Vis; rw [hX.es]; exact hx
/-- x.append(e) -/
theorem st_append (i : Nat) {x : Str} {p1 ap cp : Pos} (hi : C.N[i]? = some x) (hx : C.sc.names.lookup x = some .local ∨ C.sc.names.lookup x = some .cell ∨ C.sc.names.lookup x = some .free) (h : ρ[i]? = some (some (.ow (.list ds)))) (he : Ev G C k ρ e d) (hl : ds.length < sizeLine)
    (hd : (x == ("__debug__" : Str)) = false) (hc : (x == ("__classdict__" : Str)) = false) (hsw : ∀ env, swapsWith (.Call (.Attribute (.Name x p1) "append" ap) [e] [] cp) none pos.line env = pure false)
    (hs : ∀ env, starEach [e] env = [(false, eval e env)]) (hab : ∀ env, attributeBase (.Name x p1) "append" env (eval (.Name x p1) env) = eval (.Name x p1) env) (hln : (ap.endLine == cp.line) = true) :
    St1 G C k ρ (.Expr (.Call (.Attribute (.Name x p1) "append" ap) [e] [] cp) pos) (.nx (ρ.set i (some (.ow (.list (ds ++ [d])))))) := fun X hX => by
  refine ps_imp (ps_expr (pe_bm PySem.F.plainAttrs_list PySem.F.slot_list_append PySem.F.type_list_append mt_append (pe_var (i := i) (by rw [hX.eN]; exact hi) (vis_of hX hx) hd hc) (pa_cons (he X hX) pa_nil (by rw [hs]; rfl)) (hab _) (by rw [hs]; rfl) hln (by rw [hs]; rfl) rfl) (hsw _)) fun D σ H ⟨F0, H0, F, S, q⟩ => ?_
  obtain ⟨a, o, h1, h2, h3, h4, h5⟩ := S.ow i _ h
  cases h3 with
  | @lst xs _ r =>
    refine ⟨.ref a, h1, .inl ⟨rfl, xs, .inl (.inl h2)⟩, F0, H0, F, S, fun v F1 H1 e1 r1 => ⟨a, xs, v, rfl, rfl, e1.hs _ _ h2, by rw [r.length]; exact hl, q σ F1 _ ((S.go e1).mut h h1 (.lst ((r.mono e1.fs).append (.cons r1 .nil)))) e1.fs⟩⟩
/-- x = [..], as the comprehension stores it: owned -/
theorem st_setLc (i : Nat) {x : Str} {py : Pos} {elt iter : Expr} {ifs : List Expr} {scope : Scope} {own : List (Str × Nat)} {spos : Pos} {ys : List PyData} (hi : C.N[i]? = some x) (hx : C.sc.names.lookup x = some .local) (hsw : ∀ env : Env, env.scope = C.sc → swapsWith (.ListComp elt [⟨tg, iter, ifs, 0⟩] scope pos) (some (.Name x py)) spos.line env = pure true)
    (ok : BlkOk C.N C.sc scope own) {z : Prop} (hit : ItB G C k ρ tg iter ds z) (hs : LcR G (C.blk scope) k (wipeE ρ (own.map (·.2))) (own.map (·.2)) tg ifs elt ds ys) (hzz : z → ys.length ≤ sizeLine) (hfs : ∀ env x, foldedSetIterable iter env x = pure x) :
    St1 G C k ρ (.Assign [.Name x py] (.ListComp elt [⟨tg, iter, ifs, 0⟩] scope pos) spos) (.nx (ρ.set i (some (.ow (.list ys))))) := fun X hX =>
  ps_imp (ps_setLc (i := i) (own := own) (g := gU G C k scope ρ own tg) (tt := ttU G C k scope ifs) (te := teU G C k scope elt) hX.calm (by rw [hX.eN]; exact hX.nd) (by rw [hX.eN]; exact hi) (by rw [hX.es]; exact hx) (hsw _ hX.es) (hit X hX) (by rw [hX.eN, hX.es]; exact ok)
    (fun s H Ca cl fp => pg_un fun i h => h _ hX.blk) (fun s H Ca cl fp => pts_un fun i h => h _ hX.blk) (fun s H Ca cl fp => pe_un fun i h => h _ hX.blk) (hfs _)) fun D σ H ⟨F0, H0, F, S, q⟩ =>
      lc_read ok hit hs hzz ⟨F0, H0, F, S, fun a o F1 H1 e1 hn ha hf r => q _ F1 H1 (S.own e1 hn ha hf r) e1.fs⟩
/-- .. shared at once -/
theorem st_setLcS (i : Nat) {x : Str} {py : Pos} {elt iter : Expr} {ifs : List Expr} {scope : Scope} {own : List (Str × Nat)} {spos : Pos} {ys : List PyData} (hi : C.N[i]? = some x) (hx : C.sc.names.lookup x = some .local) (hsw : ∀ env : Env, env.scope = C.sc → swapsWith (.ListComp elt [⟨tg, iter, ifs, 0⟩] scope pos) (some (.Name x py)) spos.line env = pure true)
    (ok : BlkOk C.N C.sc scope own) {z : Prop} (hit : ItB G C k ρ tg iter ds z) (hs : LcR G (C.blk scope) k (wipeE ρ (own.map (·.2))) (own.map (·.2)) tg ifs elt ds ys) (hzz : z → ys.length ≤ sizeLine) (hfs : ∀ env x, foldedSetIterable iter env x = pure x) :
    St1 G C k ρ (.Assign [.Name x py] (.ListComp elt [⟨tg, iter, ifs, 0⟩] scope pos) spos) (.nx (ρ.set i (some (.sh (.list ys))))) := fun X hX =>
  ps_imp (ps_setLc (i := i) (own := own) (g := gU G C k scope ρ own tg) (tt := ttU G C k scope ifs) (te := teU G C k scope elt) hX.calm (by rw [hX.eN]; exact hX.nd) (by rw [hX.eN]; exact hi) (by rw [hX.es]; exact hx) (hsw _ hX.es) (hit X hX) (by rw [hX.eN, hX.es]; exact ok)
    (fun s H Ca cl fp => pg_un fun i h => h _ hX.blk) (fun s H Ca cl fp => pts_un fun i h => h _ hX.blk) (fun s H Ca cl fp => pe_un fun i h => h _ hX.blk) (hfs _)) fun D σ H ⟨F0, H0, F, S, q⟩ =>
      lc_read ok hit hs hzz ⟨F0, H0, F, S, fun a o F1 H1 e1 hn ha hf r => q _ _ H1 ((S.go (e1.freeze hn ha hf)).put (r.rp (same_upd hf) upd_same)) (e1.freeze hn ha hf).fs⟩
/-- x[e1] = e -/
theorem st_setitem (i : Nat) {x : Str} {ei : Expr} {n : Int} {m : Nat} {p1 p2 : Pos} (hi : C.N[i]? = some x) (hx : C.sc.names.lookup x = some .local ∨ C.sc.names.lookup x = some .cell ∨ C.sc.names.lookup x = some .free) (h : ρ[i]? = some (some (.ow (.list ds)))) (he : Ev G C k ρ e d) (hei : EvB G C k ρ ei (.int n)) (hm : ixN ds.length n = some m)
    (hd : (x == ("__debug__" : Str)) = false) (hc : (x == ("__classdict__" : Str)) = false) (hs : ∀ env, swapsWithSole [.Subscript (.Name x p1) ei p2] e pos.line env = pure false) (hw : ∀ env, swappedStores [.Subscript (.Name x p1) ei p2] e env = pure none) (h1 : ∀ env, (assignEach [.Subscript (.Name x p1) ei p2] env).map (·.2) = [assign (.Subscript (.Name x p1) ei p2) env])
    (ha : ∀ env v, assign (.Subscript (.Name x p1) ei p2) env v = (do
      let ov ← holding [v] (eval (.Name x p1) env)
      let iv ← holding [v, ov] (eval ei env)
      standAt p2
      holding [v, ov, iv] (setItem ov iv v)
      release [v, ov, iv] [])) :
    St1 G C k ρ (.Assign [.Subscript (.Name x p1) ei p2] e pos) (.nx (ρ.set i (some (.ow (.list (ds.set m d)))))) := fun X hX => by
  refine ps_imp (ps_asg (he X hX) (pg_sub (pe_var (i := i) (by rw [hX.eN]; exact hi) (vis_of hX hx) hd hc) (hei X hX) set_list (ha _)) (hs _) (hw _) (h1 _)) fun D σ H ⟨F0, H0, F, S, q⟩ => ⟨F0, H0, F, S, fun v F1 H1 e1 r1 => ?_⟩
  obtain ⟨a, o, h1, h2, h3, h4, h5⟩ := S.ow i _ h
  cases h3 with
  | @lst xs _ r =>
    refine ⟨.ref a, h1, F0, H0, F1, S.go e1, fun y F2 H2 e2 r2 => ⟨a, xs, n, m, rfl, r2.int, (e1.trans e2).hs _ _ h2, by rw [r.length]; exact hm, q σ F2 _ ((S.go (e1.trans e2)).mut h h1 (.lst (RpA.set (r1.mono e2.fs) m (r.mono (e1.trans e2).fs)))) (e1.trans e2).fs⟩⟩
/-! ### loops -/
/-- the turns of a for -/
inductive ForR (G : Gb) (C : SC) (k : Nat) (tg : Expr) (body : List Stmt) : List PyData → PEnv → Out → Prop
  | done {ρ : PEnv} : ForR G C k tg body [] ρ (.nx ρ)
  | nx {d : PyData} {ds : List PyData} {ρ ρt ρ1 : PEnv} {is : List Nat} {r : Out} : Tg G C k ρ tg is d ρt → Blk G C k ρt body (.nx ρ1) → ForR G C k tg body ds ρ1 r → ForR G C k tg body (d :: ds) ρ r
  | ct {d : PyData} {ds : List PyData} {ρ ρt ρ1 : PEnv} {is : List Nat} {r : Out} : Tg G C k ρ tg is d ρt → Blk G C k ρt body (.ct ρ1) → ForR G C k tg body ds ρ1 r → ForR G C k tg body (d :: ds) ρ r
  | bk {d : PyData} {ds : List PyData} {ρ ρt ρ1 : PEnv} {is : List Nat} : Tg G C k ρ tg is d ρt → Blk G C k ρt body (.bk ρ1) → ForR G C k tg body (d :: ds) ρ (.nx ρ1)
  | rt {d : PyData} {ds : List PyData} {ρ ρt : PEnv} {is : List Nat} {v : PyData} : Tg G C k ρ tg is d ρt → Blk G C k ρt body (.rt v) → ForR G C k tg body (d :: ds) ρ (.rt v)
  | weak {ds : List PyData} {ρ ρ1 : PEnv} {r : Out} : Cov ρ ρ1 → ForR G C k tg body ds ρ1 r → ForR G C k tg body ds ρ r
/-- its first step -/
def ForH (G : Gb) (C : SC) (k : Nat) (tg : Expr) (body : List Stmt) (ds : List PyData) (ρ : PEnv) (r : Out) : Prop := match ds with
  | [] => r = .nx ρ
  | d :: ds => ∃ is ρt, Tg G C k ρ tg is d ρt ∧ ((∃ ρ1, (Blk G C k ρt body (.nx ρ1) ∨ Blk G C k ρt body (.ct ρ1)) ∧ ForR G C k tg body ds ρ1 r) ∨ (∃ ρ1, Blk G C k ρt body (.bk ρ1) ∧ r = .nx ρ1) ∨ ∃ v, Blk G C k ρt body (.rt v) ∧ r = .rt v)
theorem ForR.peel {body : List Stmt} {F0 H0 F H : Hp} {σ : L2.St} (h : ForR G C k tg body ds ρ r) : SRel G.K F0 H0 ρ σ F H → ∃ ρ' F', Same F F' ∧ SRel G.K F0 H0 ρ' σ F' H ∧ ForH G C k tg body ds ρ' r := by
  induction h generalizing F with
  | done => exact fun S => ⟨_, F, Same.refl _, S, rfl⟩
  | nx t b f _ => exact fun S => ⟨_, F, Same.refl _, S, _, _, t, .inl ⟨_, .inl b, f⟩⟩
  | ct t b f _ => exact fun S => ⟨_, F, Same.refl _, S, _, _, t, .inl ⟨_, .inr b, f⟩⟩
  | bk t b => exact fun S => ⟨_, F, Same.refl _, S, _, _, t, .inr (.inl ⟨_, b, rfl⟩)⟩
  | rt t b => exact fun S => ⟨_, F, Same.refl _, S, _, _, t, .inr (.inr ⟨_, b, rfl⟩)⟩
  | weak c _ ih =>
    intro S
    obtain ⟨F1, s1, S1⟩ := S.weak c
    obtain ⟨ρ', F', s2, S2, h⟩ := ih S1
    exact ⟨ρ', F', s1.trans s2, S2, h⟩
/-- for -/
theorem st_for {iter : Expr} {body : List Stmt} {z : Prop} (hi : It' G C k ρ tg iter ds z) (h : ForR G C k tg body ds ρ r) (hfs : ∀ env x, foldedSetIterable iter env x = pure x) : St1 G C k ρ (.For tg iter body [] pos) r := fun X hX => by
  refine ps_imp (ps_for (g := fun v σ H Q => ∃ i : PEnv × PyData × List Nat × PEnv, (Tg G C k i.1 tg i.2.2.1 i.2.1 i.2.2.2) ∧ tTg G.K i.1 i.2.2.1 i.2.1 i.2.2.2 v σ H Q) (tb := fun D σ H => ∃ i : PEnv × Out, Blk G C k i.1 body i.2 ∧ tOut G.K i.1 i.2 D σ H)
    (by rw [hX.xe]; exact PassesOwn.never) hX.calm (hi X hX) (pg_un fun i h => h X hX) (pss_un fun i h => h X hX) (hfs _)) fun D σ H ⟨F0, H0, F, S, q⟩ => ⟨F0, H0, F, S, fun J F1 H1 e1 _ sup => ?_⟩
  refine ⟨fun i m σ H => m = ds.length - i ∧ i ≤ ds.length ∧ ∃ ρi Fi, ForR G C k tg body (ds.drop i) ρi r ∧ SRel G.K F0 H0 ρi σ Fi H ∧ Same F1 Fi, ⟨ds.length, by simp, Nat.zero_le _, ρ, F1, by simpa using h, S.go e1, Same.refl _⟩, ?_⟩
  rintro i m σ H2 ⟨rfl, hi2, ρi, Fi, hf, Si, si⟩
  obtain ⟨ρ', F', s2, S2, hh⟩ := hf.peel Si
  have sF := si.trans s2
  obtain ⟨go, stop⟩ := sup F' H2 sF S2.ext.sub
  by_cases hlt : i < ds.length
  · have hd : ds[i]? = some ds[i] := List.getElem?_eq_getElem hlt
    have hdrop : ds.drop i = ds[i] :: ds.drop (i + 1) := List.drop_eq_getElem_cons hlt
    rw [hdrop] at hh
    obtain ⟨is, ρt, ht, hb⟩ := hh
    obtain ⟨g1, g2⟩ := go i _ hd
    refine .inr ⟨g1, fun σ H => i + 1 ≤ ds.length ∧ ∃ ρi Fi, ForR G C k tg body (ds.drop (i + 1)) ρi r ∧ SRel G.K F0 H0 ρi σ Fi H ∧ Same F1 Fi, fun σ' H' ⟨h1, h2⟩ => ⟨ds.length - (i + 1), by omega, rfl, h1, h2⟩, fun x H3 y => ?_⟩
    obtain ⟨F3, e3, rx⟩ := g2 x H3 y
    refine ⟨(ρ', ds[i], is, ρt), ht, F0, H0, F3, S2.go e3, rx, fun σ' off S' => ?_⟩
    have sF3 := sF.trans e3.fs
    rcases hb with ⟨ρ1, hb | hb, hf'⟩ | ⟨ρ1, hb, rfl⟩ | ⟨v, hb, rfl⟩
    · exact ⟨(ρt, _), hb, F0, H0, F3, S', fun σ4 F4 H4 S4 t => ⟨hlt, ρ1, F4, hf', S4, sF3.trans t⟩⟩
    · exact ⟨(ρt, _), hb, F0, H0, F3, S', fun σ4 F4 H4 S4 t => ⟨hlt, ρ1, F4, hf', S4, sF3.trans t⟩⟩
    · exact ⟨(ρt, _), hb, F0, H0, F3, S', fun σ4 F4 H4 S4 t => q σ4 F4 H4 S4 (e1.fs.trans (sF3.trans t))⟩
    · exact ⟨(ρt, _), hb, F0, H0, F3, S', q⟩
  · have e : i = ds.length := by omega
    subst e
    rw [List.drop_length] at hh
    have hh' : r = .nx ρ' := hh
    subst hh'
    exact .inl ⟨stop, q σ F' H2 S2 (e1.fs.trans sF)⟩
/-- the turns of a while, at most n -/
inductive WhileR (G : Gb) (C : SC) (k : Nat) (c : Expr) (body : List Stmt) : Nat → PEnv → Out → Prop
  | done {n : Nat} {ρ : PEnv} : Te G C k ρ c false → WhileR G C k c body n ρ (.nx ρ)
  | nx {n : Nat} {ρ ρ1 : PEnv} {r : Out} : Te G C k ρ c true → Blk G C k ρ body (.nx ρ1) → WhileR G C k c body n ρ1 r → WhileR G C k c body (n + 1) ρ r
  | ct {n : Nat} {ρ ρ1 : PEnv} {r : Out} : Te G C k ρ c true → Blk G C k ρ body (.ct ρ1) → WhileR G C k c body n ρ1 r → WhileR G C k c body (n + 1) ρ r
  | bk {n : Nat} {ρ ρ1 : PEnv} : Te G C k ρ c true → Blk G C k ρ body (.bk ρ1) → WhileR G C k c body n ρ (.nx ρ1)
  | rt {n : Nat} {ρ : PEnv} {v : PyData} : Te G C k ρ c true → Blk G C k ρ body (.rt v) → WhileR G C k c body n ρ (.rt v)
  | weak {n : Nat} {ρ ρ1 : PEnv} {r : Out} : Cov ρ ρ1 → WhileR G C k c body n ρ1 r → WhileR G C k c body n ρ r
def WhileH (G : Gb) (C : SC) (k : Nat) (c : Expr) (body : List Stmt) (n : Nat) (ρ : PEnv) (r : Out) : Prop := (Te G C k ρ c false ∧ r = .nx ρ) ∨ (Te G C k ρ c true ∧
  ((∃ m ρ1, m < n ∧ (Blk G C k ρ body (.nx ρ1) ∨ Blk G C k ρ body (.ct ρ1)) ∧ WhileR G C k c body m ρ1 r) ∨ (∃ ρ1, Blk G C k ρ body (.bk ρ1) ∧ r = .nx ρ1) ∨ ∃ v, Blk G C k ρ body (.rt v) ∧ r = .rt v))
theorem WhileR.peel {body : List Stmt} {n : Nat} {F0 H0 F H : Hp} {σ : L2.St} (h : WhileR G C k c body n ρ r) : SRel G.K F0 H0 ρ σ F H → ∃ ρ' F', Same F F' ∧ SRel G.K F0 H0 ρ' σ F' H ∧ WhileH G C k c body n ρ' r := by
  induction h generalizing F with
  | done t => exact fun S => ⟨_, F, Same.refl _, S, .inl ⟨t, rfl⟩⟩
  | nx t b f _ => exact fun S => ⟨_, F, Same.refl _, S, .inr ⟨t, .inl ⟨_, _, Nat.lt_succ_self _, .inl b, f⟩⟩⟩
  | ct t b f _ => exact fun S => ⟨_, F, Same.refl _, S, .inr ⟨t, .inl ⟨_, _, Nat.lt_succ_self _, .inr b, f⟩⟩⟩
  | bk t b => exact fun S => ⟨_, F, Same.refl _, S, .inr ⟨t, .inr (.inl ⟨_, b, rfl⟩)⟩⟩
  | rt t b => exact fun S => ⟨_, F, Same.refl _, S, .inr ⟨t, .inr (.inr ⟨_, b, rfl⟩)⟩⟩
  | weak c _ ih =>
    intro S
    obtain ⟨F1, s1, S1⟩ := S.weak c
    obtain ⟨ρ', F', s2, S2, h⟩ := ih S1
    exact ⟨ρ', F', s1.trans s2, S2, h⟩
/-- while -/
theorem st_while {body : List Stmt} {n : Nat} (h : WhileR G C k c body n ρ r) : St1 G C k ρ (.While c body [] pos) r := fun X hX => by
  refine ps_imp (ps_while (tc := fun σ H Q => ∃ i : PEnv × Bool, Te G C k i.1 c i.2 ∧ tTe G.K i.1 i.2 σ H Q) (tb := fun D σ H => ∃ i : PEnv × Out, Blk G C k i.1 body i.2 ∧ tOut G.K i.1 i.2 D σ H)
    (by rw [hX.xe]; exact PassesOwn.never) (pt_un fun i h => h X hX) (pss_un fun i h => h X hX)) fun D σ H ⟨F0, H0, F, S, q⟩ => ?_
  refine ⟨fun m σ H => ∃ ρi Fi, WhileR G C k c body m ρi r ∧ SRel G.K F0 H0 ρi σ Fi H ∧ Same F Fi, ⟨n, ρ, F, h, S, Same.refl _⟩, ?_⟩
  rintro m σ H2 ⟨ρi, Fi, hf, Si, si⟩
  obtain ⟨ρ', F', s2, S2, hh⟩ := hf.peel Si
  have sF := si.trans s2
  rcases hh with ⟨ht, rfl⟩ | ⟨ht, hb⟩
  · exact ⟨(ρ', false), ht, F0, H0, F', S2, fun F1 H1 e1 => iteF (q σ F1 H1 (S2.go e1) (sF.trans e1.fs))⟩
  · refine ⟨(ρ', true), ht, F0, H0, F', S2, fun F1 H1 e1 => iteT ⟨fun σ H => ∃ m', m' < m ∧ ∃ ρi Fi, WhileR G C k c body m' ρi r ∧ SRel G.K F0 H0 ρi σ Fi H ∧ Same F Fi, fun σ' H' z => z, ?_⟩⟩
    have S3 := S2.go e1
    have sF3 := sF.trans e1.fs
    rcases hb with ⟨m', ρ1, hm, hb | hb, hf'⟩ | ⟨ρ1, hb, rfl⟩ | ⟨v, hb, rfl⟩
    · exact ⟨(ρ', _), hb, F0, H0, F1, S3, fun σ4 F4 H4 S4 t => ⟨m', hm, ρ1, F4, hf', S4, sF3.trans t⟩⟩
    · exact ⟨(ρ', _), hb, F0, H0, F1, S3, fun σ4 F4 H4 S4 t => ⟨m', hm, ρ1, F4, hf', S4, sF3.trans t⟩⟩
    · exact ⟨(ρ', _), hb, F0, H0, F1, S3, fun σ4 F4 H4 S4 t => q σ4 F4 H4 S4 (sF3.trans t)⟩
    · exact ⟨(ρ', _), hb, F0, H0, F1, S3, q⟩
end
/-! ### defs -/
def startE (N : List Str) (ds : List PyData) : PEnv := ds.map (fun d => some (.sh d)) ++ List.replicate (N.length - ds.length) none
theorem start_rel {K : KK} {F H : Hp} {N : List Str} {vs : List V} {ds : List PyData} (s : Same F H) (r : RpA K F vs ds) : SRel K F H (startE N ds) (L2.start N vs) F H := by
  have hl := r.length
  refine ⟨Ext.refl s, by unfold L2.start startE; simp [hl], fun i d h => ?_, fun i d h => ?_, fun i j d d' a _ h => ?_⟩
  · unfold startE at h
    by_cases hi : i < ds.length
    · rw [List.getElem?_append_left (by simpa using hi), List.getElem?_map, List.getElem?_eq_getElem hi] at h
      cases h
      obtain ⟨v, h1, h2⟩ := r.at (List.getElem?_eq_getElem hi)
      refine ⟨v, ?_, h2⟩
      unfold L2.start
      rw [List.getElem?_append_left (by rw [List.length_map, hl]; exact hi), List.getElem?_map, h1]
      rfl
    · rw [List.getElem?_append_right (by simpa using hi), List.getElem?_replicate] at h
      split at h <;> cases h
  · exfalso
    unfold startE at h
    by_cases hi : i < ds.length
    · rw [List.getElem?_append_left (by simpa using hi), List.getElem?_map, List.getElem?_eq_getElem hi] at h
      cases h
    · rw [List.getElem?_append_right (by simpa using hi), List.getElem?_replicate] at h
      split at h <;> cases h
  · exfalso
    unfold startE at h
    by_cases hi : i < ds.length
    · rw [List.getElem?_append_left (by simpa using hi), List.getElem?_map, List.getElem?_eq_getElem hi] at h
      cases h
    · rw [List.getElem?_append_right (by simpa using hi), List.getElem?_replicate] at h
      split at h <;> cases h
/-- where the def x stands -/
structure At (G : Gb) (x : Str) (params : Arguments) (body : List Stmt) (scope : Scope) (ps : List Str) : Prop where
  ex : ∃ f fd, FunD G.K x x params body scope [] [] f fd ∧ G.mg x = some (.ref f) ∧ Binds G.K fd ps []
/-- how a def ends -/
inductive Ends' : Out → PyData → Prop
  | rt {d : PyData} : Ends' (.rt d) d
  | nx {ρ : PEnv} : Ends' (.nx ρ) .none
theorem fn_def {G : Gb} {x : Str} {params : Arguments} {body : List Stmt} {scope : Scope} {N ps : List Str} {k : Nat} {ds : List PyData} {r : Out} {d : PyData} (F : At G x params body scope ps) (S : FnScope N ps scope) (hl : ds.length = ps.length)
    (hb : Blk G ⟨N, scope, fun _ => true⟩ k (startE N ds) body r) (he : Ends' r d) : Fn G (k + 1) x ds d := by
  obtain ⟨f, fd, F, hm, hB⟩ := F.ex
  refine ⟨f, fd, ps, F.ok S (fun vs H Q E h => ?_) (fun cdv A outer s H vs Q E hr h => ?_), hm, F.kp, hB⟩
  · obtain ⟨F', _, r, _⟩ := h
    rw [r.length]; exact hl
  · obtain ⟨F', sF, ra, q⟩ := h
    have hX : CxOk G ⟨N, scope, fun _ => true⟩ k (cxOf CX0 G.P G.w G.K G.mg G.base N x scope f cdv A outer s H E).nox :=
      ⟨rfl, rfl, rfl, rfl, rfl, rfl, rfl, rfl, hr, S.nd, fun _ _ => rfl, rfl⟩
    refine ⟨_, (hb _ hX).nox, F', H, F', start_rel sF ra, ?_⟩
    cases he with
    | rt => exact fun v F2 H2 e2 r2 => q v F2 H2 e2 r2
    | nx => exact fun σ F2 H2 S2 _ => q .non F2 H2 S2.ext .non
end Pl
/-! Pl, part I: enumerate, zip, reversed; isinstance. -/
namespace Pl
open PySem PySem.Spec PyProof.Rows L2

section
variable {prog : Program} {w : World} {A : Around} {E : Value → Shared → Prop} {s : Shared}
theorem drawsT (hh : A.handled = none) (it l : Addr) (hne : l ≠ it) (vs : Array Value) : Draws prog w A it [it, l] vs.size (fun i v => vs[i]? = some v) (fun i h => h.IsTupleIter it l i ∧ h.IsTuple l vs) :=
  ⟨fun _ _ z => z.1.elim fun o q => ⟨o, q.1⟩, fun _ _ _ z hk => ⟨z.1.at fun o e => hk it (by simp) o e, z.2.at fun o e => hk l (by simp) o e⟩,
   fun i s Q E hi z hQ => RZ.nextOf_tuple_item z.1 z.2 (x := vs[i]) (by simp [hi]) fun h' hit hs => hQ _ h' s.toks (by simp [hi]) ⟨hit, z.2.at fun o e => (hs.2 l hne).trans e⟩ hs,
   fun s Q E z hE => RZ.nextOf_tuple_end hh z.1 z.2 (by simp) hE⟩
theorem enumNewT (l : Addr) (vs : Array Value) : Meets (Builtin.«enumerate.__new__» ⟨[.type "enumerate", .ref l], []⟩) (fun _ R s => s.heap.IsTuple l vs ∧
      R (.ok (.ret (.ref (s.heap.push { cls := .type "tuple_iterator", data := .fields #[.ref l, .int 0 0] }).objs.size)))
        { s with heap := (s.heap.push { cls := .type "tuple_iterator", data := .fields #[.ref l, .int 0 0] }).push { cls := .type "enumerate", data := .fields #[.none, .bool false, .ref s.heap.objs.size, rawInt 0, .none, .none] } }) := .of_wp fun prog w A R s h => by
  obtain ⟨hp, g, d, tk, os⟩ := s; obtain ⟨hl, h⟩ := h; have hsub := sub_enumerate
  obtain ⟨o, ho, hc, n, hd⟩ := id hl
  wp_walk
  refine wpAny_stack_any fun st => wpAny_pure ?_
  split
  · rename_i c _ _ _ _ _
    cases (c == Value.type "enumerate") <;> (wp_walk using wpAny_pyIter_tuple hl; exact ⟨_, rfl, h⟩)
  · wp_walk using wpAny_pyIter_tuple hl; exact ⟨_, rfl, h⟩
theorem callEnumT {l : Addr} {vs : Array Value} {Q : Value → Shared → Prop} (hL : s.heap.IsTuple l vs)
    (h : ∀ h', IsEnum h' (s.heap.objs.size + 1) s.heap.objs.size 0 .none → h'.IsTupleIter s.heap.objs.size l 0 → h'.objs.size = s.heap.objs.size + 2 → (∀ b o, s.heap.get? b = some o → h'.get? b = some o) →
      Q (.ref (s.heap.objs.size + 1)) { s with heap := h' }) : wpAny (model prog w) A (call (.type "enumerate") [.ref l]) Q E s := by
  refine callType_new F.called_enumerate (by decide) (F.typeCall_enumerate_1 _) (F.newCall_enumerate_1 _) (fun x => F.args_object_init_2 x _) F.entry_enumerate_new (enumNewT l vs) ⟨hL, ?_⟩
  generalize hg : s.heap.push { cls := .type "tuple_iterator", data := .fields #[.ref l, .int 0 0] } = h1
  have z1 : h1.objs.size = s.heap.objs.size + 1 := by rw [← hg]; exact Heap.size_push ..
  have he := Heap.get?_push_size h1 (o := { cls := .type "enumerate", data := .fields #[.none, .bool false, .ref s.heap.objs.size, rawInt 0, .none, .none] }) rfl
  rw [z1] at he
  show _ ∧ _
  rw [z1]
  exact ⟨⟨_, he, rfl⟩, h _ he ⟨_, Heap.get?_push_of_some _ (by rw [← hg]; exact Heap.get?_push_size _ rfl), rfl, rfl⟩ (by rw [Heap.size_push, z1]) fun b o x => Heap.get?_push_of_some _ (by rw [← hg]; exact Heap.get?_push_of_some _ x)⟩
end

/-- the tuple at a, each item in a new pair -/
def IteT (K : KK) (a : Addr) : It where
  go := fun i H => ∃ (xs : List V) (x : V), SqT K H a xs ∧ xs[i]? = some x
  yld := fun i H v H' => ∃ T x, v = .ref T ∧ H T = none ∧ H' = upd H T (.tup [.int (i : Nat), x]) ∧ ∀ xs, SqT K H a xs → xs[i]? = some x
  stop := fun i H => ∃ xs : List V, SqT K H a xs ∧ xs.length = i
theorem turn_enumT {P : Program} {w : World} {K : KK} {elts : List Expr} {kk : Nat} {tp : Pos} (a e it : Addr) :
    Turn P w K (.Tuple elts kk tp) (IteT K a) [e, it] e (fun i h => (∃ old, IsEnum h e it ((i : Nat) : Int) old) ∧ h.IsTupleIter it a i ∧ e ≠ it ∧ a ≠ it ∧ a ≠ e) where
  mem := List.mem_cons_self
  obj := fun i h z b hb => by
    obtain ⟨⟨old, he⟩, ⟨o, ho, hc, hd⟩, _⟩ := z
    rcases List.mem_cons.mp hb with rfl | hb
    · exact ⟨_, he, fun v q => nomatch q⟩
    · rw [List.mem_singleton.mp hb]; exact ⟨o, ho, fun v q => by rw [hd] at q; cases q⟩
  keep := fun i h h' z k => ⟨z.1.imp fun old q => k e (by simp) _ q, z.2.1.at fun o q => k it (by simp) o q, z.2.2⟩
  item := by
    intro X hP hw hK hc i pins s σ H E I hf z hg; subst hP hw hK
    obtain ⟨⟨old, he⟩, hit, hne, hai, hae⟩ := z; obtain ⟨xs, x, hq, hx⟩ := hg
    obtain ⟨us, rv, p, hz⟩ := I.tuple hq; obtain ⟨u, hu, ru⟩ := rv.get hx
    have hel := Heap.lt_size he
    have hil : it < s.heap.objs.size := hit.elim fun _ q => Heap.lt_size q.1
    have hiu : i < us.toArray.size := by rw [List.size_toArray]; exact (List.getElem?_eq_some_iff.mp hu).1
    refine wpAny_pyNext_enum_itemD (drawsT (A := X.A.in1) (show X.A.in1.handled = none from I.ok.hd hc) it a hai us.toArray) he ⟨hit, p⟩ hiu hne (by simp [hne, Ne.symm hae]) fun y h1 tk hy ho hz1 hT hsz hk => ⟨_, rfl, ?_⟩
    have ey : y = u := by rw [← Array.getElem?_toList, hu] at hy; exact (Option.some.inj hy).symm
    subst ey
    refine wpAny_letOwnedTupleGo_enum (s := { s with heap := h1, toks := tk + 1 }) ho fun h2 he2 sb => ?_
    have new : ObjOk X.prog X.w (upd H s.heap.objs.size (.tup [.int (i : Nat), x])) h2 s.heap.objs.size (.tup [.int (i : Nat), x]) :=
      ⟨(by decide : 2 ≤ sizeLine), [.int i tk, y], .cons ⟨_, rfl⟩ (.cons ru .nil), _, (sb.2 _ (Nat.ne_of_gt hel)).trans hT, rfl, _, rfl⟩
    have I1 := I.turnedNew (t' := tk + 1) (ch := [e, it]) (fun b ob hb q => (sb.2 b (fun z => hb (by simp [z]))).trans (hk b ob (fun z => hb (by simp [z])) (fun z => hb (by simp [z])) q)) hf (Nat.le_refl _) new
    have ei : ((i + 1 : Nat) : Int) = (i : Int) + 1 := rfl
    exact ⟨.ref s.heap.objs.size, _, I1, rfl, ⟨_, x, rfl, I.hok.fresh (Nat.le_refl _), rfl, fun ys hy => by rw [I.tuple_inj hy hq]; exact hx⟩,
      ⟨⟨y, by rw [ei]; exact he2⟩, hz1.1.at fun o q => (sb.2 it (Ne.symm hne)).trans q, hne, hai, hae⟩, fun b hb => by
        have lt : b < s.heap.objs.size := by
          rcases List.mem_cons.mp hb with rfl | hb
          · exact hel
          · rw [List.mem_singleton.mp hb]; exact hil
        rw [upd_ne (Nat.ne_of_lt lt)]; exact (hf b hb).1⟩
  done := by
    intro X hP hw hK hc i pins s σ H E I hf z hg; subst hP hw hK
    obtain ⟨⟨old, he⟩, hit, hne, hai, hae⟩ := z; obtain ⟨xs, hq, hx⟩ := hg
    obtain ⟨us, rv, p, hz⟩ := I.tuple hq
    have hl := rv.length
    obtain ⟨f0, f1, f2, f3, f4, f5⟩ := hf it (by simp)
    have D := drawsT (prog := X.prog) (w := X.w) (A := X.A.in1) (show X.A.in1.handled = none from I.ok.hd hc) it a hai us.toArray
    have ei : i = us.toArray.size := by rw [List.size_toArray]; omega
    subst ei
    exact wpAny_pyNext_enum_endD D he ⟨hit, p⟩ fun h' eb => ⟨rfl, I.turned (t' := s.toks) (fun b o hb q => eb b o hb q) f0 f1 f3 f4 f5⟩
  self := fun A i s Q E z h => z.1.elim fun _ he => wpAny_pyIter_enum he h
def iEnumT (K : KK) (ta : TA) : TI := fun σ H R => ta σ H fun vs H1 => ∃ a xs, vs = [.ref a] ∧ SqT K H1 a xs ∧ R (IteT K a) H1
theorem pi_enumT {X : Cx} {e : Expr} {ta : TA} {p pos tp : Pos} {elts : List Expr} {kk : Nat} (hg : Gl X "enumerate") (hm : X.mg "enumerate" = none) (ha : PA X [e] ta) (hs : starEach [e] X.env = [(false, eval e X.env)]) :
    PI X (.Tuple elts kk tp) (.Call (.Name "enumerate" p) [e] [] pos) (iEnumT X.K ta) := ⟨fun pins s σ H R I h => by
  refine Call_ (ld_blt I hg hm boot_enumerate (PyProof.Rows.callWith_type1 (thn (ha.run pos pins s σ H _ I h) fun us s1 ⟨vs, H1, I1, r1, q1⟩ => ?_) hs rfl))
  obtain ⟨a, xs, rfl, hq, q⟩ := q1
  rw [Vals.ref1 r1]
  obtain ⟨its, rv, p', hz⟩ := I1.tuple hq
  have ha : a < s1.heap.objs.size := p'.lt
  refine callEnumT (show s1.heap.IsTuple a its.toArray from p') fun h' he hit hsz hk => wpAny_pyIter_enum he ?_
  refine ⟨s1.heap.objs.size + 1, [s1.heap.objs.size + 1, s1.heap.objs.size], _, _, H1, rfl, I1.kept (t' := s1.toks) hk, turn_enumT a (s1.heap.objs.size + 1) s1.heap.objs.size, ⟨⟨.none, he⟩, hit, Nat.succ_ne_self _, Nat.ne_of_lt ha, Nat.ne_of_lt (Nat.lt_succ_of_lt ha)⟩, fun b hb => ?_, q⟩
  have le : s1.heap.objs.size ≤ b := by rcases List.mem_cons.mp hb with rfl | hb; exact Nat.le_succ _; exact Nat.le_of_eq (List.mem_singleton.mp hb).symm
  exact I1.fpOk le (I1.hok.fresh le)⟩
theorem walk_enumT {K : KK} {a : Addr} {xs : List V} : Walk (IteT K a) xs.length (fun H => SqT K H a xs) (YPair (fun i => some (.int (i : Nat))) (fun i => xs[i]?)) :=
  ⟨fun i _ hi q => ⟨xs, xs[i], q, by simp [hi]⟩, fun _ q => ⟨xs, q, rfl⟩, fun i H v H' _ q y => let ⟨T, x, h1, h2, h3, h4⟩ := y; ⟨T, .int (i : Nat), x, h1, h2, h3, rfl, h4 xs q⟩⟩

/-- (0, x), (1, y), .. -/
def enumD (ds : List PyData) : List PyData := (ds.zipIdx).map fun p => .tuple [.int (p.2 : Nat), p.1]
theorem enumD_len (ds : List PyData) : ds.length = (enumD ds).length := by unfold enumD; simp
theorem enumD_get {ds : List PyData} {i : Nat} {d : PyData} (h : (enumD ds)[i]? = some d) : ∃ x, ds[i]? = some x ∧ d = .tuple [.int (i : Nat), x] := by
  unfold enumD at h
  rw [List.getElem?_map, List.getElem?_zipIdx] at h
  cases e : ds[i]? with
  | none => rw [e] at h; simp at h
  | some x => rw [e] at h; simp at h; exact ⟨x, rfl, h.symm⟩
def zipD (ds es : List PyData) : List PyData := List.zipWith (fun x y => .tuple [x, y]) ds es
theorem zipD_len (ds es : List PyData) : min ds.length es.length = (zipD ds es).length := by unfold zipD; simp
theorem zipD_get {ds es : List PyData} {i : Nat} {d : PyData} (h : (zipD ds es)[i]? = some d) : ∃ x y, ds[i]? = some x ∧ es[i]? = some y ∧ d = .tuple [x, y] := by
  unfold zipD at h
  rw [List.getElem?_zipWith] at h
  cases e : ds[i]? with
  | none => rw [e] at h; simp at h
  | some x =>
    cases e2 : es[i]? with
    | none => rw [e, e2] at h; simp at h
    | some y => rw [e, e2] at h; simp at h; exact ⟨x, y, rfl, rfl, h.symm⟩
section
variable {K : KK}
/-- a new pair -/
theorem pair_new {F H : Hp} {T : Addr} {x y : V} {a b : PyData} (sF : Same F H) (hT : H T = none) (rx : Rp K F x a) (ry : Rp K F y b) : ∃ F', Ext F H F' (upd H T (.tup [x, y])) ∧ Rp K F' (.ref T) (.tuple [a, b]) :=
  ⟨upd F T (.tup [x, y]), Ext.lay sF hT, .tup (.inl (.inl upd_same)) ((RpA.cons rx (.cons ry .nil)).mono (same_upd (sF.free hT)))⟩
end
section
variable {G : Gb} {C : SC} {k : Nat} {ρ ρ1 ρ2 : PEnv} {e e2 : Expr} {elts es : List Expr} {d : PyData} {ds : List PyData} {pos p tp : Pos} {kk : Nat}
theorem it_enum (hg : C.sc.names.lookup ("enumerate" : Str) = some .globalImplicit) (hm : G.mg "enumerate" = none) (h : Ev G C k ρ e (.list ds)) (hs : ∀ env, starEach [e] env = [(false, eval e env)]) :
    It' G C k ρ (.Tuple elts kk tp) (.Call (.Name "enumerate" p) [e] [] pos) (enumD ds) (ds.length ≤ sizeLine) := fun X hX =>
  pi_imp (pi_enum (by unfold Gl Env.kindOf; rw [hX.es]; exact hg) (by rw [hX.em]; exact hm) (pa_cons (pe_bd (h X hX)) pa_nil (by rw [hs]; rfl)) (hs _)) fun σ H R ⟨F0, H0, F, S, q⟩ => ⟨F0, H0, F, S, fun v F1 H1 e1 r1 bd => by
    rw [hX.eK] at bd ⊢
    cases r1 with
    | @lst a xs _ h1 h2 =>
      refine ⟨_, xs, rfl, e1.sub.seq h1, q _ F1 H1 e1 (by rw [← h2.length]; exact bd _ _ (.inl (e1.sub.seq h1))) (sup_walk (walk_enum (xs := xs)) (by rw [h2.length, enumD_len]) (fun F2 H2 s sF => (s.trans sF).seq h1) fun F2 H2 i x d H' s sF hd y => ?_)⟩
      obtain ⟨T, u, v, rfl, hT, rfl, hu, hv⟩ := y
      cases hu
      obtain ⟨d1, hd1, rfl⟩ := enumD_get hd
      obtain ⟨d2, hd2, r⟩ := h2.get hv
      rw [hd1] at hd2
      cases hd2
      exact pair_new sF hT (.int _) (r.mono s)⟩
theorem it_enumT (hg : C.sc.names.lookup ("enumerate" : Str) = some .globalImplicit) (hm : G.mg "enumerate" = none) (h : Ev G C k ρ e (.tuple ds)) (hs : ∀ env, starEach [e] env = [(false, eval e env)]) :
    It' G C k ρ (.Tuple elts kk tp) (.Call (.Name "enumerate" p) [e] [] pos) (enumD ds) (ds.length ≤ sizeLine) := fun X hX =>
  pi_imp (pi_enumT (by unfold Gl Env.kindOf; rw [hX.es]; exact hg) (by rw [hX.em]; exact hm) (pa_cons (pe_bd (h X hX)) pa_nil (by rw [hs]; rfl)) (hs _)) fun σ H R ⟨F0, H0, F, S, q⟩ => ⟨F0, H0, F, S, fun v F1 H1 e1 r1 bd => by
    rw [hX.eK] at bd ⊢
    cases r1 with
    | @tup a xs _ h1 h2 =>
      refine ⟨_, xs, rfl, same_tup e1.sub h1, q _ F1 H1 e1 (by rw [← h2.length]; exact bd _ _ (.inr (same_tup e1.sub h1))) (sup_walk (walk_enumT (xs := xs)) (by rw [h2.length, enumD_len]) (fun F2 H2 s sF => same_tup (s.trans sF) h1) fun F2 H2 i x d H' s sF hd y => ?_)⟩
      obtain ⟨T, u, v, rfl, hT, rfl, hu, hv⟩ := y
      cases hu
      obtain ⟨d1, hd1, rfl⟩ := enumD_get hd
      obtain ⟨d2, hd2, r⟩ := h2.get hv
      rw [hd1] at hd2
      cases hd2
      exact pair_new sF hT (.int _) (r.mono s)⟩
theorem it_zip {es' : List PyData} (hg : C.sc.names.lookup ("zip" : Str) = some .globalImplicit) (hm : G.mg "zip" = none) (h : Ev G C k ρ e (.list ds)) (h' : Ev G C k ρ e2 (.list es')) (hs : ∀ env, starEach [e, e2] env = (false, eval e env) :: starEach [e2] env) (hs2 : ∀ env, starEach [e2] env = [(false, eval e2 env)]) :
    It' G C k ρ (.Tuple elts kk tp) (.Call (.Name "zip" p) [e, e2] [] pos) (zipD ds es') (ds.length ≤ sizeLine ∧ es'.length ≤ sizeLine) := fun X hX =>
  pi_imp (RZ.pi_zipA (by unfold Gl Env.kindOf; rw [hX.es]; exact hg) (by rw [hX.em]; exact hm) (pa_cons (h X hX) (pa_cons (pe_bd (h' X hX)) pa_nil (by rw [hs2]; rfl)) (hs _)) (hs _) (by rw [hs2]; rfl)) fun σ H R ⟨F0, H0, F, S, q⟩ => ⟨F0, H0, F, S, fun v F1 H1 e1 r1 => ⟨F0, H0, F1, S.go e1, fun v2 F2 H2 e2 r2 bd => by
    rw [hX.eK] at bd ⊢
    cases r1.mono e2.fs with
    | @lst a xs _ h1 h2 =>
      cases r2 with
      | @lst b ys _ h3 h4 =>
        refine ⟨_, _, xs, ys, rfl, .inl ⟨e2.sub.seq h1, e2.sub.seq h3, q _ F2 H2 (e1.trans e2) ⟨by rw [← h2.length]; exact bd _ _ (.inl (e2.sub.seq h1)), by rw [← h4.length]; exact bd _ _ (.inl (e2.sub.seq h3))⟩
          (sup_walk (walk_zip (xs := xs) (ys := ys) rfl) (by rw [h2.length, h4.length, zipD_len]) (fun F3 H3 s sF => ⟨(s.trans sF).seq h1, (s.trans sF).seq h3⟩) fun F3 H3 i x d H' s sF hd y => ?_)⟩⟩
        obtain ⟨T, u, v, rfl, hT, rfl, hu, hv⟩ := y
        obtain ⟨d1, d2, hd1, hd2, rfl⟩ := zipD_get hd
        obtain ⟨d3, hd3, r⟩ := h2.get hu
        obtain ⟨d4, hd4, r'⟩ := h4.get hv
        rw [hd1] at hd3
        rw [hd2] at hd4
        cases hd3
        cases hd4
        exact pair_new sF hT (r.mono s) (r'.mono s)⟩⟩
theorem walk_zipT {a b : Addr} {xs ys : List V} {n : Nat} (hn : n = min xs.length ys.length) : Walk (RZ.ItzT G.K a b) n (fun H => SqT G.K H a xs ∧ SqT G.K H b ys) (YPair (fun i => xs[i]?) (fun i => ys[i]?)) := by
  subst hn
  refine ⟨fun i _ hi q => ?_, fun _ q => ⟨xs, ys, q.1, q.2, by omega⟩, fun i H v H' _ q y => ?_⟩
  · have h1 : i < xs.length := by omega
    have h2 : i < ys.length := by omega
    exact ⟨xs, ys, xs[i], ys[i], q.1, q.2, by simp [h1], by simp [h2]⟩
  · obtain ⟨T, x, z, h1, h2, h3, h4, h5⟩ := y
    exact ⟨T, x, z, h1, h2, h3, h4 xs q.1, h5 ys q.2⟩
theorem it_zipT {es' : List PyData} (hg : C.sc.names.lookup ("zip" : Str) = some .globalImplicit) (hm : G.mg "zip" = none) (h : Ev G C k ρ e (.tuple ds)) (h' : Ev G C k ρ e2 (.tuple es')) (hs : ∀ env, starEach [e, e2] env = (false, eval e env) :: starEach [e2] env) (hs2 : ∀ env, starEach [e2] env = [(false, eval e2 env)]) :
    It' G C k ρ (.Tuple elts kk tp) (.Call (.Name "zip" p) [e, e2] [] pos) (zipD ds es') (ds.length ≤ sizeLine ∧ es'.length ≤ sizeLine) := fun X hX =>
  pi_imp (RZ.pi_zipA (by unfold Gl Env.kindOf; rw [hX.es]; exact hg) (by rw [hX.em]; exact hm) (pa_cons (h X hX) (pa_cons (pe_bd (h' X hX)) pa_nil (by rw [hs2]; rfl)) (hs _)) (hs _) (by rw [hs2]; rfl)) fun σ H R ⟨F0, H0, F, S, q⟩ => ⟨F0, H0, F, S, fun v F1 H1 e1 r1 => ⟨F0, H0, F1, S.go e1, fun v2 F2 H2 e2 r2 bd => by
    rw [hX.eK] at bd ⊢
    cases r1.mono e2.fs with
    | @tup a xs _ h1 h2 =>
      cases r2 with
      | @tup b ys _ h3 h4 =>
        refine ⟨_, _, xs, ys, rfl, .inr ⟨same_tup e2.sub h1, same_tup e2.sub h3, q _ F2 H2 (e1.trans e2) ⟨by rw [← h2.length]; exact bd _ _ (.inr (same_tup e2.sub h1)), by rw [← h4.length]; exact bd _ _ (.inr (same_tup e2.sub h3))⟩
          (sup_walk (walk_zipT (G := G) (xs := xs) (ys := ys) rfl) (by rw [h2.length, h4.length, zipD_len]) (fun F3 H3 s sF => ⟨same_tup (s.trans sF) h1, same_tup (s.trans sF) h3⟩) fun F3 H3 i x d H' s sF hd y => ?_)⟩⟩
        obtain ⟨T, u, v, rfl, hT, rfl, hu, hv⟩ := y
        obtain ⟨d1, d2, hd1, hd2, rfl⟩ := zipD_get hd
        obtain ⟨d3, hd3, r⟩ := h2.get hu
        obtain ⟨d4, hd4, r'⟩ := h4.get hv
        rw [hd1] at hd3
        rw [hd2] at hd4
        cases hd3
        cases hd4
        exact pair_new sF hT (r.mono s) (r'.mono s)⟩⟩
/-! ### isinstance -/
/-- a datum's type -/
def tyD : PyData → String
  | .none => "NoneType"
  | .bool _ => "bool"
  | .int _ => "int"
  | .str _ => "str"
  | .list _ => "list"
  | .tuple _ => "tuple"
  | .dict _ => "dict"
theorem tyX_of {K : KK} {F H : Hp} {v : V} {d : PyData} (h : RpB K F H v d) (s : Same F H) : TyX K H v (.type (tyD d)) := by
  have r := h.full s
  cases r with
  | non => exact .base .non
  | bl b => exact .base (.bl b)
  | int i => exact .base (.int i)
  | str x => exact .base (.str x)
  | lst q _ =>
    rcases q with (q | ⟨o, q⟩) | ⟨o, its, n, h1, h2, _⟩
    · exact .base (.lst q)
    · exact .base (.frz q)
    · exact .kList h1 h2
  | tup q _ =>
    rcases q with (q | ⟨o, q⟩) | ⟨o, its, n, h1, h2, _⟩
    · exact .base (.tup q)
    · exact .fTuple q
    · exact .kTuple h1 h2
  | dK q _ => exact .base (.dK q)
  | dT q _ => exact .base (.dT q)
theorem ev_isi {x : Str} {T : String} {p1 p2 : Pos} {b : Bool} (h : EvB G C k ρ e d) (hk : kitB (tyD d) T = some b) (hg : C.sc.names.lookup ("isinstance" : Str) = some .globalImplicit) (hm : G.mg "isinstance" = none)
    (hgT : C.sc.names.lookup x = some .globalImplicit) (hmT : G.mg x = none) (hv : bootBuiltins x = some (.type T)) (hn : x ≠ "__name__") (hd : (x == ("__debug__" : Str)) = false)
    (hs : ∀ env, starEach [e, .Name x p2] env = (false, eval e env) :: starEach [.Name x p2] env) : Ev G C k ρ (.Call (.Name "isinstance" p1) [e, .Name x p2] [] pos) (.bool b) := fun X hX =>
  pe_imp (pe_callB call_isi (by unfold Gl Env.kindOf; rw [hX.es]; exact hg) (by rw [hX.em]; exact hm) (by decide +kernel) (pa_cons (h X hX) (pa_cons (pe_bltn (v := .ty T) (by unfold Gl Env.kindOf; rw [hX.es]; exact hgT) (by rw [hX.em]; exact hmT) hv rfl hn hd) pa_nil rfl) (hs _)) (by decide) (by decide) (hs _) rfl)
    fun σ H Q ⟨F0, H0, F, S, q⟩ => ⟨F0, H0, F, S, fun v F1 H1 e1 r1 => by
      rw [hX.eK]
      exact ⟨v, .ty T, _, _, b, rfl, .ty T, tyX_of r1 e1.sub, kit_ty hk, q _ F1 H1 e1 (.bl b)⟩⟩
end
end Pl
/-! Pl, part J: several names at once, each shared or owned. -/
namespace Pl
open PySem PySem.Spec PyProof.Rows L2

/-- v stands for what a slot is to hold; a new object is none of Hs -/
def RpS (K : KK) (Hs F H : Hp) (v : V) : SV → Prop
  | .sh d => Rp K F v d
  | .ow d => ∃ a o, v = .ref a ∧ H a = some o ∧ OwnAt K F o d ∧ F a = none ∧ Hs a = none
def tEvS (K : KK) (ρ : PEnv) (x : SV) : TE := fun σ H Q => ∃ F0 H0 F, SRel K F0 H0 ρ σ F H ∧ ∀ v F' H', Ext F H F' H' → RpS K H F' H' v x → Q v H'
def EvS (G : Gb) (C : SC) (k : Nat) (ρ : PEnv) (e : Expr) (x : SV) : Prop := ∀ X, CxOk G C k X → PE X e (tEvS G.K ρ x)
section
variable {K : KK} {Hs F0 H0 F H F' H' : Hp} {ρ : PEnv} {σ : L2.St} {v : V} {x : SV}
theorem keepsOwn {a : Addr} {o : HO} {d : PyData} (e : Ext F H F' H') (ha : H a = some o) (r : OwnAt K F o d) (hf : F a = none) : F' a = none := by
  cases q : F' a with
  | none => rfl
  | some u =>
    rcases e.new a u q with z | z | z
    · rw [hf] at z; cases z
    · rw [ha] at z; cases z
    · have z2 := (e.hs _ _ ha).symm.trans (e.sub _ _ q)
      cases z2
      cases r <;> cases z
theorem RpS.ext (h : RpS K Hs F H v x) (e : Ext F H F' H') : RpS K Hs F' H' v x := by
  cases x with
  | sh d => exact Rp.mono e.fs h
  | ow d =>
    obtain ⟨a, o, rfl, h1, h2, h3, h4⟩ := h
    exact ⟨a, o, rfl, e.hs _ _ h1, h2.mono e.fs, keepsOwn e h1 h2 h3, h4⟩
/-- no slot owns what v names -/
def Free' (ρ : PEnv) (σ : L2.St) (v : V) : Prop := ∀ (j : Nat) d, ρ[j]? = some (some (.ow d)) → σ[j]? = some (some v) → False
theorem SRel.setS (S : SRel K F0 H0 ρ σ F H) {i : Nat} (r : RpS K Hs F H v x) (h0 : Same H0 Hs) (hn : (∃ d, x = .ow d) → Free' ρ σ v) : SRel K F0 H0 (ρ.set i (some x)) (σ.set i (some v)) F H := by
  cases x with
  | sh d => exact S.put r
  | ow d =>
    obtain ⟨a, o, rfl, h1, h2, h3, h4⟩ := r
    have hfree := hn ⟨d, rfl⟩
    have out : ∀ {j : Nat} {y : SV}, (ρ.set i (some (.ow d)))[j]? = some (some y) → (i = j ∧ i < ρ.length ∧ y = .ow d) ∨ (i ≠ j ∧ ρ[j]? = some (some y)) := fun {j y} h => by
      by_cases hj : i = j
      · subst hj
        by_cases hl : i < ρ.length
        · rw [List.getElem?_set_self hl] at h; cases h; exact .inl ⟨rfl, hl, rfl⟩
        · rw [List.getElem?_eq_none (by simpa using hl)] at h; cases h
      · rw [List.getElem?_set_ne hj] at h; exact .inr ⟨hj, h⟩
    refine ⟨S.ext, by rw [List.length_set, List.length_set, S.len], fun j d' h => ?_, fun j d' h => ?_, fun j l d1 d2 b hjl q1 q2 q3 q4 => ?_⟩
    · rcases out h with ⟨_, _, z⟩ | ⟨hj, h⟩
      · cases z
      · rw [List.getElem?_set_ne hj]; exact S.sh j d' h
    · rcases out h with ⟨rfl, hl, z⟩ | ⟨hj, h⟩
      · cases z
        exact ⟨a, o, List.getElem?_set_self (by rw [S.len]; exact hl), h1, h2, h3, h0.free h4⟩
      · rw [List.getElem?_set_ne hj]; exact S.ow j d' h
    · rcases out q1 with ⟨rfl, hl, z⟩ | ⟨hj, p1⟩
      · rcases out q2 with ⟨rfl, _, _⟩ | ⟨hj2, p2⟩
        · exact hjl rfl
        · rw [List.getElem?_set_self (by rw [S.len]; exact hl)] at q3
          cases q3
          rw [List.getElem?_set_ne hj2] at q4
          exact hfree l d2 p2 q4
      · rw [List.getElem?_set_ne hj] at q3
        rcases out q2 with ⟨rfl, hl, z⟩ | ⟨hj2, p2⟩
        · rw [List.getElem?_set_self (by rw [S.len]; exact hl)] at q4
          cases q4
          exact hfree j d1 p1 q3
        · rw [List.getElem?_set_ne hj2] at q4
          exact S.apart j l d1 d2 b hjl p1 p2 q3 q4
/-- a new object is none that a slot owned -/
theorem free_new (S : SRel K F0 H0 ρ σ F H) (e : Ext F H F' H') (r : RpS K H F' H' v x) : (∃ d, x = .ow d) → Free' ρ σ v := fun ⟨d, z⟩ j d' h1 h2 => by
  subst z
  obtain ⟨a, o, rfl, _, _, _, h4⟩ := r
  obtain ⟨b, u, q1, q2, _⟩ := S.ow j d' h1
  rw [q1] at h2
  cases h2
  rw [h4] at q2; cases q2
end
section
variable {G : Gb} {C : SC} {k : Nat} {ρ : PEnv} {e e1 e2 e3 : Expr} {d : PyData} {x1 x2 x3 : SV} {pos : Pos}
theorem Ev.s (h : Ev G C k ρ e d) : EvS G C k ρ e (.sh d) := fun X hX => pe_imp (h X hX) fun σ H Q ⟨F0, H0, F, S, q⟩ => ⟨F0, H0, F, S, fun v F' H' x r => q v F' H' x r⟩
theorem EvN.s (h : EvN G C k ρ e d) : EvS G C k ρ e (.ow d) := fun X hX => pe_imp (h X hX) fun σ H Q ⟨F0, H0, F, S, q⟩ => ⟨F0, H0, F, S, fun a o F' H' x hn ha hf r => q _ F' H' x ⟨a, o, rfl, ha, r, hf, hn⟩⟩
/-- two different new objects -/
theorem apart2 {K : KK} {F H F1 H1 F2 H2 : Hp} {v w : V} {j : Nat} {ρ : PEnv} {σ : L2.St} (h1 : RpS K H F1 H1 v x1) (h2 : RpS K H1 F2 H2 w x2) (hf : (∃ d, x2 = .ow d) → Free' ρ σ w) : (∃ d, x2 = .ow d) → Free' (ρ.set j (some x1)) (σ.set j (some v)) w := fun ho l d' q1 q2 => by
  have h0 := hf ho
  obtain ⟨d2, rfl⟩ := ho
  obtain ⟨b, o, rfl, _, _, _, n2⟩ := h2
  by_cases hj : j = l
  · subst hj
    by_cases hl : j < ρ.length
    · rw [List.getElem?_set_self hl] at q1
      cases q1
      obtain ⟨a, o1, rfl, m1, _⟩ := h1
      by_cases hs : j < σ.length
      · rw [List.getElem?_set_self hs] at q2
        cases q2
        rw [n2] at m1; cases m1
      · rw [List.getElem?_eq_none (by simpa using hs)] at q2; cases q2
    · rw [List.getElem?_eq_none (by simpa using hl)] at q1; cases q1
  · rw [List.getElem?_set_ne hj] at q1 q2
    exact h0 l d' q1 q2
/-- x, y = e1, e2 (plain local names) -/
theorem st_par {i j : Nat} {x y : Str} {px py pt : Pos} {kt k2 pt2} (hi : C.N[i]? = some x) (hj : C.N[j]? = some y) (hij : i ≠ j) (hx : C.sc.names.lookup x = some .local) (hy : C.sc.names.lookup y = some .local) (h1 : EvS G C k ρ e1 x1) (h2 : EvS G C k ρ e2 x2)
    (hw : ∀ env : Env, env.scope = C.sc → swappedStores [.Tuple [.Name x px, .Name y py] kt pt] (.Tuple [e1, e2] k2 pt2) env = pure (some [x, y]))
    (hs : ∀ env, swapsWithSole [.Tuple [.Name x px, .Name y py] kt pt] (.Tuple [e1, e2] k2 pt2) pos.line env = pure false) (hs1 : ∀ env, starEach [e1, e2] env = (false, eval e1 env) :: starEach [e2] env) (hs2 : ∀ env, starEach [e2] env = (false, eval e2 env) :: starEach [] env) :
    St1 G C k ρ (.Assign [.Tuple [.Name x px, .Name y py] kt pt] (.Tuple [e1, e2] k2 pt2) pos) (.nx ((ρ.set i (some x1)).set j (some x2))) := fun X hX =>
  ps_imp (ps_par hX.calm (by rw [hX.eN]; exact hX.nd) (by rw [hX.eN]; exact hi) (by rw [hX.eN]; exact hj) hij (by rw [hX.es]; exact hx) (by rw [hX.es]; exact hy) (pa_cons (h1 X hX) (pa_cons (h2 X hX) pa_nil (hs2 _)) (hs1 _)) (hw _ hX.es) (hs _)) fun D σ H ⟨F0, H0, F, S, q⟩ =>
    ⟨F0, H0, F, S, fun v F1 H1 a1 r1 => ⟨F0, H0, F1, S.go a1, fun w F2 H2 a2 r2 => ⟨v, w, rfl, q _ F2 H2 (by
      have S2 := (S.go a1).go a2
      refine SRel.setS (Hs := H1) (S2.setS (r1.ext a2) S.ext.hs (free_new S a1 r1)) r2 (S.ext.hs.trans a1.hs) (apart2 (x1 := x1) (F := F) (H := H) (F1 := F1) (H1 := H1) r1 r2 (free_new (S.go a1) a2 r2))) (a1.trans a2).fs⟩⟩⟩
/-- x, y, z = e1, e2, e3 (plain local names) -/
theorem st_par3 {i j l : Nat} {x y z : Str} {px py pz pt : Pos} {kt k2 pt2} (hi : C.N[i]? = some x) (hj : C.N[j]? = some y) (hl : C.N[l]? = some z) (hij : i ≠ j) (hil : i ≠ l) (hjl : j ≠ l) (hx : C.sc.names.lookup x = some .local) (hy : C.sc.names.lookup y = some .local) (hz : C.sc.names.lookup z = some .local)
    (h1 : EvS G C k ρ e1 x1) (h2 : EvS G C k ρ e2 x2) (h3 : EvS G C k ρ e3 x3)
    (hw : ∀ env : Env, env.scope = C.sc → swappedStores [.Tuple [.Name x px, .Name y py, .Name z pz] kt pt] (.Tuple [e1, e2, e3] k2 pt2) env = pure (some [x, y, z]))
    (hs : ∀ env, swapsWithSole [.Tuple [.Name x px, .Name y py, .Name z pz] kt pt] (.Tuple [e1, e2, e3] k2 pt2) pos.line env = pure false) (hs1 : ∀ env, starEach [e1, e2, e3] env = (false, eval e1 env) :: starEach [e2, e3] env)
    (hs2 : ∀ env, starEach [e2, e3] env = (false, eval e2 env) :: starEach [e3] env) (hs3 : ∀ env, starEach [e3] env = (false, eval e3 env) :: starEach [] env) :
    St1 G C k ρ (.Assign [.Tuple [.Name x px, .Name y py, .Name z pz] kt pt] (.Tuple [e1, e2, e3] k2 pt2) pos) (.nx (((ρ.set i (some x1)).set j (some x2)).set l (some x3))) := fun X hX =>
  ps_imp (ps_par3 hX.calm (by rw [hX.eN]; exact hX.nd) (by rw [hX.eN]; exact hi) (by rw [hX.eN]; exact hj) (by rw [hX.eN]; exact hl) hij hil hjl (by rw [hX.es]; exact hx) (by rw [hX.es]; exact hy) (by rw [hX.es]; exact hz)
    (pa_cons (h1 X hX) (pa_cons (h2 X hX) (pa_cons (h3 X hX) pa_nil (hs3 _)) (hs2 _)) (hs1 _)) (hw _ hX.es) (hs _)) fun D σ H ⟨F0, H0, F, S, q⟩ =>
    ⟨F0, H0, F, S, fun v F1 H1 a1 r1 => ⟨F0, H0, F1, S.go a1, fun w F2 H2 a2 r2 => ⟨F0, H0, F2, (S.go a1).go a2, fun u F3 H3 a3 r3 => ⟨v, w, u, rfl, q _ F3 H3 (by
      have S3 := ((S.go a1).go a2).go a3
      have f1 := free_new S a1 r1
      have f2 := apart2 (j := i) (x1 := x1) (F := F) (H := H) (F1 := F1) (H1 := H1) r1 r2 (free_new (S.go a1) a2 r2)
      have f3 := apart2 (j := i) (x1 := x1) (F := F) (H := H) (F1 := F2) (H1 := H2) (r1.ext a2) r3 (free_new ((S.go a1).go a2) a3 r3)
      have f4 := apart2 (j := j) (x1 := x2) (F := F) (H := H1) (F1 := F2) (H1 := H2) r2 r3 f3
      exact SRel.setS (Hs := H2) (SRel.setS (Hs := H1) (S3.setS ((r1.ext a2).ext a3) S.ext.hs f1) (r2.ext a3) (S.ext.hs.trans a1.hs) f2) r3 (S.ext.hs.trans (a1.trans a2).hs) f4) ((a1.trans a2).trans a3).fs⟩⟩⟩⟩
end
end Pl
/-! Pl, part T: data with Lean types; the forms that the printed proofs use. -/
namespace Pl
open PySem PySem.Spec PyProof.Rows L2

/-! ### encodings -/
abbrev eI : Int → PyData := .int
abbrev eB : Bool → PyData := .bool
abbrev eS : Str → PyData := .str
abbrev eD : PyData → PyData := id
def eN : Unit → PyData := fun _ => .none
/-- a tuple of any length, a list -/
def eT {α : Type} (e : α → PyData) (xs : List α) : PyData := .tuple (xs.map e)
def eL {α : Type} (e : α → PyData) (xs : List α) : PyData := .list (xs.map e)
def eP {α β : Type} (a : α → PyData) (b : β → PyData) (p : α × β) : PyData := .tuple [a p.1, b p.2]
def eP3 {α β γ : Type} (a : α → PyData) (b : β → PyData) (c : γ → PyData) (p : α × β × γ) : PyData := .tuple [a p.1, b p.2.1, c p.2.2]
def eP4 {α β γ δ : Type} (a : α → PyData) (b : β → PyData) (c : γ → PyData) (d : δ → PyData) (p : α × β × γ × δ) : PyData := .tuple [a p.1, b p.2.1, c p.2.2.1, d p.2.2.2]
def eO {α : Type} (e : α → PyData) : Option α → PyData
  | none => .none
  | some a => e a

/-! ### partial values -/
/-- a value given to a name -/
@[irreducible] def set' {α β : Type} (v : α) (f : α → β) : β := f v
theorem set_eq {α β : Type} (v : α) (f : α → β) : set' v f = f v := by unfold set'; rfl
theorem set_ex {α β : Type} {v : α} {f : α → Option β} {r : β} (h : set' v f = some r) : ∃ x, v = x ∧ f x = some r := ⟨v, rfl, by rw [set_eq] at h; exact h⟩
theorem bind_ex {α β : Type} {o : Option α} {f : α → Option β} {r : β} (h : o.bind f = some r) : ∃ x, o = some x ∧ f x = some r := by
  cases o with
  | none => cases h
  | some x => exact ⟨x, rfl, h⟩
/-- a condition that must hold -/
noncomputable def need {β : Type} (p : Prop) (f : Option β) : Option β := open Classical in if p then f else none
theorem need_ex {β : Type} {p : Prop} {f : Option β} {r : β} (h : need p f = some r) : p ∧ f = some r := by
  unfold need at h
  by_cases c : p
  · rw [if_pos c] at h; exact ⟨c, h⟩
  · rw [if_neg c] at h; cases h
theorem need_of {β : Type} {p : Prop} {f : Option β} (h : p) : need p f = f := if_pos h
theorem if_ex {β : Type} {c : Bool} {a b : Option β} {r : β} (h : (if c = true then a else b) = some r) : (c = true ∧ a = some r) ∨ (c = false ∧ b = some r) := by
  cases c with
  | true => exact .inl ⟨rfl, h⟩
  | false => exact .inr ⟨rfl, h⟩
/-- the item at a place, from the left or from behind -/
def idx {α : Type} (xs : List α) (i : Int) : Option α := atI xs i
theorem atI_map {α β : Type} (f : α → β) {xs : List α} {i : Int} {x : α} (h : idx xs i = some x) : atI (xs.map f) i = some (f x) := by
  unfold idx atI at h
  unfold atI
  rw [List.length_map]
  cases e : ixN xs.length i with
  | none => rw [e] at h; cases h
  | some j =>
    rw [e] at h
    have h' : xs[j]? = some x := h
    show (xs.map f)[j]? = some (f x)
    rw [List.getElem?_map, h']; rfl
theorem idx_nat {α : Type} {xs : List α} {i : Int} {x : α} (h0 : 0 ≤ i) (h : xs[i.toNat]? = some x) : idx xs i = some x := by
  obtain ⟨n, rfl⟩ := Int.eq_ofNat_of_zero_le h0
  exact atI_nat h
def setAt {α : Type} (xs : List α) (i : Int) (x : α) : Option (List α) := (ixN xs.length i).map fun j => xs.set j x
/-- how a turn ends -/
inductive O (S β : Type) where
  | nx (s : S)
  | rt (b : β)
  | bk (s : S)
  | ct (s : S)
def O.out {S β : Type} (R : S → PEnv) (E : β → PyData) : O S β → Out
  | .nx s => .nx (R s)
  | .rt b => .rt (E b)
  | .bk s => .bk (R s)
  | .ct s => .ct (R s)
/-- a for over xs -/
def forO {S α β : Type} (step : S → α → Option (O S β)) : List α → S → Option (O S β)
  | [], s => some (.nx s)
  | x :: xs, s => (step s x).bind fun o => match o with
    | .nx s' => forO step xs s'
    | .ct s' => forO step xs s'
    | .bk s' => some (.nx s')
    | .rt b => some (.rt b)
/-- .. no turn of which leaves -/
def forS {S α : Type} (step : S → α → Option S) : List α → S → Option S
  | [], s => some s
  | x :: xs, s => (step s x).bind fun s' => forS step xs s'
/-- a while, at most so many turns -/
def whileO {S β : Type} (c : S → Option Bool) (b : S → Option (O S β)) : Nat → S → Option (O S β)
  | 0, _ => none
  | n + 1, s => (c s).bind fun t => if t = true then (b s).bind fun o => (match o with
    | .nx s' => whileO c b n s'
    | .ct s' => whileO c b n s'
    | .bk s' => some (.nx s')
    | .rt r => some (.rt r)) else some (.nx s)
def whileS {S : Type} (c : S → Option Bool) (b : S → Option S) : Nat → S → Option S
  | 0, _ => none
  | n + 1, s => (c s).bind fun t => if t = true then (b s).bind fun s' => whileS c b n s' else some s
/-- [g x for x in xs] -/
def mapO {α β : Type} (g : α → Option β) : List α → Option (List β)
  | [] => some []
  | x :: xs => (g x).bind fun y => (mapO g xs).bind fun ys => some (y :: ys)
/-- [.. for x in xs if ..] -/
def filO {α β : Type} (g : α → Option (Option β)) : List α → Option (List β)
  | [] => some []
  | x :: xs => (g x).bind fun y => (filO g xs).bind fun ys => some (y.toList ++ ys)

theorem mapO_len {α β : Type} {g : α → Option β} : ∀ {xs : List α} {ys : List β}, mapO g xs = some ys → ys.length = xs.length
  | [], ys, h => by cases h; rfl
  | x :: xs, ys, h => by
    obtain ⟨y, _, h⟩ := bind_ex h
    obtain ⟨zs, h2, h⟩ := bind_ex h
    cases h
    exact congrArg (· + 1) (mapO_len h2)
theorem filO_len {α β : Type} {g : α → Option (Option β)} : ∀ {xs : List α} {ys : List β}, filO g xs = some ys → ys.length ≤ xs.length
  | [], ys, h => by cases h; exact Nat.le_refl _
  | x :: xs, ys, h => by
    obtain ⟨y, _, h⟩ := bind_ex h
    obtain ⟨zs, h2, h⟩ := bind_ex h
    cases h
    have := filO_len h2
    cases y with
    | none => simp; omega
    | some y => simp; omega

/-! ### names, by one look -/
structure Nm (C : SC) (i : Nat) (x : Str) : Prop where
  hi : C.N[i]? = some x
  hv : C.sc.names.lookup x = some .local ∨ C.sc.names.lookup x = some .cell ∨ C.sc.names.lookup x = some .free
  hd : (x == ("__debug__" : Str)) = false
  hc : (x == ("__classdict__" : Str)) = false
structure NmS (C : SC) (i : Nat) (x : Str) : Prop where
  hi : C.N[i]? = some x
  hx : C.sc.names.lookup x = some .local ∨ C.sc.names.lookup x = some .cell
  hf : C.fs x = true ∨ C.sc.names.lookup x = some .local
/-- a plain local name -/
structure NmL (C : SC) (i : Nat) (x : Str) : Prop where
  hi : C.N[i]? = some x
  hl : C.sc.names.lookup x = some .local
structure Gn (C : SC) (x : Str) : Prop where
  hg : C.sc.names.lookup x = some .globalImplicit
  hn : x ≠ "__name__"
  hd : (x == ("__debug__" : Str)) = false
def isL : Option NameKind → Bool
  | some .local => true
  | _ => false
def isC : Option NameKind → Bool
  | some .cell => true
  | _ => false
def isF : Option NameKind → Bool
  | some .free => true
  | _ => false
def isG : Option NameKind → Bool
  | some .globalImplicit => true
  | _ => false
theorem isL_ok {o : Option NameKind} (h : isL o = true) : o = some .local := by cases o with | none => cases h | some k => cases k <;> first | rfl | cases h
theorem isC_ok {o : Option NameKind} (h : isC o = true) : o = some .cell := by cases o with | none => cases h | some k => cases k <;> first | rfl | cases h
theorem isF_ok {o : Option NameKind} (h : isF o = true) : o = some .free := by cases o with | none => cases h | some k => cases k <;> first | rfl | cases h
theorem isG_ok {o : Option NameKind} (h : isG o = true) : o = some .globalImplicit := by cases o with | none => cases h | some k => cases k <;> first | rfl | cases h
def nmB (C : SC) (i : Nat) (x : Str) : Bool := decide (C.N[i]? = some x) && ((isL (C.sc.names.lookup x) || (isC (C.sc.names.lookup x) || isF (C.sc.names.lookup x))) && (!(x == ("__debug__" : Str)) && !(x == ("__classdict__" : Str))))
def nmsB (C : SC) (i : Nat) (x : Str) : Bool := decide (C.N[i]? = some x) && ((isL (C.sc.names.lookup x) || isC (C.sc.names.lookup x)) && (C.fs x || isL (C.sc.names.lookup x)))
def nmlB (C : SC) (i : Nat) (x : Str) : Bool := decide (C.N[i]? = some x) && isL (C.sc.names.lookup x)
def gnB (C : SC) (x : Str) : Bool := isG (C.sc.names.lookup x) && (!decide (x = "__name__") && !(x == ("__debug__" : Str)))
theorem or_d {a b : Bool} (h : (a || b) = true) : a = true ∨ b = true := Bool.or_eq_true_iff.mp h
theorem not_d {a : Bool} (h : (!a) = true) : a = false := by cases a <;> first | rfl | cases h
theorem nm {C : SC} {i : Nat} {x : Str} (h : nmB C i x = true) : Nm C i x := ⟨of_decide_eq_true (and_l h), (or_d (and_l (and_r h))).imp isL_ok fun z => (or_d z).imp isC_ok isF_ok, not_d (and_l (and_r (and_r h))), not_d (and_r (and_r (and_r h)))⟩
theorem nms {C : SC} {i : Nat} {x : Str} (h : nmsB C i x = true) : NmS C i x := ⟨of_decide_eq_true (and_l h), (or_d (and_l (and_r h))).imp isL_ok isC_ok, (or_d (and_r (and_r h))).imp id isL_ok⟩
theorem nml {C : SC} {i : Nat} {x : Str} (h : nmlB C i x = true) : NmL C i x := ⟨of_decide_eq_true (and_l h), isL_ok (and_r h)⟩
theorem gn {C : SC} {x : Str} (h : gnB C x = true) : Gn C x := ⟨isG_ok (and_l h), of_decide_eq_false (not_d (and_l (and_r h))), not_d (and_r (and_r h))⟩

/-! ### guards -/
instance {i j : Int} : Decidable (MulOk i j) := by unfold MulOk CMul CMulW; infer_instance
instance {i j : Int} : Decidable (DivOk i j) := by unfold DivOk; infer_instance
instance {i j : Int} : Decidable (CPow i j) := by unfold CPow; infer_instance
theorem mul_l {i j : Int} (h : -(2 ^ 64) < i ∧ i < 2 ^ 64) : MulOk i j := .inl (.inl h)
theorem mul_r {i j : Int} (h : -(2 ^ 64) < j ∧ j < 2 ^ 64) : MulOk i j := .inl (.inr h)
theorem div_c {i j : Int} (h : 0 < j ∧ j < 1073741824) : DivOk i j := ⟨h.1, .inl h.2⟩
/-- a range's ends -/
def RgO (lo hi : Int) : Prop := -1000000000 ≤ lo ∧ lo ≤ 1000000000 ∧ -1000000000 ≤ hi ∧ hi ≤ 1000000000 ∧ hi - lo ≤ 16777216
instance {i j : Int} : Decidable (RgO i j) := by unfold RgO; infer_instance
theorem rangeD_le {lo hi : Int} (h : RgO lo hi) : (rangeD lo hi).length ≤ sizeLine := by
  have e := sizeLine_eq
  unfold rangeD
  obtain ⟨_, _, _, _, h⟩ := h
  simp
  omega

section
variable {G : Gb} {C : SC} {k : Nat} {ρ ρ1 ρ2 : PEnv} {e tg a b c : Expr} {es : List Expr} {d d' d1 d2 d3 : PyData} {ds : List PyData} {pos p : Pos} {x : Str} {t u : Bool}
theorem Ev.to (h : Ev G C k ρ e d) (q : d = d') : Ev G C k ρ e d' := q ▸ h
theorem EvB.to (h : EvB G C k ρ e d) (q : d = d') : EvB G C k ρ e d' := q ▸ h
theorem EvN.to (h : EvN G C k ρ e d) (q : d = d') : EvN G C k ρ e d' := q ▸ h
theorem Te.to (h : Te G C k ρ e t) (q : t = u) : Te G C k ρ e u := q ▸ h
theorem vr (i : Nat) (n : Nm C i x) (h : ρ[i]? = some (some (.sh d))) : Ev G C k ρ (.Name x pos) d := ev_name i n.hi n.hv h n.hd n.hc
theorem vo (i : Nat) (n : Nm C i x) (h : ρ[i]? = some (some (.ow d))) : EvB G C k ρ (.Name x pos) d := evb_own i n.hi n.hv h n.hd n.hc
/-! and, or, chains of what is total -/
theorem ev_and {rest : List Expr} (ha : Ev G C k ρ a (.bool t)) (hb : Ev G C k ρ (.BoolOp .And (b :: rest) pos) (.bool u)) : Ev G C k ρ (.BoolOp .And (a :: b :: rest) pos) (.bool (t && u)) := by
  cases t with
  | true => exact ev_andT ha hb
  | false => exact ev_andF ha
theorem ev_or {rest : List Expr} (ha : Ev G C k ρ a (.bool t)) (hb : Ev G C k ρ (.BoolOp .Or (b :: rest) pos) (.bool u)) : Ev G C k ρ (.BoolOp .Or (a :: b :: rest) pos) (.bool (t || u)) := by
  cases t with
  | true => exact ev_orT ha
  | false => exact ev_orF ha hb
theorem tw_and {rest : List Expr} (ha : Te G C k ρ a t) (hb : Tw G C k ρ (.BoolOp .And (b :: rest) pos) u) : Tw G C k ρ (.BoolOp .And (a :: b :: rest) pos) (t && u) := by
  cases t with
  | true => exact tw_andT ha hb
  | false => exact tw_andF ha
theorem tw_or {rest : List Expr} (ha : Te G C k ρ a t) (hb : Tw G C k ρ (.BoolOp .Or (b :: rest) pos) u) : Tw G C k ρ (.BoolOp .Or (a :: b :: rest) pos) (t || u) := by
  cases t with
  | true => exact tw_orT ha
  | false => exact tw_orF ha hb
/-! .. of what may not be there: h tells the outcome -/
theorem ev_andO {rest : List Expr} {o : Option Bool} {r : Bool} (h : (if t = true then o else some false) = some r) (ha : Ev G C k ρ a (.bool t)) (hb : o = some r → Ev G C k ρ (.BoolOp .And (b :: rest) pos) (.bool r)) : Ev G C k ρ (.BoolOp .And (a :: b :: rest) pos) (.bool r) := by
  cases t with
  | true => exact ev_andT ha (hb h)
  | false => cases h; exact ev_andF ha
theorem ev_orO {rest : List Expr} {o : Option Bool} {r : Bool} (h : (if t = true then some true else o) = some r) (ha : Ev G C k ρ a (.bool t)) (hb : o = some r → Ev G C k ρ (.BoolOp .Or (b :: rest) pos) (.bool r)) : Ev G C k ρ (.BoolOp .Or (a :: b :: rest) pos) (.bool r) := by
  cases t with
  | true => cases h; exact ev_orT ha
  | false => exact ev_orF ha (hb h)
theorem tw_andO {rest : List Expr} {o : Option Bool} {r : Bool} (h : (if t = true then o else some false) = some r) (ha : Te G C k ρ a t) (hb : o = some r → Tw G C k ρ (.BoolOp .And (b :: rest) pos) r) : Tw G C k ρ (.BoolOp .And (a :: b :: rest) pos) r := by
  cases t with
  | true => exact tw_andT ha (hb h)
  | false => cases h; exact tw_andF ha
theorem tw_orO {rest : List Expr} {o : Option Bool} {r : Bool} (h : (if t = true then some true else o) = some r) (ha : Te G C k ρ a t) (hb : o = some r → Tw G C k ρ (.BoolOp .Or (b :: rest) pos) r) : Tw G C k ρ (.BoolOp .Or (a :: b :: rest) pos) r := by
  cases t with
  | true => cases h; exact tw_orT ha
  | false => exact tw_orF ha (hb h)
theorem ev_if {α : Type} {E : α → PyData} {v w : α} (hc : Te G C k ρ c t) (ha : Ev G C k ρ a (E v)) (hb : Ev G C k ρ b (E w)) : Ev G C k ρ (.IfExp c a b pos) (E (if t = true then v else w)) := by
  cases t with
  | true => exact ev_ifT hc ha
  | false => exact ev_ifF hc hb
theorem ev_ifO {α : Type} {E : α → PyData} {o q : Option α} {r : α} (h : (if t = true then o else q) = some r) (hc : Te G C k ρ c t) (ha : o = some r → Ev G C k ρ a (E r)) (hb : q = some r → Ev G C k ρ b (E r)) : Ev G C k ρ (.IfExp c a b pos) (E r) := by
  cases t with
  | true => exact ev_ifT hc (ha h)
  | false => exact ev_ifF hc (hb h)
/-- a op b op' c on whole numbers -/
theorem ev_chain2 {op op' : CmpOp} (ho : OpOk G C k (compareOp op) d1 d2 (.bool t)) (ho' : OpOk G C k (compareOp op') d2 d3 (.bool u)) (ha : EvB G C k ρ a d1) (hb : EvB G C k ρ b d2) (hc : EvB G C k ρ c d3) (hm : lastMarks [op, op'] [b, c] = false) :
    Ev G C k ρ (.Compare a [op, op'] [b, c] pos) (.bool (t && u)) := by
  cases t with
  | true => exact ev_chain ho ho' ha hb hc hm
  | false => exact ev_chainF ho ha hb (fun X hX => ⟨_, hc X hX⟩) (fun X hX => ⟨_, ho' X hX⟩) hm
/-! ### comprehensions with Lean types -/
theorem lcr_map {α β : Type} {ea : α → PyData} {eb : β → PyData} {vs : List Nat} {ifs : List Expr} {elt : Expr} (g : α → Option β) (h : ∀ x y, g x = some y → LcStep G C k ρ vs tg ifs elt (ea x) (some (eb y))) : ∀ (xs : List α) (ys : List β), mapO g xs = some ys → LcR G C k ρ vs tg ifs elt (xs.map ea) (ys.map eb)
  | [], ys, q => by cases q; exact .nil
  | x :: xs, ys, q => by
    obtain ⟨y, h1, q⟩ := bind_ex q
    obtain ⟨zs, h2, q⟩ := bind_ex q
    cases q
    exact .keep (h x y h1) (lcr_map g h xs zs h2)
theorem lcr_fil {α β : Type} {ea : α → PyData} {eb : β → PyData} {vs : List Nat} {ifs : List Expr} {elt : Expr} (g : α → Option (Option β)) (h : ∀ x o, g x = some o → LcStep G C k ρ vs tg ifs elt (ea x) (o.map eb)) : ∀ (xs : List α) (ys : List β), filO g xs = some ys → LcR G C k ρ vs tg ifs elt (xs.map ea) (ys.map eb)
  | [], ys, q => by cases q; exact .nil
  | x :: xs, ys, q => by
    obtain ⟨o, h1, q⟩ := bind_ex q
    obtain ⟨zs, h2, q⟩ := bind_ex q
    cases q
    have s := h x o h1
    cases o with
    | none => exact .skip s (lcr_fil g h xs zs h2)
    | some y => exact .keep s (lcr_fil g h xs zs h2)
theorem lcr_mapT {α β : Type} {ea : α → PyData} {eb : β → PyData} {vs : List Nat} {ifs : List Expr} {elt : Expr} (g : α → β) (h : ∀ x, LcStep G C k ρ vs tg ifs elt (ea x) (some (eb (g x)))) : ∀ (xs : List α), LcR G C k ρ vs tg ifs elt (xs.map ea) ((xs.map g).map eb)
  | [] => .nil
  | x :: xs => .keep (h x) (lcr_mapT g h xs)
theorem lcr_filT {α β : Type} {ea : α → PyData} {eb : β → PyData} {vs : List Nat} {ifs : List Expr} {elt : Expr} (f : α → Bool) (g : α → β) (h : ∀ x, LcStep G C k ρ vs tg ifs elt (ea x) (if f x = true then some (eb (g x)) else none)) : ∀ (xs : List α), LcR G C k ρ vs tg ifs elt (xs.map ea) (((xs.filter f).map g).map eb)
  | [] => .nil
  | x :: xs => by
    have s := h x
    rw [List.filter_cons]
    cases e : f x with
    | true => rw [e] at s; exact .keep s (lcr_filT f g h xs)
    | false => rw [e] at s; exact .skip s (lcr_filT f g h xs)
/-- one item, without tests, with one -/
theorem step_one {vs is : List Nat} {elt : Expr} {y : PyData} (hs : ∀ i ∈ is, i ∈ vs) (ht : Tg G C k ρ tg is d ρ1) (he : Ev G C k ρ1 elt y) : LcStep G C k ρ vs tg [] elt d (some y) := ⟨is, ρ1, hs, ht, .inl ⟨y, rfl, ts_nil, he⟩⟩
theorem step_if {vs is : List Nat} {elt : Expr} {y : PyData} (hs : ∀ i ∈ is, i ∈ vs) (ht : Tg G C k ρ tg is d ρ1) (hc : Te G C k ρ1 c t) (he : t = true → Ev G C k ρ1 elt y) : LcStep G C k ρ vs tg [c] elt d (if t = true then some y else none) := by
  cases t with
  | true => exact ⟨is, ρ1, hs, ht, .inl ⟨y, rfl, ts_one hc, he rfl⟩⟩
  | false => exact ⟨is, ρ1, hs, ht, .inr ⟨rfl, ts_one hc⟩⟩
theorem step_ifO {β : Type} {eb : β → PyData} {vs is : List Nat} {elt : Expr} {q : Option (Option β)} {o : Option β} (h : (if t = true then q else some none) = some o) (hs : ∀ i ∈ is, i ∈ vs) (ht : Tg G C k ρ tg is d ρ1) (hc : Te G C k ρ1 c t) (he : q = some o → ∃ y, o = some y ∧ Ev G C k ρ1 elt (eb y)) : LcStep G C k ρ vs tg [c] elt d (o.map eb) := by
  cases t with
  | true =>
    obtain ⟨y, rfl, hy⟩ := he h
    exact ⟨is, ρ1, hs, ht, .inl ⟨_, rfl, ts_one hc, hy⟩⟩
  | false => cases h; exact ⟨is, ρ1, hs, ht, .inr ⟨rfl, ts_one hc⟩⟩
/-! ### loops with Lean types -/
theorem for_o {S α β : Type} {R : S → PEnv} {E : β → PyData} {ea : α → PyData} {body : List Stmt} {step : S → α → Option (O S β)} (h : ∀ s x o, step s x = some o → ∃ is ρt, Tg G C k (R s) tg is (ea x) ρt ∧ Blk G C k ρt body (o.out R E)) :
    ∀ (xs : List α) (s : S) (o : O S β), forO step xs s = some o → ForR G C k tg body (xs.map ea) (R s) (o.out R E)
  | [], s, o, q => by cases q; exact .done
  | x :: xs, s, o, q => by
    obtain ⟨o', h1, q⟩ := bind_ex q
    obtain ⟨is, ρt, ht, hb⟩ := h s x o' h1
    cases o' with
    | nx s' => exact .nx ht hb (for_o h xs s' o q)
    | ct s' => exact .ct ht hb (for_o h xs s' o q)
    | bk s' => cases q; exact .bk ht hb
    | rt b => cases q; exact .rt ht hb
theorem for_s {S α : Type} {R : S → PEnv} {ea : α → PyData} {body : List Stmt} {step : S → α → Option S} (h : ∀ s x s', step s x = some s' → ∃ is ρt, Tg G C k (R s) tg is (ea x) ρt ∧ Blk G C k ρt body (.nx (R s'))) :
    ∀ (xs : List α) (s s' : S), forS step xs s = some s' → ForR G C k tg body (xs.map ea) (R s) (.nx (R s'))
  | [], s, s', q => by cases q; exact .done
  | x :: xs, s, s', q => by
    obtain ⟨s1, h1, q⟩ := bind_ex q
    obtain ⟨is, ρt, ht, hb⟩ := h s x s1 h1
    exact .nx ht hb (for_s h xs s1 s' q)
theorem while_o {S β : Type} {R : S → PEnv} {E : β → PyData} {body : List Stmt} {cd : S → Option Bool} {step : S → Option (O S β)} (hc : ∀ s t, cd s = some t → Te G C k (R s) c t) (h : ∀ s o, step s = some o → Blk G C k (R s) body (o.out R E)) :
    ∀ (n : Nat) (s : S) (o : O S β), whileO cd step n s = some o → WhileR G C k c body n (R s) (o.out R E)
  | 0, s, o, q => by cases q
  | n + 1, s, o, q => by
    obtain ⟨t, h1, q⟩ := bind_ex q
    have ht := hc s t h1
    cases t with
    | false => cases q; exact .done ht
    | true =>
      obtain ⟨o', h2, q⟩ := bind_ex (show (step s).bind _ = some o from q)
      have hb := h s o' h2
      cases o' with
      | nx s' => exact .nx ht hb (while_o hc h n s' o q)
      | ct s' => exact .ct ht hb (while_o hc h n s' o q)
      | bk s' => cases q; exact .bk ht hb
      | rt b => cases q; exact .rt ht hb
theorem while_s {S : Type} {R : S → PEnv} {body : List Stmt} {cd : S → Option Bool} {step : S → Option S} (hc : ∀ s t, cd s = some t → Te G C k (R s) c t) (h : ∀ s s', step s = some s' → Blk G C k (R s) body (.nx (R s'))) :
    ∀ (n : Nat) (s s' : S), whileS cd step n s = some s' → WhileR G C k c body n (R s) (.nx (R s'))
  | 0, s, o, q => by cases q
  | n + 1, s, o, q => by
    obtain ⟨t, h1, q⟩ := bind_ex q
    have ht := hc s t h1
    cases t with
    | false => cases q; exact .done ht
    | true =>
      obtain ⟨s1, h2, q⟩ := bind_ex (show (step s).bind _ = some o from q)
      exact .nx ht (h s s1 h2) (while_s hc h n s1 o q)
/-! ### if, joined -/
theorem st_if {a b : List Stmt} {r : Out} (hc : Te G C k ρ c t) (ha : t = true → Blk G C k ρ a r) (hb : t = false → Blk G C k ρ b r) : St1 G C k ρ (.If c a b pos) r := by
  cases t with
  | true => exact st_ifT hc (ha rfl)
  | false => exact st_ifF hc (hb rfl)
end
end Pl
/-! Pl, part U: more statements; equality by type. -/
namespace Pl
open PySem PySem.Spec PyProof.Rows L2

section
variable {G : Gb} {C : SC} {k : Nat} {ρ ρ1 ρ2 : PEnv} {e e1 e2 e3 tg a b c : Expr} {es : List Expr} {d d' d1 d2 d3 : PyData} {ds es' : List PyData} {pos p : Pos} {x y z : Str} {x1 x2 x3 : SV}
theorem kindOf_of {env : Env} (h : env.scope = C.sc) (x : Str) : env.kindOf x = C.sc.names.lookup x := by unfold Env.kindOf; rw [h]
/-- a comprehension given to a name that is a cell -/
theorem swp_cell {elt : Expr} {gs : List Comprehension} {scope : Scope} {py : Pos} {l : Nat} (h : isC (C.sc.names.lookup x) = true) : ∀ env : Env, env.scope = C.sc → swapsWith (.ListComp elt gs scope pos) (some (.Name x py)) l env = pure false := fun env he => by
  show (pure (env.blockKind == .function && env.kindOf x == some .local && py.line == (Expr.ListComp elt gs scope pos).pos.line && !(scope.names.any fun (n, k) => n == x && (k == .local || k == .cell))) : Sem Bool) = pure false
  rw [kindOf_of he, isC_ok h]
  have : (some NameKind.cell == some NameKind.local) = false := rfl
  rw [this, Bool.and_false, Bool.false_and, Bool.false_and]
/-- .. that is a plain local -/
theorem swp_local {elt : Expr} {gs : List Comprehension} {scope : Scope} {py : Pos} {l : Nat} (h : (isL (C.sc.names.lookup x) && (((if C.sc.kind.isAnnotationScope then ScopeKind.function else C.sc.kind) == ScopeKind.function) && (py.line == pos.line && !(scope.names.any fun (n, k) => n == x && (k == .local || k == .cell))))) = true) : ∀ env : Env, env.scope = C.sc → swapsWith (.ListComp elt gs scope pos) (some (.Name x py)) l env = pure true := fun env he => by
  show (pure (env.blockKind == .function && env.kindOf x == some .local && py.line == (Expr.ListComp elt gs scope pos).pos.line && !(scope.names.any fun (n, k) => n == x && (k == .local || k == .cell))) : Sem Bool) = pure true
  have hb : (env.blockKind == .function) = true := by
    unfold Env.blockKind
    rw [he]; exact and_l (and_r h)
  rw [kindOf_of he, isL_ok (and_l h), hb]
  have : (some NameKind.local == some NameKind.local) = true := rfl
  rw [this]
  show (pure (py.line == pos.line && _) : Sem Bool) = pure true
  rw [and_r (and_r h)]
theorem swp_any {ts : List Expr} {v : Expr} {o : Sem (Option (List Str))} (env0 : Env) (h0 : swappedStores ts v { env0 with scope := C.sc } = o) (he : ∀ env env' : Env, env.scope = env'.scope → swappedStores ts v env = swappedStores ts v env') : ∀ env : Env, env.scope = C.sc → swappedStores ts v env = o := fun env h => (he env _ h).trans h0
/-- x.extend(e), e new -/
theorem st_extend (i : Nat) {p1 ap cp : Pos} (n : Nm C i x) (h : ρ[i]? = some (some (.ow (.list ds)))) (he : EvN G C k ρ e (.list es')) (hl : ds.length + es'.length ≤ sizeLine)
    (hsw : ∀ env, swapsWith (.Call (.Attribute (.Name x p1) "extend" ap) [e] [] cp) none pos.line env = pure false)
    (hs : ∀ env, starEach [e] env = [(false, eval e env)]) (hab : ∀ env, attributeBase (.Name x p1) "extend" env (eval (.Name x p1) env) = eval (.Name x p1) env) (hln : (ap.endLine == cp.line) = true) :
    St1 G C k ρ (.Expr (.Call (.Attribute (.Name x p1) "extend" ap) [e] [] cp) pos) (.nx (ρ.set i (some (.ow (.list (ds ++ es')))))) := fun X hX => by
  refine ps_imp (ps_expr (pe_bm PySem.F.plainAttrs_list PySem.F.slot_list_extend PySem.F.type_list_extend mt_extend (pe_var (i := i) (by rw [hX.eN]; exact n.hi) (vis_of hX n.hv) n.hd n.hc) (pa_cons (he X hX) pa_nil (by rw [hs]; rfl)) (hab _) (by rw [hs]; rfl) hln (by rw [hs]; rfl) rfl) (hsw _)) fun D σ H ⟨F0, H0, F, S, q⟩ => ?_
  obtain ⟨a, o, h1, h2, h3, h4, h5⟩ := S.ow i _ h
  cases h3 with
  | @lst xs _ r =>
    refine ⟨.ref a, h1, .inl ⟨rfl, xs, .inl (.inl h2)⟩, F0, H0, F, S, fun bq o F1 H1 e1 hn ho hf r1 => ?_⟩
    cases r1 with
    | @lst zs _ r1 =>
      exact ⟨a, bq, xs, zs, rfl, rfl, e1.hs _ _ h2, ho, by rw [r.length, r1.length]; exact hl, q σ F1 _ ((S.go e1).mut h h1 (.lst ((r.mono e1.fs).append r1))) e1.fs⟩
/-- x, y = e1, e2, each shared or new, by the tuple -/
theorem st_unp2 {i j : Nat} {px py pt : Pos} {kt k2 pt2} (n1 : NmS C i x) (n2 : NmS C j y) (h1 : EvS G C k ρ e1 x1) (h2 : EvS G C k ρ e2 x2)
    (hw : ∀ env : Env, env.scope = C.sc → swappedStores [.Tuple [.Name x px, .Name y py] kt pt] (.Tuple [e1, e2] k2 pt2) env = pure none)
    (hs1 : ∀ env, starEach [e1, e2] env = (false, eval e1 env) :: starEach [e2] env) (hs2 : ∀ env, starEach [e2] env = (false, eval e2 env) :: starEach [] env) :
    St1 G C k ρ (.Assign [.Tuple [.Name x px, .Name y py] kt pt] (.Tuple [e1, e2] k2 pt2) pos) (.nx ((ρ.set i (some x1)).set j (some x2))) := fun X hX =>
  have fx : ∀ {i : Nat} {x : Str}, NmS C i x → X.fn x = true ∨ X.env.scope.names.lookup x = some .local := fun n => n.hf.imp (hX.fn _) fun h => by rw [hX.es]; exact h
  ps_imp (ps_asg (pe_tup (pa_cons (h1 X hX) (pa_cons (h2 X hX) pa_nil (hs2 _)) (hs1 _))) (pg_tup (n := 2) hX.calm (pgs_cons (pg_name (i := i) (by rw [hX.eN]; exact hX.nd) (by rw [hX.eN]; exact n1.hi) (by unfold L2.Loc; rw [hX.es]; exact n1.hx) (fx n1)) (pgs_cons (pg_name (i := j) (by rw [hX.eN]; exact hX.nd) (by rw [hX.eN]; exact n2.hi) (by unfold L2.Loc; rw [hX.es]; exact n2.hx) (fx n2)) pgs_nil))) rfl (hw _ hX.es) rfl) fun D σ H ⟨F0, H0, F, S, q⟩ =>
    ⟨F0, H0, F, S, fun v F1 H1 a1 r1 => ⟨F0, H0, F1, S.go a1, fun w F2 H2 a2 r2 => ⟨by show 2 ≤ sizeLine; rw [sizeLine_eq]; decide, fun p hp => ⟨p, [v, w], rfl, .inl (.inl upd_same), rfl, _, _, rfl, _, _, rfl, rfl, q _ F2 _ (by
      have S2 := (S.go a1).go a2
      refine SRel.go (SRel.setS (Hs := H1) (S2.setS (r1.ext a2) S.ext.hs (free_new S a1 r1)) r2 (S.ext.hs.trans a1.hs) (apart2 (x1 := x1) (F := F) (H := H) (F1 := F1) (H1 := H1) r1 r2 (free_new (S.go a1) a2 r2))) (Ext.put a2.sub hp)) (a1.trans a2).fs⟩⟩⟩⟩
theorem st_unp3 {i j l : Nat} {px py pz pt : Pos} {kt k2 pt2} (n1 : NmS C i x) (n2 : NmS C j y) (n3 : NmS C l z) (h1 : EvS G C k ρ e1 x1) (h2 : EvS G C k ρ e2 x2) (h3 : EvS G C k ρ e3 x3)
    (hw : ∀ env : Env, env.scope = C.sc → swappedStores [.Tuple [.Name x px, .Name y py, .Name z pz] kt pt] (.Tuple [e1, e2, e3] k2 pt2) env = pure none)
    (hs1 : ∀ env, starEach [e1, e2, e3] env = (false, eval e1 env) :: starEach [e2, e3] env) (hs2 : ∀ env, starEach [e2, e3] env = (false, eval e2 env) :: starEach [e3] env) (hs3 : ∀ env, starEach [e3] env = (false, eval e3 env) :: starEach [] env) :
    St1 G C k ρ (.Assign [.Tuple [.Name x px, .Name y py, .Name z pz] kt pt] (.Tuple [e1, e2, e3] k2 pt2) pos) (.nx (((ρ.set i (some x1)).set j (some x2)).set l (some x3))) := fun X hX =>
  have fx : ∀ {i : Nat} {x : Str}, NmS C i x → X.fn x = true ∨ X.env.scope.names.lookup x = some .local := fun n => n.hf.imp (hX.fn _) fun h => by rw [hX.es]; exact h
  ps_imp (ps_asg (pe_tup (pa_cons (h1 X hX) (pa_cons (h2 X hX) (pa_cons (h3 X hX) pa_nil (hs3 _)) (hs2 _)) (hs1 _))) (pg_tup (n := 3) hX.calm (pgs_cons (pg_name (i := i) (by rw [hX.eN]; exact hX.nd) (by rw [hX.eN]; exact n1.hi) (by unfold L2.Loc; rw [hX.es]; exact n1.hx) (fx n1)) (pgs_cons (pg_name (i := j) (by rw [hX.eN]; exact hX.nd) (by rw [hX.eN]; exact n2.hi) (by unfold L2.Loc; rw [hX.es]; exact n2.hx) (fx n2)) (pgs_cons (pg_name (i := l) (by rw [hX.eN]; exact hX.nd) (by rw [hX.eN]; exact n3.hi) (by unfold L2.Loc; rw [hX.es]; exact n3.hx) (fx n3)) pgs_nil)))) rfl (hw _ hX.es) rfl) fun D σ H ⟨F0, H0, F, S, q⟩ =>
    ⟨F0, H0, F, S, fun v F1 H1 a1 r1 => ⟨F0, H0, F1, S.go a1, fun w F2 H2 a2 r2 => ⟨F0, H0, F2, (S.go a1).go a2, fun u F3 H3 a3 r3 => ⟨by show 3 ≤ sizeLine; rw [sizeLine_eq]; decide, fun p hp => ⟨p, [v, w, u], rfl, .inl (.inl upd_same), rfl, _, _, rfl, _, _, rfl, _, _, rfl, rfl, q _ F3 _ (by
      have S3 := ((S.go a1).go a2).go a3
      have f1 := free_new S a1 r1
      have f2 := apart2 (j := i) (x1 := x1) (F := F) (H := H) (F1 := F1) (H1 := H1) r1 r2 (free_new (S.go a1) a2 r2)
      have f3 := apart2 (j := i) (x1 := x1) (F := F) (H := H) (F1 := F2) (H1 := H2) (r1.ext a2) r3 (free_new ((S.go a1).go a2) a3 r3)
      have f4 := apart2 (j := j) (x1 := x2) (F := F) (H := H1) (F1 := F2) (H1 := H2) r2 r3 f3
      exact SRel.go (SRel.setS (Hs := H2) (SRel.setS (Hs := H1) (S3.setS ((r1.ext a2).ext a3) S.ext.hs f1) (r2.ext a3) (S.ext.hs.trans a1.hs) f2) r3 (S.ext.hs.trans (a1.trans a2).hs) f4) (Ext.put a3.sub hp)) ((a1.trans a2).trans a3).fs⟩⟩⟩⟩⟩

/-! ### an end that is no going on -/
def Exit : Out → Prop
  | .nx _ => False
  | _ => True
/-- a block that leaves -/
def BlkX (G : Gb) (C : SC) (k : Nat) (ρ : PEnv) (sts : List Stmt) (r : Out) : Prop := Blk G C k ρ sts r ∧ Exit r
theorem blk_exit {st : Stmt} {ss : List Stmt} {r : Out} (h : St1 G C k ρ st r) (hx : Exit r) : Blk G C k ρ (st :: ss) r := by
  cases r with
  | nx ρ => cases hx
  | rt d => exact blk_ret h
  | bk ρ => exact blk_brk h
  | ct ρ => exact blk_cont h
theorem blkx_cons {st : Stmt} {ss : List Stmt} {r : Out} (h1 : St1 G C k ρ st (.nx ρ1)) (h2 : BlkX G C k ρ1 ss r) : BlkX G C k ρ (st :: ss) r := ⟨blk_cons h1 h2.1, h2.2⟩
theorem blkx_ret {st : Stmt} {ss : List Stmt} (h : St1 G C k ρ st (.rt d)) : BlkX G C k ρ (st :: ss) (.rt d) := ⟨blk_ret h, trivial⟩
theorem blkx_brk {st : Stmt} {ss : List Stmt} (h : St1 G C k ρ st (.bk ρ1)) (cv : Cov ρ1 ρ2) : BlkX G C k ρ (st :: ss) (.bk ρ2) := ⟨(blk_brk h).out (.bk cv), trivial⟩
theorem blkx_cont {st : Stmt} {ss : List Stmt} (h : St1 G C k ρ st (.ct ρ1)) (cv : Cov ρ1 ρ2) : BlkX G C k ρ (st :: ss) (.ct ρ2) := ⟨(blk_cont h).out (.ct cv), trivial⟩
theorem BlkX.weak {ss : List Stmt} {r : Out} (h : BlkX G C k ρ1 ss r) (cv : Cov ρ ρ1) : BlkX G C k ρ ss r := ⟨h.1.weak cv, h.2⟩
/-- an if of which both ways leave -/
theorem blkx_if2 {t : Bool} {aa bb ss : List Stmt} {α : Type} {A B : Option α} {r : α} {o : Out} (h : (if t = true then A else B) = some r) (hc : Te G C k ρ c t) (ha : A = some r → BlkX G C k ρ aa o) (hb : B = some r → BlkX G C k ρ bb o) : BlkX G C k ρ (.If c aa bb pos :: ss) o := by
  cases t with
  | true => exact ⟨blk_exit (st_ifT hc (ha h).1) (ha h).2, (ha h).2⟩
  | false => exact ⟨blk_exit (st_ifF hc (hb h).1) (hb h).2, (hb h).2⟩
/-- an if that leaves, or nothing -/
theorem blk_ifx {t : Bool} {aa ss : List Stmt} {α : Type} {A B : Option α} {r : α} {o : Out} (h : (if t = true then A else B) = some r) (hc : Te G C k ρ c t) (ha : A = some r → BlkX G C k ρ aa o) (hb : B = some r → Blk G C k ρ ss o) : Blk G C k ρ (.If c aa [] pos :: ss) o := by
  cases t with
  | true => exact blk_exit (st_ifT hc (ha h).1) (ha h).2
  | false => exact blk_cons (st_ifF hc blk_nil) (hb h)
theorem blkx_ifx {t : Bool} {aa ss : List Stmt} {α : Type} {A B : Option α} {r : α} {o : Out} (h : (if t = true then A else B) = some r) (hc : Te G C k ρ c t) (ha : A = some r → BlkX G C k ρ aa o) (hb : B = some r → BlkX G C k ρ ss o) : BlkX G C k ρ (.If c aa [] pos :: ss) o := by
  cases t with
  | true => exact ⟨blk_exit (st_ifT hc (ha h).1) (ha h).2, (ha h).2⟩
  | false => exact blkx_cons (st_ifF hc blk_nil) (hb h)
/-- .. an if that leaves, else goes on as B says -/
theorem st_ifJ {t : Bool} {aa bb : List Stmt} {α : Type} {A B : Option α} {r : α} {o : Out} (h : (if t = true then A else B) = some r) (hc : Te G C k ρ c t) (ha : A = some r → Blk G C k ρ aa o) (hb : B = some r → Blk G C k ρ bb o) : St1 G C k ρ (.If c aa bb pos) o := by
  cases t with
  | true => exact st_ifT hc (ha h)
  | false => exact st_ifF hc (hb h)
/-- after a statement that may leave -/
def Then (G : Gb) (C : SC) (k : Nat) (ss : List Stmt) (o : Out) : Out → Prop
  | .nx ρ => Blk G C k ρ ss o
  | r => r = o
theorem blk_any {st : Stmt} {ss : List Stmt} {r o : Out} (h : St1 G C k ρ st r) (t : Then G C k ss o r) : Blk G C k ρ (st :: ss) o := by
  cases r with
  | nx ρ => exact blk_cons h t
  | rt d => exact (show Out.rt d = o from t) ▸ blk_ret h
  | bk ρ => exact (show Out.bk ρ = o from t) ▸ blk_brk h
  | ct ρ => exact (show Out.ct ρ = o from t) ▸ blk_cont h
end
section
variable {G : Gb} {C : SC} {k : Nat} {ρ : PEnv}
/-- what a name holds is of a bounded length -/
theorem blk_bd {α : Type} {f : α → PyData} {xs : List α} (i : Nat) {ss : List Stmt} {r : Out} (h : ρ[i]? = some (some (.sh (eT f xs))) ∨ ρ[i]? = some (some (.sh (eL f xs))) ∨ ρ[i]? = some (some (.ow (eL f xs)))) (g : xs.length ≤ 16777216 → Blk G C k ρ ss r) : Blk G C k ρ ss r := fun X hX =>
  ⟨fun pins s σ H D I q => by
    have hz : xs.length ≤ sizeLine := by
      obtain ⟨F0, H0, F, S, _⟩ := q
      have bd := Inv.bd I
      rw [hX.eK] at bd
      rcases h with h | h | h
      · obtain ⟨v, _, r⟩ := S.sh i _ h
        obtain ⟨a, vs, rfl, h1, h2⟩ := (Rp.b (H := H) r).tup S.ext.sub
        rw [← List.length_map (f := f), ← h2.length]
        exact bd _ _ (.inr h1)
      · obtain ⟨v, _, r⟩ := S.sh i _ h
        obtain ⟨a, vs, rfl, h1, h2⟩ := (Rp.b (H := H) r).lst S.ext.sub
        rw [← List.length_map (f := f), ← h2.length]
        exact bd _ _ (.inl h1)
      · obtain ⟨a, o, h1, h2, h3, _⟩ := S.ow i _ h
        cases h3 with
        | @lst vs _ r =>
          rw [← List.length_map (f := f), ← r.length]
          exact bd _ _ (.inl (.inl (.inl h2)))
    rw [sizeLine_eq] at hz
    exact (g hz X hX).run pins s σ H D I q⟩
theorem blkx_bd {α : Type} {f : α → PyData} {xs : List α} (i : Nat) {ss : List Stmt} {r : Out} (h : ρ[i]? = some (some (.sh (eT f xs))) ∨ ρ[i]? = some (some (.sh (eL f xs))) ∨ ρ[i]? = some (some (.ow (eL f xs)))) (hx : Exit r) (g : xs.length ≤ 16777216 → BlkX G C k ρ ss r) : BlkX G C k ρ ss r := ⟨blk_bd i h fun z => (g z).1, hx⟩
end
/-- what follows an outcome -/
def O.then {S β γ : Type} (o : O S β) (f : S → Option γ) (g : β → Option γ) : Option γ := match o with
  | .nx s => f s
  | .rt b => g b
  | _ => none
theorem then_ex {S β γ : Type} {o : O S β} {f : S → Option γ} {g : β → Option γ} {r : γ} (h : o.then f g = some r) : (∃ s, o = .nx s ∧ f s = some r) ∨ (∃ b, o = .rt b ∧ g b = some r) := by
  cases o with
  | nx s => exact .inl ⟨s, rfl, h⟩
  | rt b => exact .inr ⟨b, rfl, h⟩
  | bk s => cases h
  | ct s => cases h

/-! ### encodings that are compared -/
/-- data that are laid and compared; of depth at most n -/
structure EqT {α : Type} [DecidableEq α] (e : α → PyData) (n : Nat) : Prop where
  nd : ∀ x, noDct (e x) = true
  cl : ∀ x, (e x).canLay0 = true
  dp : ∀ x, (e x).depth ≤ n
  eq : ∀ x y, PyData.eqv (e x) (e y) = decide (x = y)
theorem EqT.b {α : Type} [DecidableEq α] {e : α → PyData} {n : Nat} (h : EqT e n) (hn : n ≤ 64) (x : α) : Eqb (e x) := ⟨h.nd x, by
  show (((e x).canLay0) && decide ((e x).depth ≤ 64)) = true
  rw [h.cl x, Bool.true_and]
  exact decide_eq_true (Nat.le_trans (h.dp x) hn)⟩
theorem eq_I : EqT eI 0 := ⟨fun _ => rfl, fun _ => rfl, fun _ => Nat.le_refl 0, fun x y => by
  show PyData.eqv (.int x) (.int y) = _
  simp only [PyData.eqv]; rfl⟩
theorem eq_B : EqT eB 0 := ⟨fun _ => rfl, fun _ => rfl, fun _ => Nat.le_refl 0, fun x y => by
  show PyData.eqv (.bool x) (.bool y) = _
  cases x <;> cases y <;> (simp only [PyData.eqv]; rfl)⟩
theorem eq_N : EqT eN 0 := ⟨fun _ => rfl, fun _ => rfl, fun _ => Nat.le_refl 0, fun x y => by
  show PyData.eqv .none .none = _
  simp only [PyData.eqv]; rfl⟩
section
variable {α β γ δ : Type} [DecidableEq α] [DecidableEq β] [DecidableEq γ] [DecidableEq δ] {ea : α → PyData} {eb : β → PyData} {ec : γ → PyData} {ed : δ → PyData} {n m l q : Nat}
theorem eqvA_map (h : ∀ x y, PyData.eqv (ea x) (ea y) = decide (x = y)) : ∀ xs ys : List α, PyData.eqvAll (xs.map ea) (ys.map ea) = decide (xs = ys)
  | [], [] => by simp [PyData.eqvAll]
  | [], _ :: _ => by simp [PyData.eqvAll]
  | _ :: _, [] => by simp [PyData.eqvAll]
  | x :: xs, y :: ys => by
    simp only [List.map_cons, PyData.eqvAll]
    rw [h, eqvA_map h xs ys]
    by_cases c : x = y <;> simp [c]
end
end Pl
/-! Pl, part V: equality, tests and built-ins by type; the law's comparer. -/
namespace Pl
open PySem PySem.Spec PyProof.Rows L2

section
variable {α β γ δ : Type} {ea : α → PyData} {eb : β → PyData} {ec : γ → PyData} {ed : δ → PyData} {n m l q : Nat}
theorem ndA_map (h : ∀ x, noDct (ea x) = true) : ∀ xs : List α, noDctA (xs.map ea) = true
  | [] => rfl
  | x :: xs => by
    show (noDct (ea x) && noDctA (xs.map ea)) = true
    rw [h, ndA_map h xs]; rfl
theorem clA_map (h : ∀ x, (ea x).canLay0 = true) : ∀ xs : List α, PyData.canLayAll0 (xs.map ea) = true
  | [] => rfl
  | x :: xs => by
    show ((ea x).canLay0 && PyData.canLayAll0 (xs.map ea)) = true
    rw [h, clA_map h xs]; rfl
theorem dpA_map (h : ∀ x, (ea x).depth ≤ n) : ∀ xs : List α, PyData.depthAll (xs.map ea) ≤ n
  | [] => Nat.zero_le _
  | x :: xs => by
    show max ((ea x).depth) (PyData.depthAll (xs.map ea)) ≤ n
    exact Nat.max_le.mpr ⟨h x, dpA_map h xs⟩
/-- never None -/
structure NN {α : Type} (e : α → PyData) : Prop where
  ne : ∀ x, isNoneD (e x) = false
theorem nn_I : NN eI := ⟨fun _ => rfl⟩
theorem nn_B : NN eB := ⟨fun _ => rfl⟩
theorem nn_S : NN eS := ⟨fun _ => rfl⟩
theorem nn_t : NN (eT ea) := ⟨fun _ => rfl⟩
theorem nn_l : NN (eL ea) := ⟨fun _ => rfl⟩
theorem nn_P : NN (eP ea eb) := ⟨fun _ => rfl⟩
theorem nn_P3 : NN (eP3 ea eb ec) := ⟨fun _ => rfl⟩
theorem nn_P4 : NN (eP4 ea eb ec ed) := ⟨fun _ => rfl⟩
theorem isn_O (h : NN ea) (o : Option α) : isNoneD (eO ea o) = o.isNone := by
  cases o with
  | none => rfl
  | some x => exact h.ne x
variable [DecidableEq α] [DecidableEq β] [DecidableEq γ] [DecidableEq δ]
theorem eq_t (h : EqT ea n) : EqT (eT ea) (n + 1) := ⟨fun xs => ndA_map h.nd xs, fun xs => clA_map h.cl xs, fun xs => by
  show PyData.depthAll (xs.map ea) + 1 ≤ n + 1
  exact Nat.succ_le_succ (dpA_map h.dp xs), fun x y => by
  show PyData.eqv (.tuple (x.map ea)) (.tuple (y.map ea)) = _
  rw [PyData.eqv]
  exact eqvA_map h.eq x y⟩
theorem eq_l (h : EqT ea n) : EqT (eL ea) (n + 1) := ⟨fun xs => ndA_map h.nd xs, fun xs => clA_map h.cl xs, fun xs => by
  show PyData.depthAll (xs.map ea) + 1 ≤ n + 1
  exact Nat.succ_le_succ (dpA_map h.dp xs), fun x y => by
  show PyData.eqv (.list (x.map ea)) (.list (y.map ea)) = _
  rw [PyData.eqv]
  exact eqvA_map h.eq x y⟩
theorem eq_P (h : EqT ea n) (h' : EqT eb n) : EqT (eP ea eb) (n + 1) := ⟨fun x => by
  show (noDct (ea x.1) && (noDct (eb x.2) && true)) = true
  rw [h.nd, h'.nd]; rfl, fun x => by
  show ((ea x.1).canLay0 && ((eb x.2).canLay0 && true)) = true
  rw [h.cl, h'.cl]; rfl, fun x => by
  show max ((ea x.1).depth) (max ((eb x.2).depth) 0) + 1 ≤ n + 1
  exact Nat.succ_le_succ (Nat.max_le.mpr ⟨h.dp _, Nat.max_le.mpr ⟨h'.dp _, Nat.zero_le _⟩⟩), fun x y => by
  show PyData.eqv (.tuple [ea x.1, eb x.2]) (.tuple [ea y.1, eb y.2]) = _
  rw [PyData.eqv]
  simp only [PyData.eqvAll, h.eq, h'.eq, Bool.and_true]
  obtain ⟨x1, x2⟩ := x
  obtain ⟨y1, y2⟩ := y
  simp [Bool.decide_and]⟩
theorem eq_P3 (h : EqT ea n) (h' : EqT eb n) (h'' : EqT ec n) : EqT (eP3 ea eb ec) (n + 1) := ⟨fun x => by
  show (noDct (ea x.1) && (noDct (eb x.2.1) && (noDct (ec x.2.2) && true))) = true
  rw [h.nd, h'.nd, h''.nd]; rfl, fun x => by
  show ((ea x.1).canLay0 && ((eb x.2.1).canLay0 && ((ec x.2.2).canLay0 && true))) = true
  rw [h.cl, h'.cl, h''.cl]; rfl, fun x => by
  show max ((ea x.1).depth) (max ((eb x.2.1).depth) (max ((ec x.2.2).depth) 0)) + 1 ≤ n + 1
  exact Nat.succ_le_succ (Nat.max_le.mpr ⟨h.dp _, Nat.max_le.mpr ⟨h'.dp _, Nat.max_le.mpr ⟨h''.dp _, Nat.zero_le _⟩⟩⟩), fun x y => by
  show PyData.eqv (.tuple [ea x.1, eb x.2.1, ec x.2.2]) (.tuple [ea y.1, eb y.2.1, ec y.2.2]) = _
  rw [PyData.eqv]
  simp only [PyData.eqvAll, h.eq, h'.eq, h''.eq, Bool.and_true]
  obtain ⟨x1, x2, x3⟩ := x
  obtain ⟨y1, y2, y3⟩ := y
  simp [Bool.decide_and]⟩
theorem EqT.up {n m : Nat} (h : EqT ea n) (hn : n ≤ m) : EqT ea m := ⟨h.nd, h.cl, fun x => Nat.le_trans (h.dp x) hn, h.eq⟩
theorem eqv_none {d : PyData} (h : isNoneD d = false) : PyData.eqv .none d = false ∧ PyData.eqv d .none = false := by
  cases d with
  | none => cases h
  | _ => exact ⟨by simp only [PyData.eqv], by simp only [PyData.eqv]⟩
theorem eq_O (h : EqT ea n) (nn : NN ea) : EqT (eO ea) n := ⟨fun x => by cases x with | none => rfl | some x => exact h.nd x, fun x => by cases x with | none => rfl | some x => exact h.cl x,
  fun x => by cases x with | none => exact Nat.zero_le _ | some x => exact h.dp x, fun x y => by
  cases x with
  | none =>
    cases y with
    | none => show PyData.eqv .none .none = _; simp only [PyData.eqv]; rfl
    | some y => show PyData.eqv .none (ea y) = _; rw [(eqv_none (nn.ne y)).1]; simp
  | some x =>
    cases y with
    | none => show PyData.eqv (ea x) .none = _; rw [(eqv_none (nn.ne x)).2]; simp
    | some y => show PyData.eqv (ea x) (ea y) = _; rw [h.eq]; simp⟩
end
section
variable {G : Gb} {C : SC} {k : Nat} {ρ ρ1 ρ2 : PEnv} {e e1 e2 e3 tg a b c : Expr} {es : List Expr} {d d' d1 d2 d3 : PyData} {ds es' : List PyData} {pos p : Pos}
variable {α β γ δ : Type} {ea : α → PyData} {eb : β → PyData} {n : Nat}
theorem any_map {f : PyData → Bool} {g : α → Bool} (h : ∀ x, f (ea x) = g x) : ∀ xs : List α, (xs.map ea).any f = xs.any g
  | [] => rfl
  | x :: xs => by
    show (f (ea x) || (xs.map ea).any f) = (g x || xs.any g)
    rw [h, any_map h xs]
section
variable [DecidableEq α] [DecidableEq β]
theorem ok_eqT (h : EqT ea n) (x y : α) (hn : n ≤ 64 := by decide) : OpOk G C k (compareOp .Eq) (ea x) (ea y) (.bool (decide (x = y))) := h.eq x y ▸ ok_eq (h.b hn x) (h.b hn y)
theorem ok_neT (h : EqT ea n) (x y : α) (hn : n ≤ 64 := by decide) : OpOk G C k (compareOp .NotEq) (ea x) (ea y) (.bool (!decide (x = y))) := h.eq x y ▸ ok_ne (h.b hn x) (h.b hn y)
theorem anyD (h : EqT ea n) (x : α) (xs : List α) : ((xs.map ea).any fun z => PyData.eqv z (ea x)) = decide (x ∈ xs) := by
  rw [any_map (g := fun y => decide (y = x)) (fun y => h.eq y x) xs]
  induction xs with
  | nil => rfl
  | cons y ys ih =>
    rw [List.any_cons, ih]
    by_cases c : y = x
    · subst c; simp
    · have c' : ¬ x = y := fun z => c z.symm
      simp [c, c']
theorem ok_inLT (h : EqT ea n) (x : α) (xs : List α) (hn : n < 64 := by decide) : OpOk G C k (compareOp .In) (ea x) (eL ea xs) (.bool (decide (x ∈ xs))) := anyD h x xs ▸ ok_inL (h.b (Nat.le_of_lt hn) x) ((eq_l h).b hn xs)
theorem ok_notInLT (h : EqT ea n) (x : α) (xs : List α) (hn : n < 64 := by decide) : OpOk G C k (compareOp .NotIn) (ea x) (eL ea xs) (.bool (!decide (x ∈ xs))) := anyD h x xs ▸ ok_notInL (h.b (Nat.le_of_lt hn) x) ((eq_l h).b hn xs)
theorem ok_inTT (h : EqT ea n) (x : α) (xs : List α) (hn : n < 64 := by decide) : OpOk G C k (compareOp .In) (ea x) (eT ea xs) (.bool (decide (x ∈ xs))) := anyD h x xs ▸ ok_inT (h.b (Nat.le_of_lt hn) x) ((eq_t h).b hn xs)
theorem ok_notInTT (h : EqT ea n) (x : α) (xs : List α) (hn : n < 64 := by decide) : OpOk G C k (compareOp .NotIn) (ea x) (eT ea xs) (.bool (!decide (x ∈ xs))) := anyD h x xs ▸ ok_notInT (h.b (Nat.le_of_lt hn) x) ((eq_t h).b hn xs)
end
/-! ### None -/
theorem ok_isO (h : NN ea) (o : Option α) : OpOk G C k (compareOp .Is) (eO ea o) .none (.bool o.isNone) := isn_O h o ▸ ok_is
theorem ok_isnotO (h : NN ea) (o : Option α) : OpOk G C k (compareOp .IsNot) (eO ea o) .none (.bool (!o.isNone)) := isn_O h o ▸ ok_isnot
theorem ok_isX (h : NN ea) (x : α) : OpOk G C k (compareOp .Is) (ea x) .none (.bool false) := h.ne x ▸ ok_is
theorem ok_isnotX (h : NN ea) (x : α) : OpOk G C k (compareOp .IsNot) (ea x) .none (.bool true) := by
  have := ok_isnot (G := G) (C := C) (k := k) (d := ea x)
  rw [h.ne x] at this
  exact this
/-! ### lengths, sums -/
theorem ok_lenL (xs : List α) : CallOk G C k (.builtin "len") [eL ea xs] (.int (xs.length : Int)) := ok_len (by show some (((xs.map ea).length : Nat) : Int) = _; rw [List.length_map])
theorem ok_lenT (xs : List α) : CallOk G C k (.builtin "len") [eT ea xs] (.int (xs.length : Int)) := ok_len (by show some (((xs.map ea).length : Nat) : Int) = _; rw [List.length_map])
theorem ok_anyL (bs : List Bool) : CallOk G C k (.builtin "any") [eL eB bs] (.bool (bs.any id)) := ok_any
theorem ok_allL (bs : List Bool) : CallOk G C k (.builtin "all") [eL eB bs] (.bool (bs.all id)) := ok_all
theorem ok_sumLT (ns : List Int) : CallOk G C k (.builtin "sum") [eL eI ns] (.int ns.sum) := ok_sumL
theorem ok_sumTT (ns : List Int) : CallOk G C k (.builtin "sum") [eT eI ns] (.int ns.sum) := ok_sumT
theorem ok_tupL (xs : List α) : CallOk G C k (.type "tuple") [eL ea xs] (eT ea xs) := ok_tupleL
theorem ok_tupT (xs : List α) : CallOk G C k (.type "tuple") [eT ea xs] (eT ea xs) := ok_tupleT
theorem new_lsL (xs : List α) : CallNew G C k (.type "list") [eL ea xs] (eL ea xs) := new_listL
theorem new_lsT (xs : List α) : CallNew G C k (.type "list") [eT ea xs] (eL ea xs) := new_listT
/-! ### slices -/
theorem cutD_map (f : α → PyData) (xs : List α) (lo hi : Option Int) : cutD (xs.map f) lo hi = (cutD xs lo hi).map f := by
  unfold cutD
  rw [List.length_map, List.map_take, List.map_drop]
theorem evn_sliceX {xs : List α} {lo hi : Option Expr} {l u : Option Int} {p2 : Pos} (he : EvB G C k ρ e (eL ea xs)) (hl : EP' G C k ρ lo l) (hu : EP' G C k ρ hi u) : EvN G C k ρ (.Subscript e (.Slice lo hi none p2) pos) (eL ea (cutD xs l u)) := by
  have h := evn_slice (pos := pos) (p2 := p2) he hl hu
  rw [cutD_map] at h
  exact h
theorem ev_sliceX {xs : List α} {lo hi : Option Expr} {l u : Option Int} {p2 : Pos} (he : Ev G C k ρ e (eT ea xs)) (hl : EP' G C k ρ lo l) (hu : EP' G C k ρ hi u) : Ev G C k ρ (.Subscript e (.Slice lo hi none p2) pos) (eT ea (cutD xs l u)) := by
  have h := ev_sliceT (pos := pos) (p2 := p2) he hl hu
  rw [cutD_map] at h
  exact h
/-! ### [..] * n, sums of lists -/
def repL {α : Type} (xs : List α) (n : Int) : List α := (List.replicate n.toNat xs).flatten
def RepOk (l : Nat) (n : Int) : Prop := (-1000000000 ≤ n ∧ n ≤ 1000000000) ∧ l * n.toNat ≤ 16777216
instance {l : Nat} {n : Int} : Decidable (RepOk l n) := by unfold RepOk; infer_instance
theorem evn_repX {xs : List α} {n : Int} (ha : EvN G C k ρ a (eL ea xs)) (hb : EvB G C k ρ b (.int n)) (h : RepOk xs.length n) : EvN G C k ρ (.BinOp a .Mult b pos) (eL ea (repL xs n)) := by
  have e := sizeLine_eq
  have q := evn_rep (pos := pos) (ds := xs.map ea) ha hb (by have := h.1; omega) (by have := h.1; omega) (by rw [List.length_map, e]; exact h.2)
  have e2 : (List.replicate n.toNat (xs.map ea)).flatten = (repL xs n).map ea := by
    unfold repL
    rw [List.map_flatten, List.map_replicate]
  rw [e2] at q
  exact q
/-- so short that two of it fit -/
def SzOk (n : Nat) : Prop := n ≤ 16777216
instance {n : Nat} : Decidable (SzOk n) := by unfold SzOk; infer_instance
theorem SzOk.z {n : Nat} (h : SzOk n) : n ≤ sizeLine := by rw [sizeLine_eq]; exact h
theorem le_sz {n : Nat} (h : n ≤ 100000) : n ≤ sizeLine := by rw [sizeLine_eq]; omega
theorem ok_catT {xs ys : List α} (h : SzOk (xs.length + ys.length)) : OpOk G C k (binaryOp .Add) (eT ea xs) (eT ea ys) (eT ea (xs ++ ys)) := by
  have q := ok_cat (G := G) (C := C) (k := k) (ds := xs.map ea) (es := ys.map ea) (by rw [List.length_map, List.length_map]; exact h.z)
  rw [← List.map_append] at q
  exact q
theorem new_catL {xs ys : List α} (h : SzOk (xs.length + ys.length)) : OpNew G C k (binaryOp .Add) (eL ea xs) (eL ea ys) (eL ea (xs ++ ys)) := by
  have q := new_cat (G := G) (C := C) (k := k) (ds := xs.map ea) (es := ys.map ea) (by rw [List.length_map, List.length_map]; exact h.z)
  rw [← List.map_append] at q
  exact q
/-! ### what is walked, by type -/
def enumT {α : Type} (xs : List α) : List (Int × α) := xs.zipIdx.map fun p => ((p.2 : Int), p.1)
theorem enumD_map (xs : List α) : enumD (xs.map ea) = (enumT xs).map (eP eI ea) := by
  unfold enumD enumT
  rw [List.zipIdx_map, List.map_map, List.map_map]
  rfl
theorem zipD_map (xs : List α) (ys : List β) : zipD (xs.map ea) (ys.map eb) = (xs.zip ys).map (eP ea eb) := by
  unfold zipD
  rw [List.zipWith_map, List.zip, List.map_zipWith]
  rfl
theorem it_enumX {elts : List Expr} {kk : Nat} {tp : Pos} {xs : List α} (hg : C.sc.names.lookup ("enumerate" : Str) = some .globalImplicit) (hm : G.mg "enumerate" = none) (h : Ev G C k ρ e (eL ea xs)) (hs : ∀ env, starEach [e] env = [(false, eval e env)]) :
    It' G C k ρ (.Tuple elts kk tp) (.Call (.Name "enumerate" p) [e] [] pos) ((enumT xs).map (eP eI ea)) ((xs.map ea).length ≤ sizeLine) := enumD_map (ea := ea) xs ▸ it_enum hg hm h hs
theorem it_enumTX {elts : List Expr} {kk : Nat} {tp : Pos} {xs : List α} (hg : C.sc.names.lookup ("enumerate" : Str) = some .globalImplicit) (hm : G.mg "enumerate" = none) (h : Ev G C k ρ e (eT ea xs)) (hs : ∀ env, starEach [e] env = [(false, eval e env)]) :
    It' G C k ρ (.Tuple elts kk tp) (.Call (.Name "enumerate" p) [e] [] pos) ((enumT xs).map (eP eI ea)) ((xs.map ea).length ≤ sizeLine) := enumD_map (ea := ea) xs ▸ it_enumT hg hm h hs
theorem it_zipX {elts : List Expr} {kk : Nat} {tp : Pos} {xs : List α} {ys : List β} (hg : C.sc.names.lookup ("zip" : Str) = some .globalImplicit) (hm : G.mg "zip" = none) (h : Ev G C k ρ e (eL ea xs)) (h' : Ev G C k ρ e2 (eL eb ys)) (hs : ∀ env, starEach [e, e2] env = (false, eval e env) :: starEach [e2] env) (hs2 : ∀ env, starEach [e2] env = [(false, eval e2 env)]) :
    It' G C k ρ (.Tuple elts kk tp) (.Call (.Name "zip" p) [e, e2] [] pos) ((xs.zip ys).map (eP ea eb)) ((xs.map ea).length ≤ sizeLine ∧ (ys.map eb).length ≤ sizeLine) := zipD_map (ea := ea) (eb := eb) xs ys ▸ it_zip hg hm h h' hs hs2
theorem it_zipTX {elts : List Expr} {kk : Nat} {tp : Pos} {xs : List α} {ys : List β} (hg : C.sc.names.lookup ("zip" : Str) = some .globalImplicit) (hm : G.mg "zip" = none) (h : Ev G C k ρ e (eT ea xs)) (h' : Ev G C k ρ e2 (eT eb ys)) (hs : ∀ env, starEach [e, e2] env = (false, eval e env) :: starEach [e2] env) (hs2 : ∀ env, starEach [e2] env = [(false, eval e2 env)]) :
    It' G C k ρ (.Tuple elts kk tp) (.Call (.Name "zip" p) [e, e2] [] pos) ((xs.zip ys).map (eP ea eb)) ((xs.map ea).length ≤ sizeLine ∧ (ys.map eb).length ≤ sizeLine) := zipD_map (ea := ea) (eb := eb) xs ys ▸ it_zipT hg hm h h' hs hs2
/-- the length fact of a comprehension: no more items than were walked -/
theorem zz_map {xs : List α} {ys : List β} (h : ys.length = xs.length) : ((xs.map ea).length ≤ sizeLine) → (ys.map eb).length ≤ sizeLine := fun z => by
  rw [List.length_map] at z ⊢
  rw [h]; exact z
theorem zz_fil {xs : List α} {ys : List β} (h : ys.length ≤ xs.length) : ((xs.map ea).length ≤ sizeLine) → (ys.map eb).length ≤ sizeLine := fun z => by
  rw [List.length_map] at z ⊢
  exact Nat.le_trans h z
theorem enumT_len (xs : List α) : (enumT xs).length = xs.length := by unfold enumT; simp
/-! ### displays -/
theorem sz0 : 0 ≤ sizeLine := Nat.zero_le _
theorem ev_P {m} {da db : PyData} (h1 : Ev G C k ρ e1 da) (h2 : Ev G C k ρ e2 db) (s1 : ∀ env, starEach [e1, e2] env = (false, eval e1 env) :: starEach [e2] env) (s2 : ∀ env, starEach [e2] env = (false, eval e2 env) :: starEach [] env) : Ev G C k ρ (.Tuple [e1, e2] m pos) (.tuple [da, db]) :=
  ev_tup (ea_cons h1 (ea_cons h2 ea_nil s2) s1) (le_sz (by decide : 2 ≤ 100000))
/-! ### a list's item stored -/
theorem setAt_ex {xs ys : List α} {i : Int} {v : α} (h : setAt xs i v = some ys) : ∃ m, ixN (xs.map ea).length i = some m ∧ ys.map ea = (xs.map ea).set m (ea v) := by
  unfold setAt at h
  rw [List.length_map]
  cases q : ixN xs.length i with
  | none => rw [q] at h; cases h
  | some m =>
    rw [q] at h
    cases h
    exact ⟨m, rfl, by rw [List.map_set]⟩
end
end Pl
/-! Pl, part W: short forms for the printed proofs; the law's comparer. -/
namespace Pl
open PySem PySem.Spec PyProof.Rows L2

theorem bb_len : bootBuiltins "len" = some (.builtin "len") := by decide +kernel
theorem bb_sum : bootBuiltins "sum" = some (.builtin "sum") := by decide +kernel
theorem bb_abs : bootBuiltins "abs" = some (.builtin "abs") := by decide +kernel
theorem bb_min : bootBuiltins "min" = some (.builtin "min") := by decide +kernel
theorem bb_max : bootBuiltins "max" = some (.builtin "max") := by decide +kernel
theorem bb_any : bootBuiltins "any" = some (.builtin "any") := by decide +kernel
theorem bb_all : bootBuiltins "all" = some (.builtin "all") := by decide +kernel
theorem bb_sorted : bootBuiltins "sorted" = some (.builtin "sorted") := by decide +kernel
theorem bb_int : bootBuiltins "int" = some (.type "int") := by decide +kernel
theorem bb_str : bootBuiltins "str" = some (.type "str") := by decide +kernel
theorem bb_bool : bootBuiltins "bool" = some (.type "bool") := by decide +kernel
theorem bb_tuple : bootBuiltins "tuple" = some (.type "tuple") := by decide +kernel
theorem bb_list : bootBuiltins "list" = some (.type "list") := by decide +kernel
section
variable {G : Gb} {C : SC} {k j : Nat} {ρ ρ1 ρ2 : PEnv} {e e1 e2 e3 tg a b c : Expr} {es : List Expr} {d d' d1 d2 d3 : PyData} {ds es' : List PyData} {pos p : Pos} {x y z : Str}
theorem cB {id : String} (g : Gn C x) (m : G.mg x = none) (bb : bootBuiltins x = some (.builtin id)) (hc : CallOk G C k (.builtin id) ds d) (ha : EAB G C k ρ (e :: es) ds)
    (he : ∀ env, starEach (e :: es) env = (false, eval e env) :: starEach es env) (hpl : ∀ env, (backTo pos (starEach es env)).any (·.1) = false) : Ev G C k ρ (.Call (.Name x p) (e :: es) [] pos) d := ev_callB hc g.hg m bb ha g.hn g.hd he hpl
theorem nB {id : String} (g : Gn C x) (m : G.mg x = none) (bb : bootBuiltins x = some (.builtin id)) (hc : CallNew G C k (.builtin id) ds d) (ha : EAB G C k ρ (e :: es) ds)
    (he : ∀ env, starEach (e :: es) env = (false, eval e env) :: starEach es env) (hpl : ∀ env, (backTo pos (starEach es env)).any (·.1) = false) : EvN G C k ρ (.Call (.Name x p) (e :: es) [] pos) d := evn_callB hc g.hg m bb ha g.hn g.hd he hpl
theorem cT {T : String} (g : Gn C x) (m : G.mg x = none) (bb : bootBuiltins x = some (.type T)) (hc : CallOk G C k (.type T) ds d) (ha : EAB G C k ρ (e :: es) ds)
    (he : ∀ env, starEach (e :: es) env = (false, eval e env) :: starEach es env) (hpl : ∀ env, (backTo pos (starEach es env)).any (·.1) = false) : Ev G C k ρ (.Call (.Name x p) (e :: es) [] pos) d := ev_callT hc g.hg m bb ha g.hn g.hd he hpl
theorem nT {T : String} (g : Gn C x) (m : G.mg x = none) (bb : bootBuiltins x = some (.type T)) (hc : CallNew G C k (.type T) ds d) (ha : EAB G C k ρ (e :: es) ds)
    (he : ∀ env, starEach (e :: es) env = (false, eval e env) :: starEach es env) (hpl : ∀ env, (backTo pos (starEach es env)).any (·.1) = false) : EvN G C k ρ (.Call (.Name x p) (e :: es) [] pos) d := evn_callT hc g.hg m bb ha g.hn g.hd he hpl
/-- a call of a def of the text -/
theorem cF (g : Gn C x) (h : Fn G j x ds d) (hj : j ≤ k) (ha : EA G C k ρ (e :: es) ds) (he : ∀ env, starEach (e :: es) env = (false, eval e env) :: starEach es env) (hpl : ∀ env, (backTo pos (starEach es env)).any (·.1) = false) :
    Ev G C k ρ (.Call (.Name x p) (e :: es) [] pos) d := ev_call h hj g.hg ha g.hd he hpl
theorem cFB (g : Gn C x) (h : Fn G j x ds d) (hf : flat d = true) (hj : j ≤ k) (ha : EAB G C k ρ (e :: es) ds) (he : ∀ env, starEach (e :: es) env = (false, eval e env) :: starEach es env) (hpl : ∀ env, (backTo pos (starEach es env)).any (·.1) = false) :
    Ev G C k ρ (.Call (.Name x p) (e :: es) [] pos) d := ev_callB' h hf hj g.hg ha g.hd he hpl
theorem cIs {T : String} {p1 p2 : Pos} {t : Bool} (g : Gn C "isinstance") (m : G.mg "isinstance" = none) (gT : Gn C x) (mT : G.mg x = none) (bb : bootBuiltins x = some (.type T)) (h : EvB G C k ρ e d) (hk : kitB (tyD d) T = some t)
    (hs : ∀ env, starEach [e, .Name x p2] env = (false, eval e env) :: starEach [.Name x p2] env) : Ev G C k ρ (.Call (.Name "isinstance" p1) [e, .Name x p2] [] pos) (.bool t) := ev_isi h hk g.hg m gT.hg mT bb gT.hn gT.hd hs
/-! stores -/
theorem sSet (i : Nat) {pos' : Pos} (n : NmS C i x) (he : Ev G C k ρ e d) (hs : ∀ env : Env, env.scope = C.sc → swapsWith e (some (.Name x pos')) pos.line env = pure false) : St1 G C k ρ (.Assign [.Name x pos'] e pos) (.nx (ρ.set i (some (.sh d)))) := st_set i n.hi n.hx n.hf he hs
theorem sOwn (i : Nat) {pos' : Pos} (n : NmS C i x) (he : EvN G C k ρ e d) (hs : ∀ env : Env, env.scope = C.sc → swapsWith e (some (.Name x pos')) pos.line env = pure false) : St1 G C k ρ (.Assign [.Name x pos'] e pos) (.nx (ρ.set i (some (.ow d)))) := st_own i n.hi n.hx n.hf he hs
theorem sAug (i : Nat) {op : Operator} {pos' : Pos} (n : NmS C i x) (h : ρ[i]? = some (some (.sh d1))) (he : EvB G C k ρ e d2) (ho : OpOk G C k (inplaceOp op) d1 d2 d) : St1 G C k ρ (.AugAssign (.Name x pos') op e pos) (.nx (ρ.set i (some (.sh d)))) := st_aug i n.hi n.hx n.hf h he ho
theorem sApp (i : Nat) {p1 ap cp : Pos} (n : Nm C i x) (h : ρ[i]? = some (some (.ow (.list ds)))) (he : Ev G C k ρ e d) (hl : ds.length < sizeLine)
    (hsw : ∀ env, swapsWith (.Call (.Attribute (.Name x p1) "append" ap) [e] [] cp) none pos.line env = pure false) (hs : ∀ env, starEach [e] env = [(false, eval e env)]) (hab : ∀ env, attributeBase (.Name x p1) "append" env (eval (.Name x p1) env) = eval (.Name x p1) env) (hln : (ap.endLine == cp.line) = true) :
    St1 G C k ρ (.Expr (.Call (.Attribute (.Name x p1) "append" ap) [e] [] cp) pos) (.nx (ρ.set i (some (.ow (.list (ds ++ [d])))))) := st_append i n.hi n.hv h he hl n.hd n.hc hsw hs hab hln
/-- a list of which one more fits -/
def Sz1 (n : Nat) : Prop := n < 16777216
instance {n : Nat} : Decidable (Sz1 n) := by unfold Sz1; infer_instance
theorem Sz1.map {α : Type} {f : α → PyData} {xs : List α} (h : Sz1 xs.length) : (xs.map f).length < sizeLine := by rw [List.length_map, sizeLine_eq]; exact h
theorem map_snoc {α : Type} (f : α → PyData) (xs : List α) (x : α) : xs.map f ++ [f x] = (xs ++ [x]).map f := by simp
theorem map_app {α : Type} (f : α → PyData) (xs ys : List α) : xs.map f ++ ys.map f = (xs ++ ys).map f := by simp
theorem sAppX {α : Type} {f : α → PyData} {xs zs : List α} {v : α} (hz : xs ++ [v] = zs) (i : Nat) {p1 ap cp : Pos} (n : Nm C i x) (h : ρ[i]? = some (some (.ow (eL f xs)))) (he : Ev G C k ρ e (f v)) (hl : Sz1 xs.length)
    (hsw : ∀ env, swapsWith (.Call (.Attribute (.Name x p1) "append" ap) [e] [] cp) none pos.line env = pure false) (hs : ∀ env, starEach [e] env = [(false, eval e env)]) (hab : ∀ env, attributeBase (.Name x p1) "append" env (eval (.Name x p1) env) = eval (.Name x p1) env) (hln : (ap.endLine == cp.line) = true) :
    St1 G C k ρ (.Expr (.Call (.Attribute (.Name x p1) "append" ap) [e] [] cp) pos) (.nx (ρ.set i (some (.ow (eL f zs))))) := by
  subst hz
  have q := sApp (pos := pos) i n h he hl.map hsw hs hab hln
  rw [map_snoc] at q
  exact q
theorem sExtX {α : Type} {f : α → PyData} {xs ys zs : List α} (hz : xs ++ ys = zs) (i : Nat) {p1 ap cp : Pos} (n : Nm C i x) (h : ρ[i]? = some (some (.ow (eL f xs)))) (he : EvN G C k ρ e (eL f ys)) (hl : SzOk (xs.length + ys.length))
    (hsw : ∀ env, swapsWith (.Call (.Attribute (.Name x p1) "extend" ap) [e] [] cp) none pos.line env = pure false) (hs : ∀ env, starEach [e] env = [(false, eval e env)]) (hab : ∀ env, attributeBase (.Name x p1) "extend" env (eval (.Name x p1) env) = eval (.Name x p1) env) (hln : (ap.endLine == cp.line) = true) :
    St1 G C k ρ (.Expr (.Call (.Attribute (.Name x p1) "extend" ap) [e] [] cp) pos) (.nx (ρ.set i (some (.ow (eL f zs))))) := by
  subst hz
  have q := st_extend (pos := pos) (ds := xs.map f) (es' := ys.map f) i n h he (by rw [List.length_map, List.length_map]; exact hl.z) hsw hs hab hln
  rw [map_app] at q
  exact q
theorem sItemX {α : Type} {f : α → PyData} {xs ys : List α} {v : α} (i : Nat) {ei : Expr} {m : Int} {p1 p2 : Pos} (n : Nm C i x) (h : ρ[i]? = some (some (.ow (eL f xs)))) (he : Ev G C k ρ e (f v)) (hei : EvB G C k ρ ei (.int m)) (hm : setAt xs m v = some ys)
    (hs : ∀ env, swapsWithSole [.Subscript (.Name x p1) ei p2] e pos.line env = pure false) (hw : ∀ env, swappedStores [.Subscript (.Name x p1) ei p2] e env = pure none) (h1 : ∀ env, (assignEach [.Subscript (.Name x p1) ei p2] env).map (·.2) = [assign (.Subscript (.Name x p1) ei p2) env])
    (ha : ∀ env v, assign (.Subscript (.Name x p1) ei p2) env v = (do
      let ov ← holding [v] (eval (.Name x p1) env)
      let iv ← holding [v, ov] (eval ei env)
      standAt p2
      holding [v, ov, iv] (setItem ov iv v)
      release [v, ov, iv] [])) :
    St1 G C k ρ (.Assign [.Subscript (.Name x p1) ei p2] e pos) (.nx (ρ.set i (some (.ow (eL f ys))))) := by
  obtain ⟨j, hj, e⟩ := setAt_ex (ea := f) hm
  show St1 G C k ρ _ (.nx (ρ.set i (some (.ow (.list (ys.map f))))))
  rw [e]
  exact st_setitem i n.hi n.hv h he hei hj n.hd n.hc hs hw h1 ha
/-! targets -/
theorem tN (i : Nat) (n : NmS C i x) : Tg G C k ρ (.Name x pos) [i] d (ρ.set i (some (.sh d))) := tg_name i n.hi n.hx n.hf
/-! comprehensions -/
theorem nLc {elt iter : Expr} {ifs : List Expr} {scope : Scope} {ys : List PyData} (own : List (Str × Nat)) (ok : blkC C.N C.sc scope own = true) {z : Prop} (hi : ItB G C k ρ tg iter ds z)
    (hs : LcR G (C.blk scope) k (wipeE ρ (own.map (·.2))) (own.map (·.2)) tg ifs elt ds ys) (hzz : z → ys.length ≤ sizeLine) (hfs : ∀ env x, foldedSetIterable iter env x = pure x) :
    EvN G C k ρ (.ListComp elt [⟨tg, iter, ifs, 0⟩] scope pos) (.list ys) := evn_lc (blkOk_by ok) hi hs hzz hfs
theorem sLc (i : Nat) {py : Pos} {elt iter : Expr} {ifs : List Expr} {scope : Scope} {spos : Pos} {ys : List PyData} (n : NmL C i x) (own : List (Str × Nat)) (hsw : ∀ env : Env, env.scope = C.sc → swapsWith (.ListComp elt [⟨tg, iter, ifs, 0⟩] scope pos) (some (.Name x py)) spos.line env = pure true)
    (ok : blkC C.N C.sc scope own = true) {z : Prop} (hit : ItB G C k ρ tg iter ds z) (hs : LcR G (C.blk scope) k (wipeE ρ (own.map (·.2))) (own.map (·.2)) tg ifs elt ds ys) (hzz : z → ys.length ≤ sizeLine) (hfs : ∀ env x, foldedSetIterable iter env x = pure x) :
    St1 G C k ρ (.Assign [.Name x py] (.ListComp elt [⟨tg, iter, ifs, 0⟩] scope pos) spos) (.nx (ρ.set i (some (.ow (.list ys))))) := st_setLc i n.hi n.hl hsw (blkOk_by ok) hit hs hzz hfs
theorem sLcS (i : Nat) {py : Pos} {elt iter : Expr} {ifs : List Expr} {scope : Scope} {spos : Pos} {ys : List PyData} (n : NmL C i x) (own : List (Str × Nat)) (hsw : ∀ env : Env, env.scope = C.sc → swapsWith (.ListComp elt [⟨tg, iter, ifs, 0⟩] scope pos) (some (.Name x py)) spos.line env = pure true)
    (ok : blkC C.N C.sc scope own = true) {z : Prop} (hit : ItB G C k ρ tg iter ds z) (hs : LcR G (C.blk scope) k (wipeE ρ (own.map (·.2))) (own.map (·.2)) tg ifs elt ds ys) (hzz : z → ys.length ≤ sizeLine) (hfs : ∀ env x, foldedSetIterable iter env x = pure x) :
    St1 G C k ρ (.Assign [.Name x py] (.ListComp elt [⟨tg, iter, ifs, 0⟩] scope pos) spos) (.nx (ρ.set i (some (.sh (.list ys))))) := st_setLcS i n.hi n.hl hsw (blkOk_by ok) hit hs hzz hfs
theorem RgO.r1 {j : Int} (h : RgO 0 j) : -(2 ^ 62) ≤ j ∧ j < 2 ^ 62 := by obtain ⟨_, _, _, _, _⟩ := h; omega
theorem RgO.r2 {i j : Int} (h : RgO i j) : -(2 ^ 62) ≤ i ∧ i < 2 ^ 62 ∧ -(2 ^ 62) ≤ j ∧ j < 2 ^ 62 := by obtain ⟨_, _, _, _, _⟩ := h; omega
theorem iR1 {j : Int} (g : Gn C "range") (m : G.mg "range" = none) (ha : EvB G C k ρ a (.int j)) (hr : RgO 0 j) (hs : ∀ env, starEach [a] env = [(false, eval a env)]) : It' G C k ρ tg (.Call (.Name "range" p) [a] [] pos) ((rangeD 0 j).map .int) True := it_range1 g.hg m ha hr.r1.1 hr.r1.2 hs
theorem iR2 {i j : Int} (g : Gn C "range") (m : G.mg "range" = none) (ha : EvB G C k ρ a (.int i)) (hb : EvB G C k ρ b (.int j)) (hr : RgO i j) (hs : ∀ env, starEach [a, b] env = [(false, eval a env), (false, eval b env)]) (hs2 : ∀ env, starEach [b] env = [(false, eval b env)]) :
    It' G C k ρ tg (.Call (.Name "range" p) [a, b] [] pos) ((rangeD i j).map .int) True := it_range2 g.hg m ha hb hr.r2 hs hs2
theorem zz_rg {β : Type} {eb : β → PyData} {lo hi : Int} {ys : List β} (hr : RgO lo hi) (h : ys.length ≤ (rangeD lo hi).length) : True → (ys.map eb).length ≤ sizeLine := fun _ => by
  rw [List.length_map]
  exact Nat.le_trans h (rangeD_le hr)
theorem len_m {α β : Type} (g : α → β) (xs : List α) : (xs.map g).length ≤ xs.length := by simp
theorem len_f {α β : Type} (f : α → Bool) (g : α → β) (xs : List α) : ((xs.filter f).map g).length ≤ xs.length := by rw [List.length_map]; exact List.length_filter_le _ _
end
section
variable {G : Gb} {C : SC} {k j : Nat} {ρ ρ1 ρ2 : PEnv} {e e1 e2 e3 tg a b c : Expr} {es : List Expr} {d d' d1 d2 d3 : PyData} {ds es' : List PyData} {pos p : Pos} {x y z : Str}
theorem OpOk.to {f : Value → Value → Sem Value} (h : OpOk G C k f d1 d2 d) (q : d = d') : OpOk G C k f d1 d2 d' := q ▸ h
theorem LcR.to {vs : List Nat} {ifs : List Expr} {elt : Expr} {ys zs : List PyData} (h : LcR G C k ρ vs tg ifs elt ds ys) (q : ys = zs) : LcR G C k ρ vs tg ifs elt ds zs := q ▸ h
theorem lcr_mapM {α β : Type} {ea : α → PyData} {eb : β → PyData} {vs : List Nat} {ifs : List Expr} {elt : Expr} (g : α → β) : ∀ (xs : List α), (∀ x ∈ xs, LcStep G C k ρ vs tg ifs elt (ea x) (some (eb (g x)))) → LcR G C k ρ vs tg ifs elt (xs.map ea) ((xs.map g).map eb)
  | [], _ => .nil
  | x :: xs, h => .keep (h x (List.mem_cons_self ..)) (lcr_mapM g xs fun y hy => h y (List.mem_cons_of_mem _ hy))
theorem eT_some {α : Type} (e : α → PyData) (xs : List α) : eT e xs = eT (eO e) (xs.map some) := by
  show PyData.tuple _ = PyData.tuple _
  rw [List.map_map]; rfl
theorem eL_some {α : Type} (e : α → PyData) (xs : List α) : eL e xs = eL (eO e) (xs.map some) := by
  show PyData.list _ = PyData.list _
  rw [List.map_map]; rfl
theorem rg_len {n : Nat} (h : n ≤ 16777216) : RgO 0 (n : Int) := by unfold RgO; omega
theorem zz_to {β : Type} {eb : β → PyData} {ys zs : List β} {z : Prop} (q : ys = zs) (h : z → (ys.map eb).length ≤ sizeLine) : z → (zs.map eb).length ≤ sizeLine := q ▸ h
theorem zz_zip {α β γ : Type} {ea : α → PyData} {eb : β → PyData} {ec : γ → PyData} {xs : List α} {ys : List β} {zs : List γ} (h : zs.length ≤ (List.zip xs ys).length) : ((xs.map ea).length ≤ sizeLine ∧ (ys.map eb).length ≤ sizeLine) → (zs.map ec).length ≤ sizeLine := fun q => by
  have q1 := q.1
  rw [List.length_map] at q1 ⊢
  rw [List.length_zip] at h
  omega
theorem swp_sc {ts : List Expr} {v : Expr} {o : Sem (Option (List Str))} (env : Env) (h : env.scope = C.sc) (q : swappedStores ts v { env with scope := C.sc } = o) : swappedStores ts v env = o := by
  rw [← h] at q
  exact q
theorem tru_t {α : Type} (e : α → PyData) (xs : List α) : truD (eT e xs) = some (!xs.isEmpty) := by cases xs <;> rfl
theorem tru_l {α : Type} (e : α → PyData) (xs : List α) : truD (eL e xs) = some (!xs.isEmpty) := by cases xs <;> rfl
theorem ok_lenS {s : Str} (h : SzOk s.length) : CallOk G C k (.builtin "len") [eS s] (.int (s.length : Int)) := ok_len (by
  show (if s.length ≤ sizeLine then some (s.length : Int) else none) = _
  rw [if_pos h.z])
/-! data without lists -/
theorem flA_map {α : Type} {ea : α → PyData} (h : ∀ x, flat (ea x) = true) : ∀ xs : List α, flatA (xs.map ea) = true
  | [] => rfl
  | x :: xs => by
    show (flat (ea x) && flatA (xs.map ea)) = true
    rw [h, flA_map h xs]; rfl
theorem fl_I : ∀ x, flat (eI x) = true := fun _ => rfl
theorem fl_B : ∀ x, flat (eB x) = true := fun _ => rfl
theorem fl_S : ∀ x, flat (eS x) = true := fun _ => rfl
theorem fl_N : ∀ x, flat (eN x) = true := fun _ => rfl
theorem fl_t {α : Type} {ea : α → PyData} (h : ∀ x, flat (ea x) = true) : ∀ x, flat (eT ea x) = true := fun xs => flA_map h xs
theorem fl_O {α : Type} {ea : α → PyData} (h : ∀ x, flat (ea x) = true) : ∀ x, flat (eO ea x) = true := fun o => by cases o with | none => rfl | some x => exact h x
theorem fl_P {α β : Type} {ea : α → PyData} {eb : β → PyData} (h : ∀ x, flat (ea x) = true) (h' : ∀ x, flat (eb x) = true) : ∀ x, flat (eP ea eb x) = true := fun x => by
  show (flat (ea x.1) && (flat (eb x.2) && true)) = true
  rw [h, h']; rfl
theorem fl_P3 {α β γ : Type} {ea : α → PyData} {eb : β → PyData} {ec : γ → PyData} (h : ∀ x, flat (ea x) = true) (h' : ∀ x, flat (eb x) = true) (h'' : ∀ x, flat (ec x) = true) : ∀ x, flat (eP3 ea eb ec x) = true := fun x => by
  show (flat (ea x.1) && (flat (eb x.2.1) && (flat (ec x.2.2) && true))) = true
  rw [h, h', h'']; rfl
end
/-! ### the law's comparer -/
mutual
def likeD : PyData → PyData → Bool
  | v, .none => isNoneD v
  | v, .bool b => match v with | .bool c => c == b | _ => false
  | v, .int j => match v with | .int i => decide (i = j) | _ => false
  | v, .str x => match v with | .str y => decide (y = x) | _ => false
  | v, .tuple ds => match v with | .tuple vs => decide (vs.length = ds.length) && likeA vs ds | _ => false
  | _, _ => false
termination_by structural _ d => d
def likeA : List PyData → List PyData → Bool
  | v :: vs, d :: ds => likeD v d && likeA vs ds
  | _, _ => true
termination_by structural _ d => d
end
mutual
def dueOk : PyData → Bool
  | .list _ | .dict _ => false
  | .tuple xs => dueA xs
  | _ => true
def dueA : List PyData → Bool
  | [] => true
  | x :: xs => dueOk x && dueA xs
end
mutual
theorem like_refl : ∀ d : PyData, dueOk d = true → likeD d d = true
  | .none, _ => rfl
  | .bool b, _ => by show (b == b) = true; simp
  | .int i, _ => by show decide (i = i) = true; simp
  | .str x, _ => by show decide (x = x) = true; simp
  | .tuple xs, h => by
    show (decide (xs.length = xs.length) && likeA xs xs) = true
    rw [likeA_refl xs h]; simp
  | .list _, h => by cases h
  | .dict _, h => by cases h
theorem likeA_refl : ∀ d : List PyData, dueA d = true → likeA d d = true
  | [], _ => rfl
  | x :: xs, h => by
    show (likeD x x && likeA xs xs) = true
    rw [like_refl x (and_l h), likeA_refl xs (and_r h)]; rfl
end
/-- data that the law compares with: of depth at most n -/
structure Due {α : Type} (e : α → PyData) (n : Nat) : Prop where
  ok : ∀ x, dueOk (e x) = true
  dp : ∀ x, (e x).depth ≤ n
section
variable {α β γ δ : Type} {ea : α → PyData} {eb : β → PyData} {ec : γ → PyData} {ed : δ → PyData} {n m : Nat}
theorem Due.up (h : Due ea n) (hn : n ≤ m := by decide) : Due ea m := ⟨h.ok, fun x => Nat.le_trans (h.dp x) hn⟩
theorem du_I : Due eI 0 := ⟨fun _ => rfl, fun _ => Nat.le_refl 0⟩
theorem du_B : Due eB 0 := ⟨fun _ => rfl, fun _ => Nat.le_refl 0⟩
theorem du_S : Due eS 0 := ⟨fun _ => rfl, fun _ => Nat.le_refl 0⟩
theorem du_N : Due eN 0 := ⟨fun _ => rfl, fun _ => Nat.le_refl 0⟩
theorem du_O (h : Due ea n) : Due (eO ea) n := ⟨fun x => by cases x with | none => rfl | some x => exact h.ok x, fun x => by cases x with | none => exact Nat.zero_le _ | some x => exact h.dp x⟩
theorem dueA_map (h : ∀ x, dueOk (ea x) = true) : ∀ xs : List α, dueA (xs.map ea) = true
  | [] => rfl
  | x :: xs => by
    show (dueOk (ea x) && dueA (xs.map ea)) = true
    rw [h, dueA_map h xs]; rfl
theorem du_t (h : Due ea n) : Due (eT ea) (n + 1) := ⟨fun xs => dueA_map h.ok xs, fun xs => by
  show PyData.depthAll (xs.map ea) + 1 ≤ n + 1
  exact Nat.succ_le_succ (dpA_map h.dp xs)⟩
theorem du_P (h : Due ea n) (h' : Due eb n) : Due (eP ea eb) (n + 1) := ⟨fun x => by
  show (dueOk (ea x.1) && (dueOk (eb x.2) && true)) = true
  rw [h.ok, h'.ok]; rfl, fun x => by
  show max ((ea x.1).depth) (max ((eb x.2).depth) 0) + 1 ≤ n + 1
  exact Nat.succ_le_succ (Nat.max_le.mpr ⟨h.dp _, Nat.max_le.mpr ⟨h'.dp _, Nat.zero_le _⟩⟩)⟩
theorem du_P3 (h : Due ea n) (h' : Due eb n) (h'' : Due ec n) : Due (eP3 ea eb ec) (n + 1) := ⟨fun x => by
  show (dueOk (ea x.1) && (dueOk (eb x.2.1) && (dueOk (ec x.2.2) && true))) = true
  rw [h.ok, h'.ok, h''.ok]; rfl, fun x => by
  show max ((ea x.1).depth) (max ((eb x.2.1).depth) (max ((ec x.2.2).depth) 0)) + 1 ≤ n + 1
  exact Nat.succ_le_succ (Nat.max_le.mpr ⟨h.dp _, Nat.max_le.mpr ⟨h'.dp _, Nat.max_le.mpr ⟨h''.dp _, Nat.zero_le _⟩⟩⟩)⟩
theorem du_P4 (h : Due ea n) (h' : Due eb n) (h'' : Due ec n) (h3 : Due ed n) : Due (eP4 ea eb ec ed) (n + 1) := ⟨fun x => by
  show (dueOk (ea x.1) && (dueOk (eb x.2.1) && (dueOk (ec x.2.2.1) && (dueOk (ed x.2.2.2) && true)))) = true
  rw [h.ok, h'.ok, h''.ok, h3.ok]; rfl, fun x => by
  show max ((ea x.1).depth) (max ((eb x.2.1).depth) (max ((ec x.2.2.1).depth) (max ((ed x.2.2.2).depth) 0))) + 1 ≤ n + 1
  exact Nat.succ_le_succ (Nat.max_le.mpr ⟨h.dp _, Nat.max_le.mpr ⟨h'.dp _, Nat.max_le.mpr ⟨h''.dp _, Nat.max_le.mpr ⟨h3.dp _, Nat.zero_le _⟩⟩⟩⟩)⟩
end
theorem likeA_at : ∀ (vs ds : List PyData), vs.length = ds.length → likeA vs ds = (rangeD 0 (ds.length : Int)).all fun i => match vs[i.toNat]?, ds[i.toNat]? with | some v, some d => likeD v d | _, _ => false := fun vs ds h => by
  have e : rangeD 0 (ds.length : Int) = (List.range ds.length).map fun (i : Nat) => (i : Int) := by unfold rangeD; simp
  rw [e, List.all_map]
  induction vs generalizing ds with
  | nil => cases ds with | nil => rfl | cons d ds => cases h
  | cons v vs ih =>
    cases ds with
    | nil => cases h
    | cons d ds =>
      show (likeD v d && likeA vs ds) = _
      rw [ih ds (Nat.succ.inj h) (by unfold rangeD; simp), List.length_cons, List.range_succ_eq_map, List.all_cons, List.all_map]
      rfl
theorem rangeD_mem {lo hi x : Int} (h : x ∈ rangeD lo hi) : lo ≤ x ∧ x < hi := by
  unfold rangeD at h
  rw [List.mem_map] at h
  obtain ⟨i, hi2, rfl⟩ := h
  rw [List.mem_range] at hi2
  omega
def likeI (vs ds : List PyData) (i : Int) : Bool := match vs[i.toNat]?, ds[i.toNat]? with | some v, some d => likeD v d | _, _ => false
theorem likeA_I {vs ds : List PyData} (h : vs.length = ds.length) : likeA vs ds = ((rangeD 0 (ds.length : Int)).map (likeI vs ds)).all id := by
  rw [likeA_at vs ds h, List.all_map]
  rfl
/-! ### the law -/
def spLaw (K : KK) : Sp := fun vs H Q _ => ∃ (a : Addr) (ns : List Int), ns.length ≤ 63 ∧ vs = [.ref a] ∧ SqL K H a (ns.map V.int) ∧ ∀ H', Q (.bl true) H'
theorem fn_law {G : Gb} {x : Str} {params : Arguments} {body : List Stmt} {scope : Scope} {N ps : List Str} {k : Nat} {f : Addr} {fd : FuncData} (F : FunD G.K x x params body scope [] [] f fd) (S : FnScope N ps scope) (hl : ps.length = 1)
    (hb : ∀ ns : List Int, ns.length ≤ 63 → Blk G ⟨N, scope, fun _ => true⟩ k (startE N [eL eI ns]) body (.rt (eB true))) : FnOk G.P G.w G.K G.mg G.base CX0 (k + 1) f fd ps (spLaw G.K) := by
  refine F.ok S (fun vs H Q E h => ?_) (fun cdv A outer s H vs Q E hr h => ?_)
  · obtain ⟨a, ns, _, rfl, _⟩ := h
    exact hl.symm
  · obtain ⟨a, ns, hz, rfl, hS, q⟩ := h
    have hX : CxOk G ⟨N, scope, fun _ => true⟩ k (cxOf CX0 G.P G.w G.K G.mg G.base N x scope f cdv A outer s H E).nox :=
      ⟨rfl, rfl, rfl, rfl, rfl, rfl, rfl, rfl, hr, S.nd, fun _ _ => rfl, rfl⟩
    refine ⟨_, (hb ns hz _ hX).nox, H, H, H, start_rel (Same.refl _) (.cons (.lst hS (RpA.ofInts ns)) .nil), fun v F2 H2 e2 r2 => ?_⟩
    cases r2
    exact q H2
end Pl
/-! Pl, part X: comprehensions of two walks, more that is walked. -/
namespace Pl
open PySem PySem.Spec PyProof.Rows L2

/-- owned slots forgotten -/
def dropO : PEnv → PEnv
  | [] => []
  | some (.ow _) :: ρ => none :: dropO ρ
  | x :: ρ => x :: dropO ρ
theorem dropO_len : ∀ ρ : PEnv, (dropO ρ).length = ρ.length
  | [] => rfl
  | none :: ρ => congrArg (· + 1) (dropO_len ρ)
  | some (.ow _) :: ρ => congrArg (· + 1) (dropO_len ρ)
  | some (.sh _) :: ρ => congrArg (· + 1) (dropO_len ρ)
theorem dropO_sh : ∀ (ρ : PEnv) (i : Nat) (d : PyData), (dropO ρ)[i]? = some (some (.sh d)) → ρ[i]? = some (some (.sh d))
  | [], _, _, h => by cases h
  | none :: ρ, 0, _, h => by cases h
  | some (.ow _) :: ρ, 0, _, h => by cases h
  | some (.sh _) :: ρ, 0, _, h => h
  | none :: ρ, i + 1, d, h => dropO_sh ρ i d h
  | some (.ow _) :: ρ, i + 1, d, h => dropO_sh ρ i d h
  | some (.sh _) :: ρ, i + 1, d, h => dropO_sh ρ i d h
theorem dropO_ow : ∀ (ρ : PEnv) (i : Nat) (d : PyData), (dropO ρ)[i]? = some (some (.ow d)) → False
  | [], _, _, h => by cases h
  | none :: ρ, 0, _, h => by cases h
  | some (.ow _) :: ρ, 0, _, h => by cases h
  | some (.sh _) :: ρ, 0, _, h => by cases h
  | none :: ρ, i + 1, d, h => dropO_ow ρ i d h
  | some (.ow _) :: ρ, i + 1, d, h => dropO_ow ρ i d h
  | some (.sh _) :: ρ, i + 1, d, h => dropO_ow ρ i d h
theorem SRel.dropO {K : KK} {F0 H0 F H : Hp} {ρ : PEnv} {σ : L2.St} (S : SRel K F0 H0 ρ σ F H) : SRel K F0 H0 (dropO ρ) σ F H :=
  ⟨S.ext, by rw [dropO_len]; exact S.len, fun i d h => S.sh i d (dropO_sh ρ i d h), fun i d h => (dropO_ow ρ i d h).elim, fun i j d d' a _ h => (dropO_ow ρ i d h).elim⟩
/-- an object that is none of the frozen ones changes -/
theorem SRel.updO {K : KK} {F0 H0 F H : Hp} {ρ : PEnv} {σ : L2.St} {D : Addr} {o : HO} (S : SRel K F0 H0 (Pl.dropO ρ) σ F H) (e : Ext F0 H0 F (upd H D o)) : SRel K F0 H0 (Pl.dropO ρ) σ F (upd H D o) :=
  ⟨e, S.len, S.sh, fun i d h => (dropO_ow ρ i d h).elim, fun i j d d' a _ h => (dropO_ow ρ i d h).elim⟩
/-- one item of the outer walk gives the items ys -/
def LcStep2 (G : Gb) (C : SC) (k : Nat) (ρ : PEnv) (vs vs1 : List Nat) (tg : Expr) (ifs : List Expr) (tg1 iter1 : Expr) (ifs1 : List Expr) (elt : Expr) (d : PyData) (ys : List PyData) : Prop :=
  ∃ is ρ', (∀ i ∈ is, i ∈ vs) ∧ Tg G C k ρ tg is d ρ' ∧ ((Ts G C k ρ' ifs true ∧ ∃ ds1 z1, It' G C k (dropO ρ') tg1 iter1 ds1 z1 ∧ LcR G C k (wipeE (dropO ρ') vs1) vs1 tg1 ifs1 elt ds1 ys) ∨ (ys = [] ∧ Ts G C k ρ' ifs false))
inductive LcR2 (G : Gb) (C : SC) (k : Nat) (ρ : PEnv) (vs vs1 : List Nat) (tg : Expr) (ifs : List Expr) (tg1 iter1 : Expr) (ifs1 : List Expr) (elt : Expr) : List PyData → List PyData → Prop
  | nil : LcR2 G C k ρ vs vs1 tg ifs tg1 iter1 ifs1 elt [] []
  | cons {d : PyData} {ds ys zs : List PyData} : LcStep2 G C k ρ vs vs1 tg ifs tg1 iter1 ifs1 elt d ys → LcR2 G C k ρ vs vs1 tg ifs tg1 iter1 ifs1 elt ds zs → LcR2 G C k ρ vs vs1 tg ifs tg1 iter1 ifs1 elt (d :: ds) (ys ++ zs)
def gUU (G : Gb) (C : SC) (k : Nat) (tg : Expr) : TG := fun v σ H Q => ∃ i : PEnv × PyData × List Nat × PEnv, (Tg G C k i.1 tg i.2.2.1 i.2.1 i.2.2.2) ∧ tTg G.K i.1 i.2.2.1 i.2.1 i.2.2.2 v σ H Q
def itUU (G : Gb) (C : SC) (k : Nat) (tg iter : Expr) : TI := fun σ H R => ∃ i : PEnv × List PyData × Prop, (It' G C k i.1 tg iter i.2.1 i.2.2) ∧ tIt G.K i.1 i.2.1 i.2.2 σ H R
section
variable {G : Gb} {C : SC} {k : Nat} {ρ ρ1 ρ2 : PEnv} {e tg tg1 : Expr} {es : List Expr} {d : PyData} {ds : List PyData} {pos p : Pos}
theorem lc2_read {elt iter1 : Expr} {ifs ifs1 : List Expr} {scope : Scope} {own : List (Str × Nat)} {vs1 : List Nat} {ys : List PyData} {z : Prop}
    (hs : LcR2 G (C.blk scope) k (wipeE ρ (own.map (·.2))) (own.map (·.2)) vs1 tg ifs tg1 iter1 ifs1 elt ds ys) (hzz : ys.length ≤ sizeLine) {σ : L2.St} {H : Hp} {Q : VK} (h : tEvN G.K ρ (.list ys) σ H Q) :
    tLc2 (tItB G.K ρ ds z) (gUU G (C.blk scope) k tg) (ttU G C k scope ifs) (itUU G (C.blk scope) k tg1 iter1) (gUU G (C.blk scope) k tg1) (ttU G C k scope ifs1) (teU G C k scope elt) (own.map (·.2)) vs1 σ H Q := by
  obtain ⟨F0, H0, F, S, q⟩ := h
  refine ⟨F0, H0, F, S, fun J F1 H1 e1 hz0 sup D hD => ?_⟩
  have S1 := S.go e1
  have fD : F1 D = none := e1.sub.free hD
  have noD : ∀ {Fa Ha Fb Hb : Hp}, Ext Fa Ha Fb Hb → Fa D = none → (∃ o, Ha D = some (.lst o)) → Fb D = none := fun {Fa Ha Fb Hb} ee h1 ⟨o, h2⟩ => by
    cases zz : Fb D with
    | none => rfl
    | some u =>
      rcases ee.new D u zz with w | w | w
      · rw [h1] at w; cases w
      · rw [h2] at w; cases w
      · have z2 := (ee.hs _ _ h2).symm.trans (ee.sub _ _ zz)
        cases z2
        cases w
  refine ⟨fun i m H => m = ds.length - i ∧ i ≤ ds.length ∧ ∃ F2 acc done rest, Ext F1 H1 F2 H ∧ H D = some (.lst acc) ∧ F2 D = none ∧ RpA G.K F2 acc done ∧ LcR2 G (C.blk scope) k (wipeE ρ (own.map (·.2))) (own.map (·.2)) vs1 tg ifs tg1 iter1 ifs1 elt (ds.drop i) rest ∧ done ++ rest = ys,
    ⟨ds.length, by simp, Nat.zero_le _, F1, [], [], ys, Ext.put e1.sub hD, upd_same, fD, .nil, by simpa using hs, rfl⟩, ?_⟩
  rintro i m H2 ⟨rfl, hi2, F2, acc, done, rest, e2, hD2, fD2, ra, lr, hys⟩
  obtain ⟨go, stop⟩ := sup F2 H2 e2 e2.sub
  by_cases hlt : i < ds.length
  · have hd : ds[i]? = some ds[i] := List.getElem?_eq_getElem hlt
    obtain ⟨g1, g2⟩ := go i _ hd
    refine .inr ⟨g1, fun H' => i + 1 ≤ ds.length ∧ ∃ F2 acc done rest, Ext F1 H1 F2 H' ∧ H' D = some (.lst acc) ∧ F2 D = none ∧ RpA G.K F2 acc done ∧ LcR2 G (C.blk scope) k (wipeE ρ (own.map (·.2))) (own.map (·.2)) vs1 tg ifs tg1 iter1 ifs1 elt (ds.drop (i + 1)) rest ∧ done ++ rest = ys,
      fun H' ⟨h1, h2⟩ => ⟨ds.length - (i + 1), by omega, rfl, h1, h2⟩, fun x H3 y => ?_⟩
    obtain ⟨F3, e3, rx⟩ := g2 x H3 y
    have e13 := e2.trans e3
    have hdrop : ds.drop i = ds[i] :: ds.drop (i + 1) := List.drop_eq_getElem_cons hlt
    rw [hdrop] at lr
    have wp : ∀ {is : List Nat} {σ' : L2.St}, (∀ i ∈ is, i ∈ own.map (·.2)) → Off is (L2.wipe σ (own.map (·.2))) σ' → L2.wipe σ' (own.map (·.2)) = L2.wipe σ (own.map (·.2)) := fun {is σ'} hsub off =>
      wipe_eq (off.1.trans (wipe_length _ _)) fun j hj => by rw [off.2 j fun z => hj (hsub j z), wipe_at hj]
    cases lr with
    | @cons _ _ ys1 zs hst lr' =>
      obtain ⟨is, ρ', hsub, htg, hcase⟩ := hst
      refine ⟨(wipeE ρ (own.map (·.2)), ds[i], is, ρ'), htg, F0, H0, F3, (S1.go e13).wipe _, rx, fun σ' off S' => ⟨wp hsub off, ?_⟩⟩
      rcases hcase with ⟨hts, ds1, z1, hit1, lr1⟩ | ⟨hn, hts⟩
      · refine ⟨(ρ', true), hts, F0, H0, F3, S', fun F4 H4 e4 => iteT ?_⟩
        refine ⟨(dropO ρ', ds1, z1), hit1, F0, H0, F4, (S'.go e4).dropO, fun J1 F5 H5 e5 _ sup1 => ?_⟩
        have e25 := (e3.trans e4).trans e5
        have S5 := ((S'.go e4).go e5).dropO
        have E15 := e2.trans e25
        have hD5 := e25.hs _ _ hD2
        have fD5 := noD e25 fD2 ⟨_, hD2⟩
        refine ⟨fun j m H => m = ds1.length - j ∧ j ≤ ds1.length ∧ ∃ F6 acc6 done6 rest6, Same F5 F6 ∧ Ext F1 H1 F6 H ∧ H D = some (.lst acc6) ∧ F6 D = none ∧ RpA G.K F6 acc6 done6 ∧ LcR G (C.blk scope) k (wipeE (dropO ρ') vs1) vs1 tg1 ifs1 elt (ds1.drop j) rest6 ∧ done6 ++ (rest6 ++ zs) = ys ∧ SRel G.K F0 H0 (dropO ρ') σ' F6 H,
          ⟨ds1.length, by simp, Nat.zero_le _, F5, acc, done, ys1, Same.refl _, E15, hD5, fD5, ra.mono e25.fs, by simpa using lr1, hys, S5⟩, ?_⟩
        rintro j m1 H6 ⟨rfl, hj2, F6, acc6, done6, rest6, s56, e16, hD6, fD6, ra6, lr6, hys6, S6⟩
        obtain ⟨go1, stop1⟩ := sup1 F6 H6 s56 e16.sub
        by_cases hlt1 : j < ds1.length
        · have hd1 : ds1[j]? = some ds1[j] := List.getElem?_eq_getElem hlt1
          obtain ⟨k1, k2⟩ := go1 j _ hd1
          refine .inr ⟨k1, fun H => j + 1 ≤ ds1.length ∧ ∃ F6 acc6 done6 rest6, Same F5 F6 ∧ Ext F1 H1 F6 H ∧ H D = some (.lst acc6) ∧ F6 D = none ∧ RpA G.K F6 acc6 done6 ∧ LcR G (C.blk scope) k (wipeE (dropO ρ') vs1) vs1 tg1 ifs1 elt (ds1.drop (j + 1)) rest6 ∧ done6 ++ (rest6 ++ zs) = ys ∧ SRel G.K F0 H0 (dropO ρ') σ' F6 H,
            fun H' ⟨h1, h2⟩ => ⟨ds1.length - (j + 1), by omega, rfl, h1, h2⟩, fun x1 H7 y1 => ?_⟩
          obtain ⟨F7, e7, rx1⟩ := k2 x1 H7 y1
          have hdrop1 : ds1.drop j = ds1[j] :: ds1.drop (j + 1) := List.drop_eq_getElem_cons hlt1
          rw [hdrop1] at lr6
          have wp1 : ∀ {is : List Nat} {σ3 : L2.St}, (∀ i ∈ is, i ∈ vs1) → Off is (L2.wipe σ' vs1) σ3 → L2.wipe σ3 vs1 = L2.wipe σ' vs1 := fun {is σ3} hsub off =>
            wipe_eq (off.1.trans (wipe_length _ _)) fun j hj => by rw [off.2 j fun z => hj (hsub j z), wipe_at hj]
          have S7 := S6.go e7
          cases lr6 with
          | @keep _ y' _ rest' hst lr' =>
            obtain ⟨is1, ρ3, hsub1, htg1, ⟨y2, hy2, hts1, hev⟩ | ⟨hn, _⟩⟩ := hst
            · cases hy2
              refine ⟨(wipeE (dropO ρ') vs1, ds1[j], is1, ρ3), htg1, F0, H0, F7, S7.wipe _, rx1, fun σ3 off1 S3 => ⟨wp1 hsub1 off1, ?_⟩⟩
              refine ⟨(ρ3, true), hts1, F0, H0, F7, S3, fun F8 H8 e8 => iteT ⟨(ρ3, y'), hev, F0, H0, F8, S3.go e8, fun v F9 H9 e9 r9 => ?_⟩⟩
              have e69 := (e7.trans e8).trans e9
              have hD9 := e69.hs _ _ hD6
              have fD9 := noD e69 fD6 ⟨_, hD6⟩
              have hl := ra6.length
              have e19 := (e16.trans e69).growD (o' := .lst (acc6 ++ [v])) hD fD9 hD9
              refine ⟨acc6, hD9, ?_, hlt1, F9, acc6 ++ [v], done6 ++ [y'], rest', s56.trans e69.fs, e19, upd_same, fD9, (ra6.mono e69.fs).append (.cons r9 .nil), lr', by rw [List.append_assoc]; exact hys6, ?_⟩
              · have hl2 := congrArg List.length hys6
                simp only [List.length_append, List.length_cons] at hl2
                omega
              · exact (S6.go e69).updO ((S.ext.trans e1).trans e19)
            · cases hn
          | skip hst lr' =>
            obtain ⟨is1, ρ3, hsub1, htg1, ⟨y2, hy2, _⟩ | ⟨_, hts1⟩⟩ := hst
            · cases hy2
            · refine ⟨(wipeE (dropO ρ') vs1, ds1[j], is1, ρ3), htg1, F0, H0, F7, S7.wipe _, rx1, fun σ3 off1 S3 => ⟨wp1 hsub1 off1, ?_⟩⟩
              refine ⟨(ρ3, false), hts1, F0, H0, F7, S3, fun F8 H8 e8 => iteF ?_⟩
              have e68 := e7.trans e8
              exact ⟨hlt1, F8, acc6, done6, rest6, s56.trans e68.fs, e16.trans e68, e68.hs _ _ hD6, noD e68 fD6 ⟨_, hD6⟩, ra6.mono e68.fs, lr', hys6, S6.go e68⟩
        · have e : j = ds1.length := by omega
          subst e
          rw [List.drop_length] at lr6
          cases lr6
          exact .inl ⟨stop1, hlt, F6, acc6, done6, zs, e16, hD6, fD6, ra6, lr', hys6⟩
      · refine ⟨(ρ', false), hts, F0, H0, F3, S', fun F4 H4 e4 => iteF ?_⟩
        have e24 := e3.trans e4
        subst hn
        exact ⟨hlt, F4, acc, done, zs, e2.trans e24, e24.hs _ _ hD2, noD e24 fD2 ⟨_, hD2⟩, ra.mono e24.fs, lr', hys⟩
  · have e : i = ds.length := by omega
    subst e
    rw [List.drop_length] at lr
    cases lr
    rw [List.append_nil] at hys
    subst hys
    exact .inl ⟨stop, q D _ F2 H2 (e1.trans e2) (e1.hs.free hD) hD2 fD2 (.lst ra)⟩
theorem ttU_l {ifs : List Expr} {scope : Scope} (X : Cx) (hX : CxOk G (C.blk scope) k X) : PTs X ifs (ttU G C k scope ifs) := pts_un fun i h => h _ hX
theorem nLc2 {elt iter iter1 : Expr} {ifs ifs1 : List Expr} {scope : Scope} {ys : List PyData} (own : List (Str × Nat)) (vs1 : List Nat) (ok : blkC C.N C.sc scope own = true) (hv : ∀ i ∈ vs1, i ∈ own.map (·.2)) {z : Prop} (hi : ItB G C k ρ tg iter ds z)
    (hs : LcR2 G (C.blk scope) k (wipeE ρ (own.map (·.2))) (own.map (·.2)) vs1 tg ifs tg1 iter1 ifs1 elt ds ys) (hzz : ys.length ≤ sizeLine) (hfs : ∀ env x, foldedSetIterable iter env x = pure x) (hfs1 : ∀ env x, foldedSetIterable iter1 env x = pure x) :
    EvN G C k ρ (.ListComp elt [⟨tg, iter, ifs, 0⟩, ⟨tg1, iter1, ifs1, 0⟩] scope pos) (.list ys) := fun X hX =>
  pe_imp (pe_lc2 (own := own) (vs1 := vs1) (wi := tItB G.K ρ ds z) (g := gUU G (C.blk scope) k tg) (tt := ttU G C k scope ifs) (wi1 := itUU G (C.blk scope) k tg1 iter1) (g1 := gUU G (C.blk scope) k tg1) (tt1 := ttU G C k scope ifs1) (te := teU G C k scope elt)
    hX.calm (by rw [hX.eN]; exact hX.nd) (hi X hX) (by rw [hX.eN, hX.es]; exact blkOk_by ok) hv
    (fun s H Ca cl fp => pg_un fun i h => h _ hX.blk) (fun s H Ca cl fp => pts_un fun i h => h _ hX.blk) (fun s H Ca cl fp => pi_un fun i h => h _ hX.blk) (fun s H Ca cl fp => pg_un fun i h => h _ hX.blk) (fun s H Ca cl fp => pts_un fun i h => h _ hX.blk)
    (fun s H Ca cl fp => pe_un fun i h => h _ hX.blk) (hfs _) hfs1) fun σ H Q h => lc2_read hs hzz h
theorem sLc2 (i : Nat) {x : Str} {py : Pos} {elt iter iter1 : Expr} {ifs ifs1 : List Expr} {scope : Scope} {spos : Pos} {ys : List PyData} (n : NmL C i x) (own : List (Str × Nat)) (vs1 : List Nat) (hsw : ∀ env : Env, env.scope = C.sc → swapsWith (.ListComp elt [⟨tg, iter, ifs, 0⟩, ⟨tg1, iter1, ifs1, 0⟩] scope pos) (some (.Name x py)) spos.line env = pure true)
    (ok : blkC C.N C.sc scope own = true) (hv : ∀ i ∈ vs1, i ∈ own.map (·.2)) {z : Prop} (hi : ItB G C k ρ tg iter ds z)
    (hs : LcR2 G (C.blk scope) k (wipeE ρ (own.map (·.2))) (own.map (·.2)) vs1 tg ifs tg1 iter1 ifs1 elt ds ys) (hzz : ys.length ≤ sizeLine) (hfs : ∀ env x, foldedSetIterable iter env x = pure x) (hfs1 : ∀ env x, foldedSetIterable iter1 env x = pure x) :
    St1 G C k ρ (.Assign [.Name x py] (.ListComp elt [⟨tg, iter, ifs, 0⟩, ⟨tg1, iter1, ifs1, 0⟩] scope pos) spos) (.nx (ρ.set i (some (.ow (.list ys))))) := fun X hX =>
  ps_imp (ps_setLc2 (i := i) (own := own) (vs1 := vs1) (wi := tItB G.K ρ ds z) (g := gUU G (C.blk scope) k tg) (tt := ttU G C k scope ifs) (wi1 := itUU G (C.blk scope) k tg1 iter1) (g1 := gUU G (C.blk scope) k tg1) (tt1 := ttU G C k scope ifs1) (te := teU G C k scope elt)
    hX.calm (by rw [hX.eN]; exact hX.nd) (by rw [hX.eN]; exact n.hi) (by rw [hX.es]; exact n.hl) (hsw _ hX.es) (hi X hX) (by rw [hX.eN, hX.es]; exact blkOk_by ok) hv
    (fun s H Ca cl fp => pg_un fun i h => h _ hX.blk) (fun s H Ca cl fp => pts_un fun i h => h _ hX.blk) (fun s H Ca cl fp => pi_un fun i h => h _ hX.blk) (fun s H Ca cl fp => pg_un fun i h => h _ hX.blk) (fun s H Ca cl fp => pts_un fun i h => h _ hX.blk)
    (fun s H Ca cl fp => pe_un fun i h => h _ hX.blk) (hfs _) hfs1) fun D σ H ⟨F0, H0, F, S, q⟩ =>
      lc2_read hs hzz ⟨F0, H0, F, S, fun a o F1 H1 e1 hn ha hf r => q _ F1 H1 (S.own e1 hn ha hf r) e1.fs⟩
theorem sLc2S (i : Nat) {x : Str} {py : Pos} {elt iter iter1 : Expr} {ifs ifs1 : List Expr} {scope : Scope} {spos : Pos} {ys : List PyData} (n : NmL C i x) (own : List (Str × Nat)) (vs1 : List Nat) (hsw : ∀ env : Env, env.scope = C.sc → swapsWith (.ListComp elt [⟨tg, iter, ifs, 0⟩, ⟨tg1, iter1, ifs1, 0⟩] scope pos) (some (.Name x py)) spos.line env = pure true)
    (ok : blkC C.N C.sc scope own = true) (hv : ∀ i ∈ vs1, i ∈ own.map (·.2)) {z : Prop} (hi : ItB G C k ρ tg iter ds z)
    (hs : LcR2 G (C.blk scope) k (wipeE ρ (own.map (·.2))) (own.map (·.2)) vs1 tg ifs tg1 iter1 ifs1 elt ds ys) (hzz : ys.length ≤ sizeLine) (hfs : ∀ env x, foldedSetIterable iter env x = pure x) (hfs1 : ∀ env x, foldedSetIterable iter1 env x = pure x) :
    St1 G C k ρ (.Assign [.Name x py] (.ListComp elt [⟨tg, iter, ifs, 0⟩, ⟨tg1, iter1, ifs1, 0⟩] scope pos) spos) (.nx (ρ.set i (some (.sh (.list ys))))) := fun X hX =>
  ps_imp (ps_setLc2 (i := i) (own := own) (vs1 := vs1) (wi := tItB G.K ρ ds z) (g := gUU G (C.blk scope) k tg) (tt := ttU G C k scope ifs) (wi1 := itUU G (C.blk scope) k tg1 iter1) (g1 := gUU G (C.blk scope) k tg1) (tt1 := ttU G C k scope ifs1) (te := teU G C k scope elt)
    hX.calm (by rw [hX.eN]; exact hX.nd) (by rw [hX.eN]; exact n.hi) (by rw [hX.es]; exact n.hl) (hsw _ hX.es) (hi X hX) (by rw [hX.eN, hX.es]; exact blkOk_by ok) hv
    (fun s H Ca cl fp => pg_un fun i h => h _ hX.blk) (fun s H Ca cl fp => pts_un fun i h => h _ hX.blk) (fun s H Ca cl fp => pi_un fun i h => h _ hX.blk) (fun s H Ca cl fp => pg_un fun i h => h _ hX.blk) (fun s H Ca cl fp => pts_un fun i h => h _ hX.blk)
    (fun s H Ca cl fp => pe_un fun i h => h _ hX.blk) (hfs _) hfs1) fun D σ H ⟨F0, H0, F, S, q⟩ =>
      lc2_read hs hzz ⟨F0, H0, F, S, fun a o F1 H1 e1 hn ha hf r => q _ _ H1 ((S.go (e1.freeze hn ha hf)).put (r.rp (same_upd hf) upd_same)) (e1.freeze hn ha hf).fs⟩
/-! by type -/
theorem lcr2_flat {α β : Type} {ea : α → PyData} {eb : β → PyData} {vs vs1 : List Nat} {ifs ifs1 : List Expr} {elt iter1 : Expr} (g : α → List β) (h : ∀ x, LcStep2 G C k ρ vs vs1 tg ifs tg1 iter1 ifs1 elt (ea x) ((g x).map eb)) : ∀ xs : List α, LcR2 G C k ρ vs vs1 tg ifs tg1 iter1 ifs1 elt (xs.map ea) ((xs.flatMap g).map eb)
  | [] => .nil
  | x :: xs => by
    rw [List.flatMap_cons, List.map_append]
    exact .cons (h x) (lcr2_flat g h xs)
/-- the items of all, one behind the other -/
def catO {α β : Type} (g : α → Option (List β)) : List α → Option (List β)
  | [] => some []
  | x :: xs => (g x).bind fun y => (catO g xs).bind fun ys => some (y ++ ys)
theorem lcr2_cat {α β : Type} {ea : α → PyData} {eb : β → PyData} {vs vs1 : List Nat} {ifs ifs1 : List Expr} {elt iter1 : Expr} (g : α → Option (List β)) (h : ∀ x ys, g x = some ys → LcStep2 G C k ρ vs vs1 tg ifs tg1 iter1 ifs1 elt (ea x) (ys.map eb)) : ∀ (xs : List α) (ys : List β), catO g xs = some ys → LcR2 G C k ρ vs vs1 tg ifs tg1 iter1 ifs1 elt (xs.map ea) (ys.map eb)
  | [], ys, q => by cases q; exact .nil
  | x :: xs, ys, q => by
    obtain ⟨y, h1, q⟩ := bind_ex q
    obtain ⟨zs, h2, q⟩ := bind_ex q
    cases q
    rw [List.map_append]
    exact .cons (h x y h1) (lcr2_cat g h xs zs h2)
theorem step2_one {vs vs1 is : List Nat} {ifs1 : List Expr} {elt iter1 : Expr} {ds1 ys : List PyData} {z1 : Prop} (hs : ∀ i ∈ is, i ∈ vs) (ht : Tg G C k ρ tg is d ρ1) (hi : It' G C k (dropO ρ1) tg1 iter1 ds1 z1) (hl : LcR G C k (wipeE (dropO ρ1) vs1) vs1 tg1 ifs1 elt ds1 ys) : LcStep2 G C k ρ vs vs1 tg [] tg1 iter1 ifs1 elt d ys := ⟨is, ρ1, hs, ht, .inl ⟨ts_nil, ds1, z1, hi, hl⟩⟩
theorem step2_if {vs vs1 is : List Nat} {ifs1 : List Expr} {elt iter1 c : Expr} {ds1 ys : List PyData} {z1 : Prop} {t : Bool} (hs : ∀ i ∈ is, i ∈ vs) (ht : Tg G C k ρ tg is d ρ1) (hc : Te G C k ρ1 c t) (hi : t = true → It' G C k (dropO ρ1) tg1 iter1 ds1 z1) (hl : t = true → LcR G C k (wipeE (dropO ρ1) vs1) vs1 tg1 ifs1 elt ds1 ys) (hn : t = false → ys = []) : LcStep2 G C k ρ vs vs1 tg [c] tg1 iter1 ifs1 elt d ys := by
  cases t with
  | true => exact ⟨is, ρ1, hs, ht, .inl ⟨ts_one hc, ds1, z1, hi rfl, hl rfl⟩⟩
  | false => exact ⟨is, ρ1, hs, ht, .inr ⟨hn rfl, ts_one hc⟩⟩
/-! ### more that is walked -/
/-- lo, lo + c, .. -/
def rangeC (lo hi c : Int) : List Int := (List.range (Builtin.Range.rangeSize lo hi c).toNat).map fun (i : Nat) => lo + (i : Int) * c
def RgC3 (lo hi c : Int) : Prop := (c ≠ 0 ∧ c.natAbs < 1073741824 ∧ Builtin.Range.small lo hi c = true) ∧ 0 ≤ Builtin.Range.rangeSize lo hi c ∧ Builtin.Range.rangeSize lo hi c ≤ 16777216
theorem rangeC_get {lo hi c : Int} {i : Nat} {d : PyData} (h : ((rangeC lo hi c).map PyData.int)[i]? = some d) : d = .int (lo + (i : Int) * c) := by
  unfold rangeC at h
  rw [List.map_map, List.getElem?_map] at h
  cases e : (List.range (Builtin.Range.rangeSize lo hi c).toNat)[i]? with
  | none => rw [e] at h; cases h
  | some j =>
    rw [e] at h
    have hj : j = i := by
      obtain ⟨h1, h2⟩ := List.getElem?_eq_some_iff.mp e
      simpa using h2.symm
    subst hj
    cases h
    rfl
theorem iR3 {a b c : Expr} {i j l : Int} (g : Gn C "range") (m : G.mg "range" = none) (ha : EvB G C k ρ a (.int i)) (hb : EvB G C k ρ b (.int j)) (hc : EvB G C k ρ c (.int l)) (hr : RgC3 i j l)
    (hs : ∀ env, starEach [a, b, c] env = (false, eval a env) :: starEach [b, c] env) (hs2 : ∀ env, starEach [b, c] env = (false, eval b env) :: starEach [c] env) (hs3 : ∀ env, starEach [c] env = (false, eval c env) :: starEach [] env) (hpl : ∀ env, (backTo pos (starEach [b, c] env)).any (·.1) = false) :
    It' G C k ρ tg (.Call (.Name "range" p) [a, b, c] [] pos) ((rangeC i j l).map .int) True := fun X hX =>
  pi_imp (pi_range3 (by unfold Gl Env.kindOf; rw [hX.es]; exact g.hg) (by rw [hX.em]; exact m) (pa_cons (ha X hX) (pa_cons (hb X hX) (pa_cons (hc X hX) pa_nil (hs3 _)) (hs2 _)) (hs _)) (hs _) (hpl _)) fun σ H R ⟨F0, H0, F, S, q⟩ => ⟨F0, H0, F, S, fun v F1 H1 e1 r1 => ⟨F0, H0, F1, S.go e1, fun w F2 H2 e2 r2 => ⟨F0, H0, F2, (S.go e1).go e2, fun u F3 H3 e3 r3 => by
    rw [r1.int, r2.int, r3.int]
    refine ⟨i, j, l, (Builtin.Range.rangeSize i j l).toNat, rfl, ⟨hr.1.1, hr.1.2.1, hr.1.2.2, by have := hr.2.1; omega⟩, q _ F3 H3 ((e1.trans e2).trans e3) trivial (sup_walk walk_rangeC (by unfold rangeC; simp) (fun _ _ _ _ => trivial) fun F4 H4 m x d H' s sF hd y => ?_)⟩
    obtain ⟨rfl, rfl⟩ := y
    rw [rangeC_get hd]
    exact ⟨F4, Ext.refl sF, .int _⟩⟩⟩⟩
theorem walk_revT {K : KK} {a : Addr} {xs : List V} : Walk (RT.ItvT K a xs.length) xs.length (fun H => SqT K H a xs) (fun i H x H' => H' = H ∧ xs[xs.length - 1 - i]? = some x) := by
  refine ⟨fun i _ hi q => ?_, fun _ q => Nat.le_refl _, fun i H v H' _ q y => ?_⟩
  · have h1 : xs.length - 1 - i < xs.length := by omega
    exact ⟨hi, xs, xs[xs.length - 1 - i], q, List.getElem?_eq_getElem h1⟩
  · exact ⟨y.1, y.2 xs q⟩
theorem rev_get {ds : List PyData} {i : Nat} {d : PyData} (h : ds.reverse[i]? = some d) : ds[ds.length - 1 - i]? = some d := by
  have hl : i < ds.length := by
    have := (List.getElem?_eq_some_iff.mp h).1
    simpa using this
  rw [List.getElem?_reverse hl] at h
  exact h
theorem it_rev (g : Gn C "reversed") (m : G.mg "reversed" = none) (h : Ev G C k ρ e (.list ds)) (hs : ∀ env, starEach [e] env = (false, eval e env) :: starEach [] env) : It' G C k ρ tg (.Call (.Name "reversed" p) [e] [] pos) ds.reverse (ds.length ≤ sizeLine) := fun X hX =>
  pi_imp (RT.pi_revA (by unfold Gl Env.kindOf; rw [hX.es]; exact g.hg) (by rw [hX.em]; exact m) (pe_bd (h X hX)) (hs _)) fun σ H R ⟨F0, H0, F, S, q⟩ => ⟨F0, H0, F, S, fun v F1 H1 e1 r1 bd => by
    rw [hX.eK] at bd ⊢
    cases r1 with
    | @lst a xs _ h1 h2 =>
      refine ⟨_, xs, rfl, .inl ⟨e1.sub.seq h1, q _ F1 H1 e1 (by rw [← h2.length]; exact bd _ _ (.inl (e1.sub.seq h1))) (sup_walk (walk_rev (xs := xs)) (by rw [List.length_reverse, h2.length]) (fun F2 H2 s sF => (s.trans sF).seq h1) fun F2 H2 i x d H' s sF hd y => ?_)⟩⟩
      obtain ⟨rfl, hx⟩ := y
      rw [h2.length] at hx
      obtain ⟨d', hd', r⟩ := h2.get hx
      rw [rev_get hd] at hd'
      cases hd'
      exact ⟨F2, Ext.refl sF, r.mono s⟩⟩
theorem it_revT (g : Gn C "reversed") (m : G.mg "reversed" = none) (h : Ev G C k ρ e (.tuple ds)) (hs : ∀ env, starEach [e] env = (false, eval e env) :: starEach [] env) : It' G C k ρ tg (.Call (.Name "reversed" p) [e] [] pos) ds.reverse (ds.length ≤ sizeLine) := fun X hX =>
  pi_imp (RT.pi_revA (by unfold Gl Env.kindOf; rw [hX.es]; exact g.hg) (by rw [hX.em]; exact m) (pe_bd (h X hX)) (hs _)) fun σ H R ⟨F0, H0, F, S, q⟩ => ⟨F0, H0, F, S, fun v F1 H1 e1 r1 bd => by
    rw [hX.eK] at bd ⊢
    cases r1 with
    | @tup a xs _ h1 h2 =>
      refine ⟨_, xs, rfl, .inr ⟨same_tup e1.sub h1, q _ F1 H1 e1 (by rw [← h2.length]; exact bd _ _ (.inr (same_tup e1.sub h1))) (sup_walk (walk_revT (xs := xs)) (by rw [List.length_reverse, h2.length]) (fun F2 H2 s sF => same_tup (s.trans sF) h1) fun F2 H2 i x d H' s sF hd y => ?_)⟩⟩
      obtain ⟨rfl, hx⟩ := y
      rw [h2.length] at hx
      obtain ⟨d', hd', r⟩ := h2.get hx
      rw [rev_get hd] at hd'
      cases hd'
      exact ⟨F2, Ext.refl sF, r.mono s⟩⟩
/-! ### rows of ranges -/
theorem rgV_eq (a b : Int) : rgV a b = (rangeD a b).map V.int := by
  unfold rgV rangeD
  rw [List.map_map]
  rfl
theorem RgO.ok {i j : Int} (h : RgO i j) : RgOk i j := by
  obtain ⟨h1, h2, h3, h4, h5⟩ := h
  exact ⟨by omega, by omega, by omega, by omega, by omega⟩
theorem nRg1 {a : Expr} {j : Int} {p2 pos2 : Pos} (gl : Gn C "list") (ml : G.mg "list" = none) (g : Gn C "range") (m : G.mg "range" = none) (ha : EvB G C k ρ a (.int j)) (hr : RgO 0 j) (hs : ∀ env, starEach [a] env = (false, eval a env) :: starEach [] env)
    (hs2 : ∀ env, starEach [.Call (.Name "range" p2) [a] [] pos2] env = (false, eval (.Call (.Name "range" p2) [a] [] pos2) env) :: starEach [] env) : EvN G C k ρ (.Call (.Name "list" p) [.Call (.Name "range" p2) [a] [] pos2] [] pos) (eL eI (rangeD 0 j)) := fun X hX =>
  pe_imp (pe_listRg hX.calm (by unfold Gl Env.kindOf; rw [hX.es]; exact gl.hg) (by rw [hX.em]; exact ml) (prg_1 (by unfold Gl Env.kindOf; rw [hX.es]; exact g.hg) (by rw [hX.em]; exact m) (ha X hX) (hs _)) (hs2 _)) fun σ H Q ⟨F0, H0, F, S, q⟩ => ⟨F0, H0, F, S, fun x F1 H1 e1 r1 => by
    rw [r1.int]
    refine ⟨j, rfl, hr.ok, fun p hp => q p _ F1 _ (e1.trans (Ext.put e1.sub hp)) (e1.hs.free hp) upd_same (e1.sub.free hp) (.lst ?_)⟩
    rw [rgV_eq]
    exact RpA.ofInts _⟩
theorem eRgT1 {a : Expr} {j : Int} {p2 pos2 : Pos} (gl : Gn C "tuple") (ml : G.mg "tuple" = none) (g : Gn C "range") (m : G.mg "range" = none) (ha : EvB G C k ρ a (.int j)) (hr : RgO 0 j) (hs : ∀ env, starEach [a] env = (false, eval a env) :: starEach [] env)
    (hs2 : ∀ env, starEach [.Call (.Name "range" p2) [a] [] pos2] env = (false, eval (.Call (.Name "range" p2) [a] [] pos2) env) :: starEach [] env) : Ev G C k ρ (.Call (.Name "tuple" p) [.Call (.Name "range" p2) [a] [] pos2] [] pos) (eT eI (rangeD 0 j)) := fun X hX =>
  pe_imp (pe_tupRg hX.calm (by unfold Gl Env.kindOf; rw [hX.es]; exact gl.hg) (by rw [hX.em]; exact ml) (prg_1 (by unfold Gl Env.kindOf; rw [hX.es]; exact g.hg) (by rw [hX.em]; exact m) (ha X hX) (hs _)) (hs2 _)) fun σ H Q ⟨F0, H0, F, S, q⟩ => ⟨F0, H0, F, S, fun x F1 H1 e1 r1 => by
    rw [r1.int]
    refine ⟨j, rfl, hr.ok, fun p hp => q _ _ _ (e1.trans (Ext.lay e1.sub hp)) (.tup (.inl (.inl upd_same)) ?_)⟩
    rw [rgV_eq]
    exact RpA.mono (same_upd (e1.sub.free hp)) (RpA.ofInts _)⟩
theorem nRg2 {a b : Expr} {i j : Int} {p2 pos2 : Pos} (gl : Gn C "list") (ml : G.mg "list" = none) (g : Gn C "range") (m : G.mg "range" = none) (ha : EvB G C k ρ a (.int i)) (hb : EvB G C k ρ b (.int j)) (hr : RgO i j) (hs : ∀ env, starEach [a, b] env = (false, eval a env) :: starEach [b] env) (hs1 : ∀ env, starEach [b] env = (false, eval b env) :: starEach [] env) (hpl : ∀ env, (backTo pos2 (starEach [b] env)).any (·.1) = false)
    (hs2 : ∀ env, starEach [.Call (.Name "range" p2) [a, b] [] pos2] env = (false, eval (.Call (.Name "range" p2) [a, b] [] pos2) env) :: starEach [] env) : EvN G C k ρ (.Call (.Name "list" p) [.Call (.Name "range" p2) [a, b] [] pos2] [] pos) (eL eI (rangeD i j)) := fun X hX =>
  pe_imp (pe_listRg hX.calm (by unfold Gl Env.kindOf; rw [hX.es]; exact gl.hg) (by rw [hX.em]; exact ml) (prg_2 (by unfold Gl Env.kindOf; rw [hX.es]; exact g.hg) (by rw [hX.em]; exact m) (ha X hX) (hb X hX) (hs _) (hs1 _) (hpl _)) (hs2 _)) fun σ H Q ⟨F0, H0, F, S, q⟩ => ⟨F0, H0, F, S, fun x F1 H1 e1 r1 => ⟨F0, H0, F1, S.go e1, fun y F2 H2 e2 r2 => by
    rw [r1.int, r2.int]
    refine ⟨i, j, rfl, rfl, hr.ok, fun p hp => q p _ F2 _ ((e1.trans e2).trans (Ext.put e2.sub hp)) ((e1.trans e2).hs.free hp) upd_same (e2.sub.free hp) (.lst ?_)⟩
    rw [rgV_eq]
    exact RpA.ofInts _⟩⟩
/-! ### the greatest, the least of whole numbers -/
def maxI : List Int → Option Int
  | [] => none
  | x :: xs => some (xs.foldl max x)
def minI : List Int → Option Int
  | [] => none
  | x :: xs => some (xs.foldl min x)
theorem foldl_max (xs : List Int) : ∀ x : Int, (∀ y ∈ x :: xs, y ≤ xs.foldl max x) ∧ xs.foldl max x ∈ x :: xs := by
  induction xs with
  | nil => intro x; exact ⟨by simp, by simp⟩
  | cons z xs ih =>
    intro x
    obtain ⟨h1, h2⟩ := ih (max x z)
    rw [List.foldl_cons]
    refine ⟨fun y hy => ?_, ?_⟩
    · have h0 := h1 (max x z) (List.mem_cons_self ..)
      rcases List.mem_cons.mp hy with rfl | hy
      · omega
      · rcases List.mem_cons.mp hy with rfl | hy
        · omega
        · exact h1 y (List.mem_cons_of_mem _ hy)
    · rcases List.mem_cons.mp h2 with h | h
      · rw [h]
        by_cases c : x ≤ z
        · rw [show max x z = z by omega]; simp
        · rw [show max x z = x by omega]; simp
      · exact List.mem_cons_of_mem _ (List.mem_cons_of_mem _ h)
theorem foldl_min (xs : List Int) : ∀ x : Int, (∀ y ∈ x :: xs, xs.foldl min x ≤ y) ∧ xs.foldl min x ∈ x :: xs := by
  induction xs with
  | nil => intro x; exact ⟨by simp, by simp⟩
  | cons z xs ih =>
    intro x
    obtain ⟨h1, h2⟩ := ih (min x z)
    rw [List.foldl_cons]
    refine ⟨fun y hy => ?_, ?_⟩
    · have h0 := h1 (min x z) (List.mem_cons_self ..)
      rcases List.mem_cons.mp hy with rfl | hy
      · omega
      · rcases List.mem_cons.mp hy with rfl | hy
        · omega
        · exact h1 y (List.mem_cons_of_mem _ hy)
    · rcases List.mem_cons.mp h2 with h | h
      · rw [h]
        by_cases c : x ≤ z
        · rw [show min x z = x by omega]; simp
        · rw [show min x z = z by omega]; simp
      · exact List.mem_cons_of_mem _ (List.mem_cons_of_mem _ h)
theorem maxI_spec {xs : List Int} {m : Int} (h : maxI xs = some m) : (∀ y ∈ xs, y ≤ m) ∧ m ∈ xs := by
  cases xs with
  | nil => cases h
  | cons x xs => cases h; exact foldl_max xs x
theorem minI_spec {xs : List Int} {m : Int} (h : minI xs = some m) : (∀ y ∈ xs, m ≤ y) ∧ m ∈ xs := by
  cases xs with
  | nil => cases h
  | cons x xs => cases h; exact foldl_min xs x
theorem maxI_some {xs : List Int} (h : xs ≠ []) : ∃ m, maxI xs = some m := by
  cases xs with
  | nil => exact absurd rfl h
  | cons x xs => exact ⟨_, rfl⟩
theorem minI_some {xs : List Int} (h : xs ≠ []) : ∃ m, minI xs = some m := by
  cases xs with
  | nil => exact absurd rfl h
  | cons x xs => exact ⟨_, rfl⟩
theorem ok_maxL {ns : List Int} {m : Int} (h : maxI ns = some m) : CallOk G C k (.builtin "max") [eL eI ns] (.int m) := fun X hX => by
  refine call_imp (cr_max hX.calm) fun xs H Q ⟨F, sF, r, q⟩ => ?_
  obtain ⟨x, rfl, rx⟩ := ba1 r
  obtain ⟨p, ys, rfl, h1, h2⟩ := rx.lst sF
  obtain ⟨h3, h4⟩ := maxI_spec h
  refine ⟨p, ns, rfl, by rw [hX.eK, ← h2.ints]; exact h1, List.length_pos_of_mem h4, fun m' hm' hle => ?_⟩
  have : m' = m := Int.le_antisymm (h3 m' hm') (hle m h4)
  rw [this]
  exact q _ F H (Ext.refl sF) (.int _)
theorem ok_minL {ns : List Int} {m : Int} (h : minI ns = some m) : CallOk G C k (.builtin "min") [eL eI ns] (.int m) := fun X hX => by
  refine call_imp (cr_min hX.calm) fun xs H Q ⟨F, sF, r, q⟩ => ?_
  obtain ⟨x, rfl, rx⟩ := ba1 r
  obtain ⟨p, ys, rfl, h1, h2⟩ := rx.lst sF
  obtain ⟨h3, h4⟩ := minI_spec h
  refine ⟨p, ns, rfl, by rw [hX.eK, ← h2.ints]; exact h1, List.length_pos_of_mem h4, fun m' hm' hle => ?_⟩
  have : m' = m := Int.le_antisymm (hle m h4) (h3 m' hm')
  rw [this]
  exact q _ F H (Ext.refl sF) (.int _)
/-! ### rows many times -/
def RepTOk (l : Nat) (n : Int) : Prop := (2 ≤ n ∧ n ≤ 1000) ∧ 0 < l ∧ l ≤ 1000
theorem ok_repT {α : Type} {ea : α → PyData} {xs : List α} {n : Int} (h : RepTOk xs.length n) : OpOk G C k (binaryOp .Mult) (eT ea xs) (.int n) (eT ea (repL xs n)) := fun X hX => by
  refine op_imp op_repT fun x y H Q ⟨F, sF, rx, ry, q⟩ => ?_
  obtain ⟨p, vs, rfl, h1, h2⟩ := rx.tup sF
  have hl : vs.length = xs.length := by rw [h2.length, List.length_map]
  refine ⟨p, n, vs, rfl, ry.int, by rw [hX.eK]; exact h1, fun e => ?_, h.1.1, h.1.2, by rw [hl]; exact h.2.2, fun p hp => ?_⟩
  · rw [e] at hl
    have := h.2.1
    simp at hl
    omega
  · have e2 : (List.replicate n.toNat (xs.map ea)).flatten = (repL xs n).map ea := by
      unfold repL
      rw [List.map_flatten, List.map_replicate]
    refine q _ _ _ (Ext.lay sF hp) (.tup (.inl (.inl upd_same)) ?_)
    show RpA G.K _ _ ((repL xs n).map ea)
    rw [← e2]
    exact RpA.mono (same_upd (sF.free hp)) (RpA.rep h2 _)
/-- a list's items given to names -/
theorem tg_lst {n m : Nat} {is : List Nat} (h : Tgs G C k ρ es is ds ρ1) (hl : ds.length = n) (hn : ∀ env, (assignEach es env).length = n) (hst : ∀ env, (assignEach es env).findIdx? (·.1) = none) : Tg G C k ρ (.Tuple es m pos) is (.list ds) ρ1 := fun X hX =>
  pg_imp (pg_lst hX.calm (h X hX) (hn _) (hst _)) fun v σ H Q ⟨F0, H0, F, S, r, q⟩ => by
    obtain ⟨a, xs, rfl, h1, h2⟩ := (Rp.b (H := H) r).lst S.ext.sub
    exact ⟨a, xs, rfl, by rw [hX.eK]; exact h1, by rw [h2.length]; exact hl, F0, H0, F, S, h2, q⟩
theorem it_revX {α : Type} {ea : α → PyData} {xs : List α} (g : Gn C "reversed") (m : G.mg "reversed" = none) (h : Ev G C k ρ e (eL ea xs)) (hs : ∀ env, starEach [e] env = (false, eval e env) :: starEach [] env) : It' G C k ρ tg (.Call (.Name "reversed" p) [e] [] pos) (xs.reverse.map ea) ((xs.map ea).length ≤ sizeLine) := by
  rw [List.map_reverse]
  exact it_rev g m h hs
theorem it_revTX {α : Type} {ea : α → PyData} {xs : List α} (g : Gn C "reversed") (m : G.mg "reversed" = none) (h : Ev G C k ρ e (eT ea xs)) (hs : ∀ env, starEach [e] env = (false, eval e env) :: starEach [] env) : It' G C k ρ tg (.Call (.Name "reversed" p) [e] [] pos) (xs.reverse.map ea) ((xs.map ea).length ≤ sizeLine) := by
  rw [List.map_reverse]
  exact it_revT g m h hs
theorem zz_rg3 {β : Type} {eb : β → PyData} {lo hi c : Int} {ys : List β} (hr : RgC3 lo hi c) (h : ys.length ≤ (rangeC lo hi c).length) : True → (ys.map eb).length ≤ sizeLine := fun _ => by
  have e := sizeLine_eq
  rw [List.length_map]
  unfold rangeC at h
  simp at h
  have := hr.2.2
  omega
theorem sz_map {β : Type} {eb : β → PyData} {ys : List β} (h : SzOk ys.length) : (ys.map eb).length ≤ sizeLine := by rw [List.length_map]; exact h.z
theorem sz_to {β : Type} {eb : β → PyData} {ys zs : List β} (q : ys = zs) (h : (ys.map eb).length ≤ sizeLine) : (zs.map eb).length ≤ sizeLine := q ▸ h
theorem LcR2.to {vs vs1 : List Nat} {ifs ifs1 : List Expr} {elt iter1 : Expr} {ys zs : List PyData} (h : LcR2 G C k ρ vs vs1 tg ifs tg1 iter1 ifs1 elt ds ys) (q : ys = zs) : LcR2 G C k ρ vs vs1 tg ifs tg1 iter1 ifs1 elt ds zs := q ▸ h
end
section
variable {G : Gb} {C : SC} {k : Nat} {ρ : PEnv} {a b c : Expr} {d1 d2 d3 : PyData} {pos : Pos} {t u : Bool}
theorem te_chain2 {op op' : CmpOp} (ho : OpOk G C k (compareOp op) d1 d2 (.bool t)) (ho' : OpOk G C k (compareOp op') d2 d3 (.bool u)) (ha : EvB G C k ρ a d1) (hb : EvB G C k ρ b d2) (hc : EvB G C k ρ c d3) (hm : lastMarks [op, op'] [b, c] = false) :
    Te G C k ρ (.Compare a [op, op'] [b, c] pos) (t && u) := fun X hX =>
  pt_imp (pt_chain (ho X hX) (ho' X hX) (ha X hX) (hb X hX) (hc X hX) hm) fun σ H Q ⟨F0, H0, F, S, q⟩ => ⟨F0, H0, F, S, fun x F1 H1 e1 r1 => ⟨F0, H0, F1, S.go e1, fun y F2 H2 e2 r2 => ⟨F2, e2.sub, r1.ext e2, r2, fun v F3 H3 e3 r3 => by
    cases r3
    cases t with
    | false => exact ⟨false, rfl, iteF ⟨false, rfl, q F3 H3 ((e1.trans e2).trans e3)⟩⟩
    | true =>
      refine ⟨true, rfl, iteT ⟨F0, H0, F3, ((S.go e1).go e2).go e3, fun z F4 H4 e4 r4 => ⟨F4, e4.sub, (r2.ext e3).ext e4, r4, fun v F5 H5 e5 r5 => ?_⟩⟩⟩
      cases r5
      exact ⟨u, rfl, q F5 H5 ((((e1.trans e2).trans e3).trans e4).trans e5)⟩⟩⟩⟩
end
/-! ### targets that change objects -/
def tTgH (K : KK) (ρ : PEnv) (d : PyData) (ρ' : PEnv) : TG := fun v σ H Q => ∃ F0 H0 F, SRel K F0 H0 ρ σ F H ∧ Rp K F v d ∧ ∀ σ' F' H', Same F F' → SRel K F0 H0 ρ' σ' F' H' → Q σ' H'
def tTgsH (K : KK) (ρ : PEnv) (ds : List PyData) (ρ' : PEnv) : TGs := fun vs σ H Q => ∃ F0 H0 F, SRel K F0 H0 ρ σ F H ∧ RpA K F vs ds ∧ ∀ σ' F' H', Same F F' → SRel K F0 H0 ρ' σ' F' H' → Q σ' H'
def TgH (G : Gb) (C : SC) (k : Nat) (ρ : PEnv) (tg : Expr) (d : PyData) (ρ' : PEnv) : Prop := ∀ X, CxOk G C k X → PG X tg (tTgH G.K ρ d ρ')
def TgsH (G : Gb) (C : SC) (k : Nat) (ρ : PEnv) (tgs : List Expr) (ds : List PyData) (ρ' : PEnv) : Prop := ∀ X, CxOk G C k X → PGs X tgs (tTgsH G.K ρ ds ρ')
section
variable {G : Gb} {C : SC} {k : Nat} {ρ ρ1 ρ2 : PEnv} {e tg tg1 : Expr} {es : List Expr} {d : PyData} {ds : List PyData} {pos p : Pos} {x : Str}
theorem Tg.h {is : List Nat} (h : Tg G C k ρ tg is d ρ1) : TgH G C k ρ tg d ρ1 := fun X hX => pg_imp (h X hX) fun v σ H Q ⟨F0, H0, F, S, r, q⟩ => ⟨F0, H0, F, S, r, fun σ' _ S' => q σ' F H (Same.refl _) S'⟩
theorem tgsH_nil : TgsH G C k ρ [] [] ρ := fun X hX => pgs_imp pgs_nil fun vs σ H Q ⟨F0, H0, F, S, r, q⟩ => by
  cases r
  exact ⟨rfl, q σ F H (Same.refl _) S⟩
theorem tgsH_cons (h1 : TgH G C k ρ e d ρ1) (h2 : TgsH G C k ρ1 es ds ρ2) (hs : ∀ env, (assignEach (e :: es) env).map (·.2) = assign e env :: (assignEach es env).map (·.2)) : TgsH G C k ρ (e :: es) (d :: ds) ρ2 := fun X hX =>
  pgs_imp (pgs_cons (h1 X hX) (h2 X hX) (hs _)) fun vs σ H Q ⟨F0, H0, F, S, r, q⟩ => by
    cases r with
    | cons r t => exact ⟨_, _, rfl, F0, H0, F, S, r, fun σ1 F1 H1 s1 S1 => ⟨F0, H0, F1, S1, t.mono s1, fun σ2 F2 H2 s2 S2 => q σ2 F2 H2 (s1.trans s2) S2⟩⟩
theorem tgH_tup {n m : Nat} (h : TgsH G C k ρ es ds ρ1) (hl : ds.length = n) (hn : ∀ env, (assignEach es env).length = n) (hst : ∀ env, (assignEach es env).findIdx? (·.1) = none) : TgH G C k ρ (.Tuple es m pos) (.tuple ds) ρ1 := fun X hX =>
  pg_imp (pg_tup hX.calm (h X hX) (hn _) (hst _)) fun v σ H Q ⟨F0, H0, F, S, r, q⟩ => by
    obtain ⟨a, xs, rfl, h1, h2⟩ := (Rp.b (H := H) r).tup S.ext.sub
    exact ⟨a, xs, rfl, by rw [hX.eK]; exact h1, by rw [h2.length]; exact hl, F0, H0, F, S, h2, q⟩
/-- x[ei] as a target, x an owned list -/
theorem tgH_item {α : Type} {f : α → PyData} {xs ys : List α} {v : α} (i : Nat) {ei : Expr} {m : Int} {p1 p2 : Pos} (n : Nm C i x) (h : ρ[i]? = some (some (.ow (eL f xs)))) (hei : EvB G C k ρ ei (.int m)) (hm : setAt xs m v = some ys)
    (ha : ∀ env v, assign (.Subscript (.Name x p1) ei p2) env v = (do
      let ov ← holding [v] (eval (.Name x p1) env)
      let iv ← holding [v, ov] (eval ei env)
      standAt p2
      holding [v, ov, iv] (setItem ov iv v)
      release [v, ov, iv] [])) : TgH G C k ρ (.Subscript (.Name x p1) ei p2) (f v) (ρ.set i (some (.ow (eL f ys)))) := fun X hX => by
  obtain ⟨j, hj, e⟩ := setAt_ex (ea := f) hm
  refine pg_imp (pg_sub (pe_var (i := i) (by rw [hX.eN]; exact n.hi) (vis_of hX n.hv) n.hd n.hc) (hei X hX) set_list (ha _)) fun w σ H Q ⟨F0, H0, F, S, r, q⟩ => ?_
  obtain ⟨a, o, h1, h2, h3, h4, h5⟩ := S.ow i _ h
  cases h3 with
  | @lst vs _ rv =>
    refine ⟨.ref a, h1, F0, H0, F, S, fun y F2 H2 e2 r2 => ⟨a, vs, m, j, rfl, r2.int, e2.hs _ _ h2, by rw [rv.length]; exact hj, q σ F2 _ e2.fs ?_⟩⟩
    show SRel G.K F0 H0 (ρ.set i (some (.ow (.list (ys.map f))))) σ F2 _
    rw [e]
    exact (S.go e2).mut h h1 (.lst (RpA.set (r.mono e2.fs) j (rv.mono e2.fs)))
theorem st_asgH (he : Ev G C k ρ e d) (hg : TgH G C k ρ tg d ρ1) (hs : ∀ env, swapsWithSole [tg] e pos.line env = pure false) (hw : ∀ env : Env, env.scope = C.sc → swappedStores [tg] e env = pure none) (h1 : ∀ env, (assignEach [tg] env).map (·.2) = [assign tg env]) :
    St1 G C k ρ (.Assign [tg] e pos) (.nx ρ1) := fun X hX =>
  ps_imp (ps_asg (he X hX) (hg X hX) (hs _) (hw _ hX.es) (h1 _)) fun D σ H ⟨F0, H0, F, S, q⟩ => ⟨F0, H0, F, S, fun v F1 H1 e1 r1 => ⟨F0, H0, F1, S.go e1, r1, fun σ' F2 H2 s2 S' => q σ' F2 H2 S' (e1.fs.trans s2)⟩⟩
end
/-! ### a row of so many items -/
def fit2 {α β : Type} (xs : List α) (f : α → α → Option β) : Option β := match xs with
  | [a, b] => f a b
  | _ => none
theorem fit2_ex {α β : Type} {xs : List α} {f : α → α → Option β} {r : β} (h : fit2 xs f = some r) : ∃ a b, xs = [a, b] ∧ f a b = some r := by
  unfold fit2 at h
  split at h
  · exact ⟨_, _, rfl, h⟩
  · cases h
def fit3 {α β : Type} (xs : List α) (f : α → α → α → Option β) : Option β := match xs with
  | [a, b, c] => f a b c
  | _ => none
theorem fit3_ex {α β : Type} {xs : List α} {f : α → α → α → Option β} {r : β} (h : fit3 xs f = some r) : ∃ a b c, xs = [a, b, c] ∧ f a b c = some r := by
  unfold fit3 at h
  split at h
  · exact ⟨_, _, _, rfl, h⟩
  · cases h
end Pl
/-! Pl, part M: plain laws of mirrors: loops, comprehensions, items; the drawn row. -/
namespace Pl
open PySem PySem.Spec PyProof.Rows L2
noncomputable section

/-! ### items -/
/-- the item at a place -/
def gI {α : Type} [Inhabited α] (xs : List α) (i : Int) : α := xs.getD i.toNat default
theorem idx_in {α : Type} [Inhabited α] {xs : List α} {i : Int} (h0 : 0 ≤ i) (h1 : i < xs.length) : idx xs i = some (gI xs i) := by
  obtain ⟨n, rfl⟩ := Int.eq_ofNat_of_zero_le h0
  have hn : n < xs.length := by omega
  refine idx_nat h0 ?_
  unfold gI
  simp [List.getD, hn]
theorem idx_nat' {α : Type} {xs : List α} {n : Nat} : idx xs (n : Int) = xs[n]? := by
  unfold idx atI ixN
  by_cases h : n < xs.length
  · simp [h]
  · simp [h]
theorem gI_nat {α : Type} [Inhabited α] (xs : List α) (n : Nat) : gI xs (n : Int) = xs.getD n default := rfl
theorem gI_mem {α : Type} [Inhabited α] {xs : List α} {i : Int} (h0 : 0 ≤ i) (h1 : i < xs.length) : gI xs i ∈ xs := by
  obtain ⟨n, rfl⟩ := Int.eq_ofNat_of_zero_le h0
  have hn : n < xs.length := by omega
  unfold gI
  simp [List.getD, hn]
theorem setAt_in {α : Type} {xs : List α} {i : Int} {v : α} (h0 : 0 ≤ i) (h1 : i < xs.length) : setAt xs i v = some (xs.set i.toNat v) := by
  unfold setAt ixN
  simp [h0, h1]
/-! ### loops -/
theorem forS_inv {S α : Type} {step : S → α → Option S} (I : Nat → S → Prop) : ∀ (xs : List α) (s0 : S) (n : Nat), I n s0 → (∀ i s x, xs[i]? = some x → I (n + i) s → ∃ s', step s x = some s' ∧ I (n + i + 1) s') → ∃ s', forS step xs s0 = some s' ∧ I (n + xs.length) s'
  | [], s0, n, h0, _ => ⟨s0, rfl, h0⟩
  | x :: xs, s0, n, h0, hs => by
    obtain ⟨s1, e1, h1⟩ := hs 0 s0 x rfl h0
    obtain ⟨s2, e2, h2⟩ := forS_inv I xs s1 (n + 1) h1 fun i s y hy hi => by
      have := hs (i + 1) s y (by simpa using hy) (by rw [show n + (i + 1) = n + 1 + i by omega]; exact hi)
      rw [show n + (i + 1) + 1 = n + 1 + i + 1 by omega] at this
      exact this
    refine ⟨s2, ?_, by rw [List.length_cons, show n + (xs.length + 1) = n + 1 + xs.length by omega]; exact h2⟩
    show (step s0 x).bind _ = _
    rw [e1]
    exact e2
theorem forS_ex {S α : Type} {step : S → α → Option S} (I : Nat → S → Prop) {xs : List α} {s0 : S} (h0 : I 0 s0) (hs : ∀ i s x, xs[i]? = some x → I i s → ∃ s', step s x = some s' ∧ I (i + 1) s') : ∃ s', forS step xs s0 = some s' ∧ I xs.length s' := by
  have := forS_inv I xs s0 0 h0 fun i s x h hi => by
    rw [Nat.zero_add] at hi ⊢
    exact hs i s x h hi
  rw [Nat.zero_add] at this
  exact this
/-- every turn as a total step -/
theorem forS_fold {S α : Type} {step : S → α → Option S} (f : S → α → S) : ∀ (xs : List α) (s0 : S), (∀ s x, x ∈ xs → step s x = some (f s x)) → forS step xs s0 = some (xs.foldl f s0)
  | [], s0, _ => rfl
  | x :: xs, s0, h => by
    show (step s0 x).bind _ = _
    rw [h s0 x (List.mem_cons_self ..)]
    exact forS_fold f xs _ fun s y hy => h s y (List.mem_cons_of_mem _ hy)
/-- a for whose turns go on -/
theorem forO_ex {S α β : Type} {step : S → α → Option (O S β)} (I : Nat → S → Prop) : ∀ (xs : List α) (s0 : S) (n : Nat), I n s0 → (∀ i s x, xs[i]? = some x → I (n + i) s → ∃ s', step s x = some (.nx s') ∧ I (n + i + 1) s') → ∃ s', forO step xs s0 = some (.nx s') ∧ I (n + xs.length) s'
  | [], s0, n, h0, _ => ⟨s0, rfl, h0⟩
  | x :: xs, s0, n, h0, hs => by
    obtain ⟨s1, e1, h1⟩ := hs 0 s0 x rfl h0
    obtain ⟨s2, e2, h2⟩ := forO_ex I xs s1 (n + 1) h1 fun i s y hy hi => by
      have := hs (i + 1) s y (by simpa using hy) (by rw [show n + (i + 1) = n + 1 + i by omega]; exact hi)
      rw [show n + (i + 1) + 1 = n + 1 + i + 1 by omega] at this
      exact this
    refine ⟨s2, ?_, by rw [List.length_cons, show n + (xs.length + 1) = n + 1 + xs.length by omega]; exact h2⟩
    show (step s0 x).bind _ = _
    rw [e1]
    exact e2
theorem forO_inv {S α β : Type} {step : S → α → Option (O S β)} (I : Nat → S → Prop) {xs : List α} {s0 : S} (h0 : I 0 s0) (hs : ∀ i s x, xs[i]? = some x → I i s → ∃ s', step s x = some (.nx s') ∧ I (i + 1) s') : ∃ s', forO step xs s0 = some (.nx s') ∧ I xs.length s' := by
  have := forO_ex I xs s0 0 h0 fun i s x h hi => by
    rw [Nat.zero_add] at hi ⊢
    exact hs i s x h hi
  rw [Nat.zero_add] at this
  exact this
/-- the counter's turns -/
theorem rangeD_get? {lo hi : Int} {i : Nat} {x : Int} (h : (rangeD lo hi)[i]? = some x) : x = lo + i ∧ lo ≤ x ∧ x < hi := by
  unfold rangeD at h
  rw [List.getElem?_map] at h
  cases e : (List.range (hi - lo).toNat)[i]? with
  | none => rw [e] at h; cases h
  | some j =>
    rw [e] at h
    cases h
    obtain ⟨h1, h2⟩ := List.getElem?_eq_some_iff.mp e
    rw [List.getElem_range] at h2
    rw [List.length_range] at h1
    subst h2
    exact ⟨rfl, by show lo ≤ lo + (i : Int); omega, by show lo + (i : Int) < hi; omega⟩
theorem rangeD_length (lo hi : Int) : (rangeD lo hi).length = (hi - lo).toNat := by unfold rangeD; simp
theorem rangeD_nat (n : Nat) : rangeD 0 (n : Int) = (List.range n).map fun (i : Nat) => (i : Int) := by unfold rangeD; simp
theorem enumT_get? {α : Type} {xs : List α} {i : Nat} {p : Int × α} (h : (enumT xs)[i]? = some p) : p.1 = i ∧ xs[i]? = some p.2 := by
  unfold enumT at h
  rw [List.getElem?_map] at h
  cases e : xs.zipIdx[i]? with
  | none => rw [e] at h; cases h
  | some q =>
    rw [e] at h
    cases h
    rw [List.getElem?_zipIdx] at e
    cases e2 : xs[i]? with
    | none => rw [e2] at e; cases e
    | some y =>
      rw [e2] at e
      cases e
      exact ⟨by simp, rfl⟩
/-! ### comprehensions -/
theorem mapO_eq {α β : Type} {g : α → Option β} (f : α → β) : ∀ (xs : List α), (∀ x ∈ xs, g x = some (f x)) → mapO g xs = some (xs.map f)
  | [], _ => rfl
  | x :: xs, h => by
    show (g x).bind _ = _
    rw [h x (List.mem_cons_self ..)]
    show (mapO g xs).bind _ = _
    rw [mapO_eq f xs fun y hy => h y (List.mem_cons_of_mem _ hy)]
    rfl
theorem filO_eq {α β : Type} {g : α → Option (Option β)} (c : α → Bool) (f : α → β) : ∀ (xs : List α), (∀ x ∈ xs, g x = some (if c x = true then some (f x) else none)) → filO g xs = some ((xs.filter c).map f)
  | [], _ => rfl
  | x :: xs, h => by
    show (g x).bind _ = _
    rw [h x (List.mem_cons_self ..)]
    show (filO g xs).bind _ = _
    rw [filO_eq c f xs fun y hy => h y (List.mem_cons_of_mem _ hy)]
    rw [List.filter_cons]
    cases c x <;> rfl
/-- a row of n items made by place -/
theorem mapO_range {β : Type} {g : Int → Option β} (n : Nat) (f : Nat → β) (h : ∀ i, i < n → g (i : Int) = some (f i)) : mapO g (rangeD 0 (n : Int)) = some ((List.range n).map f) := by
  rw [rangeD_nat]
  have q : mapO g ((List.range n).map fun (i : Nat) => (i : Int)) = some (((List.range n).map fun (i : Nat) => (i : Int)).map fun (i : Int) => f i.toNat) := mapO_eq _ _ fun x hx => by
    rw [List.mem_map] at hx
    obtain ⟨i, hi, rfl⟩ := hx
    rw [List.mem_range] at hi
    rw [h i hi]
    rfl
  rw [q, List.map_map]
  rfl
/-! ### guards -/
theorem mulS {i j : Int} (h : -(2 ^ 64) < i ∧ i < 2 ^ 64) : MulOk i j := .inl (.inl h)
theorem divS {i j : Int} (h : 0 < j ∧ j < 1073741824) : DivOk i j := ⟨h.1, .inl h.2⟩
theorem rgS {i j : Int} (h : -1000000000 ≤ i ∧ i ≤ 1000000000 ∧ -1000000000 ≤ j ∧ j ≤ 1000000000 ∧ j - i ≤ 16777216) : RgO i j := h
/-! ### the drawn row -/
def law_mixed_m (script1 : (List Int)) (k1 : Int) : Option Int :=
  (set' (0 : Int) fun cell1 => Option.bind (if (decide (0 < ((script1).length : Int))) = true then (need (0 < ((script1).length : Int)) <| Option.bind (idx script1 (k1 % ((script1).length : Int))) fun x2 => set' (x2 : Int) fun cell2 => some cell2) else some cell1 : Option (Int)) fun j1 => (set' (((((j1 * 48271) + (k1 * 69621)) + 8191) % 2147483647) : Int) fun first1 => (need (Pl.MulOk first1 first1) <| set' (((((first1 * first1) + (first1 / 7)) + (k1 * 16807)) % 2147483629) : Int) fun second1 => (need (Pl.MulOk second1 second1) <| set' (((((second1 * second1) + (second1 / 11)) + 40692) % 2147483563) : Int) fun third1 => some ((third1 / 5) % 1000003)))))
def law_row_l1 (script1 : (List Int)) (s1 : ((List Int) × Int)) (x4 : Int) : Option ((List Int) × Int) :=
  Option.bind (if (decide (0 < s1.2)) = true then (need (Sz1 (s1.1).length) <| set' ((s1.1 ++ [(s1.2 % 1000)]) : (List Int)) fun row2 => (set' ((s1.2 / 1000) : Int) fun big3 => some (row2, big3))) else (Option.bind (law_mixed_m script1 x4) fun law_mi1 => need (Sz1 (s1.1).length) <| set' ((s1.1 ++ [law_mi1]) : (List Int)) fun row3 => some (row3, s1.2)) : Option ((List Int) × Int)) fun j2 => some (j2.1, j2.2)
def law_row_m (script1 : (List Int)) (many1 : Int) : Option (List Int) :=
  (set' (0 : Int) fun big1 => (Option.bind ((if (decide (0 < ((script1).length : Int))) = true then (Option.bind (idx script1 0) fun x1 => some (decide (1000000000000000000 ≤ x1))) else some false)) fun b1 => Option.bind (if b1 = true then (Option.bind (idx script1 0) fun x3 => set' (x3 : Int) fun big2 => some big2) else some big1 : Option (Int)) fun j1 => (set' (([] : (List Int)) : (List Int)) fun row1 => (need (RgO 0 many1) <| (forS (law_row_l1 script1) (rangeD 0 many1) (row1, j1)).bind fun s2 => some s2.1))))
theorem mixed_ok (ns : List Int) (k : Int) : ∃ v, law_mixed_m ns k = some v ∧ 0 ≤ v ∧ v < 1000003 := by
  unfold law_mixed_m
  simp only [set_eq]
  have key : ∀ j1 : Int, ∃ v, (need (Pl.MulOk (((j1 * 48271) + (k * 69621) + 8191) % 2147483647) (((j1 * 48271) + (k * 69621) + 8191) % 2147483647)) <| need (Pl.MulOk ((((((j1 * 48271) + (k * 69621) + 8191) % 2147483647) * (((j1 * 48271) + (k * 69621) + 8191) % 2147483647) + (((j1 * 48271) + (k * 69621) + 8191) % 2147483647) / 7) + k * 16807) % 2147483629) ((((((j1 * 48271) + (k * 69621) + 8191) % 2147483647) * (((j1 * 48271) + (k * 69621) + 8191) % 2147483647) + (((j1 * 48271) + (k * 69621) + 8191) % 2147483647) / 7) + k * 16807) % 2147483629)) <| some ((((((((((j1 * 48271) + (k * 69621) + 8191) % 2147483647) * (((j1 * 48271) + (k * 69621) + 8191) % 2147483647) + (((j1 * 48271) + (k * 69621) + 8191) % 2147483647) / 7) + k * 16807) % 2147483629) * ((((((j1 * 48271) + (k * 69621) + 8191) % 2147483647) * (((j1 * 48271) + (k * 69621) + 8191) % 2147483647) + (((j1 * 48271) + (k * 69621) + 8191) % 2147483647) / 7) + k * 16807) % 2147483629) + ((((((j1 * 48271) + (k * 69621) + 8191) % 2147483647) * (((j1 * 48271) + (k * 69621) + 8191) % 2147483647) + (((j1 * 48271) + (k * 69621) + 8191) % 2147483647) / 7) + k * 16807) % 2147483629) / 11) + 40692) % 2147483563) / 5 % 1000003)) = some v ∧ 0 ≤ v ∧ v < 1000003 := fun j1 => by
    generalize ((j1 * 48271) + (k * 69621) + 8191) = a
    have ha : 0 ≤ a % 2147483647 ∧ a % 2147483647 < 2147483647 := by omega
    generalize a % 2147483647 = b at ha ⊢
    generalize (b * b + b / 7) + k * 16807 = c
    have hc : 0 ≤ c % 2147483629 ∧ c % 2147483629 < 2147483629 := by omega
    generalize c % 2147483629 = d at hc ⊢
    rw [need_of (mulS (by omega)), need_of (mulS (by omega))]
    exact ⟨_, rfl, by omega, by omega⟩
  by_cases hl : 0 < (ns.length : Int)
  · have hk : 0 ≤ k % (ns.length : Int) := Int.emod_nonneg _ (by omega)
    have hk2 : k % (ns.length : Int) < ns.length := Int.emod_lt_of_pos _ hl
    simp only [hl, decide_true, if_true, need_of, idx_in hk hk2, Option.bind_some]
    exact key _
  · simp only [hl, decide_false, Bool.false_eq_true, if_false, Option.bind_some]
    exact key 0
/-- the row of a law: so many numbers, each below a million and three -/
theorem row_ok (ns : List Int) (m : Nat) (hm : m ≤ 100000) : ∃ row, law_row_m ns (m : Int) = some row ∧ row.length = m ∧ ∀ x ∈ row, 0 ≤ x ∧ x < 1000003 := by
  have loop : ∀ b : Int, ∃ s, forS (law_row_l1 ns) (rangeD 0 (m : Int)) (([] : List Int), b) = some s ∧ s.1.length = m ∧ ∀ x ∈ s.1, 0 ≤ x ∧ x < 1000003 := fun b => by
    have := forS_ex (step := law_row_l1 ns) (fun i (s : List Int × Int) => i ≤ m → s.1.length = i ∧ ∀ x ∈ s.1, 0 ≤ x ∧ x < 1000003) (xs := rangeD 0 (m : Int)) (s0 := (([] : List Int), b)) (fun _ => ⟨rfl, by simp⟩) fun i s x hx hi => by
      obtain ⟨hx1, hx2, hx3⟩ := rangeD_get? hx
      obtain ⟨hl, hr⟩ := hi (by omega)
      have hz : Sz1 s.1.length := by unfold Sz1; omega
      unfold law_row_l1
      simp only [set_eq, need_of hz]
      by_cases hb : 0 < s.2
      · simp only [hb, decide_true, if_true, Option.bind_some]
        refine ⟨_, rfl, fun _ => ⟨by simp [hl], fun y hy => ?_⟩⟩
        simp only [List.mem_append, List.mem_singleton] at hy
        rcases hy with hy | rfl
        · exact hr y hy
        · omega
      · obtain ⟨v, hv, h0, h1⟩ := mixed_ok ns x
        simp only [hb, decide_false, Bool.false_eq_true, if_false, hv, Option.bind_some]
        refine ⟨_, rfl, fun _ => ⟨by simp [hl], fun y hy => ?_⟩⟩
        simp only [List.mem_append, List.mem_singleton] at hy
        rcases hy with hy | rfl
        · exact hr y hy
        · exact ⟨h0, h1⟩
    obtain ⟨s, e, h⟩ := this
    have hlen : (rangeD 0 (m : Int)).length = m := by rw [rangeD_length]; omega
    rw [hlen] at h
    exact ⟨s, e, h (Nat.le_refl _)⟩
  have hrg : RgO 0 (m : Int) := rgS (by omega)
  have fin : ∀ b : Int, ∃ row, ((forS (law_row_l1 ns) (rangeD 0 (m : Int)) (([] : List Int), b)).bind fun s2 => some s2.1) = some row ∧ row.length = m ∧ ∀ x ∈ row, 0 ≤ x ∧ x < 1000003 := fun b => by
    obtain ⟨s, e, h⟩ := loop b
    rw [e]
    exact ⟨s.1, rfl, h⟩
  unfold law_row_m
  simp only [set_eq, need_of hrg]
  by_cases hl : 0 < (ns.length : Int)
  · have e0 : idx ns 0 = some (gI ns 0) := idx_in (by omega) hl
    simp only [hl, decide_true, if_true, e0, Option.bind_some]
    by_cases hb : 1000000000000000000 ≤ gI ns 0
    · simp only [hb, decide_true, if_true, Option.bind_some]
      exact fin _
    · simp only [hb, decide_false, Bool.false_eq_true, if_false, Option.bind_some]
      exact fin _
  · simp only [hl, decide_false, Bool.false_eq_true, if_false, Option.bind_some]
    exact fin _
/-! ### the common divisor -/
theorem euclid (Q : Nat → Nat → Nat → Prop) (h0 : ∀ m a, Q (m + 1) a 0) (hs : ∀ m a b, 0 < b → Q m b (a % b) → Q (m + 1) a b) : ∀ n m a b : Nat, b < 2 ^ n → 2 * n + 1 ≤ m → Q m a b := by
  intro n
  induction n with
  | zero =>
    intro m a b hb hm
    obtain ⟨k, rfl⟩ : ∃ k, m = k + 1 := ⟨m - 1, by omega⟩
    have : b = 0 := by simp at hb; exact hb
    subst this
    exact h0 k a
  | succ n ih =>
    intro m a b hb hm
    obtain ⟨k, rfl⟩ : ∃ k, m = k + 1 := ⟨m - 1, by omega⟩
    rcases Nat.eq_zero_or_pos b with rfl | hp
    · exact h0 k a
    · refine hs k a b hp ?_
      obtain ⟨j, rfl⟩ : ∃ j, k = j + 1 := ⟨k - 1, by omega⟩
      rcases Nat.eq_zero_or_pos (a % b) with hz | hq
      · rw [hz]; exact h0 j b
      · refine hs j b _ hq (ih j _ _ ?_ (by omega))
        have h1 : a % b < b := Nat.mod_lt _ hp
        generalize a % b = r at h1 hq ⊢
        have h2 : b % r < r := Nat.mod_lt _ hq
        have h3 : b = r * (b / r) + b % r := (Nat.div_add_mod b r).symm
        have h4 : 1 ≤ b / r := Nat.div_pos (by omega) hq
        have h5 : r ≤ r * (b / r) := Nat.le_mul_of_pos_right r h4
        rw [Nat.pow_succ] at hb
        omega
def divisor_c1  (s1 : (Int × Int)) : Option Bool :=
  some (decide (0 < s1.2))
def divisor_b2  (s1 : (Int × Int)) : Option (Int × Int) :=
  (need (0 < s1.2) <| set' (s1.2 : Int) fun first3 => set' ((s1.1 % s1.2) : Int) fun second3 => some (first3, second3))
def divisor_m (first1 : Int) (second1 : Int) : Option Int :=
  (set' ((if first1 < 0 then -first1 else first1) : Int) fun first2 => set' ((if second1 < 0 then -second1 else second1) : Int) fun second2 => (whileS (divisor_c1) (divisor_b2) 1000000 (first2, second2)).bind fun s2 => some s2.1)
def lowest_m (a1 : Int) (b1 : Int) : Option (Int × Int) :=
  (Option.bind ((if (decide (0 < b1)) = true then (Option.bind (divisor_m a1 b1) fun diviso3 => some diviso3) else (Option.bind (divisor_m a1 b1) fun diviso4 => some (-diviso4)))) fun c1 => set' (c1 : Int) fun common1 => (need (DivOk a1 common1) <| need (DivOk b1 common1) <| some ((a1 / common1), (b1 / common1))))
theorem divisor_loop (n m a b : Nat) (hb : b < 2 ^ n) (hm : 2 * n + 1 ≤ m) : whileS divisor_c1 divisor_b2 m ((a : Int), (b : Int)) = some (((Nat.gcd a b : Nat) : Int), 0) := by
  refine euclid (fun m a b => whileS divisor_c1 divisor_b2 m ((a : Int), (b : Int)) = some (((Nat.gcd a b : Nat) : Int), 0)) (fun m a => ?_) (fun m a b hp ih => ?_) n m a b hb hm
  · show (divisor_c1 ((a : Int), ((0 : Nat) : Int))).bind _ = _
    simp [divisor_c1]
  · show (divisor_c1 ((a : Int), (b : Int))).bind _ = _
    have hb : (0 : Int) < (b : Int) := by omega
    have e : divisor_b2 ((a : Int), (b : Int)) = some ((b : Int), ((a % b : Nat) : Int)) := by
      unfold divisor_b2
      simp only [set_eq, need_of hb]
      rw [Int.natCast_emod]
    simp only [divisor_c1, hb, decide_true, Option.bind_some, if_true]
    rw [e]
    show whileS divisor_c1 divisor_b2 m ((b : Int), ((a % b : Nat) : Int)) = _
    rw [ih, Nat.gcd_comm b, ← Nat.gcd_rec, Nat.gcd_comm]
theorem divisor_ok (a b : Nat) (hb : b < 2 ^ 400000) : divisor_m (a : Int) (b : Int) = some ((Nat.gcd a b : Nat) : Int) := by
  unfold divisor_m
  have h1 : (if (a : Int) < 0 then -(a : Int) else (a : Int)) = a := if_neg (by omega)
  have h2 : (if (b : Int) < 0 then -(b : Int) else (b : Int)) = b := if_neg (by omega)
  simp only [set_eq, h1, h2]
  rw [divisor_loop 400000 1000000 a b hb (by omega)]
  rfl
theorem lowest_ok (a b : Nat) (h : 0 < b) (hb : b < 2 ^ 8999) : lowest_m (a : Int) (b : Int) = some (((a / Nat.gcd a b : Nat) : Int), ((b / Nat.gcd a b : Nat) : Int)) := by
  unfold lowest_m
  have h0 : (0 : Int) < (b : Int) := by omega
  have hg : 0 < Nat.gcd a b := Nat.gcd_pos_of_pos_right _ h
  have hl : Nat.gcd a b ≤ b := Nat.gcd_le_right _ h
  have hd : ∀ i : Int, DivOk i ((Nat.gcd a b : Nat) : Int) := fun i => ⟨by omega, .inr (by
    rw [Int.natAbs_natCast, Nat.log2_lt (by omega)]
    exact Nat.lt_of_le_of_lt hl (Nat.lt_of_lt_of_le hb (Nat.pow_le_pow_right (by decide) (by decide))))⟩
  simp only [h0, decide_true, if_true, Option.bind_some]
  rw [divisor_ok a b (Nat.lt_of_lt_of_le hb (Nat.pow_le_pow_right (by decide) (by decide)))]
  simp only [Option.bind_some, set_eq, need_of (hd _)]
  rw [Int.natCast_ediv, Int.natCast_ediv]
def law_common_l1  (s1 : (Int × Int)) (x1 : Int) : Option (O (Int × Int) Int) :=
  if (decide (s1.2 = 0)) = true then some (O.bk (s1.1, s1.2)) else (need (0 < s1.2) <| set' (s1.2 : Int) fun first2 => set' ((s1.1 % s1.2) : Int) fun second2 => some (O.nx (first2, second2)))
def law_common_m (first1 : Int) (second1 : Int) : Option Int :=
  (need (RgO 0 900) <| (forO (law_common_l1) (rangeD 0 900) (first1, second1)).bind fun o1 => O.then o1 (fun s2 => some s2.1) (fun b => some b))
theorem common_loop (n : Nat) (a b : Nat) (hb : b < 2 ^ n) : ∀ xs : List Int, 2 * n + 1 ≤ xs.length → forO law_common_l1 xs ((a : Int), (b : Int)) = some (.nx (((Nat.gcd a b : Nat) : Int), 0)) := by
  intro xs hx
  refine euclid (fun m a b => ∀ xs : List Int, xs.length = m → forO law_common_l1 xs ((a : Int), (b : Int)) = some (.nx (((Nat.gcd a b : Nat) : Int), 0))) (fun m a => ?_) (fun m a b hp ih => ?_) n xs.length a b hb hx xs rfl
  · intro xs h
    cases xs with
    | nil => cases h
    | cons x xs =>
      show (law_common_l1 ((a : Int), ((0 : Nat) : Int)) x).bind _ = _
      simp [law_common_l1]
  · intro xs h
    cases xs with
    | nil => cases h
    | cons x xs =>
      have hb : (0 : Int) < (b : Int) := by omega
      have hz : ¬ ((b : Int) = 0) := by omega
      have e : law_common_l1 ((a : Int), (b : Int)) x = some (.nx ((b : Int), ((a % b : Nat) : Int))) := by
        unfold law_common_l1
        simp only [hz, decide_false, Bool.false_eq_true, if_false, set_eq, need_of hb]
        rw [Int.natCast_emod]
      show (law_common_l1 ((a : Int), (b : Int)) x).bind _ = _
      rw [e]
      show forO law_common_l1 xs ((b : Int), ((a % b : Nat) : Int)) = _
      rw [ih xs (Nat.succ.inj h), Nat.gcd_comm b, ← Nat.gcd_rec, Nat.gcd_comm]
theorem common_ok (a b : Nat) (hb : b < 2 ^ 440) : law_common_m (a : Int) (b : Int) = some ((Nat.gcd a b : Nat) : Int) := by
  unfold law_common_m
  rw [need_of (rgS (by omega)), common_loop 440 a b hb _ (by rw [rangeD_length]; decide)]
  rfl
/-! ### places -/
/-- the places below n of which c holds -/
def pl (n : Nat) (c : Nat → Bool) : List Int := ((List.range n).filter c).map fun (i : Nat) => (i : Int)
theorem pl_zero (c : Nat → Bool) : pl 0 c = [] := rfl
theorem pl_succ (n : Nat) (c : Nat → Bool) : pl (n + 1) c = pl n c ++ (if c n = true then [(n : Int)] else []) := by
  unfold pl
  rw [List.range_succ, List.filter_append, List.map_append]
  cases h : c n <;> simp [h]
theorem pl_mem {n : Nat} {c : Nat → Bool} {x : Int} (h : x ∈ pl n c) : ∃ i : Nat, x = i ∧ i < n ∧ c i = true := by
  unfold pl at h
  simp only [List.mem_map, List.mem_filter, List.mem_range] at h
  obtain ⟨i, ⟨h1, h2⟩, rfl⟩ := h
  exact ⟨i, rfl, h1, h2⟩
theorem mem_pl {n : Nat} {c : Nat → Bool} {i : Nat} : (i : Int) ∈ pl n c ↔ i < n ∧ c i = true := by
  unfold pl
  simp only [List.mem_map, List.mem_filter, List.mem_range]
  constructor
  · rintro ⟨j, ⟨h1, h2⟩, h3⟩
    have : j = i := by omega
    subst this
    exact ⟨h1, h2⟩
  · rintro ⟨h1, h2⟩
    exact ⟨i, ⟨h1, h2⟩, rfl⟩
theorem pl_congr {n : Nat} {c d : Nat → Bool} (h : ∀ i, i < n → c i = d i) : pl n c = pl n d := by
  unfold pl
  congr 1
  refine List.filter_congr fun i hi => h i (List.mem_range.mp hi)
theorem pl_filter (n : Nat) (c : Nat → Bool) (d : Int → Bool) : (pl n c).filter d = pl n fun i => c i && d (i : Int) := by
  unfold pl
  rw [List.filter_map, List.filter_filter]
  congr 1
  refine List.filter_congr fun i _ => ?_
  show (d (i : Int) && c i) = (c i && d (i : Int))
  rw [Bool.and_comm]
theorem pl_len_succ (n : Nat) (c : Nat → Bool) : ((pl (n + 1) c).length : Int) = (pl n c).length + (if c n = true then 1 else 0) := by
  rw [pl_succ]
  cases h : c n <;> simp [h]
theorem pl_le (n : Nat) (c : Nat → Bool) : (pl n c).length ≤ n := by
  unfold pl
  rw [List.length_map]
  exact Nat.le_trans (List.length_filter_le _ _) (by simp)
theorem range_fil (n : Nat) (d : Int → Bool) : (rangeD 0 (n : Int)).filter d = pl n fun i => d (i : Int) := by
  rw [rangeD_nat]
  unfold pl
  rw [List.filter_map]
  rfl
theorem enumT_range {α : Type} [Inhabited α] (xs : List α) : enumT xs = (List.range xs.length).map fun (i : Nat) => ((i : Int), gI xs (i : Int)) := by
  refine List.ext_getElem? fun i => ?_
  unfold enumT
  rw [List.getElem?_map, List.getElem?_map, List.getElem?_zipIdx]
  by_cases h : i < xs.length
  · simp [h, gI, List.getD]
  · simp [h]
/-- the places of the items of which c holds -/
theorem enum_fil {α : Type} [Inhabited α] (xs : List α) (c : Int × α → Bool) : ((enumT xs).filter c).map (fun z => z.1) = pl xs.length fun i => c ((i : Int), gI xs (i : Int)) := by
  rw [enumT_range, List.filter_map, List.map_map]
  rfl
theorem repL_if (x : Int) (b : Bool) : repL [x] (if b = true then 1 else 0) = if b = true then [x] else [] := by
  cases b <;> rfl
theorem repOk_if (l : Nat) (b : Bool) (h : l ≤ 1000) : RepOk l (if b = true then 1 else 0) := by
  unfold RepOk
  cases b <;> simp <;> omega
theorem gI_map {α β : Type} [Inhabited α] [Inhabited β] (f : α → β) (xs : List α) {i : Nat} (h : i < xs.length) : gI (xs.map f) (i : Int) = f (gI xs (i : Int)) := by
  unfold gI
  simp [List.getD, h]
theorem gI_range {β : Type} [Inhabited β] (f : Nat → β) (n : Nat) {i : Nat} (h : i < n) : gI ((List.range n).map f) (i : Int) = f i := by
  unfold gI
  simp [List.getD, h]
theorem idx_n {α : Type} [Inhabited α] {xs : List α} {i : Nat} (h : i < xs.length) : idx xs (i : Int) = some (gI xs (i : Int)) := idx_in (by omega) (by omega)
theorem map_range_gI {α : Type} [Inhabited α] (xs : List α) : (List.range xs.length).map (fun (i : Nat) => gI xs (i : Int)) = xs := by
  refine List.ext_getElem? fun i => ?_
  rw [List.getElem?_map]
  by_cases h : i < xs.length
  · simp [h, gI, List.getD]
  · simp [h]
theorem map_succ {β : Type} (f : Nat → β) (n : Nat) : (List.range (n + 1)).map f = (List.range n).map f ++ [f n] := by
  rw [List.range_succ, List.map_append]
  rfl
/-- the items of a row in a map's range -/
theorem forall_map_range {β : Type} {P : β → Prop} {f : Nat → β} {n : Nat} (h : ∀ i, i < n → P (f i)) : ∀ x ∈ (List.range n).map f, P x := fun x hx => by
  rw [List.mem_map] at hx
  obtain ⟨i, hi, rfl⟩ := hx
  exact h i (List.mem_range.mp hi)
/-! ### sizes -/
/-- below 2 ^ b either way -/
def Sm (b : Nat) (x : Int) : Prop := x.natAbs < 2 ^ b
theorem Sm.mul {a b : Nat} {x y : Int} (hx : Sm a x) (hy : Sm b y) : Sm (a + b) (x * y) := by
  unfold Sm at *
  rw [Int.natAbs_mul, Nat.pow_add]
  exact Nat.mul_lt_mul'' hx hy
theorem Sm.up {a b : Nat} {x : Int} (hx : Sm a x) (h : a ≤ b) : Sm b x := Nat.lt_of_lt_of_le hx (Nat.pow_le_pow_right (by decide) h)
theorem Sm.nat {a n : Nat} (h : n < 2 ^ a) : Sm a (n : Int) := by unfold Sm; rw [Int.natAbs_natCast]; exact h
theorem log2_le {n b : Nat} (h : n < 2 ^ b) : n.log2 ≤ b := by
  rcases Nat.eq_zero_or_pos n with rfl | hp
  · simp
  · exact Nat.le_of_lt ((Nat.log2_lt (by omega)).mpr h)
theorem mulSm {a b : Nat} {x y : Int} (hx : Sm a x) (hy : Sm b y) (h : a + b < 1000000) : Pl.MulOk x y := .inr (by
  show x.natAbs.log2 + y.natAbs.log2 < 1000000
  have := log2_le hx
  have := log2_le hy
  omega)
theorem cmulSm {x y : Int} (hy : -(2 ^ 64) < y ∧ y < 2 ^ 64) : CMul x y := .inr hy
theorem divSm {x y : Int} (h0 : 0 < y) (hy : Sm 8999 y) : DivOk x y := ⟨h0, .inr (by have := log2_le hy; omega)⟩
/-! ### reduced ratios -/
def redN (a b : Nat) : Int × Int := (((a / Nat.gcd a b : Nat) : Int), ((b / Nat.gcd a b : Nat) : Int))
/-- equal ratios have one reduced form -/
theorem redN_eq {a b c d : Nat} (hb : 0 < b) (hd : 0 < d) (h : a * d = c * b) : redN a b = redN c d := by
  have g1 : 0 < Nat.gcd a b := Nat.gcd_pos_of_pos_right _ hb
  have g2 : 0 < Nat.gcd c d := Nat.gcd_pos_of_pos_right _ hd
  have e1 : Nat.gcd a b * d = Nat.gcd c d * b := by
    have h1 : Nat.gcd a b * d = Nat.gcd (a * d) (b * d) := (Nat.gcd_mul_right a d b).symm
    have h2 : Nat.gcd c d * b = Nat.gcd (c * b) (d * b) := (Nat.gcd_mul_right c b d).symm
    rw [h1, h2, h, Nat.mul_comm b d]
  have e2 : b / Nat.gcd a b = d / Nat.gcd c d := by
    refine Nat.div_eq_of_eq_mul_right g1 ?_
    obtain ⟨q, hq⟩ := Nat.gcd_dvd_right c d
    have hq2 : d / Nat.gcd c d = q := Nat.div_eq_of_eq_mul_right g2 hq
    rw [hq2]
    refine Nat.eq_of_mul_eq_mul_left g2 ?_
    rw [← e1]
    calc Nat.gcd a b * d = Nat.gcd a b * (Nat.gcd c d * q) := by rw [← hq]
      _ = Nat.gcd c d * (Nat.gcd a b * q) := by rw [Nat.mul_left_comm]
  have e3 : a / Nat.gcd a b = c / Nat.gcd c d := by
    refine Nat.div_eq_of_eq_mul_right g1 ?_
    obtain ⟨q, hq⟩ := Nat.gcd_dvd_left c d
    have hq2 : c / Nat.gcd c d = q := Nat.div_eq_of_eq_mul_right g2 hq
    rw [hq2]
    refine Nat.eq_of_mul_eq_mul_right hd ?_
    rw [h]
    calc c * b = (Nat.gcd c d * q) * b := by rw [← hq]
      _ = q * (Nat.gcd c d * b) := by rw [Nat.mul_comm (Nat.gcd c d) q, Nat.mul_assoc]
      _ = q * (Nat.gcd a b * d) := by rw [e1]
      _ = Nat.gcd a b * q * d := by rw [Nat.mul_comm (Nat.gcd a b) q, Nat.mul_assoc]
  unfold redN
  rw [e2, e3]
theorem lowest_red (a b : Nat) (h : 0 < b) (hb : b < 2 ^ 8999) : lowest_m (a : Int) (b : Int) = some (redN a b) := lowest_ok a b h hb
/-- the parts of a reduced ratio -/
theorem redN_spec (a b : Nat) (hb : 0 < b) : ∃ p q : Nat, redN a b = ((p : Int), (q : Int)) ∧ 0 < q ∧ p * b = a * q ∧ p ≤ a ∧ q ≤ b := by
  have g1 : 0 < Nat.gcd a b := Nat.gcd_pos_of_pos_right _ hb
  refine ⟨_, _, rfl, Nat.div_pos (Nat.gcd_le_right _ hb) g1, ?_, Nat.div_le_self _ _, Nat.div_le_self _ _⟩
  obtain ⟨p, hp⟩ := Nat.gcd_dvd_left a b
  obtain ⟨q, hq⟩ := Nat.gcd_dvd_right a b
  have e1 : a / Nat.gcd a b = p := Nat.div_eq_of_eq_mul_right g1 hp
  have e2 : b / Nat.gcd a b = q := Nat.div_eq_of_eq_mul_right g1 hq
  rw [e1, e2]
  calc p * b = p * (Nat.gcd a b * q) := by rw [← hq]
    _ = Nat.gcd a b * p * q := by rw [Nat.mul_left_comm, Nat.mul_assoc]
    _ = a * q := by rw [← hp]
/-! ### rows by place -/
def rowF {β : Type} (n : Nat) (g : Nat → β) : List β := (List.range n).map g
theorem rowF_len {β : Type} (n : Nat) (g : Nat → β) : (rowF n g).length = n := by unfold rowF; simp
theorem rowF_get {β : Type} (n : Nat) (g : Nat → β) (i : Nat) : (rowF n g)[i]? = if i < n then some (g i) else none := by
  unfold rowF
  rw [List.getElem?_map]
  by_cases h : i < n <;> simp [h]
theorem rowF_idx {β : Type} {n : Nat} {g : Nat → β} {i : Nat} (h : i < n) : idx (rowF n g) (i : Int) = some (g i) := by
  rw [idx_nat', rowF_get, if_pos h]
theorem rowF_ext {β : Type} {n : Nat} {g : Nat → β} {xs : List β} (hl : xs.length = n) (h : ∀ i, i < n → xs[i]? = some (g i)) : xs = rowF n g := by
  refine List.ext_getElem? fun i => ?_
  rw [rowF_get]
  by_cases c : i < n
  · rw [if_pos c, h i c]
  · rw [if_neg c, List.getElem?_eq_none (by omega)]
theorem rowF_congr {β : Type} {n : Nat} {g h : Nat → β} (e : ∀ i, i < n → g i = h i) : rowF n g = rowF n h := List.map_congr_left fun i hi => e i (List.mem_range.mp hi)
theorem rowF_set {β : Type} {n : Nat} {g : Nat → β} {i : Nat} {v : β} (h : i < n) : setAt (rowF n g) (i : Int) v = some (rowF n fun j => if j = i then v else g j) := by
  rw [setAt_in (by omega) (by rw [rowF_len]; omega)]
  refine congrArg some (rowF_ext (by rw [List.length_set, rowF_len]) fun j hj => ?_)
  rw [List.getElem?_set, rowF_len, rowF_get, if_pos hj]
  by_cases c : i = j
  · subst c; simp [hj]
  · have c' : ¬ j = i := fun z => c z.symm
    simp [c, c']
theorem rowF_last {β : Type} {n : Nat} {g : Nat → β} : idx (rowF (n + 1) g) (-1) = some (g n) := by
  unfold idx atI ixN
  rw [rowF_len]
  have h1 : ¬ (0 : Int) ≤ -1 := by omega
  have h2 : -((n + 1 : Nat) : Int) ≤ -1 := by omega
  have h3 : ((-1 : Int) + ((n + 1 : Nat) : Int)).toNat = n := by omega
  rw [if_neg h1, if_pos h2]
  show (rowF (n + 1) g)[((-1 : Int) + ((n + 1 : Nat) : Int)).toNat]? = _
  rw [h3, rowF_get, if_pos (by omega)]
theorem rowF_snoc {β : Type} (n : Nat) (g : Nat → β) : rowF (n + 1) g = rowF n g ++ [g n] := by
  unfold rowF
  rw [List.range_succ, List.map_append]
  rfl
theorem rowF_map {β γ : Type} (n : Nat) (g : Nat → β) (f : β → γ) : (rowF n g).map f = rowF n fun j => f (g j) := by
  unfold rowF
  rw [List.map_map]
  rfl
theorem rowF_rep (n : Nat) (x : Int) : repL [x] (n : Int) = rowF n fun _ => x := by
  refine rowF_ext ?_ fun i hi => ?_
  · unfold repL
    rw [rep_length]
    simp
  · unfold repL
    have : (List.replicate (Int.toNat (n : Int)) [x]).flatten = List.replicate n x := by
      rw [Int.toNat_natCast]
      induction n with
      | zero => rfl
      | succ n ih =>
        rw [List.replicate_succ, List.flatten_cons]
        rcases Nat.eq_zero_or_pos n with h0 | h0
        · subst h0; rfl
        · have : (List.replicate n [x]).flatten = List.replicate n x := by
            clear ih hi
            induction n with
            | zero => rfl
            | succ n ih2 =>
              rw [List.replicate_succ, List.flatten_cons, List.replicate_succ]
              rcases Nat.eq_zero_or_pos n with h1 | h1
              · subst h1; rfl
              · rw [ih2 h1]; rfl
          rw [this, List.replicate_succ]
          rfl
    rw [this]
    simp [hi]
theorem enumT_rowF {β : Type} (n : Nat) (g : Nat → β) : enumT (rowF n g) = rowF n fun j => ((j : Int), g j) := by
  refine rowF_ext (by rw [enumT_len, rowF_len]) fun i hi => ?_
  unfold enumT
  rw [List.getElem?_map, List.getElem?_zipIdx, rowF_get, if_pos hi]
  simp
theorem Sm.pow {a : Nat} {x : Int} (h : Sm a x) : ∀ n : Nat, Sm (a * n + 1) (x ^ n)
  | 0 => by unfold Sm; simp
  | n + 1 => by
    rw [Int.pow_succ]
    exact (Sm.mul (Sm.pow h n) h).up (by rw [Nat.mul_succ]; omega)
end
end Pl
namespace K39
open PySem PySem.Spec PyProof.Rows L2 Pl
noncomputable section
/-! ### mirrors -/
def audit_stop_c1 (limit1 : (Int × Int)) (s1 : (Int × Int × Int)) : Option Bool :=
  (need (Pl.MulOk s1.1 limit1.2) <| need (Pl.MulOk limit1.1 s1.2.1) <| some (decide ((limit1.1 * s1.2.1) < (s1.1 * limit1.2))))
def audit_stop_b2 (ballots1 : Int) (truly1 : Int) (s1 : (Int × Int × Int)) : Option (O (Int × Int × Int) (Option Int)) :=
  if (decide (ballots1 ≤ s1.2.2)) = true then some (O.rt (none : (Option Int))) else (need (Pl.MulOk s1.1 (truly1 - s1.2.2)) <| set' ((s1.1 * (truly1 - s1.2.2)) : Int) fun above2 => (need (Pl.MulOk s1.2.1 (ballots1 - s1.2.2)) <| set' ((s1.2.1 * (ballots1 - s1.2.2)) : Int) fun below2 => (set' ((s1.2.2 + 1) : Int) fun draws2 => some (O.nx (above2, below2, draws2)))))
def audit_stop_m (first1 : Int) (second1 : Int) (limit1 : (Int × Int)) : Option (Option Int) :=
  (set' ((first1 + second1) : Int) fun ballots1 => (set' ((ballots1 / 2) : Int) fun truly1 => (set' (1 : Int) fun above1 => (set' (1 : Int) fun below1 => (set' (0 : Int) fun draws1 => (whileO (audit_stop_c1 limit1) (audit_stop_b2 ballots1 truly1) 1000 (above1, below1, draws1)).bind fun o1 => O.then o1 (fun s2 => some (some s2.2.2)) (fun b => some b))))))
def audit_chance_l1 (n1 : Int) (truly1 : Int) (s1 : (Int × Int)) (x1 : Int) : Option (Int × Int) :=
  (need (Pl.MulOk s1.1 (truly1 - x1)) <| set' ((s1.1 * (truly1 - x1)) : Int) fun above2 => (need (Pl.MulOk s1.2 (n1 - x1)) <| set' ((s1.2 * (n1 - x1)) : Int) fun below2 => some (above2, below2)))
def audit_chance_m (n1 : Int) (truly1 : Int) (draws1 : Int) : Option (Int × Int) :=
  if (decide (truly1 < draws1)) = true then some (0, 1) else (set' (1 : Int) fun above1 => (set' (1 : Int) fun below1 => (need (RgO 0 draws1) <| (forS (audit_chance_l1 n1 truly1) (rangeD 0 draws1) (above1, below1)).bind fun s2 => (Option.bind (lowest_m s2.1 s2.2) fun lowest1 => some lowest1))))
def is_reached_m (limit1 : (Int × Int)) (above1 : Int) (below1 : Int) : Option Bool :=
  (need (Pl.MulOk above1 limit1.1) <| need (Pl.MulOk below1 limit1.2) <| some (decide ((below1 * limit1.2) ≤ (above1 * limit1.1))))
def audit_row_l1 (limit1 : (Int × Int)) (first1 : Int) (second1 : Int) (s1 : (Int × Int)) (x1 : (Int × Int)) : Option (O (Int × Int) (Option Int)) :=
  (need (Pl.MulOk (s1.1 * 2) (if (decide (x1.2 = 1)) = true then second1 else first1)) <| set' (((s1.1 * 2) * (if (decide (x1.2 = 1)) = true then second1 else first1)) : Int) fun above2 => (need (Pl.MulOk s1.2 (first1 + second1)) <| set' ((s1.2 * (first1 + second1)) : Int) fun below2 => (Option.bind (is_reached_m limit1 above2 below2) fun is_rea2 => if is_rea2 = true then some (O.rt (some (x1.1 + 1))) else some (O.nx (above2, below2)))))
def audit_row_m (limit1 : (Int × Int)) (first1 : Int) (second1 : Int) (row1 : (List Int)) : Option (Option Int) :=
  (set' (1 : Int) fun above1 => (set' (1 : Int) fun below1 => (Option.bind (is_reached_m limit1 above1 below1) fun is_rea1 => if is_rea1 = true then some (some 0) else (forO (audit_row_l1 limit1 first1 second1) (enumT row1) (above1, below1)).bind fun o1 => O.then o1 (fun s2 => some (none : (Option Int))) (fun b => some b))))
def audit_miss_l1 (limit1 : (Int × Int)) (below2 : Int) (s2 : (Int × (List Int))) (x4 : (Int × Int)) : Option (Int × (List Int)) :=
  (Option.bind (is_reached_m limit1 x4.2 below2) fun is_rea2 => Option.bind (if is_rea2 = true then (Option.bind (idx s2.2 x4.1) fun x5 => set' ((s2.1 + x5) : Int) fun found3 => (Option.bind (setAt s2.2 x4.1 0) fun ways3 => some (found3, ways3))) else some (s2.1, s2.2) : Option (Int × (List Int))) fun j1 => some (j1.1, j1.2))
def audit_miss_l2 (limit1 : (Int × Int)) (first1 : Int) (second1 : Int) (s1 : ((List Int) × (List Int) × Int × Int)) (x1 : Int) : Option ((List Int) × (List Int) × Int × Int) :=
  (need (SzOk ((s1.1).length + (([0] : (List Int))).length)) <| need (SzOk ((([0] : (List Int))).length + (s1.1).length)) <| set' ((List.map (fun z2 : (Int × Int) => (z2.1 + z2.2)) (List.zip (s1.1 ++ ([0] : (List Int))) (([0] : (List Int)) ++ s1.1))) : (List Int)) fun ways2 => (Option.bind (mapO (fun z4 : Int => (need (Pl.MulOk (z4 * 2) first1) <| some ((z4 * 2) * first1))) s1.2.1) fun ys2 => Option.bind (idx s1.2.1 (-1)) fun x3 => need (Pl.MulOk (x3 * 2) second1) <| need (SzOk ((ys2).length + (([((x3 * 2) * second1)] : (List Int))).length)) <| set' ((ys2 ++ ([((x3 * 2) * second1)] : (List Int))) : (List Int)) fun above2 => (need (Pl.MulOk s1.2.2.1 (first1 + second1)) <| set' ((s1.2.2.1 * (first1 + second1)) : Int) fun below2 => (set' ((s1.2.2.2 * 2) : Int) fun found2 => (forS (audit_miss_l1 limit1 below2) (enumT above2) (found2, ways2)).bind fun s3 => some (s3.2, above2, below2, s3.1)))))
def audit_miss_m (limit1 : (Int × Int)) (first1 : Int) (second1 : Int) (n1 : Int) : Option (Int × Int) :=
  (Option.bind (is_reached_m limit1 1 1) fun is_rea1 => if is_rea1 = true then some (1, 1) else (set' (([1] : (List Int)) : (List Int)) fun ways1 => (set' (([1] : (List Int)) : (List Int)) fun above1 => (set' (1 : Int) fun below1 => (set' (0 : Int) fun found1 => (need (RgO 0 n1) <| (forS (audit_miss_l2 limit1 first1 second1) (rangeD 0 n1) (ways1, above1, below1, found1)).bind fun s4 => (need (CPow 1 n1) <| Option.bind (lowest_m s4.2.2.2 (1 * 2 ^ Int.toNat n1)) fun lowest1 => some lowest1)))))))
def law_ratio_m (a1 : Int) (b1 : Int) : Option (Int × Int) :=
  (Option.bind (law_common_m a1 b1) fun law_co1 => set' (law_co1 : Int) fun shared1 => (need (DivOk a1 shared1) <| need (DivOk b1 shared1) <| some ((a1 / shared1), (b1 / shared1))))
def law_choose_l1 (n1 : Int) (s1 : (Int)) (x1 : Int) : Option (Int) :=
  (need (Pl.MulOk s1 (if (n1 - x1) > 0 then (n1 - x1) else 0)) <| need (DivOk (s1 * (if (n1 - x1) > 0 then (n1 - x1) else 0)) (x1 + 1)) <| set' (((s1 * (if (n1 - x1) > 0 then (n1 - x1) else 0)) / (x1 + 1)) : Int) fun found2 => some found2)
def law_choose_m (n1 : Int) (k1 : Int) : Option Int :=
  (set' (1 : Int) fun found1 => (need (RgO 0 k1) <| (forS (law_choose_l1 n1) (rangeD 0 k1) found1).bind fun s2 => some s2))
def law_chance_m (n1 : Int) (truly1 : Int) (draws1 : Int) : Option (Int × Int) :=
  (Option.bind (law_choose_m truly1 draws1) fun law_ch1 => Option.bind (law_choose_m n1 draws1) fun law_ch2 => Option.bind (law_ratio_m law_ch1 law_ch2) fun law_ra1 => some law_ra1)
def law_chances_right_m (n1 : Int) (truly1 : Int) (draws1 : Int) (more1 : Int) : Option Bool :=
  (Option.bind (law_chance_m n1 truly1 draws1) fun law_ch1 => set' (law_ch1 : (Int × Int)) fun due1 => (Option.bind (audit_chance_m n1 truly1 draws1) fun audit1 => Option.bind ((if (!(likeD ((eP eI eI) audit1) ((eP eI eI) due1))) = true then some true else (Option.bind (audit_chance_m n1 (n1 - draws1) (n1 - truly1)) fun audit2 => some (!(likeD ((eP eI eI) audit2) ((eP eI eI) due1)))))) fun b1 => if b1 = true then some false else if ((decide (truly1 < draws1)) || (decide (draws1 = n1))) = true then some true else (Option.bind (law_chance_m (n1 - draws1) (truly1 - draws1) more1) fun law_ch2 => set' (law_ch2 : (Int × Int)) fun rest1 => (Option.bind (audit_chance_m (n1 - draws1) (truly1 - draws1) more1) fun audit3 => if (!(likeD ((eP eI eI) audit3) ((eP eI eI) rest1))) = true then some false else (Option.bind (audit_chance_m n1 truly1 (draws1 + more1)) fun audit4 => need (Pl.MulOk due1.1 rest1.1) <| need (Pl.MulOk due1.2 rest1.2) <| Option.bind (law_ratio_m (due1.1 * rest1.1) (due1.2 * rest1.2)) fun law_ra1 => some (likeD ((eP eI eI) audit4) ((eP eI eI) law_ra1)))))))
def law_stop_l1 (ballots1 : Int) (limit1 : (Int × Int)) (s1 : (Int × Int)) (x1 : Int) : Option (O (Int × Int) (Option Int)) :=
  (need (Pl.MulOk s1.1 limit1.2) <| need (Pl.MulOk limit1.1 s1.2) <| if (decide ((s1.1 * limit1.2) ≤ (limit1.1 * s1.2))) = true then some (O.rt (some x1)) else (need (Pl.MulOk s1.1 ((ballots1 / 2) - x1)) <| need (Pl.MulOk s1.2 (ballots1 - x1)) <| set' ((s1.1 * ((ballots1 / 2) - x1)) : Int) fun top2 => set' ((s1.2 * (ballots1 - x1)) : Int) fun under2 => some (O.nx (top2, under2))))
def law_stop_m (ballots1 : Int) (limit1 : (Int × Int)) : Option (Option Int) :=
  (set' (1 : Int) fun top1 => set' (1 : Int) fun under1 => (need (RgO 0 (ballots1 + 1)) <| (forO (law_stop_l1 ballots1 limit1) (rangeD 0 (ballots1 + 1)) (top1, under1)).bind fun o1 => O.then o1 (fun s2 => some (none : (Option Int))) (fun b => some b)))
def law_reached_l1 (limit1 : (Int × Int)) (first1 : Int) (second1 : Int) (plans1 : (List Int)) (s1 : (Int × Int)) (x1 : Int) : Option (O (Int × Int) (Option Int)) :=
  (Option.bind (idx plans1 x1) fun x4 => Option.bind (idx ([first1, second1] : (List Int)) x4) fun x5 => need (Pl.MulOk (s1.1 * 2) x5) <| need (Pl.MulOk s1.2 (first1 + second1)) <| set' (((s1.1 * 2) * x5) : Int) fun top2 => set' ((s1.2 * (first1 + second1)) : Int) fun under2 => (need (Pl.MulOk top2 limit1.1) <| need (Pl.MulOk under2 limit1.2) <| if (decide ((under2 * limit1.2) ≤ (top2 * limit1.1))) = true then some (O.rt (some (x1 + 1))) else some (O.nx (top2, under2))))
def law_reached_m (limit1 : (Int × Int)) (first1 : Int) (second1 : Int) (plans1 : (List Int)) : Option (Option Int) :=
  (set' (1 : Int) fun top1 => set' (1 : Int) fun under1 => (forO (law_reached_l1 limit1 first1 second1 plans1) (rangeD 0 ((plans1).length : Int)) (top1, under1)).bind fun o1 => O.then o1 (fun s2 => some (none : (Option Int))) (fun b => some b))
def law_missed_l1 (first1 : Int) (s1 : (Int × Int × (List Int) × (List Int))) (s2 : ((List Int) × (List Int))) (x2 : Int) : Option ((List Int) × (List Int)) :=
  (Option.bind (idx s2.1 x2) fun x3 => Option.bind (idx s1.2.2.1 x2) fun x4 => Option.bind (setAt s2.1 x2 (x3 + x4)) fun grown2 => (Option.bind (idx grown2 (x2 + 1)) fun x5 => Option.bind (idx s1.2.2.1 x2) fun x6 => Option.bind (setAt grown2 (x2 + 1) (x5 + x6)) fun grown3 => (Option.bind (idx s1.2.2.2 x2) fun x7 => need (Pl.MulOk (x7 * 2) first1) <| Option.bind (setAt s2.2 x2 ((x7 * 2) * first1)) fun products2 => some (grown3, products2))))
def law_missed_l2 (limit1 : (Int × Int)) (products3 : (List Int)) (under1 : Int) (s4 : (Int × (List Int))) (x9 : Int) : Option (Int × (List Int)) :=
  (Option.bind (idx products3 x9) fun x10 => need (Pl.MulOk x10 limit1.1) <| need (Pl.MulOk under1 limit1.2) <| Option.bind (if (decide ((under1 * limit1.2) ≤ (x10 * limit1.1))) = true then (Option.bind (idx s4.2 x9) fun x12 => set' (((s4.1 + x12), 0) : (Int × Int)) fun w2 => Option.bind (setAt s4.2 x9 w2.2) fun grown4 => some (w2.1, grown4)) else some (s4.1, s4.2) : Option (Int × (List Int))) fun j1 => some (j1.1, j1.2))
def law_missed_l3 (limit1 : (Int × Int)) (first1 : Int) (second1 : Int) (s1 : (Int × Int × (List Int) × (List Int))) (x1 : Int) : Option (Int × Int × (List Int) × (List Int)) :=
  (need (RepOk (([0] : (List Int))).length (x1 + 2)) <| set' ((repL ([0] : (List Int)) (x1 + 2)) : (List Int)) fun grown1 => set' ((repL ([0] : (List Int)) (x1 + 2)) : (List Int)) fun products1 => (need (RgO 0 (x1 + 1)) <| (forS (law_missed_l1 first1 s1) (rangeD 0 (x1 + 1)) (grown1, products1)).bind fun s3 => (Option.bind (idx s1.2.2.2 x1) fun x8 => need (Pl.MulOk (x8 * 2) second1) <| Option.bind (setAt s3.2 (x1 + 1) ((x8 * 2) * second1)) fun products3 => (need (Pl.MulOk s1.1 (first1 + second1)) <| set' ((s1.1 * (first1 + second1)) : Int) fun under1 => set' ((2 * s1.2.1) : Int) fun found1 => (need (RgO 0 (x1 + 2)) <| (forS (law_missed_l2 limit1 products3 under1) (rangeD 0 (x1 + 2)) (found1, s3.1)).bind fun s5 => (set' (s5.2 : (List Int)) fun ways1 => set' (products3 : (List Int)) fun tops1 => some (under1, s5.1, ways1, tops1)))))))
def law_missed_m (limit1 : (Int × Int)) (first1 : Int) (second1 : Int) (n1 : Int) : Option (Int × Int) :=
  (set' ((([1] : (List Int)), ([1] : (List Int)), 0, 1) : ((List Int) × (List Int) × Int × Int)) fun w1 => (need (RgO 0 n1) <| (forS (law_missed_l3 limit1 first1 second1) (rangeD 0 n1) (w1.2.2.2, w1.2.2.1, w1.1, w1.2.1)).bind fun s6 => (need (CPow 1 n1) <| Option.bind (law_ratio_m s6.2.1 (1 * 2 ^ Int.toNat n1)) fun law_ra1 => some law_ra1)))
def law_rows_right_l1 (limit1 : (Int × Int)) (first1 : Int) (second1 : Int) (plans1 : (List Int)) (s1 : (Unit)) (x1 : Int) : Option (O (Unit) Bool) :=
  (Option.bind (law_reached_m limit1 first1 second1 (Pl.cutD plans1 none (some x1))) fun law_re1 => set' (law_re1 : (Option Int)) fun due1 => (Option.bind (audit_row_m limit1 first1 second1 (Pl.cutD plans1 none (some x1))) fun audit1 => if (!(likeD ((eO eI) audit1) ((eO eI) due1))) = true then some (O.rt false) else some (O.nx ())))
def law_rows_right_l2 (limit1 : (Int × Int)) (first1 : Int) (second1 : Int) (n1 : Int) (s3 : ((List (Int × Int)))) (x2 : Int) : Option (O ((List (Int × Int))) Bool) :=
  (need (Pl.MulOk (2 * x2) limit1.1) <| need (Pl.MulOk (first1 + second1) limit1.2) <| Option.bind (law_ratio_m ((2 * x2) * limit1.1) ((first1 + second1) * limit1.2)) fun law_ra1 => set' (law_ra1 : (Int × Int)) fun behind1 => (set' (((if (decide (0 < x2)) = true then 1 else 0), 1) : (Int × Int)) fun part1 => Option.bind (if (decide (0 < behind1.1) && decide (behind1.1 < behind1.2)) = true then (Option.bind (law_missed_m behind1 first1 second1 n1) fun law_mi3 => set' (law_mi3 : (Int × Int)) fun part2 => (Option.bind (audit_miss_m behind1 first1 second1 n1) fun audit5 => if (!(likeD ((eP eI eI) audit5) ((eP eI eI) part2))) = true then some (O.rt false) else some (O.nx part2))) else some (O.nx part1) : Option (O ((Int × Int)) Bool)) fun o2 => O.then o2 (fun j1 => (need (Sz1 (s3).length) <| set' ((s3 ++ [j1]) : (List (Int × Int))) fun parts2 => some (O.nx parts2))) (fun b => some (O.rt b))))
def law_rows_right_m (limit1 : (Int × Int)) (first1 : Int) (second1 : Int) (plans1 : (List Int)) (n1 : Int) : Option Bool :=
  (need (RgO 0 (((plans1).length : Int) + 1)) <| (forO (law_rows_right_l1 limit1 first1 second1 plans1) (rangeD 0 (((plans1).length : Int) + 1)) ()).bind fun o1 => O.then o1 (fun s2 => (Option.bind (law_reached_m limit1 first1 second1 plans1) fun law_re2 => set' (law_re2 : (Option Int)) fun due2 => (Option.bind (audit_row_m limit1 (3 * first1) (3 * second1) plans1) fun audit2 => if (!(likeD ((eO eI) audit2) ((eO eI) due2))) = true then some false else (Option.bind (law_missed_m limit1 first1 second1 (n1 + 1)) fun law_mi1 => set' (law_mi1 : (Int × Int)) fun miss1 => set' (([] : (List (Int × Int))) : (List (Int × Int))) fun parts1 => (Option.bind (audit_miss_m limit1 first1 second1 (n1 + 1)) fun audit3 => if (!(likeD ((eP eI eI) audit3) ((eP eI eI) miss1))) = true then some false else (Option.bind (audit_miss_m limit1 (3 * first1) (3 * second1) (n1 + 1)) fun audit4 => if (!(likeD ((eP eI eI) audit4) ((eP eI eI) miss1))) = true then some false else (forO (law_rows_right_l2 limit1 first1 second1 n1) ([first1, second1] : (List Int)) parts1).bind fun o3 => O.then o3 (fun s4 => (fit2 (s4) fun one1 other1 => (need (Pl.MulOk one1.1 other1.2) <| need (Pl.MulOk other1.1 one1.2) <| need (Pl.MulOk (2 * one1.2) other1.2) <| Option.bind (law_ratio_m ((one1.1 * other1.2) + (other1.1 * one1.2)) ((2 * one1.2) * other1.2)) fun law_ra2 => some (decide (law_ra2 = miss1))))) (fun b => some b))))))) (fun b => some b))
def law_l1 (j4 : ((Int × Int))) (stop1 : (Option Int)) (s1 : (Unit)) (x11 : (Int × Int)) : Option (O (Unit) Bool) :=
  (Option.bind (audit_stop_m x11.1 x11.2 j4) fun audit1 => if (!(likeD ((eO eI) audit1) ((eO eI) stop1))) = true then some (O.rt false) else some (O.nx ()))
def law_l2 (first1 : Int) (j3 : (Int)) (s3 : (Int × Int)) (x17 : Int) : Option (Int × Int) :=
  (need (Pl.MulOk (s3.1 * 2) (if j3 > first1 then j3 else first1)) <| need (Pl.MulOk s3.2 (first1 + j3)) <| set' (((s3.1 * 2) * (if j3 > first1 then j3 else first1)) : Int) fun top2 => set' ((s3.2 * (first1 + j3)) : Int) fun under3 => some (top2, under3))
def law_l3 (first1 : Int) (j3 : (Int)) (n1 : Int) (plans1 : (List Int)) (s4 : (Int × Int)) (s5 : (Unit)) (x18 : Int) : Option (O (Unit) Bool) :=
  (Option.bind ((if (decide (first1 ≠ j3)) = true then (Option.bind (law_ratio_m ((7 * s4.2) + x18) (7 * s4.1)) fun law_ra2 => Option.bind (law_rows_right_m law_ra2 first1 j3 plans1 n1) fun law_ro3 => some (!law_ro3)) else some false)) fun b2 => if b2 = true then some (O.rt false) else some (O.nx ()))
def law_m (script1 : (List Int)) : Option Bool :=
  (Option.bind (law_row_m script1 48) fun law_ro1 => set' (law_ro1 : (List Int)) fun row1 => (Option.bind (idx row1 0) fun x1 => Option.bind (idx row1 1) fun x2 => Option.bind (idx row1 5) fun x3 => set' ((1 + (x1 % 200)) : Int) fun first1 => set' ((x2 % 200) : Int) fun second1 => set' ((x3 % 4) : Int) fun kind1 => Option.bind (if (decide (kind1 = 0)) = true then (set' (0 : Int) fun second2 => some second2) else some second1 : Option (Int)) fun j1 => Option.bind (if (decide (kind1 = 1)) = true then (set' (first1 : Int) fun second3 => some second3) else some j1 : Option (Int)) fun j2 => Option.bind (if (decide (kind1 = 2)) = true then (Option.bind (idx row1 1) fun x5 => need (0 < (first1 + 1)) <| set' ((x5 % (first1 + 1)) : Int) fun second4 => some second4) else some j2 : Option (Int)) fun j3 => (Option.bind (idx row1 2) fun x6 => set' ((2 + (x6 % 1000)) : Int) fun under1 => (Option.bind (idx row1 3) fun x7 => need (0 < (under1 - 1)) <| Option.bind (law_ratio_m (1 + (x7 % (under1 - 1))) under1) fun law_ra1 => set' (law_ra1 : (Int × Int)) fun limit1 => (Option.bind (idx row1 4) fun x8 => Option.bind (if (decide ((x8 % 3) = 1)) = true then (Option.bind (idx row1 3) fun x10 => need (CPow 2 (x10 % 20)) <| set' ((1, (2 * 2 ^ Int.toNat (x10 % 20))) : (Int × Int)) fun limit2 => some limit2) else some limit1 : Option ((Int × Int))) fun j4 => (Option.bind (law_stop_m (first1 + j3) j4) fun law_st1 => set' (law_st1 : (Option Int)) fun stop1 => (forO (law_l1 j4 stop1) ([(first1, j3), (j3, first1), ((first1 + j3), 0)] : (List (Int × Int))) ()).bind fun o1 => O.then o1 (fun s2 => (need (RepTOk (([0] : (List Int))).length 24) <| Option.bind (law_reached_m j4 1 0 (repL ([0] : (List Int)) 24)) fun law_re1 => set' (law_re1 : (Option Int)) fun told1 => (need (RepTOk (([0] : (List Int))).length 24) <| Option.bind (audit_row_m j4 (first1 + j3) 0 (repL ([0] : (List Int)) 24)) fun audit2 => Option.bind ((if (!(likeD ((eO eI) audit2) ((eO eI) told1))) = true then some true else (Option.bind (stop1) fun u1 => Option.bind (told1) fun u2 => some (decide (u2 < u1))))) fun b1 => if b1 = true then some false else (Option.bind (idx row1 7) fun x12 => Option.bind (idx row1 12) fun x13 => set' ((x12 % 20) : Int) fun n1 => set' ((1 + (x13 % 4)) : Int) fun part1 => (Option.bind (idx row1 13) fun x14 => need (RgO 0 (x14 % 25)) <| Option.bind (mapO (fun z1 : Int => (Option.bind (idx row1 (14 + z1)) fun x15 => need (0 < (part1 + 1)) <| some (if (decide ((x15 % (part1 + 1)) = 0)) = true then 1 else 0))) (rangeD 0 (x14 % 25))) fun ys1 => set' (ys1 : (List Int)) fun plans1 => (Option.bind (law_rows_right_m j4 first1 j3 plans1 n1) fun law_ro2 => if (!law_ro2) = true then some false else (set' (1 : Int) fun top1 => set' (1 : Int) fun under2 => (Option.bind (idx row1 11) fun x16 => need (RgO 0 (1 + (x16 % 8))) <| (forS (law_l2 first1 j3) (rangeD 0 (1 + (x16 % 8))) (top1, under2)).bind fun s4 => (forO (law_l3 first1 j3 n1 plans1 s4) ([0, 1, (-1)] : (List Int)) ()).bind fun o2 => O.then o2 (fun s6 => (Option.bind (idx row1 8) fun x19 => set' ((1 + (x19 % 100)) : Int) fun ballots1 => (Option.bind (idx row1 9) fun x20 => need (0 < (ballots1 + 1)) <| Option.bind (idx row1 10) fun x21 => set' ((x20 % (ballots1 + 1)) : Int) fun truly1 => set' ((x21 % (ballots1 + 1)) : Int) fun draws1 => (Option.bind (idx row1 6) fun x22 => need (0 < ((ballots1 - draws1) + 1)) <| Option.bind (law_chances_right_m ballots1 truly1 draws1 (x22 % ((ballots1 - draws1) + 1))) fun law_ch1 => some law_ch1)))) (fun b => some b))))))))) (fun b => some b)))))))
end
theorem mulR' {i j : Int} (h : -(2 ^ 64) < j ∧ j < 2 ^ 64) : Pl.MulOk i j := .inl (.inr h)
/-! ### limits -/
structure Lim (l : Int × Int) : Prop where
  p0 : 0 < l.1
  p1 : l.1 < l.2
  s1 : Sm 200 l.2
theorem Lim.s0 {l : Int × Int} (h : Lim l) : Sm 200 l.1 := by
  have := h.s1
  unfold Sm at *
  have h0 := h.p0
  have h1 := h.p1
  omega
theorem Lim.q {l : Int × Int} (h : Lim l) : 0 < l.2 := by have := h.p0; have := h.p1; omega
theorem ratio_red (a b : Nat) (h : 0 < b) (hb : b < 2 ^ 440) : law_ratio_m (a : Int) (b : Int) = some (redN a b) := by
  unfold law_ratio_m
  rw [common_ok a b hb]
  have hg : 0 < Nat.gcd a b := Nat.gcd_pos_of_pos_right _ h
  have hl : Nat.gcd a b ≤ b := Nat.gcd_le_right _ h
  have hd : ∀ i : Int, DivOk i ((Nat.gcd a b : Nat) : Int) := fun i => divSm (by omega) (Sm.nat (Nat.lt_of_le_of_lt hl (Nat.lt_of_lt_of_le hb (Nat.pow_le_pow_right (by decide) (by decide)))))
  simp only [Option.bind_some, set_eq, need_of (hd _)]
  unfold redN
  rw [Int.natCast_ediv, Int.natCast_ediv]
/-! ### draws of all ballots -/
def fall (t : Int) : Nat → Int
  | 0 => 1
  | d + 1 => fall t d * (t - d)
theorem fall_sm (t : Int) (h0 : 0 ≤ t) (h1 : t ≤ 1000) : ∀ d : Nat, d ≤ 1000 → Sm (11 * d + 1) (fall t d)
  | 0, _ => by unfold Sm fall; decide
  | d + 1, h => by
    have ih := fall_sm t h0 h1 d (by omega)
    have hx : Sm 11 (t - (d : Int)) := by unfold Sm; have : (2 : Nat) ^ 11 = 2048 := rfl; omega
    have := ih.mul hx
    rw [fall]
    exact this.up (by omega)
theorem fall_pos (t : Int) : ∀ d : Nat, (d : Int) ≤ t → 0 < fall t d
  | 0, _ => by show (0 : Int) < 1; decide
  | d + 1, h => by
    rw [fall]
    exact Int.mul_pos (fall_pos t d (by omega)) (by omega)
theorem fall_zero (t : Nat) : ∀ d : Nat, t < d → fall (t : Int) d = 0
  | 0, h => by omega
  | d + 1, h => by
    rw [fall]
    by_cases c : t = d
    · subst c; simp
    · rw [fall_zero t d (by omega), Int.zero_mul]
def rgFrom (d n : Nat) : List Int := (List.range n).map fun (i : Nat) => ((d + i : Nat) : Int)
theorem rgFrom_succ (d n : Nat) : rgFrom d (n + 1) = (d : Int) :: rgFrom (d + 1) n := by
  unfold rgFrom
  rw [List.range_succ_eq_map, List.map_cons, List.map_map]
  congr 1
  refine List.map_congr_left fun i _ => ?_
  show ((d + (i + 1) : Nat) : Int) = ((d + 1 + i : Nat) : Int)
  congr 1
  omega
theorem rgFrom_zero (n : Nat) : rangeD 0 (n : Int) = rgFrom 0 n := by
  rw [rangeD_nat]
  unfold rgFrom
  exact List.map_congr_left fun i _ => by simp
/-- within the limit behind d draws -/
def inLim (l : Int × Int) (b d : Nat) : Prop := fall ((b / 2 : Nat) : Int) d * l.2 ≤ l.1 * fall (b : Int) d
instance (l : Int × Int) (b d : Nat) : Decidable (inLim l b d) := by unfold inLim; infer_instance
theorem stop_both (b : Nat) (hb : 1 ≤ b) (hb2 : b ≤ 1000) (l : Int × Int) (hl : Lim l) : ∀ (m d : Nat), d + m = b / 2 + 1 → (∀ i, i < d → ¬ inLim l b i) →
    ∃ D : Nat, D ≤ b / 2 + 1 ∧ inLim l b D ∧ (∀ i, i < D → ¬ inLim l b i) ∧ (∀ k fuel, m < k → m < fuel → forO (law_stop_l1 (b : Int) l) (rgFrom d k) (fall ((b / 2 : Nat) : Int) d, fall (b : Int) d) = some (.rt (some (D : Int))) ∧
      whileO (audit_stop_c1 l) (audit_stop_b2 (b : Int) ((b / 2 : Nat) : Int)) fuel (fall ((b / 2 : Nat) : Int) d, fall (b : Int) d, (d : Int)) = some (.nx (fall ((b / 2 : Nat) : Int) D, fall (b : Int) D, (D : Int)))) := by
  intro m
  induction m with
  | zero =>
    intro d hd hmin
    have e : d = b / 2 + 1 := by omega
    have hin : inLim l b d := by
      unfold inLim
      rw [fall_zero (b / 2) d (by omega), Int.zero_mul]
      have := fall_pos (b : Int) d (by omega)
      have h0 := hl.p0
      exact Int.le_of_lt (Int.mul_pos h0 this)
    refine ⟨d, by omega, hin, hmin, fun k fuel hk hf => ?_⟩
    obtain ⟨k', rfl⟩ : ∃ k', k = k' + 1 := ⟨k - 1, by omega⟩
    obtain ⟨f', rfl⟩ : ∃ f', fuel = f' + 1 := ⟨fuel - 1, by omega⟩
    have s1 := fall_sm ((b / 2 : Nat) : Int) (by omega) (by omega) d (by omega)
    have s2 := fall_sm (b : Int) (by omega) (by omega) d (by omega)
    have g1 : Pl.MulOk (fall ((b / 2 : Nat) : Int) d) l.2 := mulSm s1 hl.s1 (by omega)
    have g2 : Pl.MulOk l.1 (fall (b : Int) d) := mulSm hl.s0 s2 (by omega)
    constructor
    · rw [rgFrom_succ]
      show (law_stop_l1 (b : Int) l _ (d : Int)).bind _ = _
      unfold law_stop_l1
      simp only [need_of g1, need_of g2]
      rw [if_pos (decide_eq_true (show fall ((b / 2 : Nat) : Int) d * l.2 ≤ l.1 * fall (b : Int) d from hin))]
      rfl
    · show (audit_stop_c1 l _).bind _ = _
      unfold audit_stop_c1
      have hnot : decide (l.1 * fall (b : Int) d < fall ((b / 2 : Nat) : Int) d * l.2) = false := decide_eq_false (by unfold inLim at hin; omega)
      simp only [need_of g1, need_of g2, hnot, Option.bind_some]
      rfl
  | succ m ih =>
    intro d hd hmin
    by_cases hin : inLim l b d
    · refine ⟨d, by omega, hin, hmin, fun k fuel hk hf => ?_⟩
      obtain ⟨k', rfl⟩ : ∃ k', k = k' + 1 := ⟨k - 1, by omega⟩
      obtain ⟨f', rfl⟩ : ∃ f', fuel = f' + 1 := ⟨fuel - 1, by omega⟩
      have s1 := fall_sm ((b / 2 : Nat) : Int) (by omega) (by omega) d (by omega)
      have s2 := fall_sm (b : Int) (by omega) (by omega) d (by omega)
      have g1 : Pl.MulOk (fall ((b / 2 : Nat) : Int) d) l.2 := mulSm s1 hl.s1 (by omega)
      have g2 : Pl.MulOk l.1 (fall (b : Int) d) := mulSm hl.s0 s2 (by omega)
      constructor
      · rw [rgFrom_succ]
        show (law_stop_l1 (b : Int) l _ (d : Int)).bind _ = _
        unfold law_stop_l1
        simp only [need_of g1, need_of g2]
        rw [if_pos (decide_eq_true (show fall ((b / 2 : Nat) : Int) d * l.2 ≤ l.1 * fall (b : Int) d from hin))]
        rfl
      · show (audit_stop_c1 l _).bind _ = _
        unfold audit_stop_c1
        have hnot : decide (l.1 * fall (b : Int) d < fall ((b / 2 : Nat) : Int) d * l.2) = false := decide_eq_false (by unfold inLim at hin; omega)
        simp only [need_of g1, need_of g2, hnot, Option.bind_some]
        rfl
    · obtain ⟨D, h1, h2, h3, h4⟩ := ih (d + 1) (by omega) fun i hi => by
        by_cases c : i = d
        · subst c; exact hin
        · exact hmin i (by omega)
      refine ⟨D, h1, h2, h3, fun k fuel hk hf => ?_⟩
      obtain ⟨k', rfl⟩ : ∃ k', k = k' + 1 := ⟨k - 1, by omega⟩
      obtain ⟨f', rfl⟩ : ∃ f', fuel = f' + 1 := ⟨fuel - 1, by omega⟩
      obtain ⟨h5, h6⟩ := h4 k' f' (by omega) (by omega)
      have s1 := fall_sm ((b / 2 : Nat) : Int) (by omega) (by omega) d (by omega)
      have s2 := fall_sm (b : Int) (by omega) (by omega) d (by omega)
      have g1 : Pl.MulOk (fall ((b / 2 : Nat) : Int) d) l.2 := mulSm s1 hl.s1 (by omega)
      have g2 : Pl.MulOk l.1 (fall (b : Int) d) := mulSm hl.s0 s2 (by omega)
      have x1 : Sm 11 (((b / 2 : Nat) : Int) - (d : Int)) := by unfold Sm; have : (2 : Nat) ^ 11 = 2048 := rfl; omega
      have x2 : Sm 11 ((b : Int) - (d : Int)) := by unfold Sm; have : (2 : Nat) ^ 11 = 2048 := rfl; omega
      have g3 : Pl.MulOk (fall ((b / 2 : Nat) : Int) d) (((b / 2 : Nat) : Int) - (d : Int)) := mulSm s1 x1 (by omega)
      have g4 : Pl.MulOk (fall (b : Int) d) ((b : Int) - (d : Int)) := mulSm s2 x2 (by omega)
      have hb2' : (b : Int) / 2 = ((b / 2 : Nat) : Int) := by omega
      have e1 : law_stop_l1 (b : Int) l (fall ((b / 2 : Nat) : Int) d, fall (b : Int) d) (d : Int) = some (.nx (fall ((b / 2 : Nat) : Int) (d + 1), fall (b : Int) (d + 1))) := by
        unfold law_stop_l1
        simp only [hb2', need_of g1, need_of g2, need_of g3, need_of g4, set_eq]
        rw [if_neg (fun z => hin (show fall ((b / 2 : Nat) : Int) d * l.2 ≤ l.1 * fall (b : Int) d from of_decide_eq_true z))]
        rfl
      constructor
      · rw [rgFrom_succ]
        show (law_stop_l1 (b : Int) l _ (d : Int)).bind _ = _
        rw [e1]
        exact h5
      · show (audit_stop_c1 l _).bind _ = _
        unfold audit_stop_c1
        have hyes : decide (l.1 * fall (b : Int) d < fall ((b / 2 : Nat) : Int) d * l.2) = true := decide_eq_true (by unfold inLim at hin; omega)
        simp only [need_of g1, need_of g2, hyes, Option.bind_some, if_true]
        have e2 : audit_stop_b2 (b : Int) ((b / 2 : Nat) : Int) (fall ((b / 2 : Nat) : Int) d, fall (b : Int) d, (d : Int)) = some (.nx (fall ((b / 2 : Nat) : Int) (d + 1), fall (b : Int) (d + 1), ((d + 1 : Nat) : Int))) := by
          unfold audit_stop_b2
          have hn : decide ((b : Int) ≤ (d : Int)) = false := decide_eq_false (by omega)
          simp only [hn, Bool.false_eq_true, if_false, need_of g3, need_of g4, set_eq]
          rfl
        rw [e2]
        exact h6
theorem stops (b : Nat) (hb : 1 ≤ b) (hb2 : b ≤ 900) (l : Int × Int) (hl : Lim l) : ∃ D : Nat, D ≤ b / 2 + 1 ∧ (∀ i, i < D → ¬ inLim l b i) ∧ law_stop_m (b : Int) l = some (some (D : Int)) ∧ ∀ x y : Int, x + y = (b : Int) → audit_stop_m x y l = some (some (D : Int)) := by
  obtain ⟨D, h1, _, h3, h4⟩ := stop_both b hb (by omega) l hl (b / 2 + 1) 0 (by omega) (fun i hi => by omega)
  refine ⟨D, h1, h3, ?_, fun x y hxy => ?_⟩
  · unfold law_stop_m
    simp only [set_eq]
    rw [need_of (rgS (by omega)), show (b : Int) + 1 = ((b + 1 : Nat) : Int) from rfl, rgFrom_zero]
    have := (h4 (b + 1) 1000 (by omega) (by omega)).1
    rw [show ((1 : Int), (1 : Int)) = (fall ((b / 2 : Nat) : Int) 0, fall (b : Int) 0) from rfl, this]
    rfl
  · unfold audit_stop_m
    simp only [set_eq, hxy]
    have := (h4 (b + 1) 1000 (by omega) (by omega)).2
    have hb2' : (b : Int) / 2 = ((b / 2 : Nat) : Int) := by omega
    rw [hb2', show ((1 : Int), (1 : Int), (0 : Int)) = (fall ((b / 2 : Nat) : Int) 0, fall (b : Int) 0, ((0 : Nat) : Int)) from rfl, this]
    rfl

/-! ### rows told -/
def within (l : Int × Int) (a u : Int) : Prop := u * l.2 ≤ a * l.1
instance (l : Int × Int) (a u : Int) : Decidable (within l a u) := by unfold within; infer_instance
def reachN (l : Int × Int) (f s : Int) : List Int → Int → Int → Nat → Option Nat
  | [], _, _, _ => none
  | p :: ps, a, u, k => if within l (a * 2 * (if p = 1 then s else f)) (u * (f + s)) then some (k + 1) else reachN l f s ps (a * 2 * (if p = 1 then s else f)) (u * (f + s)) (k + 1)
theorem forO_map {S α β γ : Type} (f : S → β → Option (O S γ)) (g : α → β) : ∀ (xs : List α) (s : S), forO f (xs.map g) s = forO (fun s x => f s (g x)) xs s
  | [], s => rfl
  | x :: xs, s => by
    show (f s (g x)).bind _ = (f s (g x)).bind _
    congr 1
    funext o
    cases o with
    | nx s' => exact forO_map f g xs s'
    | ct s' => exact forO_map f g xs s'
    | bk s' => rfl
    | rt b => rfl
theorem forO_congr {S α γ : Type} {f g : S → α → Option (O S γ)} : ∀ (xs : List α) (s : S), (∀ s x, x ∈ xs → f s x = g s x) → forO f xs s = forO g xs s
  | [], s, _ => rfl
  | x :: xs, s, h => by
    show (f s x).bind _ = (g s x).bind _
    rw [h s x (List.mem_cons_self ..)]
    congr 1
    funext o
    cases o with
    | nx s' => exact forO_congr xs s' fun s y hy => h s y (List.mem_cons_of_mem _ hy)
    | ct s' => exact forO_congr xs s' fun s y hy => h s y (List.mem_cons_of_mem _ hy)
    | bk s' => rfl
    | rt b => rfl
def Bits (ps : List Int) : Prop := ∀ p ∈ ps, p = 0 ∨ p = 1
theorem reached_same (l : Int × Int) (f s : Int) (ps : List Int) (hp : Bits ps) (st : Int × Int) : forO (law_reached_l1 l f s ps) (rangeD 0 (ps.length : Int)) st = forO (audit_row_l1 l f s) (enumT ps) st := by
  rw [rangeD_nat, enumT_range, forO_map, forO_map]
  refine forO_congr _ _ fun st i hi => ?_
  rw [List.mem_range] at hi
  have hb := hp _ (gI_mem (xs := ps) (i := (i : Int)) (by omega) (by omega))
  unfold law_reached_l1 audit_row_l1 is_reached_m
  rw [idx_n hi]
  simp only [Option.bind_some]
  have e : idx [f, s] (gI ps (i : Int)) = some (if decide (gI ps (i : Int) = 1) = true then s else f) := by
    rcases hb with h | h <;> rw [h] <;> rfl
  rw [e]
  simp only [Option.bind_some, set_eq]
  by_cases c1 : Pl.MulOk (st.1 * 2) (if decide (gI ps (i : Int) = 1) = true then s else f)
  · by_cases c2 : Pl.MulOk st.2 (f + s)
    · by_cases c3 : Pl.MulOk (st.1 * 2 * (if decide (gI ps (i : Int) = 1) = true then s else f)) l.1
      · by_cases c4 : Pl.MulOk (st.2 * (f + s)) l.2
        · simp only [need_of c1, need_of c2, need_of c3, need_of c4, Option.bind_some]
        · simp only [need_of c1, need_of c2, need_of c3]
          have z : ∀ {β : Type} (x : Option β), need (Pl.MulOk (st.2 * (f + s)) l.2) x = none := fun x => if_neg c4
          rw [z, z]
          rfl
      · simp only [need_of c1, need_of c2]
        have z : ∀ {β : Type} (x : Option β), need (Pl.MulOk (st.1 * 2 * (if decide (gI ps (i : Int) = 1) = true then s else f)) l.1) x = none := fun x => if_neg c3
        rw [z, z]
        rfl
    · simp only [need_of c1]
      have z : ∀ {β : Type} (x : Option β), need (Pl.MulOk st.2 (f + s)) x = none := fun x => if_neg c2
      rw [z, z]
  · have z : ∀ {β : Type} (x : Option β), need (Pl.MulOk (st.1 * 2) (if decide (gI ps (i : Int) = 1) = true then s else f)) x = none := fun x => if_neg c1
    rw [z, z]
theorem row_run (l : Int × Int) (hl : Lim l) (f s : Int) (hf : 0 ≤ f ∧ f ≤ 1000) (hs : 0 ≤ s ∧ s ≤ 1000) : ∀ (ps : List Int) (k : Nat) (a u : Int), Sm (20 * k + 1) a → Sm (20 * k + 1) u → k + ps.length ≤ 1000 →
    ∃ fin : Int × Int, forO (audit_row_l1 l f s) (ps.zipIdx k |>.map fun q => ((q.2 : Int), q.1)) (a, u) = some (match reachN l f s ps a u k with | some D => .rt (some (D : Int)) | none => .nx fin)
  | [], k, a, u, _, _, _ => ⟨(a, u), rfl⟩
  | p :: ps, k, a, u, ha, hu, hk => by
    have hk' : k + (ps.length + 1) ≤ 1000 := hk
    have hx : Sm 12 (if decide (p = 1) = true then s else f) := by
      unfold Sm
      have : (2 : Nat) ^ 12 = 4096 := rfl
      split <;> omega
    have hfs : Sm 12 (f + s) := by
      unfold Sm
      have : (2 : Nat) ^ 12 = 4096 := rfl
      omega
    have h2 : Sm 2 (2 : Int) := by unfold Sm; decide
    have a2 : Sm (20 * k + 1 + 2) (a * 2) := ha.mul h2
    have a3 : Sm (20 * k + 1 + 2 + 12) (a * 2 * (if decide (p = 1) = true then s else f)) := a2.mul hx
    have u3 : Sm (20 * k + 1 + 12) (u * (f + s)) := hu.mul hfs
    have g1 : Pl.MulOk (a * 2) (if decide (p = 1) = true then s else f) := mulSm a2 hx (by omega)
    have g2 : Pl.MulOk u (f + s) := mulSm hu hfs (by omega)
    have g3 : Pl.MulOk (a * 2 * (if decide (p = 1) = true then s else f)) l.1 := mulSm a3 hl.s0 (by omega)
    have g4 : Pl.MulOk (u * (f + s)) l.2 := mulSm u3 hl.s1 (by omega)
    obtain ⟨fin, ih⟩ := row_run l hl f s hf hs ps (k + 1) (a * 2 * (if decide (p = 1) = true then s else f)) (u * (f + s)) (a3.up (by omega)) (u3.up (by omega)) (by omega)
    have e : (if decide (p = 1) = true then s else f) = (if p = 1 then s else f) := by by_cases c : p = 1 <;> simp [c]
    have step : audit_row_l1 l f s (a, u) ((k : Int), p) = some (if within l (a * 2 * (if p = 1 then s else f)) (u * (f + s)) then .rt (some ((k : Int) + 1)) else .nx (a * 2 * (if p = 1 then s else f), u * (f + s))) := by
      unfold audit_row_l1 is_reached_m
      simp only [need_of g1, need_of g2, need_of g3, need_of g4, set_eq, Option.bind_some]
      rw [e]
      by_cases c : within l (a * 2 * (if p = 1 then s else f)) (u * (f + s))
      · have hd : decide (u * (f + s) * l.2 ≤ a * 2 * (if p = 1 then s else f) * l.1) = true := decide_eq_true c
        rw [hd, if_pos rfl, if_pos c]
      · have hd : decide (u * (f + s) * l.2 ≤ a * 2 * (if p = 1 then s else f) * l.1) = false := decide_eq_false c
        rw [hd, if_neg (by decide), if_neg c]
    refine ⟨fin, ?_⟩
    rw [List.zipIdx_cons, List.map_cons]
    show (audit_row_l1 l f s (a, u) ((k : Int), p)).bind _ = _
    rw [step, reachN]
    by_cases c : within l (a * 2 * (if p = 1 then s else f)) (u * (f + s))
    · rw [if_pos c, if_pos c]
      rfl
    · rw [if_neg c, if_neg c, ← e]
      exact ih
theorem rows_told (l : Int × Int) (hl : Lim l) (f s : Int) (hf : 0 ≤ f ∧ f ≤ 1000) (hs : 0 ≤ s ∧ s ≤ 1000) (ps : List Int) (hp : Bits ps) (hn : ps.length ≤ 900) :
    law_reached_m l f s ps = some ((reachN l f s ps 1 1 0).map fun (D : Nat) => (D : Int)) ∧ audit_row_m l f s ps = some ((reachN l f s ps 1 1 0).map fun (D : Nat) => (D : Int)) := by
  have s1 : Sm (20 * 0 + 1) (1 : Int) := by unfold Sm; decide
  obtain ⟨fin, h⟩ := row_run l hl f s hf hs ps 0 1 1 s1 s1 (by omega)
  have h' : forO (audit_row_l1 l f s) (enumT ps) (1, 1) = some (match reachN l f s ps 1 1 0 with | some D => .rt (some (D : Int)) | none => .nx fin) := h
  constructor
  · unfold law_reached_m
    simp only [set_eq]
    rw [reached_same l f s ps hp, h']
    cases reachN l f s ps 1 1 0 <;> rfl
  · unfold audit_row_m is_reached_m
    have g1 : Pl.MulOk 1 l.1 := mulS (by decide)
    have g2 : Pl.MulOk 1 l.2 := mulS (by decide)
    have hd : decide (1 * l.2 ≤ 1 * l.1) = false := decide_eq_false (by have := hl.p1; omega)
    simp only [set_eq, need_of g1, need_of g2, hd, Option.bind_some, Bool.false_eq_true, if_false]
    rw [h']
    cases reachN l f s ps 1 1 0 <;> rfl
/-- both counts so many times: nothing changes -/
theorem within_mul (l : Int × Int) (m a u : Int) (hm : 0 < m) : within l (m * a) (m * u) ↔ within l a u := by
  unfold within
  rw [Int.mul_assoc, Int.mul_assoc]
  exact ⟨fun h => Int.le_of_mul_le_mul_left h hm, fun h => Int.mul_le_mul_of_nonneg_left h (Int.le_of_lt hm)⟩
theorem reach_scale (l : Int × Int) (c f s : Int) (hc : 0 < c) : ∀ (ps : List Int) (a u m : Int) (k : Nat), 0 < m → reachN l (c * f) (c * s) ps (m * a) (m * u) k = reachN l f s ps a u k
  | [], _, _, _, _, _ => rfl
  | p :: ps, a, u, m, k, hm => by
    have e1 : m * a * 2 * (if p = 1 then c * s else c * f) = (m * c) * (a * 2 * (if p = 1 then s else f)) := by
      by_cases h : p = 1 <;> simp only [h, if_true, if_false] <;> grind
    have e2 : m * u * (c * f + c * s) = (m * c) * (u * (f + s)) := by grind
    have hmc : 0 < m * c := Int.mul_pos hm hc
    rw [reachN, reachN, e1, e2]
    simp only [within_mul l (m * c) _ _ hmc]
    rw [reach_scale l c f s hc ps _ _ (m * c) (k + 1) hmc]

theorem reach_some (l : Int × Int) (f s : Int) : ∀ (ps : List Int) (a u : Int) (k D : Nat), reachN l f s ps a u k = some D → k < D ∧ D ≤ k + ps.length
  | [], _, _, _, _, h => by cases h
  | p :: ps, a, u, k, D, h => by
    rw [reachN] at h
    by_cases c : within l (a * 2 * (if p = 1 then s else f)) (u * (f + s))
    · rw [if_pos c] at h
      have h := Option.some.inj h
      simp only [List.length_cons]
      omega
    · rw [if_neg c] at h
      have := reach_some l f s ps _ _ (k + 1) D h
      simp only [List.length_cons]
      omega
/-- told for one plan alone: some power of two -/
theorem reach_zeros (l : Int × Int) : ∀ (n k : Nat), (¬ within l (2 ^ k) 1 ∨ k = 0) → within l (2 ^ (k + n)) 1 → 0 < n → (∀ i, within l (2 ^ i) 1 → within l (2 ^ (i + 1)) 1) → ∃ D : Nat, reachN l 1 0 (List.replicate n 0) (2 ^ k) 1 k = some D ∧ within l (2 ^ D) 1
  | 0, k, _, _, h, _ => by omega
  | n + 1, k, h0, h1, _, hup => by
    have e : (2 : Int) ^ k * 2 * (if (0 : Int) = 1 then 0 else 1) = 2 ^ (k + 1) := by rw [if_neg (by decide), Int.mul_one, Int.pow_succ]
    have e2 : (1 : Int) * (1 + 0) = 1 := rfl
    rw [List.replicate_succ, reachN, e, e2]
    by_cases c : within l (2 ^ (k + 1)) 1
    · rw [if_pos c]
      exact ⟨k + 1, rfl, c⟩
    · rw [if_neg c]
      rcases Nat.eq_zero_or_pos n with hn | hn
      · subst hn
        exact absurd h1 c
      · exact reach_zeros l n (k + 1) (.inl c) (by rw [show k + 1 + n = k + (n + 1) by omega]; exact h1) hn hup
theorem fall_half (b : Nat) : ∀ d : Nat, d ≤ b / 2 + 1 → 0 ≤ fall ((b / 2 : Nat) : Int) d ∧ 2 ^ d * fall ((b / 2 : Nat) : Int) d ≤ fall (b : Int) d
  | 0, _ => ⟨by show (0 : Int) ≤ 1; decide, by show (1 : Int) ≤ 1; decide⟩
  | d + 1, h => by
    obtain ⟨h1, h2⟩ := fall_half b d (by omega)
    have h3 : 0 ≤ ((b / 2 : Nat) : Int) - (d : Int) := by omega
    have h4 : 2 * (((b / 2 : Nat) : Int) - (d : Int)) ≤ (b : Int) - (d : Int) := by omega
    refine ⟨Int.mul_nonneg h1 h3, ?_⟩
    have hp : (0 : Int) ≤ 2 ^ d * fall ((b / 2 : Nat) : Int) d := Int.mul_nonneg (Int.le_of_lt (Int.pow_pos (by decide))) h1
    calc 2 ^ (d + 1) * fall ((b / 2 : Nat) : Int) (d + 1) = (2 ^ d * fall ((b / 2 : Nat) : Int) d) * (2 * (((b / 2 : Nat) : Int) - (d : Int))) := by rw [fall, Int.pow_succ]; grind
      _ ≤ (2 ^ d * fall ((b / 2 : Nat) : Int) d) * ((b : Int) - (d : Int)) := Int.mul_le_mul_of_nonneg_left h4 hp
      _ ≤ fall (b : Int) d * ((b : Int) - (d : Int)) := Int.mul_le_mul_of_nonneg_right h2 (by omega)
/-- the audit of all draws stops no later than the rows told -/
theorem stop_le (b : Nat) (l : Int × Int) (hl : Lim l) (D T : Nat) (hD : D ≤ b / 2 + 1) (hmin : ∀ i, i < D → ¬ inLim l b i) (hT : within l (2 ^ T) 1) : D ≤ T := by
  refine Nat.le_of_not_lt fun h => hmin T h ?_
  obtain ⟨h1, h2⟩ := fall_half b T (by omega)
  have h3 : l.2 ≤ 2 ^ T * l.1 := by
    have := hT
    unfold within at this
    omega
  unfold inLim
  have h0 := hl.p0
  calc fall ((b / 2 : Nat) : Int) T * l.2 ≤ fall ((b / 2 : Nat) : Int) T * (2 ^ T * l.1) := Int.mul_le_mul_of_nonneg_left h3 h1
    _ = l.1 * (2 ^ T * fall ((b / 2 : Nat) : Int) T) := by grind
    _ ≤ l.1 * fall (b : Int) T := Int.mul_le_mul_of_nonneg_left h2 (Int.le_of_lt h0)
/-! ### rows that get there -/
def tree (l : Int × Int) (f s : Int) : Nat → Int → Int → Int
  | 0, p, u => if within l p u then 1 else 0
  | m + 1, p, u => if within l p u then 2 ^ (m + 1) else tree l f s m (p * 2 * f) (u * (f + s)) + tree l f s m (p * 2 * s) (u * (f + s))
theorem tree_in (l : Int × Int) (f s : Int) (m : Nat) (p u : Int) (h : within l p u) : tree l f s m p u = 2 ^ m := by
  cases m with
  | zero => rw [tree, if_pos h]; rfl
  | succ m => rw [tree, if_pos h]
/-- another limit, started further on -/
theorem tree_scale (l l' : Int × Int) (f s x y : Int) (h : ∀ p u : Int, within l' p u ↔ within l (p * x) (u * y)) : ∀ (m : Nat) (p u : Int), tree l' f s m p u = tree l f s m (p * x) (u * y)
  | 0, p, u => by rw [tree, tree]; simp only [h]
  | m + 1, p, u => by
    rw [tree, tree, tree_scale l l' f s x y h m, tree_scale l l' f s x y h m]
    have e1 : p * 2 * f * x = p * x * 2 * f := by grind
    have e2 : p * 2 * s * x = p * x * 2 * s := by grind
    have e3 : u * (f + s) * y = u * y * (f + s) := by grind
    rw [e1, e2, e3]
    simp only [h]
theorem tree_none (l : Int × Int) (f s : Int) (hl : Lim l) (hfs : 0 < f + s) : ∀ (m : Nat) (u : Int), 0 < u → tree l f s m 0 u = 0
  | 0, u, hu => by
    have : ¬ within l 0 u := by
      unfold within
      have := hl.q
      have := Int.mul_pos hu this
      omega
    rw [tree, if_neg this]
  | m + 1, u, hu => by
    have : ¬ within l 0 u := by
      unfold within
      have := hl.q
      have := Int.mul_pos hu this
      omega
    rw [tree, if_neg this]
    have e : ∀ z : Int, (0 : Int) * 2 * z = 0 := fun z => by omega
    rw [e, e, tree_none l f s hl hfs m _ (Int.mul_pos hu hfs)]
    rfl
theorem tree_bound (l : Int × Int) (f s : Int) : ∀ (m : Nat) (p u : Int), 0 ≤ tree l f s m p u ∧ tree l f s m p u ≤ 2 ^ m
  | 0, p, u => by rw [tree]; split <;> decide
  | m + 1, p, u => by
    have h1 := tree_bound l f s m (p * 2 * f) (u * (f + s))
    have h2 := tree_bound l f s m (p * 2 * s) (u * (f + s))
    have hp : (0 : Int) < 2 ^ m := Int.pow_pos (by decide)
    rw [tree, Int.pow_succ]
    split <;> omega
/-! sums -/
def sumN (g : Nat → Int) : Nat → Int
  | 0 => 0
  | n + 1 => sumN g n + g n
theorem sumN_add (g h : Nat → Int) : ∀ n, sumN (fun j => g j + h j) n = sumN g n + sumN h n
  | 0 => rfl
  | n + 1 => by rw [sumN, sumN, sumN, sumN_add g h n]; omega
theorem sumN_congr {g h : Nat → Int} : ∀ n, (∀ j, j < n → g j = h j) → sumN g n = sumN h n
  | 0, _ => rfl
  | n + 1, e => by rw [sumN, sumN, sumN_congr n fun j hj => e j (by omega), e n (by omega)]
theorem sumN_shift (g : Nat → Int) : ∀ n, sumN g (n + 1) = g 0 + sumN (fun j => g (j + 1)) n
  | 0 => by simp [sumN]
  | n + 1 => by rw [sumN, sumN_shift g n, sumN]; omega
theorem sumN_mul (c : Int) (g : Nat → Int) : ∀ n, sumN (fun j => g j * c) n = sumN g n * c
  | 0 => by simp [sumN]
  | n + 1 => by rw [sumN, sumN, sumN_mul c g n, Int.add_mul]
section
variable (l : Int × Int) (f s : Int)
/-- the product of a row with j of the other plan, behind k draws -/
def prd (k j : Nat) : Int := (2 * f) ^ (k - j) * (2 * s) ^ j
def und (k : Nat) : Int := (f + s) ^ k
/-- rows with j of the other plan that have not got there, behind k draws; before the last look -/
def grown (W : Nat → Int) (k j : Nat) : Int := (if j ≤ k then W j else 0) + (if 1 ≤ j then W (j - 1) else 0)
def waysN : Nat → Nat → Int
  | 0, j => if j = 0 then 1 else 0
  | k + 1, j => if within l (prd f s (k + 1) j) (und f s (k + 1)) then 0 else grown (waysN k) k j
def foundN : Nat → Int
  | 0 => 0
  | k + 1 => 2 * foundN k + sumN (fun j => if within l (prd f s (k + 1) j) (und f s (k + 1)) then grown (waysN l f s k) k j else 0) (k + 2)
theorem prd_f (k j : Nat) (h : j ≤ k) : prd f s (k + 1) j = prd f s k j * 2 * f := by
  unfold prd
  rw [show k + 1 - j = (k - j) + 1 by omega, Int.pow_succ]
  grind
theorem prd_s (k j : Nat) (h : j ≤ k) : prd f s (k + 1) (j + 1) = prd f s k j * 2 * s := by
  unfold prd
  rw [show k + 1 - (j + 1) = k - j by omega, Int.pow_succ]
  grind
theorem ways_out (k j : Nat) (h : k < j) : waysN l f s k j = 0 := by
  induction k generalizing j with
  | zero => rw [waysN, if_neg (by omega)]
  | succ k ih =>
    rw [waysN]
    split
    · rfl
    · unfold grown
      rw [if_neg (by omega), if_pos (by omega), ih (j - 1) (by omega)]
      rfl
theorem ways_in (k j : Nat) (hk : 0 < k) (h : within l (prd f s k j) (und f s k)) : waysN l f s k j = 0 := by
  cases k with
  | zero => omega
  | succ k => rw [waysN, if_pos h]
/-- what is found and what may still get there make all -/
theorem found_all (hl : Lim l) (n : Nat) : ∀ k, k ≤ n → foundN l f s k * 2 ^ (n - k) + sumN (fun j => waysN l f s k j * tree l f s (n - k) (prd f s k j) (und f s k)) (k + 1) = tree l f s n 1 1 := by
  intro k
  induction k with
  | zero =>
    intro _
    have e1 : prd f s 0 0 = 1 := by unfold prd; simp
    have e2 : und f s 0 = 1 := by unfold und; simp
    rw [sumN, sumN, e1, e2]
    simp [foundN, waysN]
  | succ k ih =>
    intro hk
    rw [← ih (by omega)]
    obtain ⟨m, hm⟩ : ∃ m, n - k = m + 1 := ⟨n - k - 1, by omega⟩
    have hm2 : n - (k + 1) = m := by omega
    rw [hm, hm2]
    -- each way goes on by one of two draws
    have hstep : ∀ j, j ≤ k → waysN l f s k j * tree l f s (m + 1) (prd f s k j) (und f s k) = waysN l f s k j * tree l f s m (prd f s (k + 1) j) (und f s (k + 1)) + waysN l f s k j * tree l f s m (prd f s (k + 1) (j + 1)) (und f s (k + 1)) := fun j hj => by
      have hu : und f s (k + 1) = und f s k * (f + s) := by unfold und; rw [Int.pow_succ]
      by_cases c : within l (prd f s k j) (und f s k)
      · have hz : waysN l f s k j = 0 := by
          rcases Nat.eq_zero_or_pos k with h0 | h0
          · exfalso
            subst h0
            have hj0 : j = 0 := by omega
            subst hj0
            have e1 : prd f s 0 0 = 1 := by unfold prd; simp
            have e2 : und f s 0 = 1 := by unfold und; simp
            rw [e1, e2] at c
            unfold within at c
            have := hl.p1
            omega
          · exact ways_in l f s k j h0 c
        rw [hz]
        simp
      · rw [tree, if_neg c, prd_f f s k j hj, prd_s f s k j hj, hu, Int.mul_add]
    rw [sumN_congr (k + 1) (fun j hj => hstep j (by omega)), sumN_add]
    -- the right side: by the grown numbers
    have hg : ∀ j, j < k + 2 → (if within l (prd f s (k + 1) j) (und f s (k + 1)) then grown (waysN l f s k) k j else 0) * 2 ^ m + waysN l f s (k + 1) j * tree l f s m (prd f s (k + 1) j) (und f s (k + 1)) = grown (waysN l f s k) k j * tree l f s m (prd f s (k + 1) j) (und f s (k + 1)) := fun j _ => by
      rw [waysN]
      by_cases c : within l (prd f s (k + 1) j) (und f s (k + 1))
      · rw [if_pos c, if_pos c, tree_in l f s m _ _ c]; simp
      · rw [if_neg c, if_neg c]; simp
    have hsum : sumN (fun j => grown (waysN l f s k) k j * tree l f s m (prd f s (k + 1) j) (und f s (k + 1))) (k + 2) = sumN (fun j => waysN l f s k j * tree l f s m (prd f s (k + 1) j) (und f s (k + 1))) (k + 1) + sumN (fun j => waysN l f s k j * tree l f s m (prd f s (k + 1) (j + 1)) (und f s (k + 1))) (k + 1) := by
      have h1 : sumN (fun j => grown (waysN l f s k) k j * tree l f s m (prd f s (k + 1) j) (und f s (k + 1))) (k + 2) = sumN (fun j => (if j ≤ k then waysN l f s k j else 0) * tree l f s m (prd f s (k + 1) j) (und f s (k + 1)) + (if 1 ≤ j then waysN l f s k (j - 1) else 0) * tree l f s m (prd f s (k + 1) j) (und f s (k + 1))) (k + 2) := sumN_congr _ fun j _ => by unfold grown; rw [Int.add_mul]
      rw [h1, sumN_add]
      congr 1
      · rw [sumN, if_neg (by omega)]
        simp only [Int.zero_mul, Int.add_zero]
        exact sumN_congr _ fun j hj => by rw [if_pos (by omega)]
      · rw [sumN_shift, if_neg (by omega)]
        simp only [Int.zero_mul, Int.zero_add]
        exact sumN_congr _ fun j hj => by rw [if_pos (by omega), Nat.add_sub_cancel]
    rw [← hsum, ← sumN_congr (k + 2) hg, sumN_add, sumN_mul, foundN, Int.pow_succ]
    grind
end
/-! ### both ways to count -/
theorem prd_sm (f s : Int) (hf : 0 ≤ f ∧ f ≤ 1000) (hs : 0 ≤ s ∧ s ≤ 1000) (k j : Nat) (h : j ≤ k) (hk : k ≤ 100) : Sm 2000 (prd f s k j) := by
  have h1 : Sm 11 (2 * f) := by unfold Sm; have : (2 : Nat) ^ 11 = 2048 := rfl; omega
  have h2 : Sm 11 (2 * s) := by unfold Sm; have : (2 : Nat) ^ 11 = 2048 := rfl; omega
  exact ((h1.pow (k - j)).mul (h2.pow j)).up (by omega)
theorem und_sm (f s : Int) (hf : 0 ≤ f ∧ f ≤ 1000) (hs : 0 ≤ s ∧ s ≤ 1000) (k : Nat) (hk : k ≤ 100) : Sm 2000 (und f s k) := by
  have h1 : Sm 11 (f + s) := by unfold Sm; have : (2 : Nat) ^ 11 = 2048 := rfl; omega
  exact (h1.pow k).up (by omega)
theorem reached_ok (l : Int × Int) (hl : Lim l) (a u : Int) (ha : Sm 2000 a) (hu : Sm 2000 u) : is_reached_m l a u = some (decide (within l a u)) := by
  unfold is_reached_m
  rw [need_of (mulSm ha hl.s0 (by omega)), need_of (mulSm hu hl.s1 (by omega))]
  rfl
section
variable (l : Int × Int) (hl : Lim l) (f s : Int) (hf : 0 ≤ f ∧ f ≤ 1000) (hs : 0 ≤ s ∧ s ≤ 1000)
include hl hf hs
theorem miss_inner (k : Nat) (hk : k ≤ 90) : forS (audit_miss_l1 l (und f s (k + 1))) (enumT (rowF (k + 2) (prd f s (k + 1)))) (foundN l f s k * 2, rowF (k + 2) (grown (waysN l f s k) k)) = some (foundN l f s (k + 1), rowF (k + 2) (waysN l f s (k + 1))) := by
  obtain ⟨r, e, h⟩ := forS_ex (step := audit_miss_l1 l (und f s (k + 1))) (fun i st => st = (foundN l f s k * 2 + sumN (fun j => if within l (prd f s (k + 1) j) (und f s (k + 1)) then grown (waysN l f s k) k j else 0) i, rowF (k + 2) fun j => if j < i then waysN l f s (k + 1) j else grown (waysN l f s k) k j)) (xs := enumT (rowF (k + 2) (prd f s (k + 1)))) (s0 := (foundN l f s k * 2, rowF (k + 2) (grown (waysN l f s k) k))) (by simp [sumN]) fun i st x hx hi => by
    rw [enumT_rowF, rowF_get] at hx
    have hik : i < k + 2 := by
      by_cases hik : i < k + 2
      · exact hik
      · rw [if_neg hik] at hx; cases hx
    rw [if_pos hik] at hx
    have hx := (Option.some.inj hx).symm
    subst hx
    subst hi
    unfold audit_miss_l1
    rw [reached_ok l hl _ _ (prd_sm f s hf hs (k + 1) i (by omega) (by omega)) (und_sm f s hf hs (k + 1) (by omega))]
    simp only [Option.bind_some]
    by_cases hc : within l (prd f s (k + 1) i) (und f s (k + 1))
    · have hw : waysN l f s (k + 1) i = 0 := by rw [waysN, if_pos hc]
      simp only [hc, decide_true, if_true]
      rw [rowF_idx hik]
      simp only [Option.bind_some, set_eq]
      rw [if_neg (by omega), rowF_set hik]
      simp only [Option.bind_some]
      refine ⟨_, rfl, ?_⟩
      refine Prod.ext ?_ (rowF_congr fun j hj => ?_)
      · show foundN l f s k * 2 + sumN _ i + grown (waysN l f s k) k i = foundN l f s k * 2 + sumN _ (i + 1)
        rw [sumN, if_pos hc]
        omega
      · by_cases h1 : j = i
        · subst h1
          simp [hw]
        · have : (j < i + 1) ↔ (j < i) := by omega
          simp [h1, this]
    · have hw : waysN l f s (k + 1) i = grown (waysN l f s k) k i := by rw [waysN, if_neg hc]
      simp only [hc, decide_false, Bool.false_eq_true, if_false, Option.bind_some]
      refine ⟨_, rfl, ?_⟩
      refine Prod.ext ?_ (rowF_congr fun j hj => ?_)
      · show foundN l f s k * 2 + sumN _ i = foundN l f s k * 2 + sumN _ (i + 1)
        rw [sumN, if_neg hc]
        omega
      · by_cases h1 : j = i
        · subst h1
          simp [hw]
        · have : (j < i + 1) ↔ (j < i) := by omega
          simp [this]
  rw [e, h, enumT_len, rowF_len]
  refine congrArg some (Prod.ext ?_ (rowF_congr fun j hj => by simp [hj]))
  show foundN l f s k * 2 + sumN _ (k + 2) = foundN l f s (k + 1)
  rw [foundN]
  omega
theorem miss_step (k : Nat) (hk : k ≤ 90) (x : Int) : audit_miss_l2 l f s (rowF (k + 1) (waysN l f s k), rowF (k + 1) (prd f s k), und f s k, foundN l f s k) x = some (rowF (k + 2) (waysN l f s (k + 1)), rowF (k + 2) (prd f s (k + 1)), und f s (k + 1), foundN l f s (k + 1)) := by
  unfold audit_miss_l2
  have z1 : SzOk ((rowF (k + 1) (waysN l f s k)).length + [(0 : Int)].length) := by unfold SzOk; rw [rowF_len]; simp; omega
  have z2 : SzOk ([(0 : Int)].length + (rowF (k + 1) (waysN l f s k)).length) := by unfold SzOk; rw [rowF_len]; simp; omega
  have e1 : List.map (fun z2 : Int × Int => z2.1 + z2.2) (List.zip (rowF (k + 1) (waysN l f s k) ++ [0]) ([0] ++ rowF (k + 1) (waysN l f s k))) = rowF (k + 2) (grown (waysN l f s k) k) := by
    refine rowF_ext (by simp [rowF_len]) fun i hi => ?_
    rw [List.zip, List.map_zipWith, List.getElem?_zipWith, List.getElem?_append, rowF_len, List.getElem?_append]
    unfold grown
    rcases Nat.eq_zero_or_pos i with h0 | h0
    · subst h0
      rw [if_pos (by omega), rowF_get, if_pos (by omega)]
      simp
    · obtain ⟨i', rfl⟩ : ∃ i', i = i' + 1 := ⟨i - 1, by omega⟩
      have hlt : ¬ (i' + 1 < [(0 : Int)].length) := by simp
      rw [if_neg hlt]
      have hs1 : i' + 1 - [(0 : Int)].length = i' := by simp
      rw [hs1, rowF_get, rowF_get, if_pos (show i' < k + 1 by omega)]
      by_cases h2 : i' + 1 < k + 1
      · simp [h2]
        omega
      · have h3 : i' = k := by omega
        subst h3
        simp
        rw [if_neg (by omega)]
        omega
  have e2 : mapO (fun z4 : Int => need (Pl.MulOk (z4 * 2) f) <| some (z4 * 2 * f)) (rowF (k + 1) (prd f s k)) = some (rowF (k + 1) fun j => prd f s k j * 2 * f) := by
    rw [mapO_eq (fun z4 : Int => z4 * 2 * f) _ fun z hz => ?_, rowF_map]
    unfold rowF at hz
    rw [List.mem_map] at hz
    obtain ⟨j, hj, rfl⟩ := hz
    rw [List.mem_range] at hj
    have h2 : Sm 2 (2 : Int) := by unfold Sm; decide
    have hfm : Sm 10 f := by unfold Sm; have : (2 : Nat) ^ 10 = 1024 := rfl; omega
    rw [need_of (mulSm ((prd_sm f s hf hs k j (by omega) (by omega)).mul h2) hfm (by omega))]
  have h2 : Sm 2 (2 : Int) := by unfold Sm; decide
  have hsm : Sm 10 s := by unfold Sm; have : (2 : Nat) ^ 10 = 1024 := rfl; omega
  have hfs : Sm 11 (f + s) := by unfold Sm; have : (2 : Nat) ^ 11 = 2048 := rfl; omega
  have g1 : Pl.MulOk (prd f s k k * 2) s := mulSm ((prd_sm f s hf hs k k (by omega) (by omega)).mul h2) hsm (by omega)
  have g2 : Pl.MulOk (und f s k) (f + s) := mulSm (und_sm f s hf hs k (by omega)) hfs (by omega)
  have z3 : SzOk ((rowF (k + 1) fun j => prd f s k j * 2 * f).length + [prd f s k k * 2 * s].length) := by unfold SzOk; rw [rowF_len]; simp; omega
  have e3 : (rowF (k + 1) fun j => prd f s k j * 2 * f) ++ [prd f s k k * 2 * s] = rowF (k + 2) (prd f s (k + 1)) := by
    rw [rowF_snoc (k + 1) (prd f s (k + 1)), prd_s f s k k (by omega)]
    congr 1
    exact rowF_congr fun j hj => (prd_f f s k j (by omega)).symm
  have e4 : und f s k * (f + s) = und f s (k + 1) := by unfold und; rw [Int.pow_succ]
  simp only [need_of z1, need_of z2, set_eq, e1, e2, Option.bind_some, rowF_last, need_of g1, need_of z3, e3, need_of g2, e4]
  rw [miss_inner l hl f s hf hs k hk]
  rfl
/-- all that get there are found -/
theorem found_tree (n : Nat) : foundN l f s n = tree l f s n 1 1 := by
  have h := found_all l f s hl n n (Nat.le_refl _)
  rw [Nat.sub_self, Int.pow_zero, Int.mul_one] at h
  rw [← h]
  have z : sumN (fun j => waysN l f s n j * tree l f s 0 (prd f s n j) (und f s n)) (n + 1) = sumN (fun _ => 0) (n + 1) := sumN_congr _ fun j hj => by
    rw [tree]
    by_cases c : within l (prd f s n j) (und f s n)
    · rcases Nat.eq_zero_or_pos n with h0 | h0
      · exfalso
        subst h0
        have hj0 : j = 0 := by omega
        subst hj0
        have e1 : prd f s 0 0 = 1 := by unfold prd; simp
        have e2 : und f s 0 = 1 := by unfold und; simp
        rw [e1, e2] at c
        unfold within at c
        have := hl.p1
        omega
      · rw [ways_in l f s n j h0 c, Int.zero_mul]
    · rw [if_neg c, Int.mul_zero]
  have z0 : ∀ m, sumN (fun _ => 0) m = 0 := fun m => by
    induction m with
    | zero => rfl
    | succ m ih => rw [sumN, ih]; rfl
  rw [z, z0]
  omega
theorem not_in : ¬ within l 1 1 := by
  unfold within
  have := hl.p1
  omega
theorem miss_all (n : Nat) (hn : n ≤ 90) : audit_miss_m l f s (n : Int) = some (redN (tree l f s n 1 1).toNat (2 ^ n)) := by
  unfold audit_miss_m
  have s1 : Sm 2000 (1 : Int) := by unfold Sm; exact Nat.one_lt_two_pow (by decide)
  rw [reached_ok l hl 1 1 s1 s1]
  simp only [Option.bind_some, not_in l hl f s hf hs, decide_false, Bool.false_eq_true, if_false, set_eq]
  rw [need_of (rgS (by omega))]
  obtain ⟨r, e, h⟩ := forS_ex (step := audit_miss_l2 l f s) (fun i st => i ≤ n → st = (rowF (i + 1) (waysN l f s i), rowF (i + 1) (prd f s i), und f s i, foundN l f s i)) (xs := rangeD 0 (n : Int)) (s0 := ([1], [1], 1, 0)) (fun _ => by simp [rowF, prd, und, foundN, waysN]) fun i st x hx hi => by
    obtain ⟨_, h1, h2⟩ := rangeD_get? hx
    have hin : i < n := by
      have := (rangeD_get? hx).1
      omega
    rw [hi (by omega), miss_step l hl f s hf hs i (by omega)]
    exact ⟨_, rfl, fun _ => rfl⟩
  have hlen : (rangeD 0 (n : Int)).length = n := by rw [rangeD_length]; omega
  rw [hlen] at h
  rw [e, h (Nat.le_refl _)]
  simp only [Option.bind_some]
  have cp : CPow 1 (n : Int) := ⟨by omega, by omega, by decide⟩
  rw [need_of cp, Int.toNat_natCast, found_tree l hl f s hf hs n]
  have hb := tree_bound l f s n 1 1
  have e1 : tree l f s n 1 1 = ((tree l f s n 1 1).toNat : Int) := by omega
  have e2 : (1 : Int) * 2 ^ n = ((2 ^ n : Nat) : Int) := by simp
  rw [e2]
  conv => lhs; rw [e1]
  rw [lowest_red _ _ (Nat.pow_pos (by decide)) (Nat.pow_lt_pow_right (by decide) (by omega))]
  rfl
theorem missed_inner1 (k : Nat) (hk : k ≤ 90) (u fd : Int) : forS (law_missed_l1 f (u, fd, rowF (k + 1) (waysN l f s k), rowF (k + 1) (prd f s k))) (rangeD 0 ((k : Int) + 1)) ((rowF (k + 2) fun _ => (0 : Int)), rowF (k + 2) fun _ => (0 : Int)) = some (rowF (k + 2) (grown (waysN l f s k) k), rowF (k + 2) fun j => if j < k + 1 then prd f s (k + 1) j else 0) := by
  obtain ⟨r, e, h⟩ := forS_ex (step := law_missed_l1 f (u, fd, rowF (k + 1) (waysN l f s k), rowF (k + 1) (prd f s k))) (fun i st => st = (rowF (k + 2) (fun j => (if j < i then waysN l f s k j else 0) + (if 1 ≤ j ∧ j ≤ i then waysN l f s k (j - 1) else 0)), rowF (k + 2) fun j => if j < i then prd f s (k + 1) j else 0)) (xs := rangeD 0 ((k : Int) + 1)) (s0 := ((rowF (k + 2) fun _ => (0 : Int)), rowF (k + 2) fun _ => (0 : Int))) (by
    refine Prod.ext (rowF_congr fun j _ => ?_) (rowF_congr fun j _ => ?_)
    · rw [if_neg (by omega), if_neg (by omega)]; rfl
    · rw [if_neg (by omega)]) fun i st x hx hi => by
    obtain ⟨h1, h2, h3⟩ := rangeD_get? hx
    rw [Int.zero_add] at h1
    subst h1
    have hik : i < k + 1 := by omega
    subst hi
    unfold law_missed_l1
    have h2' : Sm 2 (2 : Int) := by unfold Sm; decide
    have hfm : Sm 10 f := by unfold Sm; have : (2 : Nat) ^ 10 = 1024 := rfl; omega
    have g1 : Pl.MulOk (prd f s k i * 2) f := mulSm ((prd_sm f s hf hs k i (by omega) (by omega)).mul h2') hfm (by omega)
    have ei : (i : Int) + 1 = ((i + 1 : Nat) : Int) := rfl
    simp only [rowF_idx (show i < k + 2 by omega), rowF_idx hik, Option.bind_some, rowF_set (show i < k + 2 by omega), ei, rowF_idx (show i + 1 < k + 2 by omega), rowF_set (show i + 1 < k + 2 by omega), need_of g1]
    refine ⟨_, rfl, ?_⟩
    refine Prod.ext (rowF_congr fun j hj => ?_) (rowF_congr fun j hj => ?_)
    · by_cases c1 : j = i + 1
      · subst c1
        have a1 : ¬ (i + 1 = i) := by omega
        have a2 : ¬ (i + 1 < i) := by omega
        have a3 : ¬ (1 ≤ i + 1 ∧ i + 1 ≤ i) := by omega
        have a4 : ¬ (i + 1 < i + 1) := by omega
        have a5 : 1 ≤ i + 1 ∧ i + 1 ≤ i + 1 := by omega
        simp only [if_true, a1, a2, a3, a4, if_false, if_pos a5, Nat.add_sub_cancel]
        omega
      · by_cases c2 : j = i
        · subst c2
          have a1 : ¬ (j < j) := by omega
          have a2 : j < j + 1 := by omega
          by_cases c3 : 1 ≤ j
          · have a3 : 1 ≤ j ∧ j ≤ j := by omega
            have a4 : 1 ≤ j ∧ j ≤ j + 1 := by omega
            simp only [c1, if_false, if_true, a1, if_pos a3, if_pos a4, if_pos a2]
            omega
          · have a3 : ¬ (1 ≤ j ∧ j ≤ j) := by omega
            have a4 : ¬ (1 ≤ j ∧ j ≤ j + 1) := by omega
            simp only [c1, if_false, if_true, a1, if_neg a3, if_neg a4, if_pos a2]
            omega
        · have a1 : (j < i + 1) ↔ (j < i) := by omega
          have a2 : (1 ≤ j ∧ j ≤ i + 1) ↔ (1 ≤ j ∧ j ≤ i) := by omega
          simp only [c1, c2, if_false, a1, a2]
    · by_cases c2 : j = i
      · subst c2
        rw [if_pos rfl, if_pos (by omega), prd_f f s k j (by omega)]
      · have a1 : (j < i + 1) ↔ (j < i) := by omega
        simp only [c2, if_false, a1]
  have hlen : (rangeD 0 ((k : Int) + 1)).length = k + 1 := by rw [rangeD_length]; omega
  rw [e, h, hlen]
  refine congrArg some (Prod.ext (rowF_congr fun j hj => ?_) rfl)
  unfold grown
  have a1 : (j < k + 1) ↔ (j ≤ k) := by omega
  by_cases c : 1 ≤ j
  · have a2 : 1 ≤ j ∧ j ≤ k + 1 := by omega
    simp only [a1, if_pos a2, if_pos c]
  · have a2 : ¬ (1 ≤ j ∧ j ≤ k + 1) := by omega
    simp only [a1, if_neg a2, if_neg c]
theorem missed_inner2 (k : Nat) (hk : k ≤ 90) : forS (law_missed_l2 l (rowF (k + 2) (prd f s (k + 1))) (und f s (k + 1))) (rangeD 0 ((k : Int) + 2)) (2 * foundN l f s k, rowF (k + 2) (grown (waysN l f s k) k)) = some (foundN l f s (k + 1), rowF (k + 2) (waysN l f s (k + 1))) := by
  obtain ⟨r, e, h⟩ := forS_ex (step := law_missed_l2 l (rowF (k + 2) (prd f s (k + 1))) (und f s (k + 1))) (fun i st => st = (2 * foundN l f s k + sumN (fun j => if within l (prd f s (k + 1) j) (und f s (k + 1)) then grown (waysN l f s k) k j else 0) i, rowF (k + 2) fun j => if j < i then waysN l f s (k + 1) j else grown (waysN l f s k) k j)) (xs := rangeD 0 ((k : Int) + 2)) (s0 := (2 * foundN l f s k, rowF (k + 2) (grown (waysN l f s k) k))) (by simp [sumN]) fun i st x hx hi => by
    obtain ⟨h1, h2, h3⟩ := rangeD_get? hx
    rw [Int.zero_add] at h1
    subst h1
    have hik : i < k + 2 := by omega
    subst hi
    unfold law_missed_l2
    have g1 : Pl.MulOk (prd f s (k + 1) i) l.1 := mulSm (prd_sm f s hf hs (k + 1) i (by omega) (by omega)) hl.s0 (by omega)
    have g2 : Pl.MulOk (und f s (k + 1)) l.2 := mulSm (und_sm f s hf hs (k + 1) (by omega)) hl.s1 (by omega)
    simp only [rowF_idx hik, Option.bind_some, need_of g1, need_of g2, set_eq]
    by_cases hc : within l (prd f s (k + 1) i) (und f s (k + 1))
    · have hw : waysN l f s (k + 1) i = 0 := by rw [waysN, if_pos hc]
      have hd : decide (und f s (k + 1) * l.2 ≤ prd f s (k + 1) i * l.1) = true := decide_eq_true hc
      simp only [hd, if_true, rowF_set hik, Option.bind_some]
      rw [if_neg (by omega)]
      refine ⟨_, rfl, ?_⟩
      refine Prod.ext ?_ (rowF_congr fun j hj => ?_)
      · show 2 * foundN l f s k + sumN _ i + grown (waysN l f s k) k i = 2 * foundN l f s k + sumN _ (i + 1)
        rw [sumN, if_pos hc]
        omega
      · by_cases h1 : j = i
        · subst h1
          simp [hw]
        · have : (j < i + 1) ↔ (j < i) := by omega
          simp [h1, this]
    · have hw : waysN l f s (k + 1) i = grown (waysN l f s k) k i := by rw [waysN, if_neg hc]
      have hd : decide (und f s (k + 1) * l.2 ≤ prd f s (k + 1) i * l.1) = false := decide_eq_false hc
      simp only [hd, Bool.false_eq_true, if_false, Option.bind_some]
      refine ⟨_, rfl, ?_⟩
      refine Prod.ext ?_ (rowF_congr fun j hj => ?_)
      · show 2 * foundN l f s k + sumN _ i = 2 * foundN l f s k + sumN _ (i + 1)
        rw [sumN, if_neg hc]
        omega
      · by_cases h1 : j = i
        · subst h1
          simp [hw]
        · have : (j < i + 1) ↔ (j < i) := by omega
          simp [this]
  have hlen : (rangeD 0 ((k : Int) + 2)).length = k + 2 := by rw [rangeD_length]; omega
  rw [e, h, hlen]
  refine congrArg some (Prod.ext ?_ (rowF_congr fun j hj => by simp [hj]))
  show 2 * foundN l f s k + sumN _ (k + 2) = foundN l f s (k + 1)
  rw [foundN]
theorem missed_step (k : Nat) (hk : k ≤ 90) : law_missed_l3 l f s (und f s k, foundN l f s k, rowF (k + 1) (waysN l f s k), rowF (k + 1) (prd f s k)) (k : Int) = some (und f s (k + 1), foundN l f s (k + 1), rowF (k + 2) (waysN l f s (k + 1)), rowF (k + 2) (prd f s (k + 1))) := by
  unfold law_missed_l3
  have er : repL [(0 : Int)] ((k : Int) + 2) = rowF (k + 2) fun _ => (0 : Int) := rowF_rep (k + 2) 0
  have z1 : RepOk ([(0 : Int)]).length ((k : Int) + 2) := by unfold RepOk; simp; omega
  have h2 : Sm 2 (2 : Int) := by unfold Sm; decide
  have hsm : Sm 10 s := by unfold Sm; have : (2 : Nat) ^ 10 = 1024 := rfl; omega
  have hfs : Sm 11 (f + s) := by unfold Sm; have : (2 : Nat) ^ 11 = 2048 := rfl; omega
  have g1 : Pl.MulOk (prd f s k k * 2) s := mulSm ((prd_sm f s hf hs k k (by omega) (by omega)).mul h2) hsm (by omega)
  have g2 : Pl.MulOk (und f s k) (f + s) := mulSm (und_sm f s hf hs k (by omega)) hfs (by omega)
  have e4 : und f s k * (f + s) = und f s (k + 1) := by unfold und; rw [Int.pow_succ]
  have ei : (k : Int) + 1 = ((k + 1 : Nat) : Int) := rfl
  simp only [need_of z1, set_eq, er, need_of (rgS (show -1000000000 ≤ (0 : Int) ∧ (0 : Int) ≤ 1000000000 ∧ -1000000000 ≤ (k : Int) + 1 ∧ (k : Int) + 1 ≤ 1000000000 ∧ (k : Int) + 1 - 0 ≤ 16777216 by omega))]
  rw [missed_inner1 l hl f s hf hs k hk]
  simp only [Option.bind_some, rowF_idx (show k < k + 1 by omega), need_of g1, ei, rowF_set (show k + 1 < k + 2 by omega), need_of g2, e4]
  have ep : (rowF (k + 2) fun j => if j = k + 1 then prd f s k k * 2 * s else if j < k + 1 then prd f s (k + 1) j else 0) = rowF (k + 2) (prd f s (k + 1)) := rowF_congr fun j hj => by
    by_cases c : j = k + 1
    · subst c
      rw [if_pos rfl, prd_s f s k k (by omega)]
    · rw [if_neg c, if_pos (by omega)]
  rw [ep, need_of (rgS (by omega)), missed_inner2 l hl f s hf hs k hk]
  rfl
theorem missed_all (n : Nat) (hn : n ≤ 90) : law_missed_m l f s (n : Int) = some (redN (tree l f s n 1 1).toNat (2 ^ n)) := by
  unfold law_missed_m
  simp only [set_eq]
  rw [need_of (rgS (by omega))]
  obtain ⟨r, e, h⟩ := forS_ex (step := law_missed_l3 l f s) (fun i st => i ≤ n → st = (und f s i, foundN l f s i, rowF (i + 1) (waysN l f s i), rowF (i + 1) (prd f s i))) (xs := rangeD 0 (n : Int)) (s0 := (1, 0, [1], [1])) (fun _ => by simp [rowF, prd, und, foundN, waysN]) fun i st x hx hi => by
    obtain ⟨h0, h1, h2⟩ := rangeD_get? hx
    rw [Int.zero_add] at h0
    subst h0
    rw [hi (by omega), missed_step l hl f s hf hs i (by omega)]
    exact ⟨_, rfl, fun _ => rfl⟩
  have hlen : (rangeD 0 (n : Int)).length = n := by rw [rangeD_length]; omega
  rw [hlen] at h
  rw [e, h (Nat.le_refl _)]
  simp only [Option.bind_some]
  have cp : CPow 1 (n : Int) := ⟨by omega, by omega, by decide⟩
  rw [need_of cp, Int.toNat_natCast, found_tree l hl f s hf hs n]
  have hb := tree_bound l f s n 1 1
  have e1 : tree l f s n 1 1 = ((tree l f s n 1 1).toNat : Int) := by omega
  have e2 : (1 : Int) * 2 ^ n = ((2 ^ n : Nat) : Int) := by simp
  rw [e2]
  conv => lhs; rw [e1]
  rw [ratio_red _ _ (Nat.pow_pos (by decide)) (Nat.pow_lt_pow_right (by decide) (by omega))]
  rfl
end
/-! ### all about one limit -/
theorem like_self {α : Type} {e : α → PyData} {m : Nat} (d : Due e m) {x y : α} (h : x = y) : likeD (e x) (e y) = true := by
  subst h
  exact like_refl _ (d.ok x)
theorem tree_times (l : Int × Int) (c f s : Int) (hc : 0 < c) : ∀ (m : Nat) (w p u : Int), 0 < w → tree l (c * f) (c * s) m (w * p) (w * u) = tree l f s m p u
  | 0, w, p, u, hw => by rw [tree, tree]; simp only [within_mul l w p u hw]
  | m + 1, w, p, u, hw => by
    have e1 : w * p * 2 * (c * f) = (w * c) * (p * 2 * f) := by grind
    have e2 : w * p * 2 * (c * s) = (w * c) * (p * 2 * s) := by grind
    have e3 : w * u * (c * f + c * s) = (w * c) * (u * (f + s)) := by grind
    have hwc : 0 < w * c := Int.mul_pos hw hc
    rw [tree, tree, e1, e2, e3, tree_times l c f s hc m _ _ _ hwc, tree_times l c f s hc m _ _ _ hwc]
    simp only [within_mul l w p u hw]
theorem forO_two {S α β : Type} {step : S → α → Option (O S β)} {a b : α} {s0 s1 s2 : S} (h1 : step s0 a = some (.nx s1)) (h2 : step s1 b = some (.nx s2)) : forO step [a, b] s0 = some (.nx s2) := by
  show (step s0 a).bind _ = _
  rw [h1]
  show (step s1 b).bind _ = _
  rw [h2]
  rfl
section
variable (l : Int × Int) (hl : Lim l) (hl2 : Sm 150 l.2) (f s : Int) (hf : 1 ≤ f ∧ f ≤ 300) (hs : 0 ≤ s ∧ s ≤ 300)
include hl hl2 hf hs
/-- the share of those behind a first draw -/
theorem part_step (n : Nat) (hn : n ≤ 80) (c : Int) (hc : 0 ≤ c ∧ c ≤ 300) (ps : List (Int × Int)) (hp : ps.length ≤ 10) :
    law_rows_right_l2 l f s (n : Int) ps c = some (.nx (ps ++ [redN (tree l f s n (2 * c) (f + s)).toNat (2 ^ n)])) := by
  unfold law_rows_right_l2
  have h0 := hl.p0
  have h1 := hl.p1
  obtain ⟨L0, hL0⟩ : ∃ L0 : Nat, l.1 = L0 := ⟨l.1.toNat, by omega⟩
  obtain ⟨L1, hL1⟩ : ∃ L1 : Nat, l.2 = L1 := ⟨l.2.toNat, by omega⟩
  obtain ⟨c', hc'⟩ : ∃ c' : Nat, c = c' := ⟨c.toNat, by omega⟩
  obtain ⟨t, ht⟩ : ∃ t : Nat, f + s = t := ⟨(f + s).toNat, by omega⟩
  have s2 : Sm 2 (2 : Int) := by unfold Sm; decide
  have sc : Sm 10 c := by unfold Sm; have : (2 : Nat) ^ 10 = 1024 := rfl; omega
  have st : Sm 10 (f + s) := by unfold Sm; have : (2 : Nat) ^ 10 = 1024 := rfl; omega
  have g1 : Pl.MulOk (2 * c) l.1 := mulSm (s2.mul sc) hl.s0 (by omega)
  have g2 : Pl.MulOk (f + s) l.2 := mulSm st hl.s1 (by omega)
  have hX : 0 < t * L1 := Nat.mul_pos (by omega) (by omega)
  have hXs : Sm 160 ((f + s) * l.2) := (st.mul hl2).up (by omega)
  have hXn : t * L1 < 2 ^ 160 := by
    have : (f + s) * l.2 = ((t * L1 : Nat) : Int) := by rw [ht, hL1, Int.natCast_mul]
    rw [this] at hXs
    unfold Sm at hXs
    rw [Int.natAbs_natCast] at hXs
    exact hXs
  have eb : law_ratio_m (2 * c * l.1) ((f + s) * l.2) = some (redN (2 * c' * L0) (t * L1)) := by
    have e1 : 2 * c * l.1 = ((2 * c' * L0 : Nat) : Int) := by rw [hc', hL0, Int.natCast_mul, Int.natCast_mul]; rfl
    have e2 : (f + s) * l.2 = ((t * L1 : Nat) : Int) := by rw [ht, hL1, Int.natCast_mul]
    rw [e1, e2]
    exact ratio_red _ _ hX (Nat.lt_of_lt_of_le hXn (Nat.pow_le_pow_right (by decide) (by decide)))
  have z1 : Sz1 ps.length := by unfold Sz1; omega
  simp only [need_of g1, need_of g2, eb, Option.bind_some, set_eq]
  obtain ⟨b0, b1, hb, hb1, hbe, _, hble⟩ := redN_spec (2 * c' * L0) (t * L1) hX
  rw [hb]
  have hwith : ∀ p u : Int, within ((b0 : Int), (b1 : Int)) p u ↔ within l (p * (2 * c)) (u * (f + s)) := fun p u => by
    unfold within
    have hXi : (0 : Int) < ((t * L1 : Nat) : Int) := by omega
    have hb1i : (0 : Int) < (b1 : Int) := by omega
    have hbei : (b0 : Int) * ((t * L1 : Nat) : Int) = ((2 * c' * L0 : Nat) : Int) * (b1 : Int) := by
      rw [← Int.natCast_mul, ← Int.natCast_mul, hbe]
    have e1 : u * (f + s) * l.2 = u * ((t * L1 : Nat) : Int) := by rw [ht, hL1, Int.natCast_mul, Int.mul_assoc]
    have e2 : p * (2 * c) * l.1 = p * ((2 * c' * L0 : Nat) : Int) := by rw [hc', hL0, Int.natCast_mul, Int.natCast_mul]; grind
    rw [e1, e2]
    show u * (b1 : Int) ≤ p * (b0 : Int) ↔ _
    constructor
    · intro h
      refine Int.le_of_mul_le_mul_left (a := (b1 : Int)) ?_ hb1i
      have h3 := Int.mul_le_mul_of_nonneg_right h (Int.le_of_lt hXi)
      calc (b1 : Int) * (u * ((t * L1 : Nat) : Int)) = u * (b1 : Int) * ((t * L1 : Nat) : Int) := by grind
        _ ≤ p * (b0 : Int) * ((t * L1 : Nat) : Int) := h3
        _ = (b1 : Int) * (p * ((2 * c' * L0 : Nat) : Int)) := by rw [Int.mul_assoc, hbei]; grind
    · intro h
      refine Int.le_of_mul_le_mul_left (a := ((t * L1 : Nat) : Int)) ?_ hXi
      have h3 := Int.mul_le_mul_of_nonneg_right h (Int.le_of_lt hb1i)
      calc ((t * L1 : Nat) : Int) * (u * (b1 : Int)) = u * ((t * L1 : Nat) : Int) * (b1 : Int) := by grind
        _ ≤ p * ((2 * c' * L0 : Nat) : Int) * (b1 : Int) := h3
        _ = ((t * L1 : Nat) : Int) * (p * (b0 : Int)) := by rw [Int.mul_assoc, ← hbei]; grind
  have htree : tree ((b0 : Int), (b1 : Int)) f s n 1 1 = tree l f s n (2 * c) (f + s) := by
    rw [tree_scale l ((b0 : Int), (b1 : Int)) f s (2 * c) (f + s) hwith n 1 1, Int.one_mul, Int.one_mul]
  by_cases hc0 : c = 0
  · have hb0 : b0 = 0 := by
      have : 2 * c' * L0 = 0 := by
        have : c' = 0 := by omega
        subst this; simp
      rw [this, Nat.zero_mul] at hbe
      rcases Nat.mul_eq_zero.mp hbe with h | h
      · exact h
      · omega
    have d1 : (decide (0 < ((b0 : Int), (b1 : Int)).1) && decide (((b0 : Int), (b1 : Int)).1 < ((b0 : Int), (b1 : Int)).2)) = false := by
      subst hb0; simp
    rw [d1]
    have d2 : (if decide (0 < c) = true then (1 : Int) else 0) = 0 := by simp [hc0]
    simp only [Bool.false_eq_true, if_false, Option.bind_some, O.then, d2, need_of z1]
    have ht0 : tree l f s n (2 * c) (f + s) = 0 := by
      rw [hc0]
      exact tree_none l f s hl (by omega) n (f + s) (by omega)
    rw [ht0]
    have hr : redN (Int.toNat 0) (2 ^ n) = (0, 1) := by
      have hp : 0 < 2 ^ n := Nat.pow_pos (by decide)
      show ((((0 : Nat) / Nat.gcd 0 (2 ^ n) : Nat) : Int), ((2 ^ n / Nat.gcd 0 (2 ^ n) : Nat) : Int)) = (0, 1)
      rw [Nat.gcd_zero_left, Nat.zero_div, Nat.div_self hp]
      rfl
    rw [hr]
  · have hcp : 0 < c := by omega
    have hb0 : 0 < b0 := by
      refine Nat.pos_of_ne_zero fun z => ?_
      subst z
      rw [Nat.zero_mul] at hbe
      have h2 : 0 < 2 * c' * L0 * b1 := Nat.mul_pos (Nat.mul_pos (by omega) (by omega)) hb1
      omega
    by_cases hlt : b0 < b1
    · have d1 : (decide (0 < ((b0 : Int), (b1 : Int)).1) && decide (((b0 : Int), (b1 : Int)).1 < ((b0 : Int), (b1 : Int)).2)) = true := by
        simp only [Bool.and_eq_true, decide_eq_true_eq]
        exact ⟨by omega, by omega⟩
      have lim : Lim ((b0 : Int), (b1 : Int)) := ⟨by show (0 : Int) < b0; omega, by show (b0 : Int) < b1; omega, Sm.nat (Nat.lt_of_le_of_lt hble (Nat.lt_of_lt_of_le hXn (Nat.pow_le_pow_right (by decide) (by decide))))⟩
      rw [d1]
      simp only [if_true]
      rw [missed_all _ lim f s (by omega) (by omega) n (by omega), miss_all _ lim f s (by omega) (by omega) n (by omega), htree]
      simp only [Option.bind_some]
      rw [like_self (du_P du_I du_I) rfl]
      simp only [Bool.not_true, Bool.false_eq_true, if_false, Option.bind_some, O.then, need_of z1]
    · have d1 : (decide (0 < ((b0 : Int), (b1 : Int)).1) && decide (((b0 : Int), (b1 : Int)).1 < ((b0 : Int), (b1 : Int)).2)) = false := by
        have : ¬ ((b0 : Int) < (b1 : Int)) := by omega
        simp [this]
      rw [d1]
      have d2 : (if decide (0 < c) = true then (1 : Int) else 0) = 1 := by simp [hcp]
      simp only [Bool.false_eq_true, if_false, Option.bind_some, O.then, d2, need_of z1]
      have hin : within ((b0 : Int), (b1 : Int)) 1 1 := by
        unfold within
        show 1 * (b1 : Int) ≤ 1 * (b0 : Int)
        omega
      have ht1 : tree l f s n (2 * c) (f + s) = 2 ^ n := by
        rw [← htree]
        exact tree_in _ f s n 1 1 hin
      rw [ht1]
      have hp : 0 < 2 ^ n := Nat.pow_pos (by decide)
      have e2 : ((2 : Int) ^ n).toNat = 2 ^ n := by
        have : (2 : Int) ^ n = ((2 ^ n : Nat) : Int) := by simp
        rw [this, Int.toNat_natCast]
      have hr : redN ((2 : Int) ^ n).toNat (2 ^ n) = (1, 1) := by
        rw [e2]
        show (((2 ^ n / Nat.gcd (2 ^ n) (2 ^ n) : Nat) : Int), ((2 ^ n / Nat.gcd (2 ^ n) (2 ^ n) : Nat) : Int)) = (1, 1)
        rw [Nat.gcd_self, Nat.div_self hp]
        rfl
      rw [hr]
theorem rows_right (ps : List Int) (hp : Bits ps) (hps : ps.length ≤ 24) (n : Nat) (hn : n ≤ 40) : law_rows_right_m l f s ps (n : Int) = some true := by
  unfold law_rows_right_m
  rw [need_of (rgS (by omega))]
  obtain ⟨_, e, _⟩ := forO_inv (step := law_rows_right_l1 l f s ps) (fun _ _ => True) (xs := rangeD 0 ((ps.length : Int) + 1)) (s0 := ()) trivial fun i st x hx _ => by
    obtain ⟨h0, h1, h2⟩ := rangeD_get? hx
    rw [Int.zero_add] at h0
    subst h0
    have hc : Pl.cutD ps none (some (i : Int)) = ps.take i := by
      unfold Pl.cutD
      rw [HT.sIx_nat, HT.sIx_none, Nat.min_eq_left (by omega), List.drop_zero, Nat.sub_zero]
    obtain ⟨r1, r2⟩ := rows_told l hl f s (by omega) (by omega) (ps.take i) (fun p hp' => hp p (List.mem_of_mem_take hp')) (by simp; omega)
    unfold law_rows_right_l1
    rw [hc, r1, r2]
    simp only [Option.bind_some, set_eq]
    rw [like_self (du_O du_I) rfl]
    exact ⟨(), rfl, trivial⟩
  rw [e]
  simp only [Option.bind_some, O.then]
  obtain ⟨r1, _⟩ := rows_told l hl f s (by omega) (by omega) ps hp (by omega)
  obtain ⟨_, r2⟩ := rows_told l hl (3 * f) (3 * s) (by omega) (by omega) ps hp (by omega)
  have hsc := reach_scale l 3 f s (by decide) ps 1 1 1 0 (by decide)
  rw [Int.one_mul] at hsc
  rw [hsc] at r2
  rw [r1, r2]
  simp only [Option.bind_some, set_eq]
  rw [like_self (du_O du_I) rfl]
  simp only [Bool.not_true, Bool.false_eq_true, if_false]
  rw [show (n : Int) + 1 = ((n + 1 : Nat) : Int) from rfl, missed_all l hl f s (by omega) (by omega) (n + 1) (by omega), miss_all l hl f s (by omega) (by omega) (n + 1) (by omega), miss_all l hl (3 * f) (3 * s) (by omega) (by omega) (n + 1) (by omega)]
  have ht3 := tree_times l 3 f s (by decide) (n + 1) 1 1 1 (by decide)
  rw [Int.one_mul] at ht3
  rw [ht3]
  simp only [Option.bind_some]
  rw [like_self (du_P du_I du_I) rfl]
  simp only [Bool.not_true, Bool.false_eq_true, if_false]
  rw [forO_two (part_step l hl hl2 f s hf hs n (by omega) f (by omega) [] (by simp)) (part_step l hl hl2 f s hf hs n (by omega) s (by omega) _ (by simp))]
  simp only [Option.bind_some, O.then, List.nil_append, List.cons_append]
  have hA := tree_bound l f s n (2 * f) (f + s)
  have hB := tree_bound l f s n (2 * s) (f + s)
  obtain ⟨A, eA⟩ : ∃ A : Nat, tree l f s n (2 * f) (f + s) = A := ⟨(tree l f s n (2 * f) (f + s)).toNat, by omega⟩
  obtain ⟨B, eB⟩ : ∃ B : Nat, tree l f s n (2 * s) (f + s) = B := ⟨(tree l f s n (2 * s) (f + s)).toNat, by omega⟩
  have hT : tree l f s (n + 1) 1 1 = ((A + B : Nat) : Int) := by
    rw [tree, if_neg (not_in l hl f s (by omega) (by omega))]
    have e1 : (1 : Int) * 2 * f = 2 * f := by omega
    have e2 : (1 : Int) * 2 * s = 2 * s := by omega
    have e3 : (1 : Int) * (f + s) = f + s := by omega
    rw [e1, e2, e3, eA, eB]
    rfl
  rw [hT, eA, eB, Int.toNat_natCast, Int.toNat_natCast, Int.toNat_natCast]
  have hp2 : 0 < 2 ^ n := Nat.pow_pos (by decide)
  obtain ⟨p1, q1, h1, hq1, hpq1, hp1, hq1'⟩ := redN_spec A (2 ^ n) hp2
  obtain ⟨p2, q2, h2, hq2, hpq2, hp2', hq2'⟩ := redN_spec B (2 ^ n) hp2
  rw [h1, h2]
  show need (Pl.MulOk (p1 : Int) (q2 : Int)) (need (Pl.MulOk (p2 : Int) (q1 : Int)) (need (Pl.MulOk (2 * (q1 : Int)) (q2 : Int)) (Option.bind (law_ratio_m ((p1 : Int) * (q2 : Int) + (p2 : Int) * (q1 : Int)) (2 * (q1 : Int) * (q2 : Int))) fun r => some (decide (r = redN (A + B) (2 ^ (n + 1))))))) = some true
  have pn : 2 ^ n < 2 ^ 50 := Nat.pow_lt_pow_right (by decide) (by omega)
  have hAn : A ≤ 2 ^ n := by
    have : ((A : Nat) : Int) ≤ ((2 ^ n : Nat) : Int) := by rw [← eA]; simpa using hA.2
    exact Int.ofNat_le.mp this
  have hBn : B ≤ 2 ^ n := by
    have : ((B : Nat) : Int) ≤ ((2 ^ n : Nat) : Int) := by rw [← eB]; simpa using hB.2
    exact Int.ofNat_le.mp this
  have b1 : Sm 50 (p1 : Int) := Sm.nat (by omega)
  have b2 : Sm 50 (p2 : Int) := Sm.nat (by omega)
  have b3 : Sm 50 (q1 : Int) := Sm.nat (by omega)
  have b4 : Sm 50 (q2 : Int) := Sm.nat (by omega)
  have s2 : Sm 2 (2 : Int) := by unfold Sm; decide
  rw [need_of (mulSm b1 b4 (by omega)), need_of (mulSm b2 b3 (by omega)), need_of (mulSm (s2.mul b3) b4 (by omega))]
  have e1 : (p1 : Int) * (q2 : Int) + (p2 : Int) * (q1 : Int) = ((p1 * q2 + p2 * q1 : Nat) : Int) := by simp
  have e2 : 2 * (q1 : Int) * (q2 : Int) = ((2 * q1 * q2 : Nat) : Int) := by simp
  have hden : 0 < 2 * q1 * q2 := Nat.mul_pos (Nat.mul_pos (by decide) hq1) hq2
  have hdlt : 2 * q1 * q2 < 2 ^ 440 := by
    have : Sm 102 (2 * (q1 : Int) * (q2 : Int)) := (s2.mul b3).mul b4
    rw [e2] at this
    unfold Sm at this
    rw [Int.natAbs_natCast] at this
    exact Nat.lt_of_lt_of_le this (Nat.pow_le_pow_right (by decide) (by decide))
  rw [e1, e2, ratio_red _ _ hden hdlt]
  have hr : redN (p1 * q2 + p2 * q1) (2 * q1 * q2) = redN (A + B) (2 ^ (n + 1)) := redN_eq hden (Nat.pow_pos (by decide)) (by
    rw [Nat.pow_succ]
    calc (p1 * q2 + p2 * q1) * (2 ^ n * 2) = 2 * q2 * (p1 * 2 ^ n) + 2 * q1 * (p2 * 2 ^ n) := by grind
      _ = 2 * q2 * (A * q1) + 2 * q1 * (B * q2) := by rw [hpq1, hpq2]
      _ = (A + B) * (2 * q1 * q2) := by grind)
  rw [hr]
  simp
end

/-! ### chances -/
def ff (n : Nat) : Nat → Nat
  | 0 => 1
  | k + 1 => ff n k * (n - k)
def fact : Nat → Nat
  | 0 => 1
  | k + 1 => (k + 1) * fact k
def bin : Nat → Nat → Nat
  | _, 0 => 1
  | 0, _ + 1 => 0
  | n + 1, k + 1 => bin n k + bin n (k + 1)
theorem fact_pos : ∀ k, 0 < fact k
  | 0 => by decide
  | k + 1 => Nat.mul_pos (Nat.succ_pos k) (fact_pos k)
theorem ff_zero : ∀ (n k : Nat), n < k → ff n k = 0
  | n, 0, h => by omega
  | n, k + 1, h => by
    rw [ff]
    by_cases c : n = k
    · subst c; simp
    · rw [ff_zero n k (by omega), Nat.zero_mul]
theorem ff_pos : ∀ (n k : Nat), k ≤ n → 0 < ff n k
  | n, 0, _ => by show 0 < 1; decide
  | n, k + 1, h => Nat.mul_pos (ff_pos n k (by omega)) (by omega)
theorem ff_succ (n : Nat) : ∀ k, ff (n + 1) (k + 1) = (n + 1) * ff n k
  | 0 => by simp [ff]
  | k + 1 => by
    rw [ff, ff_succ n k, ff, show n + 1 - (k + 1) = n - k by omega, Nat.mul_assoc]
theorem ff_fact (n : Nat) : ∀ a, a ≤ n → ff n a * fact (n - a) = fact n
  | 0, _ => by simp [ff]
  | a + 1, h => by
    rw [ff, ← ff_fact n a (by omega)]
    obtain ⟨m, hm⟩ : ∃ m, n - a = m + 1 := ⟨n - a - 1, by omega⟩
    rw [hm, show n - (a + 1) = m by omega, fact, Nat.mul_assoc]
theorem ff_add (n d : Nat) : ∀ m, ff n (d + m) = ff n d * ff (n - d) m
  | 0 => by simp [ff]
  | m + 1 => by
    rw [← Nat.add_assoc, ff, ff_add n d m, ff, Nat.mul_assoc]
    congr 2
    omega
theorem bin_ff : ∀ n k, bin n k * fact k = ff n k
  | n, 0 => by cases n <;> rfl
  | 0, k + 1 => by rw [bin, ff_zero 0 (k + 1) (by omega), Nat.zero_mul]
  | n + 1, k + 1 => by
    have h1 := bin_ff n k
    have h2 := bin_ff n (k + 1)
    rw [bin, ff_succ, Nat.add_mul, h2, fact, ff]
    rw [show bin n k * ((k + 1) * fact k) = (k + 1) * (bin n k * fact k) by rw [Nat.mul_left_comm], h1]
    rcases Nat.lt_or_ge n k with h | h
    · rw [ff_zero n k h]; simp
    · obtain ⟨m, rfl⟩ : ∃ m, n = k + m := ⟨n - k, by omega⟩
      rw [Nat.add_sub_cancel_left]
      grind
theorem bin_le : ∀ n k, bin n k ≤ 2 ^ n
  | n, 0 => by
    have : bin n 0 = 1 := by cases n <;> rfl
    rw [this]
    exact Nat.one_le_two_pow
  | 0, k + 1 => by rw [bin]; exact Nat.zero_le _
  | n + 1, k + 1 => by
    have h1 := bin_le n k
    have h2 := bin_le n (k + 1)
    rw [bin, Nat.pow_succ]
    omega
theorem bin_pos (n k : Nat) (h : k ≤ n) : 0 < bin n k := by
  refine Nat.pos_of_ne_zero fun z => ?_
  have := bin_ff n k
  rw [z, Nat.zero_mul] at this
  have := ff_pos n k h
  omega
theorem bin_step (n k : Nat) : bin n k * (n - k) / (k + 1) = bin n (k + 1) := by
  refine Nat.div_eq_of_eq_mul_left (Nat.succ_pos k) ?_
  refine Nat.eq_of_mul_eq_mul_right (fact_pos k) ?_
  have h1 := bin_ff n k
  have h2 := bin_ff n (k + 1)
  rw [fact, ff] at h2
  calc bin n k * (n - k) * fact k = bin n k * fact k * (n - k) := by rw [Nat.mul_right_comm]
    _ = ff n k * (n - k) := by rw [h1]
    _ = bin n (k + 1) * ((k + 1) * fact k) := h2.symm
    _ = bin n (k + 1) * (k + 1) * fact k := by rw [Nat.mul_assoc]
theorem choose_ok (n k : Nat) (hn : n ≤ 200) (hk : k ≤ 200) : law_choose_m (n : Int) (k : Int) = some ((bin n k : Nat) : Int) := by
  unfold law_choose_m
  simp only [set_eq]
  rw [need_of (rgS (by omega))]
  obtain ⟨r, e, h⟩ := forS_ex (step := law_choose_l1 (n : Int)) (fun i (st : Int) => st = ((bin n i : Nat) : Int)) (xs := rangeD 0 (k : Int)) (s0 := 1) (by cases n <;> rfl) fun i st x hx hi => by
    obtain ⟨h0, _, h2⟩ := rangeD_get? hx
    rw [Int.zero_add] at h0
    subst h0
    subst hi
    unfold law_choose_l1
    have em : (if (n : Int) - (i : Int) > 0 then (n : Int) - (i : Int) else 0) = ((n - i : Nat) : Int) := by split <;> omega
    rw [em]
    have hs : -(2 ^ 64) < ((n - i : Nat) : Int) ∧ ((n - i : Nat) : Int) < 2 ^ 64 := by omega
    rw [need_of (mulR' hs), need_of (divS (by omega))]
    simp only [set_eq]
    refine ⟨_, rfl, ?_⟩
    rw [← bin_step n i]
    rw [show ((bin n i : Nat) : Int) * ((n - i : Nat) : Int) = ((bin n i * (n - i) : Nat) : Int) from (Int.natCast_mul _ _).symm, show (i : Int) + 1 = ((i + 1 : Nat) : Int) from rfl, ← Int.natCast_ediv]
  have hlen : (rangeD 0 (k : Int)).length = k := by rw [rangeD_length]; omega
  rw [hlen] at h
  rw [e, h]
  rfl
theorem red_zero (b : Nat) (hb : 0 < b) : redN 0 b = (0, 1) := by
  show ((((0 : Nat) / Nat.gcd 0 b : Nat) : Int), ((b / Nat.gcd 0 b : Nat) : Int)) = (0, 1)
  rw [Nat.gcd_zero_left, Nat.zero_div, Nat.div_self hb]
  rfl
theorem ff_sm (n : Nat) (hn : n ≤ 120) : ∀ k, k ≤ 200 → ff n k < 2 ^ (7 * k + 1)
  | 0, _ => by show 1 < 2 ^ 1; decide
  | k + 1, hk => by
    have ih := ff_sm n hn k (by omega)
    rw [ff]
    have h1 : n - k < 2 ^ 7 := by have : (2 : Nat) ^ 7 = 128 := rfl; omega
    calc ff n k * (n - k) < 2 ^ (7 * k + 1) * 2 ^ 7 := Nat.mul_lt_mul'' ih h1
      _ = 2 ^ (7 * (k + 1) + 1) := by rw [← Nat.pow_add]; congr 1
theorem chance_ok (n t d : Nat) (hn : n ≤ 120) (ht : t ≤ n) (hd : d ≤ n) : audit_chance_m (n : Int) (t : Int) (d : Int) = some (redN (ff t d) (ff n d)) := by
  unfold audit_chance_m
  by_cases c : (t : Int) < (d : Int)
  · simp only [c, decide_true, if_true]
    rw [ff_zero t d (by omega), red_zero _ (ff_pos n d hd)]
  · simp only [c, decide_false, Bool.false_eq_true, if_false, set_eq]
    rw [need_of (rgS (by omega))]
    obtain ⟨r, e, h⟩ := forS_ex (step := audit_chance_l1 (n : Int) (t : Int)) (fun i (st : Int × Int) => i ≤ d → st = (((ff t i : Nat) : Int), ((ff n i : Nat) : Int))) (xs := rangeD 0 (d : Int)) (s0 := (1, 1)) (fun _ => rfl) fun i st x hx hi => by
      obtain ⟨h0, _, h2⟩ := rangeD_get? hx
      rw [Int.zero_add] at h0
      subst h0
      rw [hi (by omega)]
      unfold audit_chance_l1
      have e1 : (t : Int) - (i : Int) = ((t - i : Nat) : Int) := by omega
      have e2 : (n : Int) - (i : Int) = ((n - i : Nat) : Int) := by omega
      have hs1 : -(2 ^ 64) < ((t - i : Nat) : Int) ∧ ((t - i : Nat) : Int) < 2 ^ 64 := by omega
      have hs2 : -(2 ^ 64) < ((n - i : Nat) : Int) ∧ ((n - i : Nat) : Int) < 2 ^ 64 := by omega
      simp only [e1, e2, need_of (mulR' (i := ((ff t i : Nat) : Int)) hs1), need_of (mulR' (i := ((ff n i : Nat) : Int)) hs2), set_eq]
      refine ⟨_, rfl, fun _ => ?_⟩
      rw [ff, ff, Int.natCast_mul, Int.natCast_mul]
    have hlen : (rangeD 0 (d : Int)).length = d := by rw [rangeD_length]; omega
    rw [hlen] at h
    rw [e, h (Nat.le_refl _)]
    simp only [Option.bind_some]
    rw [lowest_red _ _ (ff_pos n d hd) (Nat.lt_of_lt_of_le (ff_sm n hn d (by omega)) (Nat.pow_le_pow_right (by decide) (by omega)))]
    rfl
theorem law_chance_ok (n t d : Nat) (hn : n ≤ 120) (ht : t ≤ n) (hd : d ≤ n) : law_chance_m (n : Int) (t : Int) (d : Int) = some (redN (bin t d) (bin n d)) := by
  unfold law_chance_m
  rw [choose_ok t d (by omega) (by omega), choose_ok n d (by omega) (by omega)]
  simp only [Option.bind_some]
  rw [ratio_red _ _ (bin_pos n d hd) (Nat.lt_of_le_of_lt (bin_le n d) (Nat.pow_lt_pow_right (by decide) (by omega)))]
  rfl
theorem red_bin (n t d : Nat) (hd : d ≤ n) : redN (ff t d) (ff n d) = redN (bin t d) (bin n d) :=
  redN_eq (ff_pos n d hd) (bin_pos n d hd) (by rw [← bin_ff t d, ← bin_ff n d]; grind)
theorem red_swap (n t d : Nat) (ht : t ≤ n) (hd : d ≤ n) : redN (ff (n - d) (n - t)) (ff n (n - t)) = redN (bin t d) (bin n d) := by
  rcases Nat.lt_or_ge t d with h | h
  · have z : bin t d = 0 := by
      have := bin_ff t d
      rw [ff_zero t d h] at this
      rcases Nat.mul_eq_zero.mp this with h2 | h2
      · exact h2
      · have := fact_pos d; omega
    rw [ff_zero (n - d) (n - t) (by omega), z, red_zero _ (ff_pos n (n - t) (by omega)), red_zero _ (bin_pos n d hd)]
  · refine redN_eq (ff_pos n (n - t) (by omega)) (bin_pos n d hd) ?_
    have a1 : ff (n - d) (n - t) * fact (t - d) = fact (n - d) := by
      have := ff_fact (n - d) (n - t) (by omega)
      rw [show n - d - (n - t) = t - d by omega] at this
      exact this
    have a2 : ff n (n - t) * fact t = fact n := by
      have := ff_fact n (n - t) (by omega)
      rw [show n - (n - t) = t by omega] at this
      exact this
    have a3 : bin t d * fact d * fact (t - d) = fact t := by rw [bin_ff, ff_fact t d h]
    have a4 : bin n d * fact d * fact (n - d) = fact n := by rw [bin_ff, ff_fact n d hd]
    refine Nat.eq_of_mul_eq_mul_right (Nat.mul_pos (fact_pos (t - d)) (fact_pos d)) ?_
    calc ff (n - d) (n - t) * bin n d * (fact (t - d) * fact d) = (ff (n - d) (n - t) * fact (t - d)) * (bin n d * fact d) := by grind
      _ = bin n d * fact d * fact (n - d) := by rw [a1, Nat.mul_comm]
      _ = ff n (n - t) * fact t := by rw [a4, a2]
      _ = ff n (n - t) * (bin t d * fact d * fact (t - d)) := by rw [a3]
      _ = bin t d * ff n (n - t) * (fact (t - d) * fact d) := by grind
theorem chances_right (n t d m : Nat) (hn : n ≤ 100) (ht : t ≤ n) (hd : d ≤ n) (hm : m ≤ n - d) : law_chances_right_m (n : Int) (t : Int) (d : Int) (m : Int) = some true := by
  unfold law_chances_right_m
  have e1 : (n : Int) - (d : Int) = ((n - d : Nat) : Int) := by omega
  have e2 : (n : Int) - (t : Int) = ((n - t : Nat) : Int) := by omega
  rw [law_chance_ok n t d (by omega) ht hd]
  simp only [Option.bind_some, set_eq]
  rw [chance_ok n t d (by omega) ht hd, e1, e2, chance_ok n (n - d) (n - t) (by omega) (by omega) (by omega), red_swap n t d ht hd, red_bin n t d hd]
  simp only [Option.bind_some]
  rw [like_self (du_P du_I du_I) rfl]
  simp only [Bool.not_true, Bool.false_eq_true, if_false, Option.bind_some]
  by_cases c : (decide ((t : Int) < (d : Int)) || decide ((d : Int) = (n : Int))) = true
  · rw [if_pos c]
  · rw [if_neg c]
    have ctd : d ≤ t := by
      refine Nat.le_of_not_lt fun z => c ?_
      have : (t : Int) < (d : Int) := by omega
      simp [this]
    have e3 : (t : Int) - (d : Int) = ((t - d : Nat) : Int) := by omega
    rw [e3, law_chance_ok (n - d) (t - d) m (by omega) (by omega) hm, chance_ok (n - d) (t - d) m (by omega) (by omega) hm, red_bin (n - d) (t - d) m hm]
    simp only [Option.bind_some]
    rw [like_self (du_P du_I du_I) rfl]
    simp only [Bool.not_true, Bool.false_eq_true, if_false]
    rw [show (d : Int) + (m : Int) = ((d + m : Nat) : Int) from rfl, chance_ok n t (d + m) (by omega) ht (by omega)]
    simp only [Option.bind_some]
    obtain ⟨p1, q1, h1, hq1, hpq1, hp1, hq1'⟩ := redN_spec (bin t d) (bin n d) (bin_pos n d hd)
    obtain ⟨p2, q2, h2, hq2, hpq2, hp2, hq2'⟩ := redN_spec (bin (t - d) m) (bin (n - d) m) (bin_pos (n - d) m hm)
    rw [h1, h2]
    show need (Pl.MulOk (p1 : Int) (p2 : Int)) (need (Pl.MulOk (q1 : Int) (q2 : Int)) (Option.bind (law_ratio_m ((p1 : Int) * (p2 : Int)) ((q1 : Int) * (q2 : Int))) fun r => some (likeD (eP eI eI (redN (ff t (d + m)) (ff n (d + m)))) (eP eI eI r)))) = some true
    have big : ∀ a b : Nat, a ≤ 100 → bin a b < 2 ^ 101 := fun a b ha => Nat.lt_of_le_of_lt (bin_le a b) (Nat.pow_lt_pow_right (by decide) (by omega))
    have b1 : Sm 101 (p1 : Int) := Sm.nat (Nat.lt_of_le_of_lt hp1 (big t d (by omega)))
    have b2 : Sm 101 (p2 : Int) := Sm.nat (Nat.lt_of_le_of_lt hp2 (big (t - d) m (by omega)))
    have b3 : Sm 101 (q1 : Int) := Sm.nat (Nat.lt_of_le_of_lt hq1' (big n d (by omega)))
    have b4 : Sm 101 (q2 : Int) := Sm.nat (Nat.lt_of_le_of_lt hq2' (big (n - d) m (by omega)))
    rw [need_of (mulSm b1 b2 (by omega)), need_of (mulSm b3 b4 (by omega))]
    have e4 : (p1 : Int) * (p2 : Int) = ((p1 * p2 : Nat) : Int) := by simp
    have e5 : (q1 : Int) * (q2 : Int) = ((q1 * q2 : Nat) : Int) := by simp
    have hden : q1 * q2 < 2 ^ 440 := by
      have := b3.mul b4
      rw [e5] at this
      unfold Sm at this
      rw [Int.natAbs_natCast] at this
      exact Nat.lt_of_lt_of_le this (Nat.pow_le_pow_right (by decide) (by decide))
    rw [e4, e5, ratio_red _ _ (Nat.mul_pos hq1 hq2) hden]
    simp only [Option.bind_some]
    refine congrArg some (like_self (du_P du_I du_I) ?_)
    refine redN_eq (ff_pos n (d + m) (by omega)) (Nat.mul_pos hq1 hq2) ?_
    rw [ff_add, ff_add, ← bin_ff t d, ← bin_ff n d, ← bin_ff (t - d) m, ← bin_ff (n - d) m]
    calc bin t d * fact d * (bin (t - d) m * fact m) * (q1 * q2) = (bin t d * q1) * (bin (t - d) m * q2) * (fact d * fact m) := by grind
      _ = (p1 * bin n d) * (p2 * bin (n - d) m) * (fact d * fact m) := by rw [hpq1, hpq2]
      _ = p1 * p2 * (bin n d * fact d * (bin (n - d) m * fact m)) := by grind

/-! ### the law -/
theorem lim_of (l : Int × Int) (a b : Nat) (h : l = redN a b) (ha : 0 < a) (hab : a < b) (hb : b < 2 ^ 100) : Lim l ∧ Sm 150 l.2 := by
  obtain ⟨p, q, h1, hq, hpq, hp, hq'⟩ := redN_spec a b (by omega)
  rw [h1] at h
  subst h
  have hq2 : q < 2 ^ 100 := Nat.lt_of_le_of_lt hq' hb
  have hp0 : 0 < p := by
    refine Nat.pos_of_ne_zero fun z => ?_
    subst z
    rw [Nat.zero_mul] at hpq
    have := Nat.mul_pos ha hq
    omega
  have hpq2 : p < q := by
    refine Nat.lt_of_not_le fun z => ?_
    have h2 : q * b ≤ p * b := Nat.mul_le_mul_right b z
    have h3 : a * q < b * q := Nat.mul_lt_mul_of_pos_right hab hq
    rw [hpq, Nat.mul_comm q b] at h2
    omega
  exact ⟨⟨by show (0 : Int) < p; omega, by show (p : Int) < q; omega, (Sm.nat hq2).up (by decide)⟩, (Sm.nat hq2).up (by decide)⟩
theorem tops_loop (f s : Int) (hf : 1 ≤ f ∧ f ≤ 200) (hs : 0 ≤ s ∧ s ≤ 200) (n : Nat) (hn : n ≤ 8) (h1 : 1 ≤ n) : ∃ a b : Nat, forS (law_l2 f s) (rangeD 0 (n : Int)) (1, 1) = some ((a : Int), (b : Int)) ∧ 0 < b ∧ (f ≠ s → b < a) ∧ a < 2 ^ 80 := by
  let m : Int := if s > f then s else f
  have hm : 1 ≤ m ∧ m ≤ 200 ∧ f + s ≤ 2 * m ∧ (f ≠ s → f + s < 2 * m) := by
    show 1 ≤ (if s > f then s else f) ∧ (if s > f then s else f) ≤ 200 ∧ f + s ≤ 2 * (if s > f then s else f) ∧ (f ≠ s → f + s < 2 * (if s > f then s else f))
    split <;> omega
  obtain ⟨r, e, h⟩ := forS_ex (step := law_l2 f s) (fun i (st : Int × Int) => i ≤ n → ∃ a b : Nat, st = ((a : Int), (b : Int)) ∧ 0 < b ∧ b ≤ a ∧ (0 < i → f ≠ s → b < a) ∧ a ≤ 400 ^ i) (xs := rangeD 0 (n : Int)) (s0 := (1, 1)) (fun _ => ⟨1, 1, rfl, by decide, by decide, fun h => by omega, by decide⟩) fun i st x hx hi => by
    obtain ⟨h0, _, h2⟩ := rangeD_get? hx
    rw [Int.zero_add] at h0
    have hin : i < n := by omega
    obtain ⟨a, b, rfl, hb, ha0, hab, ha⟩ := hi (by omega)
    obtain ⟨m', hm'⟩ : ∃ m' : Nat, m = m' := ⟨m.toNat, by omega⟩
    obtain ⟨t, ht⟩ : ∃ t : Nat, f + s = t := ⟨(f + s).toNat, by omega⟩
    unfold law_l2
    have g1 : Pl.MulOk ((a : Int) * 2) (if s > f then s else f) := mulR' (by have := hm.1; have := hm.2.1; show -(2 ^ 64) < m ∧ m < 2 ^ 64; omega)
    have g2 : Pl.MulOk (b : Int) (f + s) := mulR' (by omega)
    simp only [need_of g1, need_of g2, set_eq]
    refine ⟨_, rfl, fun _ => ⟨a * 2 * m', b * t, ?_, Nat.mul_pos hb (by omega), ?_, fun _ hne => ?_, ?_⟩⟩
    · refine Prod.ext ?_ ?_
      · show (a : Int) * 2 * m = ((a * 2 * m' : Nat) : Int)
        rw [hm']; simp
      · show (b : Int) * (f + s) = ((b * t : Nat) : Int)
        rw [ht]; simp
    · have h3 : t ≤ 2 * m' := by have := hm.2.2.1; omega
      calc b * t ≤ a * (2 * m') := Nat.mul_le_mul ha0 h3
        _ = a * 2 * m' := by rw [Nat.mul_assoc]
    · have h3 : t < 2 * m' := by have := hm.2.2.2 hne; omega
      calc b * t < b * (2 * m') := Nat.mul_lt_mul_of_pos_left h3 hb
        _ ≤ a * (2 * m') := Nat.mul_le_mul_right _ ha0
        _ = a * 2 * m' := by rw [Nat.mul_assoc]
    · rw [Nat.pow_succ, Nat.mul_assoc]
      exact Nat.mul_le_mul ha (by omega)
  have hlen : (rangeD 0 (n : Int)).length = n := by rw [rangeD_length]; omega
  rw [hlen] at h
  obtain ⟨a, b, h2, hb, _, hab, ha⟩ := h (Nat.le_refl _)
  refine ⟨a, b, by rw [e, h2], hb, hab (by omega), ?_⟩
  have : 400 ^ n ≤ 400 ^ 8 := Nat.pow_le_pow_right (by decide) hn
  have : (400 : Nat) ^ 8 < 2 ^ 80 := by decide
  omega
theorem within_up (l : Int × Int) (hl : Lim l) (i : Nat) (h : within l (2 ^ i) 1) : within l (2 ^ (i + 1)) 1 := by
  unfold within at *
  have h0 := hl.p0
  rw [Int.pow_succ]
  have : 0 ≤ 2 ^ i * l.1 := Int.mul_nonneg (Int.le_of_lt (Int.pow_pos (by decide))) (Int.le_of_lt h0)
  have e : 2 ^ i * 2 * l.1 = 2 ^ i * l.1 + 2 ^ i * l.1 := by grind
  omega

theorem l3_step (f s : Int) (hf : 1 ≤ f ∧ f ≤ 300) (hs : 0 ≤ s ∧ s ≤ 300) (n : Nat) (hn : n ≤ 40) (ps : List Int) (hp : Bits ps) (hps : ps.length ≤ 24) (a b : Nat) (hb : 0 < b) (hab : f ≠ s → b < a) (ha : a < 2 ^ 80) (x : Int) (hx : x = 0 ∨ x = 1 ∨ x = -1) : law_l3 f s (n : Int) ps ((a : Int), (b : Int)) () x = some (.nx ()) := by
  unfold law_l3
  by_cases c : f = s
  · simp [c]
  · have hlt := hab c
    obtain ⟨u, hu⟩ : ∃ u : Nat, 7 * (b : Int) + x = u := ⟨(7 * (b : Int) + x).toNat, by omega⟩
    have hv : 7 * (a : Int) = ((7 * a : Nat) : Int) := by simp
    have hv2 : 7 * a < 2 ^ 100 := by
      have : (7 : Nat) * 2 ^ 80 < 2 ^ 100 := by decide
      omega
    have er : law_ratio_m (7 * (b : Int) + x) (7 * (a : Int)) = some (redN u (7 * a)) := by
      rw [hu, hv]
      exact ratio_red _ _ (by omega) (Nat.lt_of_lt_of_le hv2 (Nat.pow_le_pow_right (by decide) (by decide)))
    obtain ⟨l1, l2⟩ := lim_of (redN u (7 * a)) u (7 * a) rfl (by omega) (by omega) hv2
    have d : decide (f ≠ s) = true := decide_eq_true c
    simp only [d, if_true]
    rw [er]
    simp only [Option.bind_some]
    rw [rows_right _ l1 l2 f s hf hs ps hp hps n hn]
    rfl
theorem forO_three {S α β : Type} {step : S → α → Option (O S β)} {a b c : α} {s : S} (h1 : step s a = some (.nx s)) (h2 : step s b = some (.nx s)) (h3 : step s c = some (.nx s)) : forO step [a, b, c] s = some (.nx s) := by
  show (step s a).bind _ = _
  rw [h1]
  show (step s b).bind _ = _
  rw [h2]
  show (step s c).bind _ = _
  rw [h3]
  rfl
theorem zeros24 : (repL [(0 : Int)] 24) = List.replicate 24 0 := by decide
theorem stops_part (f s : Int) (hf : 1 ≤ f ∧ f ≤ 300) (hs : 0 ≤ s ∧ s ≤ 300) (l : Int × Int) (hl : Lim l) (h24 : within l (2 ^ 24) 1) :
    ∃ st : Option Int, law_stop_m (f + s) l = some st ∧ forO (law_l1 l st) [(f, s), (s, f), ((f + s), 0)] () = some (.nx ()) ∧
      ∃ tl : Option Int, law_reached_m l 1 0 (repL [(0 : Int)] 24) = some tl ∧ audit_row_m l (f + s) 0 (repL [(0 : Int)] 24) = some tl ∧ (Option.bind st fun u1 => Option.bind tl fun u2 => some (decide (u2 < u1))) = some false := by
  obtain ⟨b, hb⟩ : ∃ b : Nat, f + s = b := ⟨(f + s).toNat, by omega⟩
  obtain ⟨D, hD, hmin, h1, h2⟩ := stops b (by omega) (by omega) l hl
  rw [hb]
  refine ⟨some (D : Int), h1, forO_three ?_ ?_ ?_, ?_⟩
  · unfold law_l1
    rw [h2 f s hb]
    simp only [Option.bind_some]
    rw [like_self (du_O du_I) rfl]
    rfl
  · unfold law_l1
    rw [h2 s f (by omega)]
    simp only [Option.bind_some]
    rw [like_self (du_O du_I) rfl]
    rfl
  · unfold law_l1
    rw [h2 (b : Int) 0 (by omega)]
    simp only [Option.bind_some]
    rw [like_self (du_O du_I) rfl]
    rfl
  · have hz : Bits (List.replicate 24 (0 : Int)) := fun p hp => .inl (List.eq_of_mem_replicate hp)
    obtain ⟨r1, _⟩ := rows_told l hl 1 0 (by omega) (by omega) _ hz (by simp)
    obtain ⟨_, r2⟩ := rows_told l hl (b : Int) 0 (by omega) (by omega) _ hz (by simp)
    obtain ⟨T, hT, hw⟩ := reach_zeros l 24 0 (.inr rfl) h24 (by omega) (within_up l hl)
    have hT' : reachN l 1 0 (List.replicate 24 0) 1 1 0 = some T := hT
    have hsc := reach_scale l (b : Int) 1 0 (by omega) (List.replicate 24 0) 1 1 1 0 (by decide)
    rw [Int.mul_one, Int.mul_zero, Int.one_mul] at hsc
    rw [hsc, hT'] at r2
    rw [hT'] at r1
    rw [zeros24]
    refine ⟨_, r1, r2, ?_⟩
    have hDT := stop_le b l hl D T hD hmin hw
    show some (decide ((T : Int) < (D : Int))) = some false
    have : ¬ ((T : Int) < (D : Int)) := by omega
    simp [this]
theorem last_part (row : List Int) (hl : row.length = 48) (hr : ∀ x ∈ row, 0 ≤ x ∧ x < 1000003) : (Option.bind (idx row 8) fun x19 => (Option.bind (idx row 9) fun x20 => need (0 < ((1 + (x19 % 100)) + 1)) <| Option.bind (idx row 10) fun x21 => (Option.bind (idx row 6) fun x22 => need (0 < (((1 + (x19 % 100)) - (x21 % ((1 + (x19 % 100)) + 1))) + 1)) <| Option.bind (law_chances_right_m (1 + (x19 % 100)) (x20 % ((1 + (x19 % 100)) + 1)) (x21 % ((1 + (x19 % 100)) + 1)) (x22 % (((1 + (x19 % 100)) - (x21 % ((1 + (x19 % 100)) + 1))) + 1))) fun law_ch1 => some law_ch1))) = some true := by
  have ix : ∀ c : Int, 0 ≤ c → c < 48 → idx row c = some (gI row c) := fun c h0 h1 => idx_in h0 (by omega)
  rw [ix 8 (by omega) (by omega), ix 9 (by omega) (by omega), ix 10 (by omega) (by omega), ix 6 (by omega) (by omega)]
  simp only [Option.bind_some]
  obtain ⟨n, hn⟩ : ∃ n : Nat, 1 + gI row 8 % 100 = n := ⟨(1 + gI row 8 % 100).toNat, by omega⟩
  rw [hn]
  have h1 := Int.emod_nonneg (gI row 9) (show ((n : Int) + 1) ≠ 0 by omega)
  have h2 := Int.emod_lt_of_pos (gI row 9) (show 0 < ((n : Int) + 1) by omega)
  have h3 := Int.emod_nonneg (gI row 10) (show ((n : Int) + 1) ≠ 0 by omega)
  have h4 := Int.emod_lt_of_pos (gI row 10) (show 0 < ((n : Int) + 1) by omega)
  obtain ⟨t, ht⟩ : ∃ t : Nat, gI row 9 % ((n : Int) + 1) = t := ⟨(gI row 9 % ((n : Int) + 1)).toNat, by omega⟩
  obtain ⟨d, hd⟩ : ∃ d : Nat, gI row 10 % ((n : Int) + 1) = d := ⟨(gI row 10 % ((n : Int) + 1)).toNat, by omega⟩
  rw [ht, hd]
  have h5 := Int.emod_nonneg (gI row 6) (show ((n : Int) - (d : Int) + 1) ≠ 0 by omega)
  have h6 := Int.emod_lt_of_pos (gI row 6) (show 0 < ((n : Int) - (d : Int) + 1) by omega)
  obtain ⟨m, hm⟩ : ∃ m : Nat, gI row 6 % ((n : Int) - (d : Int) + 1) = m := ⟨(gI row 6 % ((n : Int) - (d : Int) + 1)).toNat, by omega⟩
  rw [hm, need_of (by omega), need_of (by omega), chances_right n t d m (by omega) (by omega) (by omega) (by omega)]
  rfl
theorem bind3 {β : Type} {A : Option Int} {B C : Int → Option Int} {K : Int → Option β} {r : β} (s : Int) (h : (A.bind fun j1 => (B j1).bind fun j2 => C j2) = some s) (hK : K s = some r) : (A.bind fun j1 => (B j1).bind fun j2 => (C j2).bind K) = some r := by
  cases A with
  | none => cases h
  | some a =>
    show ((B a).bind fun j2 => (C j2).bind K) = some r
    have h1 : ((B a).bind fun j2 => C j2) = some s := h
    cases e : B a with
    | none => rw [e] at h1; cases h1
    | some b =>
      rw [e] at h1
      show (C b).bind K = some r
      have h2 : C b = some s := h1
      rw [h2]
      exact hK
theorem bind1 {α β : Type} {A : Option α} {K : α → Option β} {r : β} (s : α) (h : A = some s) (hK : K s = some r) : A.bind K = some r := by
  rw [h]
  exact hK
theorem law_true : ∀ ns : List Int, ns.length ≤ 63 → law_m ns = some true := by
  intro ns _
  obtain ⟨row, e, hl, hr⟩ := row_ok ns 48 (by omega)
  have e' : law_row_m ns 48 = some row := e
  have ix : ∀ c : Int, 0 ≤ c → c < 48 → idx row c = some (gI row c) := fun c h0 h1 => idx_in h0 (by omega)
  unfold law_m
  rw [e']
  simp only [Option.bind_some, set_eq, ix 0 (by omega) (by omega), ix 1 (by omega) (by omega), ix 5 (by omega) (by omega), ix 2 (by omega) (by omega), ix 3 (by omega) (by omega), ix 4 (by omega) (by omega), ix 7 (by omega) (by omega), ix 12 (by omega) (by omega), ix 13 (by omega) (by omega), ix 11 (by omega) (by omega)]
  obtain ⟨f, hf⟩ : ∃ f : Int, 1 + gI row 0 % 200 = f := ⟨_, rfl⟩
  rw [hf]
  -- the second count
  have hj : ∃ s : Int, 0 ≤ s ∧ s ≤ 200 ∧ (Option.bind (if decide (gI row 5 % 4 = 0) = true then some (0 : Int) else some (gI row 1 % 200)) fun j1 => Option.bind (if decide (gI row 5 % 4 = 1) = true then some f else some j1) fun j2 => (if decide (gI row 5 % 4 = 2) = true then need (0 < f + 1) (some (gI row 1 % (f + 1))) else some j2)) = some s := by
    have h1 := Int.emod_nonneg (gI row 1) (show (f + 1) ≠ 0 by omega)
    have h2 := Int.emod_lt_of_pos (gI row 1) (show 0 < (f + 1) by omega)
    by_cases c0 : gI row 5 % 4 = 0
    · exact ⟨0, by omega, by omega, by simp [c0]⟩
    · by_cases c1 : gI row 5 % 4 = 1
      · exact ⟨f, by omega, by omega, by simp [c1]⟩
      · by_cases c2 : gI row 5 % 4 = 2
        · exact ⟨gI row 1 % (f + 1), by omega, by omega, by simp [c2, need_of (show 0 < f + 1 by omega)]⟩
        · exact ⟨gI row 1 % 200, by omega, by omega, by simp [c0, c1, c2]⟩
  obtain ⟨s, hs0, hs1, hs⟩ := hj
  refine bind3 s hs ?_
  obtain ⟨u, hu⟩ : ∃ u : Nat, 2 + gI row 2 % 1000 = u := ⟨(2 + gI row 2 % 1000).toNat, by omega⟩
  rw [hu, need_of (show 0 < (u : Int) - 1 by omega)]
  have h1 := Int.emod_nonneg (gI row 3) (show ((u : Int) - 1) ≠ 0 by omega)
  have h2 := Int.emod_lt_of_pos (gI row 3) (show 0 < ((u : Int) - 1) by omega)
  obtain ⟨a, ha⟩ : ∃ a : Nat, 1 + gI row 3 % ((u : Int) - 1) = a := ⟨(1 + gI row 3 % ((u : Int) - 1)).toNat, by omega⟩
  have hu1 : u ≤ 1001 := by omega
  have up : u < 2 ^ 100 := Nat.lt_of_le_of_lt hu1 (by decide)
  rw [ha, ratio_red a u (by omega) (Nat.lt_of_lt_of_le up (Nat.pow_le_pow_right (by decide) (by decide)))]
  simp only [Option.bind_some]
  have hlim : ∃ l : Int × Int, (if decide (gI row 4 % 3 = 1) = true then need (CPow 2 (gI row 3 % 20)) (some ((1 : Int), (2 : Int) * 2 ^ Int.toNat (gI row 3 % 20))) else some (redN a u)) = some l ∧ Lim l ∧ Sm 150 l.2 ∧ within l (2 ^ 24) 1 := by
    by_cases c : gI row 4 % 3 = 1
    · obtain ⟨k, hk⟩ : ∃ k : Nat, gI row 3 % 20 = k := ⟨(gI row 3 % 20).toNat, by omega⟩
      have cp : CPow 2 (k : Int) := ⟨by omega, by omega, by decide⟩
      have hk20 : k ≤ 19 := by omega
      have hp : 2 ^ k ≤ 2 ^ 19 := Nat.pow_le_pow_right (by decide) hk20
      have hp0 : 0 < 2 ^ k := Nat.pow_pos (by decide)
      have e2 : (2 : Int) * 2 ^ k = ((2 * 2 ^ k : Nat) : Int) := by simp
      have h19 : (2 : Nat) ^ 19 = 524288 := rfl
      refine ⟨(1, ((2 * 2 ^ k : Nat) : Int)), ?_, ⟨by show (0 : Int) < 1; decide, ?_, ?_⟩, ?_, ?_⟩
      · simp only [c, decide_true, if_true, hk, need_of cp, Int.toNat_natCast, e2]
      · show (1 : Int) < ((2 * 2 ^ k : Nat) : Int)
        omega
      · refine Sm.nat ?_
        have : (1048577 : Nat) < 2 ^ 200 := by decide
        omega
      · refine Sm.nat ?_
        have : (1048577 : Nat) < 2 ^ 150 := by decide
        omega
      · unfold within
        show 1 * ((2 * 2 ^ k : Nat) : Int) ≤ 2 ^ 24 * 1
        have : (2 : Int) ^ 24 = 16777216 := rfl
        omega
    · obtain ⟨l1, l2⟩ := lim_of (redN a u) a u rfl (by omega) (by omega) up
      refine ⟨redN a u, by simp [c], l1, l2, ?_⟩
      obtain ⟨p, q, h3, hq, _, _, hq'⟩ := redN_spec a u (by omega)
      have hp0 := l1.p0
      rw [h3] at hp0 ⊢
      unfold within
      show 1 * (q : Int) ≤ 2 ^ 24 * (p : Int)
      have hp1 : (0 : Int) < p := hp0
      have : (2 : Int) ^ 24 = 16777216 := rfl
      omega
  obtain ⟨l, hl1, lim, lsm, l24⟩ := hlim
  refine bind1 l hl1 ?_
  obtain ⟨st, hst, hfor, tl, ht1, ht2, hle⟩ := stops_part f s (by omega) (by omega) l lim l24
  rw [hst]
  simp only [Option.bind_some]
  rw [hfor]
  simp only [Option.bind_some, O.then]
  have z24 : RepTOk ([(0 : Int)]).length 24 := by unfold RepTOk; simp
  simp only [need_of z24, ht1, ht2, Option.bind_some]
  rw [like_self (du_O du_I) rfl]
  simp only [Bool.not_true, Bool.false_eq_true, if_false]
  rw [hle]
  simp only [Option.bind_some, Bool.false_eq_true, if_false]
  obtain ⟨n, hn⟩ : ∃ n : Nat, gI row 7 % 20 = n := ⟨(gI row 7 % 20).toNat, by omega⟩
  obtain ⟨w, hw⟩ : ∃ w : Nat, gI row 13 % 25 = w := ⟨(gI row 13 % 25).toNat, by omega⟩
  rw [hn, hw, need_of (rgS (by omega))]
  have hp12 : 0 < 1 + gI row 12 % 4 + 1 := by omega
  have mp : mapO (fun z1 : Int => (Option.bind (idx row (14 + z1)) fun x15 => need (0 < 1 + gI row 12 % 4 + 1) <| some (if decide (x15 % (1 + gI row 12 % 4 + 1) = 0) = true then (1 : Int) else 0))) (rangeD 0 (w : Int)) = some ((List.range w).map fun (i : Nat) => if decide (gI row (14 + (i : Int)) % (1 + gI row 12 % 4 + 1) = 0) = true then (1 : Int) else 0) := mapO_range w _ fun i hi => by
    rw [ix _ (by omega) (by omega), Option.bind_some, need_of hp12]
  rw [mp]
  simp only [Option.bind_some]
  have hbits : Bits ((List.range w).map fun (i : Nat) => if decide (gI row (14 + (i : Int)) % (1 + gI row 12 % 4 + 1) = 0) = true then (1 : Int) else 0) := forall_map_range fun i hi => by split <;> simp
  rw [rows_right l lim lsm f s (by omega) (by omega) _ hbits (by simp; omega) n (by omega)]
  simp only [Option.bind_some, Bool.not_true, Bool.false_eq_true, if_false]
  obtain ⟨m, hm⟩ : ∃ m : Nat, 1 + gI row 11 % 8 = m := ⟨(1 + gI row 11 % 8).toNat, by omega⟩
  rw [hm, need_of (rgS (by omega))]
  obtain ⟨ta, tb, htop, hb, hab, hta⟩ := tops_loop f s (by omega) (by omega) m (by omega) (by omega)
  rw [htop]
  simp only [Option.bind_some]
  have st3 := fun x hx => l3_step f s (by omega) (by omega) n (by omega) _ hbits (by simp; omega) ta tb hb hab hta x hx
  rw [forO_three (st3 0 (.inl rfl)) (st3 1 (.inr (.inl rfl))) (st3 (-1) (.inr (.inr rfl)))]
  simp only [Option.bind_some, O.then]
  exact last_part row hl hr
/-! ### the text -/
def topS (i : Nat) : Stmt := PySem.Challenge.pw_sealskept_k39_whole_draws_of_ballots.main.body.getD i (.Pass ⟨0, 0, 0, 0⟩)
structure Facts (G : Gb) : Prop where
  f_divisor : At G "divisor" (defArgs (topS 1)) (defBody (topS 1)) (defScope (topS 1)) ["first", "second"]
  f_lowest : At G "lowest" (defArgs (topS 2)) (defBody (topS 2)) (defScope (topS 2)) ["a", "b"]
  f_audit_stop : At G "audit_stop" (defArgs (topS 4)) (defBody (topS 4)) (defScope (topS 4)) ["first", "second", "limit"]
  f_audit_chance : At G "audit_chance" (defArgs (topS 5)) (defBody (topS 5)) (defScope (topS 5)) ["n", "truly", "draws"]
  f_is_reached : At G "is_reached" (defArgs (topS 6)) (defBody (topS 6)) (defScope (topS 6)) ["limit", "above", "below"]
  f_audit_row : At G "audit_row" (defArgs (topS 7)) (defBody (topS 7)) (defScope (topS 7)) ["limit", "first", "second", "row"]
  f_audit_miss : At G "audit_miss" (defArgs (topS 8)) (defBody (topS 8)) (defScope (topS 8)) ["limit", "first", "second", "n"]
  f_law_mixed : At G "_law_mixed" (defArgs (topS 10)) (defBody (topS 10)) (defScope (topS 10)) ["script", "k"]
  f_law_row : At G "_law_row" (defArgs (topS 11)) (defBody (topS 11)) (defScope (topS 11)) ["script", "many"]
  f_law_is_int : At G "_law_is_int" (defArgs (topS 12)) (defBody (topS 12)) (defScope (topS 12)) ["value"]
  f_law_like : At G "_law_like" (defArgs (topS 13)) (defBody (topS 13)) (defScope (topS 13)) ["value", "due"]
  f_law_common : At G "_law_common" (defArgs (topS 14)) (defBody (topS 14)) (defScope (topS 14)) ["first", "second"]
  f_law_ratio : At G "_law_ratio" (defArgs (topS 15)) (defBody (topS 15)) (defScope (topS 15)) ["a", "b"]
  f_law_choose : At G "_law_choose" (defArgs (topS 16)) (defBody (topS 16)) (defScope (topS 16)) ["n", "k"]
  f_law_chance : At G "_law_chance" (defArgs (topS 17)) (defBody (topS 17)) (defScope (topS 17)) ["n", "truly", "draws"]
  f_law_chances_right : At G "_law_chances_right" (defArgs (topS 18)) (defBody (topS 18)) (defScope (topS 18)) ["n", "truly", "draws", "more"]
  f_law_stop : At G "_law_stop" (defArgs (topS 19)) (defBody (topS 19)) (defScope (topS 19)) ["ballots", "limit"]
  f_law_reached : At G "_law_reached" (defArgs (topS 20)) (defBody (topS 20)) (defScope (topS 20)) ["limit", "first", "second", "plans"]
  f_law_missed : At G "_law_missed" (defArgs (topS 21)) (defBody (topS 21)) (defScope (topS 21)) ["limit", "first", "second", "n"]
  f_law_rows_right : At G "_law_rows_right" (defArgs (topS 22)) (defBody (topS 22)) (defScope (topS 22)) ["limit", "first", "second", "plans", "n"]
  f_law : At G "law" (defArgs (topS 23)) (defBody (topS 23)) (defScope (topS 23)) ["script"]
  b_isinstance : G.mg "isinstance" = none
  b_int : G.mg "int" = none
  b_bool : G.mg "bool" = none
  b_tuple : G.mg "tuple" = none
  b_str : G.mg "str" = none
  b_all : G.mg "all" = none
  b_len : G.mg "len" = none
  b_range : G.mg "range" = none
  b_abs : G.mg "abs" = none
  b_enumerate : G.mg "enumerate" = none
  b_zip : G.mg "zip" = none
  b_max : G.mg "max" = none
/-! the law's comparer -/
def C_is : SC := ⟨["value"], defScope (topS 12), fun _ => true⟩
theorem FS_is : FnScope C_is.N ["value"] (defScope (topS 12)) := ⟨rfl, rfl, rfl, by decide +kernel, rfl, by decide +kernel, by decide +kernel⟩
def isIntD : PyData → Bool
  | .int _ => true
  | _ => false
theorem g_is_isi : Gn C_is "isinstance" := gn (by decide +kernel)
theorem g_is_int : Gn C_is "int" := gn (by decide +kernel)
theorem g_is_bool : Gn C_is "bool" := gn (by decide +kernel)
theorem n_is_v : Nm C_is 0 "value" := nm (by decide +kernel)
theorem ok_isint {G : Gb} (T : Facts G) (v : PyData) : Fn G 1 "_law_is_int" [v] (.bool (isIntD v)) := by
  refine fn_def T.f_law_is_int FS_is rfl (r := .rt (.bool (isIntD v))) ?_ .rt
  show Blk G C_is _ [some (.sh v)] _ _
  cases v with
  | int i => exact blk_ret (st_ret (ev_andT (cIs g_is_isi T.b_isinstance g_is_int T.b_int bb_int (Ev.toB (vr 0 n_is_v rfl)) (show kitB "int" "int" = some true by decide +kernel) (fun _ => rfl)) (ev_one (ev_notB (t := false) (cIs g_is_isi T.b_isinstance g_is_bool T.b_bool bb_bool (Ev.toB (vr 0 n_is_v rfl)) (show kitB "int" "bool" = some false by decide +kernel) (fun _ => rfl))))))
  | bool b => exact blk_ret (st_ret (ev_andT (cIs g_is_isi T.b_isinstance g_is_int T.b_int bb_int (Ev.toB (vr 0 n_is_v rfl)) (show kitB "bool" "int" = some true by decide +kernel) (fun _ => rfl)) (ev_one (ev_notB (t := true) (cIs g_is_isi T.b_isinstance g_is_bool T.b_bool bb_bool (Ev.toB (vr 0 n_is_v rfl)) (show kitB "bool" "bool" = some true by decide +kernel) (fun _ => rfl))))))
  | none => exact blk_ret (st_ret (ev_andF (cIs g_is_isi T.b_isinstance g_is_int T.b_int bb_int (Ev.toB (vr 0 n_is_v rfl)) (show kitB "NoneType" "int" = some false by decide +kernel) (fun _ => rfl))))
  | str s => exact blk_ret (st_ret (ev_andF (cIs g_is_isi T.b_isinstance g_is_int T.b_int bb_int (Ev.toB (vr 0 n_is_v rfl)) (show kitB "str" "int" = some false by decide +kernel) (fun _ => rfl))))
  | list s => exact blk_ret (st_ret (ev_andF (cIs g_is_isi T.b_isinstance g_is_int T.b_int bb_int (Ev.toB (vr 0 n_is_v rfl)) (show kitB "list" "int" = some false by decide +kernel) (fun _ => rfl))))
  | tuple s => exact blk_ret (st_ret (ev_andF (cIs g_is_isi T.b_isinstance g_is_int T.b_int bb_int (Ev.toB (vr 0 n_is_v rfl)) (show kitB "tuple" "int" = some false by decide +kernel) (fun _ => rfl))))
  | dict s => exact blk_ret (st_ret (ev_andF (cIs g_is_isi T.b_isinstance g_is_int T.b_int bb_int (Ev.toB (vr 0 n_is_v rfl)) (show kitB "dict" "int" = some false by decide +kernel) (fun _ => rfl))))
def C_lk : SC := ⟨["value", "due", "k"], defScope (topS 13), fun _ => true⟩
theorem FS_lk : FnScope C_lk.N ["value", "due"] (defScope (topS 13)) := ⟨rfl, rfl, rfl, by decide +kernel, rfl, by decide +kernel, by decide +kernel⟩
theorem g_lk_isi : Gn C_lk "isinstance" := gn (by decide +kernel)
theorem g_lk_bool : Gn C_lk "bool" := gn (by decide +kernel)
theorem g_lk_tuple : Gn C_lk "tuple" := gn (by decide +kernel)
theorem g_lk_str : Gn C_lk "str" := gn (by decide +kernel)
theorem g_lk_len : Gn C_lk "len" := gn (by decide +kernel)
theorem g_lk_all : Gn C_lk "all" := gn (by decide +kernel)
theorem g_lk_range : Gn C_lk "range" := gn (by decide +kernel)
theorem g_lk_is : Gn C_lk "_law_is_int" := gn (by decide +kernel)
theorem n_lk_v : Nm C_lk 0 "value" := nm (by decide +kernel)
theorem n_lk_d : Nm C_lk 1 "due" := nm (by decide +kernel)
theorem ty_of {d : PyData} {T : String} (h : tyD d = T) {b : Bool} {U : String} (q : kitB T U = some b) : kitB (tyD d) U = some b := h ▸ q
theorem lk_if {G : Gb} {k : Nat} (T : Facts G) {ρ : PEnv} {e : Expr} {d : PyData} {x : Str} {U : String} {p1 p2 p3 : Pos} {b : Bool} (h : EvB G C_lk k ρ e d) (g : Gn C_lk x) (m : G.mg x = none) (bb : bootBuiltins x = some (.type U)) (q : kitB (tyD d) U = some b) (hs : ∀ env, starEach [e, .Name x p2] env = (false, eval e env) :: starEach [.Name x p2] env) : Te G C_lk k ρ (.Call (.Name "isinstance" p1) [e, .Name x p2] [] p3) b := te_val (Ev.toB (cIs g_lk_isi T.b_isinstance g m bb h q hs)) (fun _ _ => rfl)
theorem like_ty {v : PyData} {U : String} (h : tyD v ≠ U) (hU : U = "bool" ∨ U = "tuple" ∨ U = "str") : kitB (tyD v) U = some false := by
  rcases hU with rfl | rfl | rfl <;> cases v <;> first | exact absurd rfl h | (simp only [tyD]; decide +kernel)
theorem lk_row {G : Gb} {n : Nat} (ih : ∀ (due v : PyData), dueOk due = true → due.depth ≤ n → Fn G (n + 2) "_law_like" [v, due] (.bool (likeD v due))) : ∀ (vs ds : List PyData), vs.length = ds.length → dueA ds = true → PyData.depthAll ds ≤ n → ∀ (i : Nat) (v d : PyData), vs[i]? = some v → ds[i]? = some d → Fn G (n + 2) "_law_like" [v, d] (.bool (likeD v d))
  | [], _, _, _, _, i, v, d, h1, _ => by cases h1
  | _ :: _, [], h, _, _, _, _, _, _, _ => by cases h
  | x :: vs, y :: ds, h, ho, hd, 0, v, d, h1, h2 => by
    cases h1; cases h2
    exact ih _ _ (and_l ho) (Nat.le_trans (Nat.le_max_left _ _) hd)
  | x :: vs, y :: ds, h, ho, hd, i + 1, v, d, h1, h2 => lk_row ih vs ds (Nat.succ.inj h) (and_r ho) (Nat.le_trans (Nat.le_max_right _ _) hd) i v d h1 h2
section
variable {G : Gb} {k : Nat} {v due : PyData}
abbrev lkE (v due : PyData) : PEnv := [some (.sh v), some (.sh due), none]
theorem lk_v : Ev G C_lk k (lkE v due) (.Name "value" p) v := vr 0 n_lk_v rfl
theorem lk_d : Ev G C_lk k (lkE v due) (.Name "due" p) due := vr 1 n_lk_d rfl
end
theorem lk_body {G : Gb} (T : Facts G) (n : Nat) (ih : ∀ m, m < n → ∀ (due v : PyData), dueOk due = true → due.depth ≤ m → Fn G (m + 2) "_law_like" [v, due] (.bool (likeD v due))) (due v : PyData) (ho : dueOk due = true) (hd : due.depth ≤ n) :
    Blk G C_lk (n + 1) (lkE v due) (defBody (topS 13)) (.rt (.bool (likeD v due))) := by
  cases due with
  | none => exact blk_ret (st_ifT (te_cmp ok_is (Ev.toB lk_d) (Ev.toB ev_none) rfl) (blk_one (st_ret (ev_cmp (ok_is (d := v)) (Ev.toB lk_v) (Ev.toB ev_none) rfl))))
  | bool b =>
    refine blk_cons (ρ1 := lkE v (.bool b)) (st_ifF (te_cmp ok_is (Ev.toB lk_d) (Ev.toB ev_none) rfl) blk_nil) ?_
    refine blk_ret (st_ifT (lk_if T (Ev.toB lk_d) g_lk_bool T.b_bool bb_bool (show kitB "bool" "bool" = some true by decide +kernel) (fun _ => rfl)) (blk_one (st_ret ?_)))
    have no : tyD v ≠ "bool" → likeD v (.bool b) = false := fun h => by cases v <;> first | rfl | exact absurd rfl h
    by_cases hv : tyD v = "bool"
    · cases v with
      | bool c => exact ev_andT (cIs g_lk_isi T.b_isinstance g_lk_bool T.b_bool bb_bool (Ev.toB lk_v) (show kitB "bool" "bool" = some true by decide +kernel) (fun _ => rfl)) (ev_one (ev_cmp ok_eqB (Ev.toB lk_v) (Ev.toB lk_d) rfl))
      | _ => exact absurd hv (by simp [tyD])
    · rw [no hv]
      exact ev_andF (cIs g_lk_isi T.b_isinstance g_lk_bool T.b_bool bb_bool (Ev.toB lk_v) (like_ty hv (.inl rfl)) (fun _ => rfl))
  | int j =>
    refine blk_cons (ρ1 := lkE v (.int j)) (st_ifF (te_cmp ok_is (Ev.toB lk_d) (Ev.toB ev_none) rfl) blk_nil) ?_
    refine blk_cons (ρ1 := lkE v (.int j)) (st_ifF (lk_if T (Ev.toB lk_d) g_lk_bool T.b_bool bb_bool (show kitB "int" "bool" = some false by decide +kernel) (fun _ => rfl)) blk_nil) ?_
    refine blk_cons (ρ1 := lkE v (.int j)) (st_ifF (lk_if T (Ev.toB lk_d) g_lk_tuple T.b_tuple bb_tuple (show kitB "int" "tuple" = some false by decide +kernel) (fun _ => rfl)) blk_nil) ?_
    refine blk_cons (ρ1 := lkE v (.int j)) (st_ifF (lk_if T (Ev.toB lk_d) g_lk_str T.b_str bb_str (show kitB "int" "str" = some false by decide +kernel) (fun _ => rfl)) blk_nil) ?_
    refine blk_ret (st_ret ?_)
    have hi := ok_isint T v
    have le : 1 ≤ n + 1 := Nat.le_add_left 1 n
    have no : isIntD v = false → likeD v (.int j) = false := fun h => by cases v <;> first | rfl | cases h
    cases hv : isIntD v with
    | true =>
      rw [hv] at hi
      cases v with
      | int i => exact ev_andT (cF g_lk_is hi le (ea_cons lk_v ea_nil (fun _ => rfl)) (fun _ => rfl) (fun _ => rfl)) (ev_one (ev_cmp ok_eqI (Ev.toB lk_v) (Ev.toB lk_d) rfl))
      | _ => cases hv
    | false =>
      rw [hv] at hi
      rw [no hv]
      exact ev_andF (cF g_lk_is hi le (ea_cons lk_v ea_nil (fun _ => rfl)) (fun _ => rfl) (fun _ => rfl))
  | str x =>
    refine blk_cons (ρ1 := lkE v (.str x)) (st_ifF (te_cmp ok_is (Ev.toB lk_d) (Ev.toB ev_none) rfl) blk_nil) ?_
    refine blk_cons (ρ1 := lkE v (.str x)) (st_ifF (lk_if T (Ev.toB lk_d) g_lk_bool T.b_bool bb_bool (show kitB "str" "bool" = some false by decide +kernel) (fun _ => rfl)) blk_nil) ?_
    refine blk_cons (ρ1 := lkE v (.str x)) (st_ifF (lk_if T (Ev.toB lk_d) g_lk_tuple T.b_tuple bb_tuple (show kitB "str" "tuple" = some false by decide +kernel) (fun _ => rfl)) blk_nil) ?_
    refine blk_ret (st_ifT (lk_if T (Ev.toB lk_d) g_lk_str T.b_str bb_str (show kitB "str" "str" = some true by decide +kernel) (fun _ => rfl)) (blk_one (st_ret ?_)))
    have no : tyD v ≠ "str" → likeD v (.str x) = false := fun h => by cases v <;> first | rfl | exact absurd rfl h
    by_cases hv : tyD v = "str"
    · cases v with
      | str c => exact ev_andT (cIs g_lk_isi T.b_isinstance g_lk_str T.b_str bb_str (Ev.toB lk_v) (show kitB "str" "str" = some true by decide +kernel) (fun _ => rfl)) (ev_one (ev_cmp ok_eqS (Ev.toB lk_v) (Ev.toB lk_d) rfl))
      | _ => exact absurd hv (by simp [tyD])
    · rw [no hv]
      exact ev_andF (cIs g_lk_isi T.b_isinstance g_lk_str T.b_str bb_str (Ev.toB lk_v) (like_ty hv (.inr (.inr rfl))) (fun _ => rfl))
  | list ds => cases ho
  | dict ds => cases ho
  | tuple ds =>
    refine blk_cons (ρ1 := lkE v (.tuple ds)) (st_ifF (te_cmp ok_is (Ev.toB lk_d) (Ev.toB ev_none) rfl) blk_nil) ?_
    refine blk_cons (ρ1 := lkE v (.tuple ds)) (st_ifF (lk_if T (Ev.toB lk_d) g_lk_bool T.b_bool bb_bool (show kitB "tuple" "bool" = some false by decide +kernel) (fun _ => rfl)) blk_nil) ?_
    refine blk_ret (st_ifT (lk_if T (Ev.toB lk_d) g_lk_tuple T.b_tuple bb_tuple (show kitB "tuple" "tuple" = some true by decide +kernel) (fun _ => rfl)) ?_)
    have no : tyD v ≠ "tuple" → likeD v (.tuple ds) = false := fun h => by cases v <;> first | rfl | exact absurd rfl h
    by_cases hv : tyD v = "tuple"
    · cases v with
      | tuple vs =>
        have tv : Te G C_lk (n + 1) (lkE (.tuple vs) (.tuple ds)) _ true := lk_if T (p1 := ⟨0, 0, 0, 0⟩) (p2 := ⟨0, 0, 0, 0⟩) (p3 := ⟨0, 0, 0, 0⟩) (Ev.toB (lk_v (p := ⟨0, 0, 0, 0⟩))) g_lk_tuple T.b_tuple bb_tuple (show kitB "tuple" "tuple" = some true by decide +kernel) (fun _ => rfl)
        clear tv
        by_cases hl : vs.length = ds.length
        · have e : decide ((vs.length : Int) ≠ (ds.length : Int)) = false := decide_eq_false fun z => z (by rw [hl])
          refine blk_cons (ρ1 := lkE (.tuple vs) (.tuple ds)) (st_ifF (Tw.te (tw_orF (te_not (t := true) (lk_if T (Ev.toB lk_v) g_lk_tuple T.b_tuple bb_tuple (show kitB "tuple" "tuple" = some true by decide +kernel) (fun _ => rfl))) (tw_or1 (Te.to (te_cmp (ok_neI (i := (vs.length : Int)) (j := (ds.length : Int))) (Ev.toB (cB g_lk_len T.b_len bb_len (ok_len rfl) (eab_cons (Ev.toB lk_v) eab_nil (fun _ => rfl)) (fun _ => rfl) (fun _ => rfl))) (Ev.toB (cB g_lk_len T.b_len bb_len (ok_len rfl) (eab_cons (Ev.toB lk_d) eab_nil (fun _ => rfl)) (fun _ => rfl) (fun _ => rfl))) rfl) e)))) blk_nil) ?_
          have el : likeD (.tuple vs) (.tuple ds) = ((rangeD 0 (ds.length : Int)).map (likeI vs ds)).all id := by
            show (decide (vs.length = ds.length) && likeA vs ds) = _
            rw [decide_eq_true hl, likeA_I hl]; rfl
          rw [el]
          have h1 : PyData.depthAll ds + 1 ≤ n := hd
          obtain ⟨m, rfl⟩ : ∃ m, n = m + 1 := ⟨n - 1, by omega⟩
          refine blk_bd (f := id) (xs := ds) 1 (.inl (by rw [show eT id ds = .tuple ds from congrArg PyData.tuple (List.map_id ds)]; rfl)) fun hz => ?_
          · have hr : RgO 0 (ds.length : Int) := by unfold RgO; omega
            refine blk_ret (st_ret (cB g_lk_all T.b_all bb_all (ok_allL _) (eab_cons (Ev.toB (EvN.ev (nLc [("k", 2)] (by decide +kernel) (It'.toB (iR1 g_lk_range T.b_range (Ev.toB (cB g_lk_len T.b_len bb_len (ok_len rfl) (eab_cons (Ev.toB lk_d) eab_nil (fun _ => rfl)) (fun _ => rfl) (fun _ => rfl))) hr (fun _ => rfl))) (lcr_mapM (ea := eI) (eb := eB) (likeI vs ds) (rangeD 0 (ds.length : Int)) ?_) (zz_rg hr (len_m _ _)) (fun _ _ => rfl)))) eab_nil (fun _ => rfl)) (fun _ => rfl) (fun _ => rfl)))
            intro x hx
            obtain ⟨x0, x1⟩ := rangeD_mem hx
            obtain ⟨i, rfl⟩ := Int.eq_ofNat_of_zero_le x0
            have hi : i < ds.length := by omega
            have q1 : vs[i]? = some vs[i] := List.getElem?_eq_getElem (by omega)
            have q2 : ds[i]? = some ds[i] := List.getElem?_eq_getElem hi
            have hlk := lk_row (ih m (Nat.lt_succ_self m)) vs ds hl ho (by omega) i _ _ q1 q2
            have e3 : likeI vs ds (i : Int) = likeD vs[i] ds[i] := by
              unfold likeI
              rw [Int.toNat_natCast, q1, q2]
            rw [e3]
            refine step_one (by decide) (tN 2 (nms (by decide +kernel))) (cF (gn (by decide +kernel)) hlk (by omega) (ea_cons (ev_ixT (Ev.toB (vr 0 (nm (by decide +kernel)) rfl)) (Ev.toB (vr 2 (nm (by decide +kernel)) rfl)) (atI_nat q1) (fun _ _ => rfl)) (ea_cons (ev_ixT (Ev.toB (vr 1 (nm (by decide +kernel)) rfl)) (Ev.toB (vr 2 (nm (by decide +kernel)) rfl)) (atI_nat q2) (fun _ _ => rfl)) ea_nil (fun _ => rfl)) (fun _ => rfl)) (fun _ => rfl) (fun _ => rfl))
        · have e : decide ((vs.length : Int) ≠ (ds.length : Int)) = true := decide_eq_true fun z => hl (by omega)
          have e2 : likeD (.tuple vs) (.tuple ds) = false := by
            show (decide (vs.length = ds.length) && likeA vs ds) = false
            rw [decide_eq_false hl]; rfl
          rw [e2]
          exact blk_ret (st_ifT (Tw.te (tw_orF (te_not (t := true) (lk_if T (Ev.toB lk_v) g_lk_tuple T.b_tuple bb_tuple (show kitB "tuple" "tuple" = some true by decide +kernel) (fun _ => rfl))) (tw_or1 (Te.to (te_cmp (ok_neI (i := (vs.length : Int)) (j := (ds.length : Int))) (Ev.toB (cB g_lk_len T.b_len bb_len (ok_len rfl) (eab_cons (Ev.toB lk_v) eab_nil (fun _ => rfl)) (fun _ => rfl) (fun _ => rfl))) (Ev.toB (cB g_lk_len T.b_len bb_len (ok_len rfl) (eab_cons (Ev.toB lk_d) eab_nil (fun _ => rfl)) (fun _ => rfl) (fun _ => rfl))) rfl) e)))) (blk_one (st_ret ev_bool)))
      | _ => exact absurd hv (by simp [tyD])
    · rw [no hv]
      exact blk_ret (st_ifT (Tw.te (tw_orT (te_not (t := false) (lk_if T (Ev.toB lk_v) g_lk_tuple T.b_tuple bb_tuple (like_ty hv (.inr (.inl rfl))) (fun _ => rfl))))) (blk_one (st_ret ev_bool)))
theorem ok_like {G : Gb} (T : Facts G) : ∀ (n : Nat) (due v : PyData), dueOk due = true → due.depth ≤ n → Fn G (n + 2) "_law_like" [v, due] (.bool (likeD v due)) := fun n => by
  induction n using Nat.strongRecOn with
  | ind n ih =>
    intro due v ho hd
    refine fn_def T.f_law_like FS_lk rfl (r := .rt (.bool (likeD v due))) ?_ .rt
    show Blk G C_lk _ [some (.sh v), some (.sh due), none] _ _
    exact lk_body T n ih due v ho hd

abbrev LV_divisor : Nat := 1
abbrev LW_divisor : Nat := 2
def C_divisor : SC := ⟨["first", "second"], defScope (topS 1), fun _ => true⟩
theorem FS_divisor : FnScope C_divisor.N ["first", "second"] (defScope (topS 1)) := ⟨rfl, rfl, rfl, by decide +kernel, rfl, by decide +kernel, by decide +kernel⟩
theorem g_divisor_abs : Gn C_divisor "abs" := gn (by decide +kernel)
theorem n_divisor_first : Nm C_divisor 0 "first" := nm (by decide +kernel)
theorem n_divisor_second : Nm C_divisor 1 "second" := nm (by decide +kernel)
theorem l_divisor_first : NmL C_divisor 0 "first" := nml (by decide +kernel)
theorem l_divisor_second : NmL C_divisor 1 "second" := nml (by decide +kernel)
theorem ok_divisor {G : Gb} (T : Facts G) {first1 : Int} {second1 : Int} {r : Int} (h : divisor_m first1 second1 = some r) : Fn G LW_divisor "divisor" [eI first1, eI second1] (eI r) := by
  unfold divisor_m at h
  refine fn_def T.f_divisor FS_divisor rfl (r := .rt (eI r)) ?_ .rt
  show Blk G C_divisor _ [some (.sh (eI first1)), some (.sh (eI second1))] _ _
  obtain ⟨first2, hfirst2, h⟩ := set_ex h
  obtain ⟨second2, hsecond2, h⟩ := set_ex h
  refine blk_cons (ρ1 := [some (.sh (eI first2)), some (.sh (eI second2))]) (st_par (i := 0) (j := 1) l_divisor_first.hi l_divisor_second.hi (by decide) l_divisor_first.hl l_divisor_second.hl (Ev.s (Ev.to (cB g_divisor_abs T.b_abs bb_abs (ok_abs (i := first1)) (eab_cons (Ev.toB (vr 0 n_divisor_first rfl)) eab_nil (fun _ => rfl)) (fun _ => rfl) (fun _ => rfl)) (congrArg eI hfirst2))) (Ev.s (Ev.to (cB g_divisor_abs T.b_abs bb_abs (ok_abs (i := second1)) (eab_cons (Ev.toB (vr 1 n_divisor_second rfl)) eab_nil (fun _ => rfl)) (fun _ => rfl) (fun _ => rfl)) (congrArg eI hsecond2))) (fun env h => swp_sc env h (by kernel_rfl)) (fun _ => rfl) (fun _ => rfl) (fun _ => rfl)) ?_
  obtain ⟨s2, hs2, h⟩ := bind_ex h
  refine blk_cons (ρ1 := [some (.sh (eI s2.1)), some (.sh (eI s2.2))]) (st_while (while_s (R := (fun (s1 : (Int × Int)) => ([some (.sh (eI s1.1)), some (.sh (eI s1.2))] : PEnv))) (cd := (divisor_c1)) (step := (divisor_b2)) ?_ ?_ _ _ _ hs2)) ?_
  · intro s1 t h
    unfold divisor_c1 at h
    have h := Option.some.inj h
    subst h
    exact (te_cmp (ok_gt (i := s1.2) (j := 0)) (Ev.toB (vr 1 n_divisor_second rfl)) (Ev.toB ev_int) rfl)
  · intro s1 o h
    unfold divisor_b2 at h
    obtain ⟨hn2, h⟩ := need_ex h
    obtain ⟨first3, hfirst3, h⟩ := set_ex h
    obtain ⟨second3, hsecond3, h⟩ := set_ex h
    refine blk_cons (ρ1 := [some (.sh (eI first3)), some (.sh (eI second3))]) (st_par (i := 0) (j := 1) l_divisor_first.hi l_divisor_second.hi (by decide) l_divisor_first.hl l_divisor_second.hl (Ev.s (Ev.to (vr 1 n_divisor_second rfl) (congrArg eI hfirst3))) (Ev.s (Ev.to (ev_op (ok_mod hn2) (Ev.toB (vr 0 n_divisor_first rfl)) (Ev.toB (vr 1 n_divisor_second rfl))) (congrArg eI hsecond3))) (fun env h => swp_sc env h (by kernel_rfl)) (fun _ => rfl) (fun _ => rfl) (fun _ => rfl)) ?_
    have h := Option.some.inj h
    subst h
    exact Blk.out blk_nil (.nx (.keep (.keep .nil)))
  · have h := Option.some.inj h
    subst h
    exact blk_ret (st_ret (vr 0 n_divisor_first rfl))
abbrev LV_lowest : Nat := 3
abbrev LW_lowest : Nat := 4
def C_lowest : SC := ⟨["a", "b", "common"], defScope (topS 2), fun _ => true⟩
theorem FS_lowest : FnScope C_lowest.N ["a", "b"] (defScope (topS 2)) := ⟨rfl, rfl, rfl, by decide +kernel, rfl, by decide +kernel, by decide +kernel⟩
theorem n_lowest_b : Nm C_lowest 1 "b" := nm (by decide +kernel)
theorem g_lowest_divisor : Gn C_lowest "divisor" := gn (by decide +kernel)
theorem n_lowest_a : Nm C_lowest 0 "a" := nm (by decide +kernel)
theorem s_lowest_common : NmS C_lowest 2 "common" := nms (by decide +kernel)
theorem n_lowest_common : Nm C_lowest 2 "common" := nm (by decide +kernel)
theorem ok_lowest {G : Gb} (T : Facts G) {a1 : Int} {b1 : Int} {r : (Int × Int)} (h : lowest_m a1 b1 = some r) : Fn G LW_lowest "lowest" [eI a1, eI b1] ((eP eI eI) r) := by
  unfold lowest_m at h
  refine fn_def T.f_lowest FS_lowest rfl (r := .rt ((eP eI eI) r)) ?_ .rt
  show Blk G C_lowest _ [some (.sh (eI a1)), some (.sh (eI b1)), none] _ _
  obtain ⟨c1, hc1, h⟩ := bind_ex h
  obtain ⟨common1, hcommon1, h⟩ := set_ex h
  refine blk_cons (ρ1 := [some (.sh (eI a1)), some (.sh (eI b1)), some (.sh (eI common1))]) (sSet (d := eI common1) 2 s_lowest_common (Ev.to (ev_ifO (E := eI) hc1 (te_cmp (ok_gt (i := b1) (j := 0)) (Ev.toB (vr 1 n_lowest_b rfl)) (Ev.toB ev_int) rfl) (fun h => by (obtain ⟨diviso3, hdiviso3, h⟩ := bind_ex h; have h := Option.some.inj h; subst h; exact (cF g_lowest_divisor (ok_divisor T hdiviso3) (by decide : LW_divisor ≤ LV_lowest) (ea_cons (vr 0 n_lowest_a rfl) (ea_cons (vr 1 n_lowest_b rfl) ea_nil (fun _ => rfl)) (fun _ => rfl)) (fun _ => rfl) (fun _ => rfl)))) (fun h => by (obtain ⟨diviso4, hdiviso4, h⟩ := bind_ex h; have h := Option.some.inj h; subst h; exact (ev_un ok_neg (Ev.toB (cF g_lowest_divisor (ok_divisor T hdiviso4) (by decide : LW_divisor ≤ LV_lowest) (ea_cons (vr 0 n_lowest_a rfl) (ea_cons (vr 1 n_lowest_b rfl) ea_nil (fun _ => rfl)) (fun _ => rfl)) (fun _ => rfl) (fun _ => rfl))))))) (congrArg eI hcommon1)) (fun _ _ => rfl)) ?_
  obtain ⟨hn1, h⟩ := need_ex h
  obtain ⟨hn2, h⟩ := need_ex h
  have h := Option.some.inj h
  subst h
  exact blk_ret (st_ret (ev_tup (ea_cons (ev_op (ok_fdiv hn1) (Ev.toB (vr 0 n_lowest_a rfl)) (Ev.toB (vr 2 n_lowest_common rfl))) (ea_cons (ev_op (ok_fdiv hn2) (Ev.toB (vr 1 n_lowest_b rfl)) (Ev.toB (vr 2 n_lowest_common rfl))) ea_nil (fun _ => rfl)) (fun _ => rfl)) (le_sz (by decide : 2 ≤ 100000))))
abbrev LV_audit_stop : Nat := 1
abbrev LW_audit_stop : Nat := 2
def C_audit_stop : SC := ⟨["first", "second", "limit", "ballots", "truly", "above", "below", "draws"], defScope (topS 4), fun _ => true⟩
theorem FS_audit_stop : FnScope C_audit_stop.N ["first", "second", "limit"] (defScope (topS 4)) := ⟨rfl, rfl, rfl, by decide +kernel, rfl, by decide +kernel, by decide +kernel⟩
theorem n_audit_stop_first : Nm C_audit_stop 0 "first" := nm (by decide +kernel)
theorem n_audit_stop_second : Nm C_audit_stop 1 "second" := nm (by decide +kernel)
theorem s_audit_stop_ballots : NmS C_audit_stop 3 "ballots" := nms (by decide +kernel)
theorem n_audit_stop_ballots : Nm C_audit_stop 3 "ballots" := nm (by decide +kernel)
theorem s_audit_stop_truly : NmS C_audit_stop 4 "truly" := nms (by decide +kernel)
theorem s_audit_stop_above : NmS C_audit_stop 5 "above" := nms (by decide +kernel)
theorem s_audit_stop_below : NmS C_audit_stop 6 "below" := nms (by decide +kernel)
theorem s_audit_stop_draws : NmS C_audit_stop 7 "draws" := nms (by decide +kernel)
theorem n_audit_stop_above : Nm C_audit_stop 5 "above" := nm (by decide +kernel)
theorem n_audit_stop_limit : Nm C_audit_stop 2 "limit" := nm (by decide +kernel)
theorem n_audit_stop_below : Nm C_audit_stop 6 "below" := nm (by decide +kernel)
theorem n_audit_stop_draws : Nm C_audit_stop 7 "draws" := nm (by decide +kernel)
theorem n_audit_stop_truly : Nm C_audit_stop 4 "truly" := nm (by decide +kernel)
theorem ok_audit_stop {G : Gb} (T : Facts G) {first1 : Int} {second1 : Int} {limit1 : (Int × Int)} {r : (Option Int)} (h : audit_stop_m first1 second1 limit1 = some r) : Fn G LW_audit_stop "audit_stop" [eI first1, eI second1, (eP eI eI) limit1] ((eO eI) r) := by
  unfold audit_stop_m at h
  refine fn_def T.f_audit_stop FS_audit_stop rfl (r := .rt ((eO eI) r)) ?_ .rt
  show Blk G C_audit_stop _ [some (.sh (eI first1)), some (.sh (eI second1)), some (.sh ((eP eI eI) limit1)), none, none, none, none, none] _ _
  obtain ⟨ballots1, hballots1, h⟩ := set_ex h
  refine blk_cons (ρ1 := [some (.sh (eI first1)), some (.sh (eI second1)), some (.sh ((eP eI eI) limit1)), some (.sh (eI ballots1)), none, none, none, none]) (sSet (d := eI ballots1) 3 s_audit_stop_ballots (Ev.to (ev_op ok_add (Ev.toB (vr 0 n_audit_stop_first rfl)) (Ev.toB (vr 1 n_audit_stop_second rfl))) (congrArg eI hballots1)) (fun _ _ => rfl)) ?_
  obtain ⟨truly1, htruly1, h⟩ := set_ex h
  refine blk_cons (ρ1 := [some (.sh (eI first1)), some (.sh (eI second1)), some (.sh ((eP eI eI) limit1)), some (.sh (eI ballots1)), some (.sh (eI truly1)), none, none, none]) (sSet (d := eI truly1) 4 s_audit_stop_truly (Ev.to (ev_op (ok_fdiv (div_c (by decide))) (Ev.toB (vr 3 n_audit_stop_ballots rfl)) (Ev.toB ev_int)) (congrArg eI htruly1)) (fun _ _ => rfl)) ?_
  obtain ⟨above1, habove1, h⟩ := set_ex h
  refine blk_cons (ρ1 := [some (.sh (eI first1)), some (.sh (eI second1)), some (.sh ((eP eI eI) limit1)), some (.sh (eI ballots1)), some (.sh (eI truly1)), some (.sh (eI above1)), none, none]) (sSet (d := eI above1) 5 s_audit_stop_above (Ev.to ev_int (congrArg eI habove1)) (fun _ _ => rfl)) ?_
  obtain ⟨below1, hbelow1, h⟩ := set_ex h
  refine blk_cons (ρ1 := [some (.sh (eI first1)), some (.sh (eI second1)), some (.sh ((eP eI eI) limit1)), some (.sh (eI ballots1)), some (.sh (eI truly1)), some (.sh (eI above1)), some (.sh (eI below1)), none]) (sSet (d := eI below1) 6 s_audit_stop_below (Ev.to ev_int (congrArg eI hbelow1)) (fun _ _ => rfl)) ?_
  obtain ⟨draws1, hdraws1, h⟩ := set_ex h
  refine blk_cons (ρ1 := [some (.sh (eI first1)), some (.sh (eI second1)), some (.sh ((eP eI eI) limit1)), some (.sh (eI ballots1)), some (.sh (eI truly1)), some (.sh (eI above1)), some (.sh (eI below1)), some (.sh (eI draws1))]) (sSet (d := eI draws1) 7 s_audit_stop_draws (Ev.to ev_int (congrArg eI hdraws1)) (fun _ _ => rfl)) ?_
  obtain ⟨o1, ho1, h⟩ := bind_ex h
  refine blk_any (st_while (while_o (R := (fun (s1 : (Int × Int × Int)) => ([some (.sh (eI first1)), some (.sh (eI second1)), some (.sh ((eP eI eI) limit1)), some (.sh (eI ballots1)), some (.sh (eI truly1)), some (.sh (eI s1.1)), some (.sh (eI s1.2.1)), some (.sh (eI s1.2.2))] : PEnv))) (E := (eO eI)) (cd := (audit_stop_c1 limit1)) (step := (audit_stop_b2 ballots1 truly1)) ?_ ?_ _ _ _ ho1)) ?_
  · intro s1 t h
    unfold audit_stop_c1 at h
    obtain ⟨hn1, h⟩ := need_ex h
    obtain ⟨hn2, h⟩ := need_ex h
    have h := Option.some.inj h
    subst h
    exact (te_cmp (ok_gt (i := (s1.1 * limit1.2)) (j := (limit1.1 * s1.2.1))) (Ev.toB (ev_op (ok_mul hn1) (Ev.toB (vr 5 n_audit_stop_above rfl)) (Ev.toB (ev_ixT (d := eI limit1.2) (Ev.toB (vr 2 n_audit_stop_limit rfl)) (Ev.toB ev_int) rfl (fun _ _ => rfl))))) (Ev.toB (ev_op (ok_mul hn2) (Ev.toB (ev_ixT (d := eI limit1.1) (Ev.toB (vr 2 n_audit_stop_limit rfl)) (Ev.toB ev_int) rfl (fun _ _ => rfl))) (Ev.toB (vr 6 n_audit_stop_below rfl)))) rfl)
  · intro s1 o h
    unfold audit_stop_b2 at h
    refine blk_ifx h (te_cmp (ok_ge (i := s1.2.2) (j := ballots1)) (Ev.toB (vr 7 n_audit_stop_draws rfl)) (Ev.toB (vr 3 n_audit_stop_ballots rfl)) rfl) ?_ ?_
    · intro h
      have h := Option.some.inj h
      subst h
      exact blkx_ret (st_ret ev_none)
    · intro h
      obtain ⟨hn4, h⟩ := need_ex h
      obtain ⟨above2, habove2, h⟩ := set_ex h
      refine blk_cons (ρ1 := [some (.sh (eI first1)), some (.sh (eI second1)), some (.sh ((eP eI eI) limit1)), some (.sh (eI ballots1)), some (.sh (eI truly1)), some (.sh (eI above2)), some (.sh (eI s1.2.1)), some (.sh (eI s1.2.2))]) (sSet (d := eI above2) 5 s_audit_stop_above (Ev.to (ev_op (ok_mul hn4) (Ev.toB (vr 5 n_audit_stop_above rfl)) (Ev.toB (ev_op ok_sub (Ev.toB (vr 4 n_audit_stop_truly rfl)) (Ev.toB (vr 7 n_audit_stop_draws rfl))))) (congrArg eI habove2)) (fun _ _ => rfl)) ?_
      obtain ⟨hn6, h⟩ := need_ex h
      obtain ⟨below2, hbelow2, h⟩ := set_ex h
      refine blk_cons (ρ1 := [some (.sh (eI first1)), some (.sh (eI second1)), some (.sh ((eP eI eI) limit1)), some (.sh (eI ballots1)), some (.sh (eI truly1)), some (.sh (eI above2)), some (.sh (eI below2)), some (.sh (eI s1.2.2))]) (sSet (d := eI below2) 6 s_audit_stop_below (Ev.to (ev_op (ok_mul hn6) (Ev.toB (vr 6 n_audit_stop_below rfl)) (Ev.toB (ev_op ok_sub (Ev.toB (vr 3 n_audit_stop_ballots rfl)) (Ev.toB (vr 7 n_audit_stop_draws rfl))))) (congrArg eI hbelow2)) (fun _ _ => rfl)) ?_
      obtain ⟨draws2, hdraws2, h⟩ := set_ex h
      refine blk_cons (ρ1 := [some (.sh (eI first1)), some (.sh (eI second1)), some (.sh ((eP eI eI) limit1)), some (.sh (eI ballots1)), some (.sh (eI truly1)), some (.sh (eI above2)), some (.sh (eI below2)), some (.sh (eI draws2))]) (sAug (d := eI draws2) 7 s_audit_stop_draws rfl (Ev.toB ev_int) (OpOk.to (ok_iadd (i := s1.2.2) (j := 1)) (congrArg eI hdraws2))) ?_
      have h := Option.some.inj h
      subst h
      exact Blk.out blk_nil (.nx (.keep (.keep (.keep (.keep (.keep (.keep (.keep (.keep .nil)))))))))
  · rcases then_ex h with ⟨s2, e, h⟩ | ⟨b, e, h⟩
    · subst e
      show Blk G C_audit_stop _ [some (.sh (eI first1)), some (.sh (eI second1)), some (.sh ((eP eI eI) limit1)), some (.sh (eI ballots1)), some (.sh (eI truly1)), some (.sh (eI s2.1)), some (.sh (eI s2.2.1)), some (.sh (eI s2.2.2))] _ _
      have h := Option.some.inj h
      subst h
      exact blk_ret (st_ret (vr 7 n_audit_stop_draws rfl))
    · subst e
      have h := Option.some.inj h
      subst h
      rfl
abbrev LV_audit_chance : Nat := 5
abbrev LW_audit_chance : Nat := 6
def C_audit_chance : SC := ⟨["n", "truly", "draws", "above", "below", "drawn"], defScope (topS 5), fun _ => true⟩
theorem FS_audit_chance : FnScope C_audit_chance.N ["n", "truly", "draws"] (defScope (topS 5)) := ⟨rfl, rfl, rfl, by decide +kernel, rfl, by decide +kernel, by decide +kernel⟩
theorem n_audit_chance_draws : Nm C_audit_chance 2 "draws" := nm (by decide +kernel)
theorem n_audit_chance_truly : Nm C_audit_chance 1 "truly" := nm (by decide +kernel)
theorem s_audit_chance_above : NmS C_audit_chance 3 "above" := nms (by decide +kernel)
theorem s_audit_chance_below : NmS C_audit_chance 4 "below" := nms (by decide +kernel)
theorem g_audit_chance_range : Gn C_audit_chance "range" := gn (by decide +kernel)
theorem s_audit_chance_drawn : NmS C_audit_chance 5 "drawn" := nms (by decide +kernel)
theorem n_audit_chance_above : Nm C_audit_chance 3 "above" := nm (by decide +kernel)
theorem n_audit_chance_drawn : Nm C_audit_chance 5 "drawn" := nm (by decide +kernel)
theorem n_audit_chance_below : Nm C_audit_chance 4 "below" := nm (by decide +kernel)
theorem n_audit_chance_n : Nm C_audit_chance 0 "n" := nm (by decide +kernel)
theorem g_audit_chance_lowest : Gn C_audit_chance "lowest" := gn (by decide +kernel)
theorem ok_audit_chance {G : Gb} (T : Facts G) {n1 : Int} {truly1 : Int} {draws1 : Int} {r : (Int × Int)} (h : audit_chance_m n1 truly1 draws1 = some r) : Fn G LW_audit_chance "audit_chance" [eI n1, eI truly1, eI draws1] ((eP eI eI) r) := by
  unfold audit_chance_m at h
  refine fn_def T.f_audit_chance FS_audit_chance rfl (r := .rt ((eP eI eI) r)) ?_ .rt
  show Blk G C_audit_chance _ [some (.sh (eI n1)), some (.sh (eI truly1)), some (.sh (eI draws1)), none, none, none] _ _
  refine blk_ifx h (te_cmp (ok_gt (i := draws1) (j := truly1)) (Ev.toB (vr 2 n_audit_chance_draws rfl)) (Ev.toB (vr 1 n_audit_chance_truly rfl)) rfl) ?_ ?_
  · intro h
    have h := Option.some.inj h
    subst h
    exact blkx_ret (st_ret (ev_tup (ea_cons ev_int (ea_cons ev_int ea_nil (fun _ => rfl)) (fun _ => rfl)) (le_sz (by decide : 2 ≤ 100000))))
  · intro h
    obtain ⟨above1, habove1, h⟩ := set_ex h
    refine blk_cons (ρ1 := [some (.sh (eI n1)), some (.sh (eI truly1)), some (.sh (eI draws1)), some (.sh (eI above1)), none, none]) (sSet (d := eI above1) 3 s_audit_chance_above (Ev.to ev_int (congrArg eI habove1)) (fun _ _ => rfl)) ?_
    obtain ⟨below1, hbelow1, h⟩ := set_ex h
    refine blk_cons (ρ1 := [some (.sh (eI n1)), some (.sh (eI truly1)), some (.sh (eI draws1)), some (.sh (eI above1)), some (.sh (eI below1)), none]) (sSet (d := eI below1) 4 s_audit_chance_below (Ev.to ev_int (congrArg eI hbelow1)) (fun _ _ => rfl)) ?_
    obtain ⟨hn1, h⟩ := need_ex h
    obtain ⟨s2, hs2, h⟩ := bind_ex h
    refine blk_cons (ρ1 := [some (.sh (eI n1)), some (.sh (eI truly1)), some (.sh (eI draws1)), some (.sh (eI s2.1)), some (.sh (eI s2.2)), none]) (st_for (iR1 g_audit_chance_range T.b_range (Ev.toB (vr 2 n_audit_chance_draws rfl)) hn1 (fun _ => rfl)) (for_s (R := (fun (s1 : (Int × Int)) => ([some (.sh (eI n1)), some (.sh (eI truly1)), some (.sh (eI draws1)), some (.sh (eI s1.1)), some (.sh (eI s1.2)), none] : PEnv))) (ea := eI) (step := (audit_chance_l1 n1 truly1)) ?_ _ _ _ hs2) (fun _ _ => rfl)) ?_
    · intro s1 x1 o h
      unfold audit_chance_l1 at h
      refine ⟨_, [some (.sh (eI n1)), some (.sh (eI truly1)), some (.sh (eI draws1)), some (.sh (eI s1.1)), some (.sh (eI s1.2)), some (.sh (eI x1))], (tN 5 s_audit_chance_drawn), ?_⟩
      obtain ⟨hn3, h⟩ := need_ex h
      obtain ⟨above2, habove2, h⟩ := set_ex h
      refine blk_cons (ρ1 := [some (.sh (eI n1)), some (.sh (eI truly1)), some (.sh (eI draws1)), some (.sh (eI above2)), some (.sh (eI s1.2)), some (.sh (eI x1))]) (sSet (d := eI above2) 3 s_audit_chance_above (Ev.to (ev_op (ok_mul hn3) (Ev.toB (vr 3 n_audit_chance_above rfl)) (Ev.toB (ev_op ok_sub (Ev.toB (vr 1 n_audit_chance_truly rfl)) (Ev.toB (vr 5 n_audit_chance_drawn rfl))))) (congrArg eI habove2)) (fun _ _ => rfl)) ?_
      obtain ⟨hn5, h⟩ := need_ex h
      obtain ⟨below2, hbelow2, h⟩ := set_ex h
      refine blk_cons (ρ1 := [some (.sh (eI n1)), some (.sh (eI truly1)), some (.sh (eI draws1)), some (.sh (eI above2)), some (.sh (eI below2)), some (.sh (eI x1))]) (sSet (d := eI below2) 4 s_audit_chance_below (Ev.to (ev_op (ok_mul hn5) (Ev.toB (vr 4 n_audit_chance_below rfl)) (Ev.toB (ev_op ok_sub (Ev.toB (vr 0 n_audit_chance_n rfl)) (Ev.toB (vr 5 n_audit_chance_drawn rfl))))) (congrArg eI hbelow2)) (fun _ _ => rfl)) ?_
      have h := Option.some.inj h
      subst h
      exact Blk.out blk_nil (.nx (.keep (.keep (.keep (.keep (.keep (.drop .nil)))))))
    · obtain ⟨lowest1, hlowest1, h⟩ := bind_ex h
      have h := Option.some.inj h
      subst h
      exact blk_ret (st_ret (cF g_audit_chance_lowest (ok_lowest T hlowest1) (by decide : LW_lowest ≤ LV_audit_chance) (ea_cons (vr 3 n_audit_chance_above rfl) (ea_cons (vr 4 n_audit_chance_below rfl) ea_nil (fun _ => rfl)) (fun _ => rfl)) (fun _ => rfl) (fun _ => rfl)))
abbrev LV_is_reached : Nat := 1
abbrev LW_is_reached : Nat := 2
def C_is_reached : SC := ⟨["limit", "above", "below"], defScope (topS 6), fun _ => true⟩
theorem FS_is_reached : FnScope C_is_reached.N ["limit", "above", "below"] (defScope (topS 6)) := ⟨rfl, rfl, rfl, by decide +kernel, rfl, by decide +kernel, by decide +kernel⟩
theorem n_is_reached_above : Nm C_is_reached 1 "above" := nm (by decide +kernel)
theorem n_is_reached_limit : Nm C_is_reached 0 "limit" := nm (by decide +kernel)
theorem n_is_reached_below : Nm C_is_reached 2 "below" := nm (by decide +kernel)
theorem ok_is_reached {G : Gb} (T : Facts G) {limit1 : (Int × Int)} {above1 : Int} {below1 : Int} {r : Bool} (h : is_reached_m limit1 above1 below1 = some r) : Fn G LW_is_reached "is_reached" [(eP eI eI) limit1, eI above1, eI below1] (eB r) := by
  unfold is_reached_m at h
  refine fn_def T.f_is_reached FS_is_reached rfl (r := .rt (eB r)) ?_ .rt
  show Blk G C_is_reached _ [some (.sh ((eP eI eI) limit1)), some (.sh (eI above1)), some (.sh (eI below1))] _ _
  obtain ⟨hn1, h⟩ := need_ex h
  obtain ⟨hn2, h⟩ := need_ex h
  have h := Option.some.inj h
  subst h
  exact blk_ret (st_ret (ev_cmp (ok_ge (i := (above1 * limit1.1)) (j := (below1 * limit1.2))) (Ev.toB (ev_op (ok_mul hn1) (Ev.toB (vr 1 n_is_reached_above rfl)) (Ev.toB (ev_ixT (d := eI limit1.1) (Ev.toB (vr 0 n_is_reached_limit rfl)) (Ev.toB ev_int) rfl (fun _ _ => rfl))))) (Ev.toB (ev_op (ok_mul hn2) (Ev.toB (vr 2 n_is_reached_below rfl)) (Ev.toB (ev_ixT (d := eI limit1.2) (Ev.toB (vr 0 n_is_reached_limit rfl)) (Ev.toB ev_int) rfl (fun _ _ => rfl))))) rfl))
abbrev LV_audit_row : Nat := 3
abbrev LW_audit_row : Nat := 4
def C_audit_row : SC := ⟨["limit", "first", "second", "row", "above", "below", "place", "plan"], defScope (topS 7), fun _ => true⟩
theorem FS_audit_row : FnScope C_audit_row.N ["limit", "first", "second", "row"] (defScope (topS 7)) := ⟨rfl, rfl, rfl, by decide +kernel, rfl, by decide +kernel, by decide +kernel⟩
theorem s_audit_row_above : NmS C_audit_row 4 "above" := nms (by decide +kernel)
theorem s_audit_row_below : NmS C_audit_row 5 "below" := nms (by decide +kernel)
theorem g_audit_row_is_reached : Gn C_audit_row "is_reached" := gn (by decide +kernel)
theorem n_audit_row_limit : Nm C_audit_row 0 "limit" := nm (by decide +kernel)
theorem n_audit_row_above : Nm C_audit_row 4 "above" := nm (by decide +kernel)
theorem n_audit_row_below : Nm C_audit_row 5 "below" := nm (by decide +kernel)
theorem n_audit_row_row : Nm C_audit_row 3 "row" := nm (by decide +kernel)
theorem g_audit_row_enumerate : Gn C_audit_row "enumerate" := gn (by decide +kernel)
theorem s_audit_row_place : NmS C_audit_row 6 "place" := nms (by decide +kernel)
theorem s_audit_row_plan : NmS C_audit_row 7 "plan" := nms (by decide +kernel)
theorem n_audit_row_plan : Nm C_audit_row 7 "plan" := nm (by decide +kernel)
theorem n_audit_row_second : Nm C_audit_row 2 "second" := nm (by decide +kernel)
theorem n_audit_row_first : Nm C_audit_row 1 "first" := nm (by decide +kernel)
theorem n_audit_row_place : Nm C_audit_row 6 "place" := nm (by decide +kernel)
theorem ok_audit_row {G : Gb} (T : Facts G) {limit1 : (Int × Int)} {first1 : Int} {second1 : Int} {row1 : (List Int)} {r : (Option Int)} (h : audit_row_m limit1 first1 second1 row1 = some r) : Fn G LW_audit_row "audit_row" [(eP eI eI) limit1, eI first1, eI second1, (eT eI) row1] ((eO eI) r) := by
  unfold audit_row_m at h
  refine fn_def T.f_audit_row FS_audit_row rfl (r := .rt ((eO eI) r)) ?_ .rt
  show Blk G C_audit_row _ [some (.sh ((eP eI eI) limit1)), some (.sh (eI first1)), some (.sh (eI second1)), some (.sh ((eT eI) row1)), none, none, none, none] _ _
  obtain ⟨above1, habove1, h⟩ := set_ex h
  refine blk_cons (ρ1 := [some (.sh ((eP eI eI) limit1)), some (.sh (eI first1)), some (.sh (eI second1)), some (.sh ((eT eI) row1)), some (.sh (eI above1)), none, none, none]) (sSet (d := eI above1) 4 s_audit_row_above (Ev.to ev_int (congrArg eI habove1)) (fun _ _ => rfl)) ?_
  obtain ⟨below1, hbelow1, h⟩ := set_ex h
  refine blk_cons (ρ1 := [some (.sh ((eP eI eI) limit1)), some (.sh (eI first1)), some (.sh (eI second1)), some (.sh ((eT eI) row1)), some (.sh (eI above1)), some (.sh (eI below1)), none, none]) (sSet (d := eI below1) 5 s_audit_row_below (Ev.to ev_int (congrArg eI hbelow1)) (fun _ _ => rfl)) ?_
  obtain ⟨is_rea1, his_rea1, h⟩ := bind_ex h
  refine blk_ifx h (te_val (Ev.toB (cF g_audit_row_is_reached (ok_is_reached T his_rea1) (by decide : LW_is_reached ≤ LV_audit_row) (ea_cons (vr 0 n_audit_row_limit rfl) (ea_cons (vr 4 n_audit_row_above rfl) (ea_cons (vr 5 n_audit_row_below rfl) ea_nil (fun _ => rfl)) (fun _ => rfl)) (fun _ => rfl)) (fun _ => rfl) (fun _ => rfl))) (fun _ _ => rfl)) ?_ ?_
  · intro h
    have h := Option.some.inj h
    subst h
    exact blkx_ret (st_ret ev_int)
  · intro h
    obtain ⟨o1, ho1, h⟩ := bind_ex h
    refine blk_any (st_for (it_enumTX (xs := row1) (g_audit_row_enumerate).hg T.b_enumerate (vr 3 n_audit_row_row rfl) (fun _ => rfl)) (for_o (R := (fun (s1 : (Int × Int)) => ([some (.sh ((eP eI eI) limit1)), some (.sh (eI first1)), some (.sh (eI second1)), some (.sh ((eT eI) row1)), some (.sh (eI s1.1)), some (.sh (eI s1.2)), none, none] : PEnv))) (E := (eO eI)) (ea := (eP eI eI)) (step := (audit_row_l1 limit1 first1 second1)) ?_ _ _ _ ho1) (fun _ _ => rfl)) ?_
    · intro s1 x1 o h
      unfold audit_row_l1 at h
      refine ⟨_, [some (.sh ((eP eI eI) limit1)), some (.sh (eI first1)), some (.sh (eI second1)), some (.sh ((eT eI) row1)), some (.sh (eI s1.1)), some (.sh (eI s1.2)), some (.sh (eI x1.1)), some (.sh (eI x1.2))], (tg_tup (tgs_cons (tN 6 s_audit_row_place) (tgs_cons (tN 7 s_audit_row_plan) tgs_nil (fun _ => rfl)) (fun _ => rfl)) rfl (fun _ => rfl) (fun _ => rfl)), ?_⟩
      obtain ⟨hn2, h⟩ := need_ex h
      obtain ⟨above2, habove2, h⟩ := set_ex h
      refine blk_cons (ρ1 := [some (.sh ((eP eI eI) limit1)), some (.sh (eI first1)), some (.sh (eI second1)), some (.sh ((eT eI) row1)), some (.sh (eI above2)), some (.sh (eI s1.2)), some (.sh (eI x1.1)), some (.sh (eI x1.2))]) (sSet (d := eI above2) 4 s_audit_row_above (Ev.to (ev_op (ok_mul hn2) (Ev.toB (ev_op (ok_mul (mul_r (by decide))) (Ev.toB (vr 4 n_audit_row_above rfl)) (Ev.toB ev_int))) (Ev.toB (ev_if (E := eI) (v := second1) (w := first1) (te_cmp (ok_eqI (i := x1.2) (j := 1)) (Ev.toB (vr 7 n_audit_row_plan rfl)) (Ev.toB ev_int) rfl) (vr 2 n_audit_row_second rfl) (vr 1 n_audit_row_first rfl)))) (congrArg eI habove2)) (fun _ _ => rfl)) ?_
      obtain ⟨hn4, h⟩ := need_ex h
      obtain ⟨below2, hbelow2, h⟩ := set_ex h
      refine blk_cons (ρ1 := [some (.sh ((eP eI eI) limit1)), some (.sh (eI first1)), some (.sh (eI second1)), some (.sh ((eT eI) row1)), some (.sh (eI above2)), some (.sh (eI below2)), some (.sh (eI x1.1)), some (.sh (eI x1.2))]) (sSet (d := eI below2) 5 s_audit_row_below (Ev.to (ev_op (ok_mul hn4) (Ev.toB (vr 5 n_audit_row_below rfl)) (Ev.toB (ev_op ok_add (Ev.toB (vr 1 n_audit_row_first rfl)) (Ev.toB (vr 2 n_audit_row_second rfl))))) (congrArg eI hbelow2)) (fun _ _ => rfl)) ?_
      obtain ⟨is_rea2, his_rea2, h⟩ := bind_ex h
      refine blk_ifx h (te_val (Ev.toB (cF g_audit_row_is_reached (ok_is_reached T his_rea2) (by decide : LW_is_reached ≤ LV_audit_row) (ea_cons (vr 0 n_audit_row_limit rfl) (ea_cons (vr 4 n_audit_row_above rfl) (ea_cons (vr 5 n_audit_row_below rfl) ea_nil (fun _ => rfl)) (fun _ => rfl)) (fun _ => rfl)) (fun _ => rfl) (fun _ => rfl))) (fun _ _ => rfl)) ?_ ?_
      · intro h
        have h := Option.some.inj h
        subst h
        exact blkx_ret (st_ret (ev_op ok_add (Ev.toB (vr 6 n_audit_row_place rfl)) (Ev.toB ev_int)))
      · intro h
        have h := Option.some.inj h
        subst h
        exact Blk.out blk_nil (.nx (.keep (.keep (.keep (.keep (.keep (.keep (.drop (.drop .nil)))))))))
    · rcases then_ex h with ⟨s2, e, h⟩ | ⟨b, e, h⟩
      · subst e
        show Blk G C_audit_row _ [some (.sh ((eP eI eI) limit1)), some (.sh (eI first1)), some (.sh (eI second1)), some (.sh ((eT eI) row1)), some (.sh (eI s2.1)), some (.sh (eI s2.2)), none, none] _ _
        have h := Option.some.inj h
        subst h
        exact blk_ret (st_ret ev_none)
      · subst e
        have h := Option.some.inj h
        subst h
        rfl
abbrev LV_audit_miss : Nat := 5
abbrev LW_audit_miss : Nat := 6
def C_audit_miss : SC := ⟨["limit", "first", "second", "n", "ways", "above", "below", "found", "_", "place", "product", "one", "other"], defScope (topS 8), fun _ => true⟩
theorem FS_audit_miss : FnScope C_audit_miss.N ["limit", "first", "second", "n"] (defScope (topS 8)) := ⟨rfl, rfl, rfl, by decide +kernel, rfl, by decide +kernel, by decide +kernel⟩
theorem g_audit_miss_is_reached : Gn C_audit_miss "is_reached" := gn (by decide +kernel)
theorem n_audit_miss_limit : Nm C_audit_miss 0 "limit" := nm (by decide +kernel)
theorem s_audit_miss_ways : NmS C_audit_miss 4 "ways" := nms (by decide +kernel)
theorem s_audit_miss_above : NmS C_audit_miss 5 "above" := nms (by decide +kernel)
theorem s_audit_miss_below : NmS C_audit_miss 6 "below" := nms (by decide +kernel)
theorem s_audit_miss_found : NmS C_audit_miss 7 "found" := nms (by decide +kernel)
theorem n_audit_miss_n : Nm C_audit_miss 3 "n" := nm (by decide +kernel)
theorem g_audit_miss_range : Gn C_audit_miss "range" := gn (by decide +kernel)
theorem s_audit_miss__p : NmS C_audit_miss 8 "_" := nms (by decide +kernel)
theorem n_audit_miss_ways : Nm C_audit_miss 4 "ways" := nm (by decide +kernel)
theorem g_audit_miss_zip : Gn C_audit_miss "zip" := gn (by decide +kernel)
theorem l_audit_miss_ways : NmL C_audit_miss 4 "ways" := nml (by decide +kernel)
theorem n_audit_miss_above : Nm C_audit_miss 5 "above" := nm (by decide +kernel)
theorem n_audit_miss_second : Nm C_audit_miss 2 "second" := nm (by decide +kernel)
theorem n_audit_miss_below : Nm C_audit_miss 6 "below" := nm (by decide +kernel)
theorem n_audit_miss_first : Nm C_audit_miss 1 "first" := nm (by decide +kernel)
theorem n_audit_miss_found : Nm C_audit_miss 7 "found" := nm (by decide +kernel)
theorem g_audit_miss_enumerate : Gn C_audit_miss "enumerate" := gn (by decide +kernel)
theorem s_audit_miss_place : NmS C_audit_miss 9 "place" := nms (by decide +kernel)
theorem s_audit_miss_product : NmS C_audit_miss 10 "product" := nms (by decide +kernel)
theorem n_audit_miss_product : Nm C_audit_miss 10 "product" := nm (by decide +kernel)
theorem n_audit_miss_place : Nm C_audit_miss 9 "place" := nm (by decide +kernel)
theorem g_audit_miss_lowest : Gn C_audit_miss "lowest" := gn (by decide +kernel)
theorem ok_audit_miss {G : Gb} (T : Facts G) {limit1 : (Int × Int)} {first1 : Int} {second1 : Int} {n1 : Int} {r : (Int × Int)} (h : audit_miss_m limit1 first1 second1 n1 = some r) : Fn G LW_audit_miss "audit_miss" [(eP eI eI) limit1, eI first1, eI second1, eI n1] ((eP eI eI) r) := by
  unfold audit_miss_m at h
  refine fn_def T.f_audit_miss FS_audit_miss rfl (r := .rt ((eP eI eI) r)) ?_ .rt
  show Blk G C_audit_miss _ [some (.sh ((eP eI eI) limit1)), some (.sh (eI first1)), some (.sh (eI second1)), some (.sh (eI n1)), none, none, none, none, none, none, none, none, none] _ _
  obtain ⟨is_rea1, his_rea1, h⟩ := bind_ex h
  refine blk_ifx h (te_val (Ev.toB (cF g_audit_miss_is_reached (ok_is_reached T his_rea1) (by decide : LW_is_reached ≤ LV_audit_miss) (ea_cons (vr 0 n_audit_miss_limit rfl) (ea_cons ev_int (ea_cons ev_int ea_nil (fun _ => rfl)) (fun _ => rfl)) (fun _ => rfl)) (fun _ => rfl) (fun _ => rfl))) (fun _ _ => rfl)) ?_ ?_
  · intro h
    have h := Option.some.inj h
    subst h
    exact blkx_ret (st_ret (ev_tup (ea_cons ev_int (ea_cons ev_int ea_nil (fun _ => rfl)) (fun _ => rfl)) (le_sz (by decide : 2 ≤ 100000))))
  · intro h
    obtain ⟨ways1, hways1, h⟩ := set_ex h
    refine blk_cons (ρ1 := [some (.sh ((eP eI eI) limit1)), some (.sh (eI first1)), some (.sh (eI second1)), some (.sh (eI n1)), some (.ow ((eL eI) ways1)), none, none, none, none, none, none, none, none]) (sOwn (d := (eL eI) ways1) 4 s_audit_miss_ways (EvN.to (evn_lst (ea_cons ev_int ea_nil (fun _ => rfl)) (le_sz (by decide : 1 ≤ 100000))) (congrArg (eL eI) hways1)) (fun _ _ => rfl)) ?_
    obtain ⟨above1, habove1, h⟩ := set_ex h
    refine blk_cons (ρ1 := [some (.sh ((eP eI eI) limit1)), some (.sh (eI first1)), some (.sh (eI second1)), some (.sh (eI n1)), some (.ow ((eL eI) ways1)), some (.sh ((eL eI) above1)), none, none, none, none, none, none, none]) (sSet (d := (eL eI) above1) 5 s_audit_miss_above (Ev.to (EvN.ev (evn_lst (ea_cons ev_int ea_nil (fun _ => rfl)) (le_sz (by decide : 1 ≤ 100000)))) (congrArg (eL eI) habove1)) (fun _ _ => rfl)) ?_
    obtain ⟨below1, hbelow1, h⟩ := set_ex h
    refine blk_cons (ρ1 := [some (.sh ((eP eI eI) limit1)), some (.sh (eI first1)), some (.sh (eI second1)), some (.sh (eI n1)), some (.ow ((eL eI) ways1)), some (.sh ((eL eI) above1)), some (.sh (eI below1)), none, none, none, none, none, none]) (sSet (d := eI below1) 6 s_audit_miss_below (Ev.to ev_int (congrArg eI hbelow1)) (fun _ _ => rfl)) ?_
    obtain ⟨found1, hfound1, h⟩ := set_ex h
    refine blk_cons (ρ1 := [some (.sh ((eP eI eI) limit1)), some (.sh (eI first1)), some (.sh (eI second1)), some (.sh (eI n1)), some (.ow ((eL eI) ways1)), some (.sh ((eL eI) above1)), some (.sh (eI below1)), some (.sh (eI found1)), none, none, none, none, none]) (sSet (d := eI found1) 7 s_audit_miss_found (Ev.to ev_int (congrArg eI hfound1)) (fun _ _ => rfl)) ?_
    obtain ⟨hn1, h⟩ := need_ex h
    obtain ⟨s4, hs4, h⟩ := bind_ex h
    refine blk_cons (ρ1 := [some (.sh ((eP eI eI) limit1)), some (.sh (eI first1)), some (.sh (eI second1)), some (.sh (eI n1)), some (.ow ((eL eI) s4.1)), some (.sh ((eL eI) s4.2.1)), some (.sh (eI s4.2.2.1)), some (.sh (eI s4.2.2.2)), none, none, none, none, none]) (st_for (iR1 g_audit_miss_range T.b_range (Ev.toB (vr 3 n_audit_miss_n rfl)) hn1 (fun _ => rfl)) (for_s (R := (fun (s1 : ((List Int) × (List Int) × Int × Int)) => ([some (.sh ((eP eI eI) limit1)), some (.sh (eI first1)), some (.sh (eI second1)), some (.sh (eI n1)), some (.ow ((eL eI) s1.1)), some (.sh ((eL eI) s1.2.1)), some (.sh (eI s1.2.2.1)), some (.sh (eI s1.2.2.2)), none, none, none, none, none] : PEnv))) (ea := eI) (step := (audit_miss_l2 limit1 first1 second1)) ?_ _ _ _ hs4) (fun _ _ => rfl)) ?_
    · intro s1 x1 o h
      unfold audit_miss_l2 at h
      refine ⟨_, [some (.sh ((eP eI eI) limit1)), some (.sh (eI first1)), some (.sh (eI second1)), some (.sh (eI n1)), some (.ow ((eL eI) s1.1)), some (.sh ((eL eI) s1.2.1)), some (.sh (eI s1.2.2.1)), some (.sh (eI s1.2.2.2)), some (.sh (eI x1)), none, none, none, none], (tN 8 s_audit_miss__p), ?_⟩
      obtain ⟨hn4, h⟩ := need_ex h
      obtain ⟨hn5, h⟩ := need_ex h
      obtain ⟨ways2, hways2, h⟩ := set_ex h
      refine blk_cons (ρ1 := [some (.sh ((eP eI eI) limit1)), some (.sh (eI first1)), some (.sh (eI second1)), some (.sh (eI n1)), some (.ow ((eL eI) ways2)), some (.sh ((eL eI) s1.2.1)), some (.sh (eI s1.2.2.1)), some (.sh (eI s1.2.2.2)), some (.sh (eI x1)), none, none, none, none]) (sLc 4 l_audit_miss_ways [("one", 11), ("other", 12)] (swp_local (by decide +kernel)) (by decide +kernel) (It'.toB (it_zipX (xs := (s1.1 ++ ([0] : (List Int)))) (ys := (([0] : (List Int)) ++ s1.1)) (g_audit_miss_zip).hg T.b_zip (EvN.ev (evn_op (new_catL hn4) (vo 4 n_audit_miss_ways rfl) (Ev.toB (EvN.ev (evn_lst (ea_cons ev_int ea_nil (fun _ => rfl)) (le_sz (by decide : 1 ≤ 100000))))))) (EvN.ev (evn_op (new_catL hn5) (Ev.toB (EvN.ev (evn_lst (ea_cons ev_int ea_nil (fun _ => rfl)) (le_sz (by decide : 1 ≤ 100000))))) (vo 4 n_audit_miss_ways rfl))) (fun _ => rfl) (fun _ => rfl))) (LcR.to (lcr_mapT (ea := (eP eI eI)) (eb := eI) (fun z2 : (Int × Int) => (z2.1 + z2.2)) (fun z2 => step_one (by decide) (tg_tup (tgs_cons (tN 11 (nms (by decide +kernel))) (tgs_cons (tN 12 (nms (by decide +kernel))) tgs_nil (fun _ => rfl)) (fun _ => rfl)) rfl (fun _ => rfl) (fun _ => rfl)) (ev_op ok_add (Ev.toB (vr 11 (nm (by decide +kernel)) rfl)) (Ev.toB (vr 12 (nm (by decide +kernel)) rfl)))) _) (congrArg (List.map eI) hways2)) (zz_to hways2 (zz_zip (len_m _ _))) (fun _ _ => rfl)) ?_
      obtain ⟨ys2, hys2, h⟩ := bind_ex h
      obtain ⟨x3, hx3, h⟩ := bind_ex h
      obtain ⟨hn10, h⟩ := need_ex h
      obtain ⟨hn11, h⟩ := need_ex h
      obtain ⟨above2, habove2, h⟩ := set_ex h
      refine blk_cons (ρ1 := [some (.sh ((eP eI eI) limit1)), some (.sh (eI first1)), some (.sh (eI second1)), some (.sh (eI n1)), some (.ow ((eL eI) ways2)), some (.sh ((eL eI) above2)), some (.sh (eI s1.2.2.1)), some (.sh (eI s1.2.2.2)), some (.sh (eI x1)), none, none, none, none]) (sSet (d := (eL eI) above2) 5 s_audit_miss_above (Ev.to (EvN.ev (evn_op (new_catL hn11) (Ev.toB (EvN.ev (nLc [("product", 10)] (by decide +kernel) (It'.toB (it_list (vr 5 n_audit_miss_above rfl))) (lcr_map (ea := eI) (eb := eI) (fun z4 : Int => (need (Pl.MulOk (z4 * 2) first1) <| some ((z4 * 2) * first1))) (fun z4 y h => by (obtain ⟨hn9, h⟩ := need_ex h; have h := Option.some.inj h; subst h; exact step_one (by decide) (tN 10 (nms (by decide +kernel))) (ev_op (ok_mul hn9) (Ev.toB (ev_op (ok_mul (mul_r (by decide))) (Ev.toB (vr 10 (nm (by decide +kernel)) rfl)) (Ev.toB ev_int))) (Ev.toB (vr 1 (nm (by decide +kernel)) rfl))))) _ _ hys2) (zz_fil (Nat.le_of_eq (mapO_len hys2))) (fun _ _ => rfl)))) (Ev.toB (EvN.ev (evn_lst (ea_cons (ev_op (ok_mul hn10) (Ev.toB (ev_op (ok_mul (mul_r (by decide))) (Ev.toB (ev_ix (Ev.toB (vr 5 n_audit_miss_above rfl)) (Ev.toB (ev_un ok_neg (Ev.toB ev_int))) (atI_map eI hx3) (fun _ _ => rfl))) (Ev.toB ev_int))) (Ev.toB (vr 2 n_audit_miss_second rfl))) ea_nil (fun _ => rfl)) (le_sz (by decide : 1 ≤ 100000))))))) (congrArg (eL eI) habove2)) (fun _ _ => rfl)) ?_
      obtain ⟨hn13, h⟩ := need_ex h
      obtain ⟨below2, hbelow2, h⟩ := set_ex h
      refine blk_cons (ρ1 := [some (.sh ((eP eI eI) limit1)), some (.sh (eI first1)), some (.sh (eI second1)), some (.sh (eI n1)), some (.ow ((eL eI) ways2)), some (.sh ((eL eI) above2)), some (.sh (eI below2)), some (.sh (eI s1.2.2.2)), some (.sh (eI x1)), none, none, none, none]) (sSet (d := eI below2) 6 s_audit_miss_below (Ev.to (ev_op (ok_mul hn13) (Ev.toB (vr 6 n_audit_miss_below rfl)) (Ev.toB (ev_op ok_add (Ev.toB (vr 1 n_audit_miss_first rfl)) (Ev.toB (vr 2 n_audit_miss_second rfl))))) (congrArg eI hbelow2)) (fun _ _ => rfl)) ?_
      obtain ⟨found2, hfound2, h⟩ := set_ex h
      refine blk_cons (ρ1 := [some (.sh ((eP eI eI) limit1)), some (.sh (eI first1)), some (.sh (eI second1)), some (.sh (eI n1)), some (.ow ((eL eI) ways2)), some (.sh ((eL eI) above2)), some (.sh (eI below2)), some (.sh (eI found2)), some (.sh (eI x1)), none, none, none, none]) (sSet (d := eI found2) 7 s_audit_miss_found (Ev.to (ev_op (ok_mul (mul_r (by decide))) (Ev.toB (vr 7 n_audit_miss_found rfl)) (Ev.toB ev_int)) (congrArg eI hfound2)) (fun _ _ => rfl)) ?_
      obtain ⟨s3, hs3, h⟩ := bind_ex h
      refine blk_cons (ρ1 := [some (.sh ((eP eI eI) limit1)), some (.sh (eI first1)), some (.sh (eI second1)), some (.sh (eI n1)), some (.ow ((eL eI) s3.2)), some (.sh ((eL eI) above2)), some (.sh (eI below2)), some (.sh (eI s3.1)), some (.sh (eI x1)), none, none, none, none]) (st_for (it_enumX (xs := above2) (g_audit_miss_enumerate).hg T.b_enumerate (vr 5 n_audit_miss_above rfl) (fun _ => rfl)) (for_s (R := (fun (s2 : (Int × (List Int))) => ([some (.sh ((eP eI eI) limit1)), some (.sh (eI first1)), some (.sh (eI second1)), some (.sh (eI n1)), some (.ow ((eL eI) s2.2)), some (.sh ((eL eI) above2)), some (.sh (eI below2)), some (.sh (eI s2.1)), some (.sh (eI x1)), none, none, none, none] : PEnv))) (ea := (eP eI eI)) (step := (audit_miss_l1 limit1 below2)) ?_ _ _ _ hs3) (fun _ _ => rfl)) ?_
      · intro s2 x4 o h
        unfold audit_miss_l1 at h
        refine ⟨_, [some (.sh ((eP eI eI) limit1)), some (.sh (eI first1)), some (.sh (eI second1)), some (.sh (eI n1)), some (.ow ((eL eI) s2.2)), some (.sh ((eL eI) above2)), some (.sh (eI below2)), some (.sh (eI s2.1)), some (.sh (eI x1)), some (.sh (eI x4.1)), some (.sh (eI x4.2)), none, none], (tg_tup (tgs_cons (tN 9 s_audit_miss_place) (tgs_cons (tN 10 s_audit_miss_product) tgs_nil (fun _ => rfl)) (fun _ => rfl)) rfl (fun _ => rfl) (fun _ => rfl)), ?_⟩
        obtain ⟨is_rea2, his_rea2, h⟩ := bind_ex h
        obtain ⟨j1, hj1, h⟩ := bind_ex h
        refine blk_cons (ρ1 := [some (.sh ((eP eI eI) limit1)), some (.sh (eI first1)), some (.sh (eI second1)), some (.sh (eI n1)), some (.ow ((eL eI) j1.2)), some (.sh ((eL eI) above2)), some (.sh (eI below2)), some (.sh (eI j1.1)), some (.sh (eI x1)), some (.sh (eI x4.1)), some (.sh (eI x4.2)), none, none]) (st_ifJ hj1 (te_val (Ev.toB (cF g_audit_miss_is_reached (ok_is_reached T his_rea2) (by decide : LW_is_reached ≤ LV_audit_miss) (ea_cons (vr 0 n_audit_miss_limit rfl) (ea_cons (vr 10 n_audit_miss_product rfl) (ea_cons (vr 6 n_audit_miss_below rfl) ea_nil (fun _ => rfl)) (fun _ => rfl)) (fun _ => rfl)) (fun _ => rfl) (fun _ => rfl))) (fun _ _ => rfl)) ?_ ?_) ?_
        · intro h
          obtain ⟨x5, hx5, h⟩ := bind_ex h
          obtain ⟨found3, hfound3, h⟩ := set_ex h
          refine blk_cons (ρ1 := [some (.sh ((eP eI eI) limit1)), some (.sh (eI first1)), some (.sh (eI second1)), some (.sh (eI n1)), some (.ow ((eL eI) s2.2)), some (.sh ((eL eI) above2)), some (.sh (eI below2)), some (.sh (eI found3)), some (.sh (eI x1)), some (.sh (eI x4.1)), some (.sh (eI x4.2)), none, none]) (sAug (d := eI found3) 7 s_audit_miss_found rfl (Ev.toB (ev_ix (vo 4 n_audit_miss_ways rfl) (Ev.toB (vr 9 n_audit_miss_place rfl)) (atI_map eI hx5) (fun _ _ => rfl))) (OpOk.to (ok_iadd (i := s2.1) (j := x5)) (congrArg eI hfound3))) ?_
          obtain ⟨ways3, hways3, h⟩ := bind_ex h
          refine blk_cons (ρ1 := [some (.sh ((eP eI eI) limit1)), some (.sh (eI first1)), some (.sh (eI second1)), some (.sh (eI n1)), some (.ow ((eL eI) ways3)), some (.sh ((eL eI) above2)), some (.sh (eI below2)), some (.sh (eI found3)), some (.sh (eI x1)), some (.sh (eI x4.1)), some (.sh (eI x4.2)), none, none]) (sItemX (f := eI) (xs := s2.2) (ys := ways3) (v := 0) 4 n_audit_miss_ways rfl ev_int (Ev.toB (vr 9 n_audit_miss_place rfl)) hways3 (fun _ => rfl) (fun _ => rfl) (fun _ => rfl) (fun _ _ => rfl)) ?_
          have h := Option.some.inj h
          subst h
          exact Blk.out blk_nil (.nx (.keep (.keep (.keep (.keep (.keep (.keep (.keep (.keep (.keep (.keep (.keep (.keep (.keep .nil))))))))))))))
        · intro h
          have h := Option.some.inj h
          subst h
          exact Blk.out blk_nil (.nx (.keep (.keep (.keep (.keep (.keep (.keep (.keep (.keep (.keep (.keep (.keep (.keep (.keep .nil))))))))))))))
        · have h := Option.some.inj h
          subst h
          exact Blk.out blk_nil (.nx (.keep (.keep (.keep (.keep (.keep (.keep (.keep (.keep (.keep (.drop (.drop (.keep (.keep .nil))))))))))))))
      · have h := Option.some.inj h
        subst h
        exact Blk.out blk_nil (.nx (.keep (.keep (.keep (.keep (.keep (.keep (.keep (.keep (.drop (.keep (.keep (.keep (.keep .nil))))))))))))))
    · refine Blk.weak (ρ1 := [some (.sh ((eP eI eI) limit1)), some (.sh (eI first1)), some (.sh (eI second1)), some (.sh (eI n1)), some (.sh ((eL eI) s4.1)), some (.sh ((eL eI) s4.2.1)), some (.sh (eI s4.2.2.1)), some (.sh (eI s4.2.2.2)), none, none, none, none, none]) ?_ (.keep (.keep (.keep (.keep (.frz (.keep (.keep (.keep (.keep (.keep (.keep (.keep (.keep .nil)))))))))))))
      obtain ⟨hn14, h⟩ := need_ex h
      obtain ⟨lowest1, hlowest1, h⟩ := bind_ex h
      have h := Option.some.inj h
      subst h
      exact blk_ret (st_ret (cF g_audit_miss_lowest (ok_lowest T hlowest1) (by decide : LW_lowest ≤ LV_audit_miss) (ea_cons (vr 7 n_audit_miss_found rfl) (ea_cons (ev_op (ok_shl hn14) (Ev.toB ev_int) (Ev.toB (vr 3 n_audit_miss_n rfl))) ea_nil (fun _ => rfl)) (fun _ => rfl)) (fun _ => rfl) (fun _ => rfl)))
abbrev LV_law_mixed : Nat := 1
abbrev LW_law_mixed : Nat := 2
def C_law_mixed : SC := ⟨["script", "k", "cell", "first", "second", "third"], defScope (topS 10), fun _ => true⟩
theorem FS_law_mixed : FnScope C_law_mixed.N ["script", "k"] (defScope (topS 10)) := ⟨rfl, rfl, rfl, by decide +kernel, rfl, by decide +kernel, by decide +kernel⟩
theorem s_law_mixed_cell : NmS C_law_mixed 2 "cell" := nms (by decide +kernel)
theorem g_law_mixed_len : Gn C_law_mixed "len" := gn (by decide +kernel)
theorem n_law_mixed_script : Nm C_law_mixed 0 "script" := nm (by decide +kernel)
theorem n_law_mixed_k : Nm C_law_mixed 1 "k" := nm (by decide +kernel)
theorem g_law_mixed_int : Gn C_law_mixed "int" := gn (by decide +kernel)
theorem n_law_mixed_cell : Nm C_law_mixed 2 "cell" := nm (by decide +kernel)
theorem s_law_mixed_first : NmS C_law_mixed 3 "first" := nms (by decide +kernel)
theorem n_law_mixed_first : Nm C_law_mixed 3 "first" := nm (by decide +kernel)
theorem s_law_mixed_second : NmS C_law_mixed 4 "second" := nms (by decide +kernel)
theorem n_law_mixed_second : Nm C_law_mixed 4 "second" := nm (by decide +kernel)
theorem s_law_mixed_third : NmS C_law_mixed 5 "third" := nms (by decide +kernel)
theorem n_law_mixed_third : Nm C_law_mixed 5 "third" := nm (by decide +kernel)
theorem ok_law_mixed {G : Gb} (T : Facts G) {script1 : (List Int)} {k1 : Int} {r : Int} (h : law_mixed_m script1 k1 = some r) : Fn G LW_law_mixed "_law_mixed" [(eL eI) script1, eI k1] (eI r) := by
  unfold law_mixed_m at h
  refine fn_def T.f_law_mixed FS_law_mixed rfl (r := .rt (eI r)) ?_ .rt
  show Blk G C_law_mixed _ [some (.sh ((eL eI) script1)), some (.sh (eI k1)), none, none, none, none] _ _
  obtain ⟨cell1, hcell1, h⟩ := set_ex h
  refine blk_cons (ρ1 := [some (.sh ((eL eI) script1)), some (.sh (eI k1)), some (.sh (eI cell1)), none, none, none]) (sSet (d := eI cell1) 2 s_law_mixed_cell (Ev.to ev_int (congrArg eI hcell1)) (fun _ _ => rfl)) ?_
  obtain ⟨j1, hj1, h⟩ := bind_ex h
  refine blk_cons (ρ1 := [some (.sh ((eL eI) script1)), some (.sh (eI k1)), some (.sh (eI j1)), none, none, none]) (st_ifJ hj1 (te_cmp (ok_gt (i := ((script1).length : Int)) (j := 0)) (Ev.toB (cB g_law_mixed_len T.b_len bb_len (ok_lenL script1) (eab_cons (Ev.toB (vr 0 n_law_mixed_script rfl)) eab_nil (fun _ => rfl)) (fun _ => rfl) (fun _ => rfl))) (Ev.toB ev_int) rfl) ?_ ?_) ?_
  · intro h
    obtain ⟨hn2, h⟩ := need_ex h
    obtain ⟨x2, hx2, h⟩ := bind_ex h
    obtain ⟨cell2, hcell2, h⟩ := set_ex h
    refine blk_cons (ρ1 := [some (.sh ((eL eI) script1)), some (.sh (eI k1)), some (.sh (eI cell2)), none, none, none]) (sSet (d := eI cell2) 2 s_law_mixed_cell (Ev.to (ev_ix (Ev.toB (vr 0 n_law_mixed_script rfl)) (Ev.toB (ev_op (ok_mod hn2) (Ev.toB (vr 1 n_law_mixed_k rfl)) (Ev.toB (cB g_law_mixed_len T.b_len bb_len (ok_lenL script1) (eab_cons (Ev.toB (vr 0 n_law_mixed_script rfl)) eab_nil (fun _ => rfl)) (fun _ => rfl) (fun _ => rfl))))) (atI_map eI hx2) (fun _ _ => rfl)) (congrArg eI hcell2)) (fun _ _ => rfl)) ?_
    have h := Option.some.inj h
    subst h
    exact Blk.out blk_nil (.nx (.keep (.keep (.keep (.keep (.keep (.keep .nil)))))))
  · intro h
    have h := Option.some.inj h
    subst h
    exact Blk.out blk_nil (.nx (.keep (.keep (.keep (.keep (.keep (.keep .nil)))))))
  · obtain ⟨first1, hfirst1, h⟩ := set_ex h
    refine blk_cons (ρ1 := [some (.sh ((eL eI) script1)), some (.sh (eI k1)), some (.sh (eI j1)), some (.sh (eI first1)), none, none]) (sSet (d := eI first1) 3 s_law_mixed_first (Ev.to (ev_op (ok_mod (by decide)) (Ev.toB (cT g_law_mixed_int T.b_int bb_int (ok_intI (i := (((j1 * 48271) + (k1 * 69621)) + 8191))) (eab_cons (Ev.toB (ev_op ok_add (Ev.toB (ev_op ok_add (Ev.toB (ev_op (ok_mul (mul_r (by decide))) (Ev.toB (vr 2 n_law_mixed_cell rfl)) (Ev.toB ev_int))) (Ev.toB (ev_op (ok_mul (mul_r (by decide))) (Ev.toB (vr 1 n_law_mixed_k rfl)) (Ev.toB ev_int))))) (Ev.toB ev_int))) eab_nil (fun _ => rfl)) (fun _ => rfl) (fun _ => rfl))) (Ev.toB ev_int)) (congrArg eI hfirst1)) (fun _ _ => rfl)) ?_
    obtain ⟨hn3, h⟩ := need_ex h
    obtain ⟨second1, hsecond1, h⟩ := set_ex h
    refine blk_cons (ρ1 := [some (.sh ((eL eI) script1)), some (.sh (eI k1)), some (.sh (eI j1)), some (.sh (eI first1)), some (.sh (eI second1)), none]) (sSet (d := eI second1) 4 s_law_mixed_second (Ev.to (ev_op (ok_mod (by decide)) (Ev.toB (cT g_law_mixed_int T.b_int bb_int (ok_intI (i := (((first1 * first1) + (first1 / 7)) + (k1 * 16807)))) (eab_cons (Ev.toB (ev_op ok_add (Ev.toB (ev_op ok_add (Ev.toB (ev_op (ok_mul hn3) (Ev.toB (vr 3 n_law_mixed_first rfl)) (Ev.toB (vr 3 n_law_mixed_first rfl)))) (Ev.toB (ev_op (ok_fdiv (div_c (by decide))) (Ev.toB (vr 3 n_law_mixed_first rfl)) (Ev.toB ev_int))))) (Ev.toB (ev_op (ok_mul (mul_r (by decide))) (Ev.toB (vr 1 n_law_mixed_k rfl)) (Ev.toB ev_int))))) eab_nil (fun _ => rfl)) (fun _ => rfl) (fun _ => rfl))) (Ev.toB ev_int)) (congrArg eI hsecond1)) (fun _ _ => rfl)) ?_
    obtain ⟨hn4, h⟩ := need_ex h
    obtain ⟨third1, hthird1, h⟩ := set_ex h
    refine blk_cons (ρ1 := [some (.sh ((eL eI) script1)), some (.sh (eI k1)), some (.sh (eI j1)), some (.sh (eI first1)), some (.sh (eI second1)), some (.sh (eI third1))]) (sSet (d := eI third1) 5 s_law_mixed_third (Ev.to (ev_op (ok_mod (by decide)) (Ev.toB (cT g_law_mixed_int T.b_int bb_int (ok_intI (i := (((second1 * second1) + (second1 / 11)) + 40692))) (eab_cons (Ev.toB (ev_op ok_add (Ev.toB (ev_op ok_add (Ev.toB (ev_op (ok_mul hn4) (Ev.toB (vr 4 n_law_mixed_second rfl)) (Ev.toB (vr 4 n_law_mixed_second rfl)))) (Ev.toB (ev_op (ok_fdiv (div_c (by decide))) (Ev.toB (vr 4 n_law_mixed_second rfl)) (Ev.toB ev_int))))) (Ev.toB ev_int))) eab_nil (fun _ => rfl)) (fun _ => rfl) (fun _ => rfl))) (Ev.toB ev_int)) (congrArg eI hthird1)) (fun _ _ => rfl)) ?_
    have h := Option.some.inj h
    subst h
    exact blk_ret (st_ret (ev_op (ok_mod (by decide)) (Ev.toB (ev_op (ok_fdiv (div_c (by decide))) (Ev.toB (vr 5 n_law_mixed_third rfl)) (Ev.toB ev_int))) (Ev.toB ev_int)))
abbrev LV_law_row : Nat := 3
abbrev LW_law_row : Nat := 4
def C_law_row : SC := ⟨["script", "many", "big", "row", "k"], defScope (topS 11), fun _ => true⟩
theorem FS_law_row : FnScope C_law_row.N ["script", "many"] (defScope (topS 11)) := ⟨rfl, rfl, rfl, by decide +kernel, rfl, by decide +kernel, by decide +kernel⟩
theorem s_law_row_big : NmS C_law_row 2 "big" := nms (by decide +kernel)
theorem g_law_row_len : Gn C_law_row "len" := gn (by decide +kernel)
theorem n_law_row_script : Nm C_law_row 0 "script" := nm (by decide +kernel)
theorem s_law_row_row : NmS C_law_row 3 "row" := nms (by decide +kernel)
theorem n_law_row_many : Nm C_law_row 1 "many" := nm (by decide +kernel)
theorem g_law_row_range : Gn C_law_row "range" := gn (by decide +kernel)
theorem s_law_row_k : NmS C_law_row 4 "k" := nms (by decide +kernel)
theorem n_law_row_big : Nm C_law_row 2 "big" := nm (by decide +kernel)
theorem g_law_row_int : Gn C_law_row "int" := gn (by decide +kernel)
theorem n_law_row_row : Nm C_law_row 3 "row" := nm (by decide +kernel)
theorem g_law_row_law_mixed : Gn C_law_row "_law_mixed" := gn (by decide +kernel)
theorem n_law_row_k : Nm C_law_row 4 "k" := nm (by decide +kernel)
theorem ok_law_row {G : Gb} (T : Facts G) {script1 : (List Int)} {many1 : Int} {r : (List Int)} (h : law_row_m script1 many1 = some r) : Fn G LW_law_row "_law_row" [(eL eI) script1, eI many1] ((eL eI) r) := by
  unfold law_row_m at h
  refine fn_def T.f_law_row FS_law_row rfl (r := .rt ((eL eI) r)) ?_ .rt
  show Blk G C_law_row _ [some (.sh ((eL eI) script1)), some (.sh (eI many1)), none, none, none] _ _
  obtain ⟨big1, hbig1, h⟩ := set_ex h
  refine blk_cons (ρ1 := [some (.sh ((eL eI) script1)), some (.sh (eI many1)), some (.sh (eI big1)), none, none]) (sSet (d := eI big1) 2 s_law_row_big (Ev.to ev_int (congrArg eI hbig1)) (fun _ _ => rfl)) ?_
  obtain ⟨b1, hb1, h⟩ := bind_ex h
  obtain ⟨j1, hj1, h⟩ := bind_ex h
  refine blk_cons (ρ1 := [some (.sh ((eL eI) script1)), some (.sh (eI many1)), some (.sh (eI j1)), none, none]) (st_ifJ hj1 (Tw.te (tw_andO hb1 (te_cmp (ok_gt (i := ((script1).length : Int)) (j := 0)) (Ev.toB (cB g_law_row_len T.b_len bb_len (ok_lenL script1) (eab_cons (Ev.toB (vr 0 n_law_row_script rfl)) eab_nil (fun _ => rfl)) (fun _ => rfl) (fun _ => rfl))) (Ev.toB ev_int) rfl) (fun h => by (obtain ⟨x1, hx1, h⟩ := bind_ex h; have h := Option.some.inj h; subst h; exact (tw_and1 (te_cmp (ok_ge (i := x1) (j := 1000000000000000000)) (Ev.toB (ev_ix (Ev.toB (vr 0 n_law_row_script rfl)) (Ev.toB ev_int) (atI_map eI hx1) (fun _ _ => rfl))) (Ev.toB (Ev.to (ev_op (ok_pow (by decide)) (Ev.toB ev_int) (Ev.toB ev_int)) (congrArg PyData.int (by decide)))) rfl)))))) ?_ ?_) ?_
  · intro h
    obtain ⟨x3, hx3, h⟩ := bind_ex h
    obtain ⟨big2, hbig2, h⟩ := set_ex h
    refine blk_cons (ρ1 := [some (.sh ((eL eI) script1)), some (.sh (eI many1)), some (.sh (eI big2)), none, none]) (sSet (d := eI big2) 2 s_law_row_big (Ev.to (ev_ix (Ev.toB (vr 0 n_law_row_script rfl)) (Ev.toB ev_int) (atI_map eI hx3) (fun _ _ => rfl)) (congrArg eI hbig2)) (fun _ _ => rfl)) ?_
    have h := Option.some.inj h
    subst h
    exact Blk.out blk_nil (.nx (.keep (.keep (.keep (.keep (.keep .nil))))))
  · intro h
    have h := Option.some.inj h
    subst h
    exact Blk.out blk_nil (.nx (.keep (.keep (.keep (.keep (.keep .nil))))))
  · obtain ⟨row1, hrow1, h⟩ := set_ex h
    refine blk_cons (ρ1 := [some (.sh ((eL eI) script1)), some (.sh (eI many1)), some (.sh (eI j1)), some (.ow ((eL eI) row1)), none]) (sOwn (d := (eL eI) row1) 3 s_law_row_row (EvN.to (evn_lst ea_nil (le_sz (by decide : 0 ≤ 100000))) (congrArg (eL eI) hrow1)) (fun _ _ => rfl)) ?_
    obtain ⟨hn1, h⟩ := need_ex h
    obtain ⟨s2, hs2, h⟩ := bind_ex h
    refine blk_cons (ρ1 := [some (.sh ((eL eI) script1)), some (.sh (eI many1)), some (.sh (eI s2.2)), some (.ow ((eL eI) s2.1)), none]) (st_for (iR1 g_law_row_range T.b_range (Ev.toB (vr 1 n_law_row_many rfl)) hn1 (fun _ => rfl)) (for_s (R := (fun (s1 : ((List Int) × Int)) => ([some (.sh ((eL eI) script1)), some (.sh (eI many1)), some (.sh (eI s1.2)), some (.ow ((eL eI) s1.1)), none] : PEnv))) (ea := eI) (step := (law_row_l1 script1)) ?_ _ _ _ hs2) (fun _ _ => rfl)) ?_
    · intro s1 x4 o h
      unfold law_row_l1 at h
      refine ⟨_, [some (.sh ((eL eI) script1)), some (.sh (eI many1)), some (.sh (eI s1.2)), some (.ow ((eL eI) s1.1)), some (.sh (eI x4))], (tN 4 s_law_row_k), ?_⟩
      obtain ⟨j2, hj2, h⟩ := bind_ex h
      refine blk_cons (ρ1 := [some (.sh ((eL eI) script1)), some (.sh (eI many1)), some (.sh (eI j2.2)), some (.ow ((eL eI) j2.1)), some (.sh (eI x4))]) (st_ifJ hj2 (te_cmp (ok_gt (i := s1.2) (j := 0)) (Ev.toB (vr 2 n_law_row_big rfl)) (Ev.toB ev_int) rfl) ?_ ?_) ?_
      · intro h
        obtain ⟨hn2, h⟩ := need_ex h
        obtain ⟨row2, hrow2, h⟩ := set_ex h
        refine blk_cons (ρ1 := [some (.sh ((eL eI) script1)), some (.sh (eI many1)), some (.sh (eI s1.2)), some (.ow ((eL eI) row2)), some (.sh (eI x4))]) (sAppX (f := eI) (xs := s1.1) (v := (s1.2 % 1000)) hrow2 3 n_law_row_row rfl (ev_op (ok_mod (by decide)) (Ev.toB (cT g_law_row_int T.b_int bb_int (ok_intI (i := s1.2)) (eab_cons (Ev.toB (vr 2 n_law_row_big rfl)) eab_nil (fun _ => rfl)) (fun _ => rfl) (fun _ => rfl))) (Ev.toB ev_int)) hn2 (fun _ => rfl) (fun _ => rfl) (fun _ => rfl) rfl) ?_
        obtain ⟨big3, hbig3, h⟩ := set_ex h
        refine blk_cons (ρ1 := [some (.sh ((eL eI) script1)), some (.sh (eI many1)), some (.sh (eI big3)), some (.ow ((eL eI) row2)), some (.sh (eI x4))]) (sSet (d := eI big3) 2 s_law_row_big (Ev.to (ev_op (ok_fdiv (div_c (by decide))) (Ev.toB (vr 2 n_law_row_big rfl)) (Ev.toB ev_int)) (congrArg eI hbig3)) (fun _ _ => rfl)) ?_
        have h := Option.some.inj h
        subst h
        exact Blk.out blk_nil (.nx (.keep (.keep (.keep (.keep (.keep .nil))))))
      · intro h
        obtain ⟨law_mi1, hlaw_mi1, h⟩ := bind_ex h
        obtain ⟨hn3, h⟩ := need_ex h
        obtain ⟨row3, hrow3, h⟩ := set_ex h
        refine blk_cons (ρ1 := [some (.sh ((eL eI) script1)), some (.sh (eI many1)), some (.sh (eI s1.2)), some (.ow ((eL eI) row3)), some (.sh (eI x4))]) (sAppX (f := eI) (xs := s1.1) (v := law_mi1) hrow3 3 n_law_row_row rfl (cF g_law_row_law_mixed (ok_law_mixed T hlaw_mi1) (by decide : LW_law_mixed ≤ LV_law_row) (ea_cons (vr 0 n_law_row_script rfl) (ea_cons (vr 4 n_law_row_k rfl) ea_nil (fun _ => rfl)) (fun _ => rfl)) (fun _ => rfl) (fun _ => rfl)) hn3 (fun _ => rfl) (fun _ => rfl) (fun _ => rfl) rfl) ?_
        have h := Option.some.inj h
        subst h
        exact Blk.out blk_nil (.nx (.keep (.keep (.keep (.keep (.keep .nil))))))
      · have h := Option.some.inj h
        subst h
        exact Blk.out blk_nil (.nx (.keep (.keep (.keep (.keep (.drop .nil))))))
    · refine Blk.weak (ρ1 := [some (.sh ((eL eI) script1)), some (.sh (eI many1)), some (.sh (eI s2.2)), some (.sh ((eL eI) s2.1)), none]) ?_ (.keep (.keep (.keep (.frz (.keep .nil)))))
      have h := Option.some.inj h
      subst h
      exact blk_ret (st_ret (vr 3 n_law_row_row rfl))
abbrev LV_law_common : Nat := 1
abbrev LW_law_common : Nat := 2
def C_law_common : SC := ⟨["first", "second", "turn"], defScope (topS 14), fun _ => true⟩
theorem FS_law_common : FnScope C_law_common.N ["first", "second"] (defScope (topS 14)) := ⟨rfl, rfl, rfl, by decide +kernel, rfl, by decide +kernel, by decide +kernel⟩
theorem g_law_common_range : Gn C_law_common "range" := gn (by decide +kernel)
theorem s_law_common_turn : NmS C_law_common 2 "turn" := nms (by decide +kernel)
theorem n_law_common_second : Nm C_law_common 1 "second" := nm (by decide +kernel)
theorem g_law_common_int : Gn C_law_common "int" := gn (by decide +kernel)
theorem n_law_common_first : Nm C_law_common 0 "first" := nm (by decide +kernel)
theorem l_law_common_first : NmL C_law_common 0 "first" := nml (by decide +kernel)
theorem l_law_common_second : NmL C_law_common 1 "second" := nml (by decide +kernel)
theorem ok_law_common {G : Gb} (T : Facts G) {first1 : Int} {second1 : Int} {r : Int} (h : law_common_m first1 second1 = some r) : Fn G LW_law_common "_law_common" [eI first1, eI second1] (eI r) := by
  unfold law_common_m at h
  refine fn_def T.f_law_common FS_law_common rfl (r := .rt (eI r)) ?_ .rt
  show Blk G C_law_common _ [some (.sh (eI first1)), some (.sh (eI second1)), none] _ _
  obtain ⟨hn1, h⟩ := need_ex h
  obtain ⟨o1, ho1, h⟩ := bind_ex h
  refine blk_any (st_for (iR1 g_law_common_range T.b_range (Ev.toB ev_int) hn1 (fun _ => rfl)) (for_o (R := (fun (s1 : (Int × Int)) => ([some (.sh (eI s1.1)), some (.sh (eI s1.2)), none] : PEnv))) (E := eI) (ea := eI) (step := (law_common_l1)) ?_ _ _ _ ho1) (fun _ _ => rfl)) ?_
  · intro s1 x1 o h
    unfold law_common_l1 at h
    refine ⟨_, [some (.sh (eI s1.1)), some (.sh (eI s1.2)), some (.sh (eI x1))], (tN 2 s_law_common_turn), ?_⟩
    refine blk_ifx h (te_cmp (ok_eqI (i := s1.2) (j := 0)) (Ev.toB (vr 1 n_law_common_second rfl)) (Ev.toB ev_int) rfl) ?_ ?_
    · intro h
      have h := Option.some.inj h
      subst h
      exact blkx_brk st_break (.keep (.keep (.drop .nil)))
    · intro h
      obtain ⟨hn3, h⟩ := need_ex h
      obtain ⟨first2, hfirst2, h⟩ := set_ex h
      obtain ⟨second2, hsecond2, h⟩ := set_ex h
      refine blk_cons (ρ1 := [some (.sh (eI first2)), some (.sh (eI second2)), some (.sh (eI x1))]) (st_par (i := 0) (j := 1) l_law_common_first.hi l_law_common_second.hi (by decide) l_law_common_first.hl l_law_common_second.hl (Ev.s (Ev.to (vr 1 n_law_common_second rfl) (congrArg eI hfirst2))) (Ev.s (Ev.to (ev_op (ok_mod hn3) (Ev.toB (cT g_law_common_int T.b_int bb_int (ok_intI (i := s1.1)) (eab_cons (Ev.toB (vr 0 n_law_common_first rfl)) eab_nil (fun _ => rfl)) (fun _ => rfl) (fun _ => rfl))) (Ev.toB (vr 1 n_law_common_second rfl))) (congrArg eI hsecond2))) (fun env h => swp_sc env h (by kernel_rfl)) (fun _ => rfl) (fun _ => rfl) (fun _ => rfl)) ?_
      have h := Option.some.inj h
      subst h
      exact Blk.out blk_nil (.nx (.keep (.keep (.drop .nil))))
  · rcases then_ex h with ⟨s2, e, h⟩ | ⟨b, e, h⟩
    · subst e
      show Blk G C_law_common _ [some (.sh (eI s2.1)), some (.sh (eI s2.2)), none] _ _
      have h := Option.some.inj h
      subst h
      exact blk_ret (st_ret (vr 0 n_law_common_first rfl))
    · subst e
      have h := Option.some.inj h
      subst h
      rfl
abbrev LV_law_ratio : Nat := 3
abbrev LW_law_ratio : Nat := 4
def C_law_ratio : SC := ⟨["a", "b", "shared"], defScope (topS 15), fun _ => true⟩
theorem FS_law_ratio : FnScope C_law_ratio.N ["a", "b"] (defScope (topS 15)) := ⟨rfl, rfl, rfl, by decide +kernel, rfl, by decide +kernel, by decide +kernel⟩
theorem g_law_ratio_law_common : Gn C_law_ratio "_law_common" := gn (by decide +kernel)
theorem n_law_ratio_a : Nm C_law_ratio 0 "a" := nm (by decide +kernel)
theorem n_law_ratio_b : Nm C_law_ratio 1 "b" := nm (by decide +kernel)
theorem s_law_ratio_shared : NmS C_law_ratio 2 "shared" := nms (by decide +kernel)
theorem n_law_ratio_shared : Nm C_law_ratio 2 "shared" := nm (by decide +kernel)
theorem ok_law_ratio {G : Gb} (T : Facts G) {a1 : Int} {b1 : Int} {r : (Int × Int)} (h : law_ratio_m a1 b1 = some r) : Fn G LW_law_ratio "_law_ratio" [eI a1, eI b1] ((eP eI eI) r) := by
  unfold law_ratio_m at h
  refine fn_def T.f_law_ratio FS_law_ratio rfl (r := .rt ((eP eI eI) r)) ?_ .rt
  show Blk G C_law_ratio _ [some (.sh (eI a1)), some (.sh (eI b1)), none] _ _
  obtain ⟨law_co1, hlaw_co1, h⟩ := bind_ex h
  obtain ⟨shared1, hshared1, h⟩ := set_ex h
  refine blk_cons (ρ1 := [some (.sh (eI a1)), some (.sh (eI b1)), some (.sh (eI shared1))]) (sSet (d := eI shared1) 2 s_law_ratio_shared (Ev.to (cF g_law_ratio_law_common (ok_law_common T hlaw_co1) (by decide : LW_law_common ≤ LV_law_ratio) (ea_cons (vr 0 n_law_ratio_a rfl) (ea_cons (vr 1 n_law_ratio_b rfl) ea_nil (fun _ => rfl)) (fun _ => rfl)) (fun _ => rfl) (fun _ => rfl)) (congrArg eI hshared1)) (fun _ _ => rfl)) ?_
  obtain ⟨hn1, h⟩ := need_ex h
  obtain ⟨hn2, h⟩ := need_ex h
  have h := Option.some.inj h
  subst h
  exact blk_ret (st_ret (ev_tup (ea_cons (ev_op (ok_fdiv hn1) (Ev.toB (vr 0 n_law_ratio_a rfl)) (Ev.toB (vr 2 n_law_ratio_shared rfl))) (ea_cons (ev_op (ok_fdiv hn2) (Ev.toB (vr 1 n_law_ratio_b rfl)) (Ev.toB (vr 2 n_law_ratio_shared rfl))) ea_nil (fun _ => rfl)) (fun _ => rfl)) (le_sz (by decide : 2 ≤ 100000))))
abbrev LV_law_choose : Nat := 1
abbrev LW_law_choose : Nat := 2
def C_law_choose : SC := ⟨["n", "k", "found", "place"], defScope (topS 16), fun _ => true⟩
theorem FS_law_choose : FnScope C_law_choose.N ["n", "k"] (defScope (topS 16)) := ⟨rfl, rfl, rfl, by decide +kernel, rfl, by decide +kernel, by decide +kernel⟩
theorem s_law_choose_found : NmS C_law_choose 2 "found" := nms (by decide +kernel)
theorem n_law_choose_k : Nm C_law_choose 1 "k" := nm (by decide +kernel)
theorem g_law_choose_range : Gn C_law_choose "range" := gn (by decide +kernel)
theorem s_law_choose_place : NmS C_law_choose 3 "place" := nms (by decide +kernel)
theorem n_law_choose_found : Nm C_law_choose 2 "found" := nm (by decide +kernel)
theorem g_law_choose_max : Gn C_law_choose "max" := gn (by decide +kernel)
theorem n_law_choose_n : Nm C_law_choose 0 "n" := nm (by decide +kernel)
theorem n_law_choose_place : Nm C_law_choose 3 "place" := nm (by decide +kernel)
theorem ok_law_choose {G : Gb} (T : Facts G) {n1 : Int} {k1 : Int} {r : Int} (h : law_choose_m n1 k1 = some r) : Fn G LW_law_choose "_law_choose" [eI n1, eI k1] (eI r) := by
  unfold law_choose_m at h
  refine fn_def T.f_law_choose FS_law_choose rfl (r := .rt (eI r)) ?_ .rt
  show Blk G C_law_choose _ [some (.sh (eI n1)), some (.sh (eI k1)), none, none] _ _
  obtain ⟨found1, hfound1, h⟩ := set_ex h
  refine blk_cons (ρ1 := [some (.sh (eI n1)), some (.sh (eI k1)), some (.sh (eI found1)), none]) (sSet (d := eI found1) 2 s_law_choose_found (Ev.to ev_int (congrArg eI hfound1)) (fun _ _ => rfl)) ?_
  obtain ⟨hn1, h⟩ := need_ex h
  obtain ⟨s2, hs2, h⟩ := bind_ex h
  refine blk_cons (ρ1 := [some (.sh (eI n1)), some (.sh (eI k1)), some (.sh (eI s2)), none]) (st_for (iR1 g_law_choose_range T.b_range (Ev.toB (vr 1 n_law_choose_k rfl)) hn1 (fun _ => rfl)) (for_s (R := (fun (s1 : (Int)) => ([some (.sh (eI n1)), some (.sh (eI k1)), some (.sh (eI s1)), none] : PEnv))) (ea := eI) (step := (law_choose_l1 n1)) ?_ _ _ _ hs2) (fun _ _ => rfl)) ?_
  · intro s1 x1 o h
    unfold law_choose_l1 at h
    refine ⟨_, [some (.sh (eI n1)), some (.sh (eI k1)), some (.sh (eI s1)), some (.sh (eI x1))], (tN 3 s_law_choose_place), ?_⟩
    obtain ⟨hn4, h⟩ := need_ex h
    obtain ⟨hn5, h⟩ := need_ex h
    obtain ⟨found2, hfound2, h⟩ := set_ex h
    refine blk_cons (ρ1 := [some (.sh (eI n1)), some (.sh (eI k1)), some (.sh (eI found2)), some (.sh (eI x1))]) (sSet (d := eI found2) 2 s_law_choose_found (Ev.to (ev_op (ok_fdiv hn5) (Ev.toB (ev_op (ok_mul hn4) (Ev.toB (vr 2 n_law_choose_found rfl)) (Ev.toB (cB g_law_choose_max T.b_max bb_max (ok_max2 (i := 0) (j := (n1 - x1))) (eab_cons (Ev.toB ev_int) (eab_cons (Ev.toB (ev_op ok_sub (Ev.toB (vr 0 n_law_choose_n rfl)) (Ev.toB (vr 3 n_law_choose_place rfl)))) eab_nil (fun _ => rfl)) (fun _ => rfl)) (fun _ => rfl) (fun _ => rfl))))) (Ev.toB (ev_op ok_add (Ev.toB (vr 3 n_law_choose_place rfl)) (Ev.toB ev_int)))) (congrArg eI hfound2)) (fun _ _ => rfl)) ?_
    have h := Option.some.inj h
    subst h
    exact Blk.out blk_nil (.nx (.keep (.keep (.keep (.drop .nil)))))
  · have h := Option.some.inj h
    subst h
    exact blk_ret (st_ret (vr 2 n_law_choose_found rfl))
abbrev LV_law_chance : Nat := 5
abbrev LW_law_chance : Nat := 6
def C_law_chance : SC := ⟨["n", "truly", "draws"], defScope (topS 17), fun _ => true⟩
theorem FS_law_chance : FnScope C_law_chance.N ["n", "truly", "draws"] (defScope (topS 17)) := ⟨rfl, rfl, rfl, by decide +kernel, rfl, by decide +kernel, by decide +kernel⟩
theorem g_law_chance_law_ratio : Gn C_law_chance "_law_ratio" := gn (by decide +kernel)
theorem g_law_chance_law_choose : Gn C_law_chance "_law_choose" := gn (by decide +kernel)
theorem n_law_chance_truly : Nm C_law_chance 1 "truly" := nm (by decide +kernel)
theorem n_law_chance_draws : Nm C_law_chance 2 "draws" := nm (by decide +kernel)
theorem n_law_chance_n : Nm C_law_chance 0 "n" := nm (by decide +kernel)
theorem ok_law_chance {G : Gb} (T : Facts G) {n1 : Int} {truly1 : Int} {draws1 : Int} {r : (Int × Int)} (h : law_chance_m n1 truly1 draws1 = some r) : Fn G LW_law_chance "_law_chance" [eI n1, eI truly1, eI draws1] ((eP eI eI) r) := by
  unfold law_chance_m at h
  refine fn_def T.f_law_chance FS_law_chance rfl (r := .rt ((eP eI eI) r)) ?_ .rt
  show Blk G C_law_chance _ [some (.sh (eI n1)), some (.sh (eI truly1)), some (.sh (eI draws1))] _ _
  obtain ⟨law_ch1, hlaw_ch1, h⟩ := bind_ex h
  obtain ⟨law_ch2, hlaw_ch2, h⟩ := bind_ex h
  obtain ⟨law_ra1, hlaw_ra1, h⟩ := bind_ex h
  have h := Option.some.inj h
  subst h
  exact blk_ret (st_ret (cF g_law_chance_law_ratio (ok_law_ratio T hlaw_ra1) (by decide : LW_law_ratio ≤ LV_law_chance) (ea_cons (cF g_law_chance_law_choose (ok_law_choose T hlaw_ch1) (by decide : LW_law_choose ≤ LV_law_chance) (ea_cons (vr 1 n_law_chance_truly rfl) (ea_cons (vr 2 n_law_chance_draws rfl) ea_nil (fun _ => rfl)) (fun _ => rfl)) (fun _ => rfl) (fun _ => rfl)) (ea_cons (cF g_law_chance_law_choose (ok_law_choose T hlaw_ch2) (by decide : LW_law_choose ≤ LV_law_chance) (ea_cons (vr 0 n_law_chance_n rfl) (ea_cons (vr 2 n_law_chance_draws rfl) ea_nil (fun _ => rfl)) (fun _ => rfl)) (fun _ => rfl) (fun _ => rfl)) ea_nil (fun _ => rfl)) (fun _ => rfl)) (fun _ => rfl) (fun _ => rfl)))
abbrev LV_law_chances_right : Nat := 7
abbrev LW_law_chances_right : Nat := 8
def C_law_chances_right : SC := ⟨["n", "truly", "draws", "more", "due", "rest"], defScope (topS 18), fun _ => true⟩
theorem FS_law_chances_right : FnScope C_law_chances_right.N ["n", "truly", "draws", "more"] (defScope (topS 18)) := ⟨rfl, rfl, rfl, by decide +kernel, rfl, by decide +kernel, by decide +kernel⟩
theorem g_law_chances_right_law_chance : Gn C_law_chances_right "_law_chance" := gn (by decide +kernel)
theorem n_law_chances_right_n : Nm C_law_chances_right 0 "n" := nm (by decide +kernel)
theorem n_law_chances_right_truly : Nm C_law_chances_right 1 "truly" := nm (by decide +kernel)
theorem n_law_chances_right_draws : Nm C_law_chances_right 2 "draws" := nm (by decide +kernel)
theorem s_law_chances_right_due : NmS C_law_chances_right 4 "due" := nms (by decide +kernel)
theorem g_law_chances_right_law_like : Gn C_law_chances_right "_law_like" := gn (by decide +kernel)
theorem g_law_chances_right_audit_chance : Gn C_law_chances_right "audit_chance" := gn (by decide +kernel)
theorem n_law_chances_right_due : Nm C_law_chances_right 4 "due" := nm (by decide +kernel)
theorem n_law_chances_right_more : Nm C_law_chances_right 3 "more" := nm (by decide +kernel)
theorem s_law_chances_right_rest : NmS C_law_chances_right 5 "rest" := nms (by decide +kernel)
theorem n_law_chances_right_rest : Nm C_law_chances_right 5 "rest" := nm (by decide +kernel)
theorem g_law_chances_right_law_ratio : Gn C_law_chances_right "_law_ratio" := gn (by decide +kernel)
theorem ok_law_chances_right {G : Gb} (T : Facts G) {n1 : Int} {truly1 : Int} {draws1 : Int} {more1 : Int} {r : Bool} (h : law_chances_right_m n1 truly1 draws1 more1 = some r) : Fn G LW_law_chances_right "_law_chances_right" [eI n1, eI truly1, eI draws1, eI more1] (eB r) := by
  unfold law_chances_right_m at h
  refine fn_def T.f_law_chances_right FS_law_chances_right rfl (r := .rt (eB r)) ?_ .rt
  show Blk G C_law_chances_right _ [some (.sh (eI n1)), some (.sh (eI truly1)), some (.sh (eI draws1)), some (.sh (eI more1)), none, none] _ _
  obtain ⟨law_ch1, hlaw_ch1, h⟩ := bind_ex h
  obtain ⟨due1, hdue1, h⟩ := set_ex h
  refine blk_cons (ρ1 := [some (.sh (eI n1)), some (.sh (eI truly1)), some (.sh (eI draws1)), some (.sh (eI more1)), some (.sh ((eP eI eI) due1)), none]) (sSet (d := (eP eI eI) due1) 4 s_law_chances_right_due (Ev.to (cF g_law_chances_right_law_chance (ok_law_chance T hlaw_ch1) (by decide : LW_law_chance ≤ LV_law_chances_right) (ea_cons (vr 0 n_law_chances_right_n rfl) (ea_cons (vr 1 n_law_chances_right_truly rfl) (ea_cons (vr 2 n_law_chances_right_draws rfl) ea_nil (fun _ => rfl)) (fun _ => rfl)) (fun _ => rfl)) (fun _ => rfl) (fun _ => rfl)) (congrArg (eP eI eI) hdue1)) (fun _ _ => rfl)) ?_
  obtain ⟨audit1, haudit1, h⟩ := bind_ex h
  obtain ⟨b1, hb1, h⟩ := bind_ex h
  refine blk_ifx h (Tw.te (tw_orO hb1 (te_not (te_val (Ev.toB (cF g_law_chances_right_law_like (ok_like T 1 ((eP eI eI) due1) ((eP eI eI) audit1) ((du_P du_I du_I).ok _) ((du_P du_I du_I).dp _)) (by decide : 3 ≤ LV_law_chances_right) (ea_cons (cF g_law_chances_right_audit_chance (ok_audit_chance T haudit1) (by decide : LW_audit_chance ≤ LV_law_chances_right) (ea_cons (vr 0 n_law_chances_right_n rfl) (ea_cons (vr 1 n_law_chances_right_truly rfl) (ea_cons (vr 2 n_law_chances_right_draws rfl) ea_nil (fun _ => rfl)) (fun _ => rfl)) (fun _ => rfl)) (fun _ => rfl) (fun _ => rfl)) (ea_cons (vr 4 n_law_chances_right_due rfl) ea_nil (fun _ => rfl)) (fun _ => rfl)) (fun _ => rfl) (fun _ => rfl))) (fun _ _ => rfl))) (fun h => by (obtain ⟨audit2, haudit2, h⟩ := bind_ex h; have h := Option.some.inj h; subst h; exact (tw_or1 (te_not (te_val (Ev.toB (cF g_law_chances_right_law_like (ok_like T 1 ((eP eI eI) due1) ((eP eI eI) audit2) ((du_P du_I du_I).ok _) ((du_P du_I du_I).dp _)) (by decide : 3 ≤ LV_law_chances_right) (ea_cons (cF g_law_chances_right_audit_chance (ok_audit_chance T haudit2) (by decide : LW_audit_chance ≤ LV_law_chances_right) (ea_cons (vr 0 n_law_chances_right_n rfl) (ea_cons (ev_op ok_sub (Ev.toB (vr 0 n_law_chances_right_n rfl)) (Ev.toB (vr 2 n_law_chances_right_draws rfl))) (ea_cons (ev_op ok_sub (Ev.toB (vr 0 n_law_chances_right_n rfl)) (Ev.toB (vr 1 n_law_chances_right_truly rfl))) ea_nil (fun _ => rfl)) (fun _ => rfl)) (fun _ => rfl)) (fun _ => rfl) (fun _ => rfl)) (ea_cons (vr 4 n_law_chances_right_due rfl) ea_nil (fun _ => rfl)) (fun _ => rfl)) (fun _ => rfl) (fun _ => rfl))) (fun _ _ => rfl)))))))) ?_ ?_
  · intro h
    have h := Option.some.inj h
    subst h
    exact blkx_ret (st_ret ev_bool)
  · intro h
    refine blk_ifx h (Tw.te (tw_or (te_cmp (ok_gt (i := draws1) (j := truly1)) (Ev.toB (vr 2 n_law_chances_right_draws rfl)) (Ev.toB (vr 1 n_law_chances_right_truly rfl)) rfl) (tw_or1 (te_cmp (ok_eqI (i := draws1) (j := n1)) (Ev.toB (vr 2 n_law_chances_right_draws rfl)) (Ev.toB (vr 0 n_law_chances_right_n rfl)) rfl)))) ?_ ?_
    · intro h
      have h := Option.some.inj h
      subst h
      exact blkx_ret (st_ret ev_bool)
    · intro h
      obtain ⟨law_ch2, hlaw_ch2, h⟩ := bind_ex h
      obtain ⟨rest1, hrest1, h⟩ := set_ex h
      refine blk_cons (ρ1 := [some (.sh (eI n1)), some (.sh (eI truly1)), some (.sh (eI draws1)), some (.sh (eI more1)), some (.sh ((eP eI eI) due1)), some (.sh ((eP eI eI) rest1))]) (sSet (d := (eP eI eI) rest1) 5 s_law_chances_right_rest (Ev.to (cF g_law_chances_right_law_chance (ok_law_chance T hlaw_ch2) (by decide : LW_law_chance ≤ LV_law_chances_right) (ea_cons (ev_op ok_sub (Ev.toB (vr 0 n_law_chances_right_n rfl)) (Ev.toB (vr 2 n_law_chances_right_draws rfl))) (ea_cons (ev_op ok_sub (Ev.toB (vr 1 n_law_chances_right_truly rfl)) (Ev.toB (vr 2 n_law_chances_right_draws rfl))) (ea_cons (vr 3 n_law_chances_right_more rfl) ea_nil (fun _ => rfl)) (fun _ => rfl)) (fun _ => rfl)) (fun _ => rfl) (fun _ => rfl)) (congrArg (eP eI eI) hrest1)) (fun _ _ => rfl)) ?_
      obtain ⟨audit3, haudit3, h⟩ := bind_ex h
      refine blk_ifx h (te_not (te_val (Ev.toB (cF g_law_chances_right_law_like (ok_like T 1 ((eP eI eI) rest1) ((eP eI eI) audit3) ((du_P du_I du_I).ok _) ((du_P du_I du_I).dp _)) (by decide : 3 ≤ LV_law_chances_right) (ea_cons (cF g_law_chances_right_audit_chance (ok_audit_chance T haudit3) (by decide : LW_audit_chance ≤ LV_law_chances_right) (ea_cons (ev_op ok_sub (Ev.toB (vr 0 n_law_chances_right_n rfl)) (Ev.toB (vr 2 n_law_chances_right_draws rfl))) (ea_cons (ev_op ok_sub (Ev.toB (vr 1 n_law_chances_right_truly rfl)) (Ev.toB (vr 2 n_law_chances_right_draws rfl))) (ea_cons (vr 3 n_law_chances_right_more rfl) ea_nil (fun _ => rfl)) (fun _ => rfl)) (fun _ => rfl)) (fun _ => rfl) (fun _ => rfl)) (ea_cons (vr 5 n_law_chances_right_rest rfl) ea_nil (fun _ => rfl)) (fun _ => rfl)) (fun _ => rfl) (fun _ => rfl))) (fun _ _ => rfl))) ?_ ?_
      · intro h
        have h := Option.some.inj h
        subst h
        exact blkx_ret (st_ret ev_bool)
      · intro h
        obtain ⟨audit4, haudit4, h⟩ := bind_ex h
        obtain ⟨hn1, h⟩ := need_ex h
        obtain ⟨hn2, h⟩ := need_ex h
        obtain ⟨law_ra1, hlaw_ra1, h⟩ := bind_ex h
        have h := Option.some.inj h
        subst h
        exact blk_ret (st_ret (cF g_law_chances_right_law_like (ok_like T 1 ((eP eI eI) law_ra1) ((eP eI eI) audit4) ((du_P du_I du_I).ok _) ((du_P du_I du_I).dp _)) (by decide : 3 ≤ LV_law_chances_right) (ea_cons (cF g_law_chances_right_audit_chance (ok_audit_chance T haudit4) (by decide : LW_audit_chance ≤ LV_law_chances_right) (ea_cons (vr 0 n_law_chances_right_n rfl) (ea_cons (vr 1 n_law_chances_right_truly rfl) (ea_cons (ev_op ok_add (Ev.toB (vr 2 n_law_chances_right_draws rfl)) (Ev.toB (vr 3 n_law_chances_right_more rfl))) ea_nil (fun _ => rfl)) (fun _ => rfl)) (fun _ => rfl)) (fun _ => rfl) (fun _ => rfl)) (ea_cons (cF g_law_chances_right_law_ratio (ok_law_ratio T hlaw_ra1) (by decide : LW_law_ratio ≤ LV_law_chances_right) (ea_cons (ev_op (ok_mul hn1) (Ev.toB (ev_ixT (d := eI due1.1) (Ev.toB (vr 4 n_law_chances_right_due rfl)) (Ev.toB ev_int) rfl (fun _ _ => rfl))) (Ev.toB (ev_ixT (d := eI rest1.1) (Ev.toB (vr 5 n_law_chances_right_rest rfl)) (Ev.toB ev_int) rfl (fun _ _ => rfl)))) (ea_cons (ev_op (ok_mul hn2) (Ev.toB (ev_ixT (d := eI due1.2) (Ev.toB (vr 4 n_law_chances_right_due rfl)) (Ev.toB ev_int) rfl (fun _ _ => rfl))) (Ev.toB (ev_ixT (d := eI rest1.2) (Ev.toB (vr 5 n_law_chances_right_rest rfl)) (Ev.toB ev_int) rfl (fun _ _ => rfl)))) ea_nil (fun _ => rfl)) (fun _ => rfl)) (fun _ => rfl) (fun _ => rfl)) ea_nil (fun _ => rfl)) (fun _ => rfl)) (fun _ => rfl) (fun _ => rfl)))
abbrev LV_law_stop : Nat := 1
abbrev LW_law_stop : Nat := 2
def C_law_stop : SC := ⟨["ballots", "limit", "top", "under", "draws"], defScope (topS 19), fun _ => true⟩
theorem FS_law_stop : FnScope C_law_stop.N ["ballots", "limit"] (defScope (topS 19)) := ⟨rfl, rfl, rfl, by decide +kernel, rfl, by decide +kernel, by decide +kernel⟩
theorem s_law_stop_top : NmS C_law_stop 2 "top" := nms (by decide +kernel)
theorem s_law_stop_under : NmS C_law_stop 3 "under" := nms (by decide +kernel)
theorem n_law_stop_ballots : Nm C_law_stop 0 "ballots" := nm (by decide +kernel)
theorem g_law_stop_range : Gn C_law_stop "range" := gn (by decide +kernel)
theorem s_law_stop_draws : NmS C_law_stop 4 "draws" := nms (by decide +kernel)
theorem n_law_stop_top : Nm C_law_stop 2 "top" := nm (by decide +kernel)
theorem n_law_stop_limit : Nm C_law_stop 1 "limit" := nm (by decide +kernel)
theorem n_law_stop_under : Nm C_law_stop 3 "under" := nm (by decide +kernel)
theorem n_law_stop_draws : Nm C_law_stop 4 "draws" := nm (by decide +kernel)
theorem l_law_stop_top : NmL C_law_stop 2 "top" := nml (by decide +kernel)
theorem l_law_stop_under : NmL C_law_stop 3 "under" := nml (by decide +kernel)
theorem ok_law_stop {G : Gb} (T : Facts G) {ballots1 : Int} {limit1 : (Int × Int)} {r : (Option Int)} (h : law_stop_m ballots1 limit1 = some r) : Fn G LW_law_stop "_law_stop" [eI ballots1, (eP eI eI) limit1] ((eO eI) r) := by
  unfold law_stop_m at h
  refine fn_def T.f_law_stop FS_law_stop rfl (r := .rt ((eO eI) r)) ?_ .rt
  show Blk G C_law_stop _ [some (.sh (eI ballots1)), some (.sh ((eP eI eI) limit1)), none, none, none] _ _
  obtain ⟨top1, htop1, h⟩ := set_ex h
  obtain ⟨under1, hunder1, h⟩ := set_ex h
  refine blk_cons (ρ1 := [some (.sh (eI ballots1)), some (.sh ((eP eI eI) limit1)), some (.sh (eI top1)), some (.sh (eI under1)), none]) (st_unp2 s_law_stop_top s_law_stop_under (Ev.s (Ev.to ev_int (congrArg eI htop1))) (Ev.s (Ev.to ev_int (congrArg eI hunder1))) (fun env h => swp_sc env h (by kernel_rfl)) (fun _ => rfl) (fun _ => rfl)) ?_
  obtain ⟨hn1, h⟩ := need_ex h
  obtain ⟨o1, ho1, h⟩ := bind_ex h
  refine blk_any (st_for (iR1 g_law_stop_range T.b_range (Ev.toB (ev_op ok_add (Ev.toB (vr 0 n_law_stop_ballots rfl)) (Ev.toB ev_int))) hn1 (fun _ => rfl)) (for_o (R := (fun (s1 : (Int × Int)) => ([some (.sh (eI ballots1)), some (.sh ((eP eI eI) limit1)), some (.sh (eI s1.1)), some (.sh (eI s1.2)), none] : PEnv))) (E := (eO eI)) (ea := eI) (step := (law_stop_l1 ballots1 limit1)) ?_ _ _ _ ho1) (fun _ _ => rfl)) ?_
  · intro s1 x1 o h
    unfold law_stop_l1 at h
    refine ⟨_, [some (.sh (eI ballots1)), some (.sh ((eP eI eI) limit1)), some (.sh (eI s1.1)), some (.sh (eI s1.2)), some (.sh (eI x1))], (tN 4 s_law_stop_draws), ?_⟩
    obtain ⟨hn2, h⟩ := need_ex h
    obtain ⟨hn3, h⟩ := need_ex h
    refine blk_ifx h (te_cmp (ok_le (i := (s1.1 * limit1.2)) (j := (limit1.1 * s1.2))) (Ev.toB (ev_op (ok_mul hn2) (Ev.toB (vr 2 n_law_stop_top rfl)) (Ev.toB (ev_ixT (d := eI limit1.2) (Ev.toB (vr 1 n_law_stop_limit rfl)) (Ev.toB ev_int) rfl (fun _ _ => rfl))))) (Ev.toB (ev_op (ok_mul hn3) (Ev.toB (ev_ixT (d := eI limit1.1) (Ev.toB (vr 1 n_law_stop_limit rfl)) (Ev.toB ev_int) rfl (fun _ _ => rfl))) (Ev.toB (vr 3 n_law_stop_under rfl)))) rfl) ?_ ?_
    · intro h
      have h := Option.some.inj h
      subst h
      exact blkx_ret (st_ret (vr 4 n_law_stop_draws rfl))
    · intro h
      obtain ⟨hn5, h⟩ := need_ex h
      obtain ⟨hn7, h⟩ := need_ex h
      obtain ⟨top2, htop2, h⟩ := set_ex h
      obtain ⟨under2, hunder2, h⟩ := set_ex h
      refine blk_cons (ρ1 := [some (.sh (eI ballots1)), some (.sh ((eP eI eI) limit1)), some (.sh (eI top2)), some (.sh (eI under2)), some (.sh (eI x1))]) (st_par (i := 2) (j := 3) l_law_stop_top.hi l_law_stop_under.hi (by decide) l_law_stop_top.hl l_law_stop_under.hl (Ev.s (Ev.to (ev_op (ok_mul hn5) (Ev.toB (vr 2 n_law_stop_top rfl)) (Ev.toB (ev_op ok_sub (Ev.toB (ev_op (ok_fdiv (div_c (by decide))) (Ev.toB (vr 0 n_law_stop_ballots rfl)) (Ev.toB ev_int))) (Ev.toB (vr 4 n_law_stop_draws rfl))))) (congrArg eI htop2))) (Ev.s (Ev.to (ev_op (ok_mul hn7) (Ev.toB (vr 3 n_law_stop_under rfl)) (Ev.toB (ev_op ok_sub (Ev.toB (vr 0 n_law_stop_ballots rfl)) (Ev.toB (vr 4 n_law_stop_draws rfl))))) (congrArg eI hunder2))) (fun env h => swp_sc env h (by kernel_rfl)) (fun _ => rfl) (fun _ => rfl) (fun _ => rfl)) ?_
      have h := Option.some.inj h
      subst h
      exact Blk.out blk_nil (.nx (.keep (.keep (.keep (.keep (.drop .nil))))))
  · rcases then_ex h with ⟨s2, e, h⟩ | ⟨b, e, h⟩
    · subst e
      show Blk G C_law_stop _ [some (.sh (eI ballots1)), some (.sh ((eP eI eI) limit1)), some (.sh (eI s2.1)), some (.sh (eI s2.2)), none] _ _
      have h := Option.some.inj h
      subst h
      exact blk_ret (st_ret ev_none)
    · subst e
      have h := Option.some.inj h
      subst h
      rfl
abbrev LV_law_reached : Nat := 1
abbrev LW_law_reached : Nat := 2
def C_law_reached : SC := ⟨["limit", "first", "second", "plans", "top", "under", "k"], defScope (topS 20), fun _ => true⟩
theorem FS_law_reached : FnScope C_law_reached.N ["limit", "first", "second", "plans"] (defScope (topS 20)) := ⟨rfl, rfl, rfl, by decide +kernel, rfl, by decide +kernel, by decide +kernel⟩
theorem s_law_reached_top : NmS C_law_reached 4 "top" := nms (by decide +kernel)
theorem s_law_reached_under : NmS C_law_reached 5 "under" := nms (by decide +kernel)
theorem g_law_reached_len : Gn C_law_reached "len" := gn (by decide +kernel)
theorem n_law_reached_plans : Nm C_law_reached 3 "plans" := nm (by decide +kernel)
theorem g_law_reached_range : Gn C_law_reached "range" := gn (by decide +kernel)
theorem s_law_reached_k : NmS C_law_reached 6 "k" := nms (by decide +kernel)
theorem n_law_reached_top : Nm C_law_reached 4 "top" := nm (by decide +kernel)
theorem n_law_reached_first : Nm C_law_reached 1 "first" := nm (by decide +kernel)
theorem n_law_reached_second : Nm C_law_reached 2 "second" := nm (by decide +kernel)
theorem n_law_reached_k : Nm C_law_reached 6 "k" := nm (by decide +kernel)
theorem n_law_reached_under : Nm C_law_reached 5 "under" := nm (by decide +kernel)
theorem l_law_reached_top : NmL C_law_reached 4 "top" := nml (by decide +kernel)
theorem l_law_reached_under : NmL C_law_reached 5 "under" := nml (by decide +kernel)
theorem n_law_reached_limit : Nm C_law_reached 0 "limit" := nm (by decide +kernel)
theorem ok_law_reached {G : Gb} (T : Facts G) {limit1 : (Int × Int)} {first1 : Int} {second1 : Int} {plans1 : (List Int)} {r : (Option Int)} (h : law_reached_m limit1 first1 second1 plans1 = some r) : Fn G LW_law_reached "_law_reached" [(eP eI eI) limit1, eI first1, eI second1, (eT eI) plans1] ((eO eI) r) := by
  unfold law_reached_m at h
  refine fn_def T.f_law_reached FS_law_reached rfl (r := .rt ((eO eI) r)) ?_ .rt
  show Blk G C_law_reached _ [some (.sh ((eP eI eI) limit1)), some (.sh (eI first1)), some (.sh (eI second1)), some (.sh ((eT eI) plans1)), none, none, none] _ _
  obtain ⟨top1, htop1, h⟩ := set_ex h
  obtain ⟨under1, hunder1, h⟩ := set_ex h
  refine blk_cons (ρ1 := [some (.sh ((eP eI eI) limit1)), some (.sh (eI first1)), some (.sh (eI second1)), some (.sh ((eT eI) plans1)), some (.sh (eI top1)), some (.sh (eI under1)), none]) (st_unp2 s_law_reached_top s_law_reached_under (Ev.s (Ev.to ev_int (congrArg eI htop1))) (Ev.s (Ev.to ev_int (congrArg eI hunder1))) (fun env h => swp_sc env h (by kernel_rfl)) (fun _ => rfl) (fun _ => rfl)) ?_
  refine blk_bd (f := eI) (xs := plans1) 3 (.inl rfl) fun hb1 => ?_
  obtain ⟨o1, ho1, h⟩ := bind_ex h
  refine blk_any (st_for (iR1 g_law_reached_range T.b_range (Ev.toB (cB g_law_reached_len T.b_len bb_len (ok_lenT plans1) (eab_cons (Ev.toB (vr 3 n_law_reached_plans rfl)) eab_nil (fun _ => rfl)) (fun _ => rfl) (fun _ => rfl))) (rg_len hb1) (fun _ => rfl)) (for_o (R := (fun (s1 : (Int × Int)) => ([some (.sh ((eP eI eI) limit1)), some (.sh (eI first1)), some (.sh (eI second1)), some (.sh ((eT eI) plans1)), some (.sh (eI s1.1)), some (.sh (eI s1.2)), none] : PEnv))) (E := (eO eI)) (ea := eI) (step := (law_reached_l1 limit1 first1 second1 plans1)) ?_ _ _ _ ho1) (fun _ _ => rfl)) ?_
  · intro s1 x1 o h
    unfold law_reached_l1 at h
    refine ⟨_, [some (.sh ((eP eI eI) limit1)), some (.sh (eI first1)), some (.sh (eI second1)), some (.sh ((eT eI) plans1)), some (.sh (eI s1.1)), some (.sh (eI s1.2)), some (.sh (eI x1))], (tN 6 s_law_reached_k), ?_⟩
    obtain ⟨x4, hx4, h⟩ := bind_ex h
    obtain ⟨x5, hx5, h⟩ := bind_ex h
    obtain ⟨hn2, h⟩ := need_ex h
    obtain ⟨hn4, h⟩ := need_ex h
    obtain ⟨top2, htop2, h⟩ := set_ex h
    obtain ⟨under2, hunder2, h⟩ := set_ex h
    refine blk_cons (ρ1 := [some (.sh ((eP eI eI) limit1)), some (.sh (eI first1)), some (.sh (eI second1)), some (.sh ((eT eI) plans1)), some (.sh (eI top2)), some (.sh (eI under2)), some (.sh (eI x1))]) (st_par (i := 4) (j := 5) l_law_reached_top.hi l_law_reached_under.hi (by decide) l_law_reached_top.hl l_law_reached_under.hl (Ev.s (Ev.to (ev_op (ok_mul hn2) (Ev.toB (ev_op (ok_mul (mul_r (by decide))) (Ev.toB (vr 4 n_law_reached_top rfl)) (Ev.toB ev_int))) (Ev.toB (ev_ixT (Ev.toB (ev_tup (ea_cons (vr 1 n_law_reached_first rfl) (ea_cons (vr 2 n_law_reached_second rfl) ea_nil (fun _ => rfl)) (fun _ => rfl)) (le_sz (by decide : 2 ≤ 100000)))) (Ev.toB (ev_ixT (Ev.toB (vr 3 n_law_reached_plans rfl)) (Ev.toB (vr 6 n_law_reached_k rfl)) (atI_map eI hx4) (fun _ _ => rfl))) (atI_map eI hx5) (fun _ _ => rfl)))) (congrArg eI htop2))) (Ev.s (Ev.to (ev_op (ok_mul hn4) (Ev.toB (vr 5 n_law_reached_under rfl)) (Ev.toB (ev_op ok_add (Ev.toB (vr 1 n_law_reached_first rfl)) (Ev.toB (vr 2 n_law_reached_second rfl))))) (congrArg eI hunder2))) (fun env h => swp_sc env h (by kernel_rfl)) (fun _ => rfl) (fun _ => rfl) (fun _ => rfl)) ?_
    obtain ⟨hn5, h⟩ := need_ex h
    obtain ⟨hn6, h⟩ := need_ex h
    refine blk_ifx h (te_cmp (ok_ge (i := (top2 * limit1.1)) (j := (under2 * limit1.2))) (Ev.toB (ev_op (ok_mul hn5) (Ev.toB (vr 4 n_law_reached_top rfl)) (Ev.toB (ev_ixT (d := eI limit1.1) (Ev.toB (vr 0 n_law_reached_limit rfl)) (Ev.toB ev_int) rfl (fun _ _ => rfl))))) (Ev.toB (ev_op (ok_mul hn6) (Ev.toB (vr 5 n_law_reached_under rfl)) (Ev.toB (ev_ixT (d := eI limit1.2) (Ev.toB (vr 0 n_law_reached_limit rfl)) (Ev.toB ev_int) rfl (fun _ _ => rfl))))) rfl) ?_ ?_
    · intro h
      have h := Option.some.inj h
      subst h
      exact blkx_ret (st_ret (ev_op ok_add (Ev.toB (vr 6 n_law_reached_k rfl)) (Ev.toB ev_int)))
    · intro h
      have h := Option.some.inj h
      subst h
      exact Blk.out blk_nil (.nx (.keep (.keep (.keep (.keep (.keep (.keep (.drop .nil))))))))
  · rcases then_ex h with ⟨s2, e, h⟩ | ⟨b, e, h⟩
    · subst e
      show Blk G C_law_reached _ [some (.sh ((eP eI eI) limit1)), some (.sh (eI first1)), some (.sh (eI second1)), some (.sh ((eT eI) plans1)), some (.sh (eI s2.1)), some (.sh (eI s2.2)), none] _ _
      have h := Option.some.inj h
      subst h
      exact blk_ret (st_ret ev_none)
    · subst e
      have h := Option.some.inj h
      subst h
      rfl
abbrev LV_law_missed : Nat := 5
abbrev LW_law_missed : Nat := 6
def C_law_missed : SC := ⟨["limit", "first", "second", "n", "ways", "tops", "found", "under", "k", "grown", "products", "j"], defScope (topS 21), fun _ => true⟩
theorem FS_law_missed : FnScope C_law_missed.N ["limit", "first", "second", "n"] (defScope (topS 21)) := ⟨rfl, rfl, rfl, by decide +kernel, rfl, by decide +kernel, by decide +kernel⟩
theorem s_law_missed_ways : NmS C_law_missed 4 "ways" := nms (by decide +kernel)
theorem s_law_missed_tops : NmS C_law_missed 5 "tops" := nms (by decide +kernel)
theorem s_law_missed_found : NmS C_law_missed 6 "found" := nms (by decide +kernel)
theorem s_law_missed_under : NmS C_law_missed 7 "under" := nms (by decide +kernel)
theorem n_law_missed_n : Nm C_law_missed 3 "n" := nm (by decide +kernel)
theorem g_law_missed_range : Gn C_law_missed "range" := gn (by decide +kernel)
theorem s_law_missed_k : NmS C_law_missed 8 "k" := nms (by decide +kernel)
theorem n_law_missed_k : Nm C_law_missed 8 "k" := nm (by decide +kernel)
theorem l_law_missed_grown : NmL C_law_missed 9 "grown" := nml (by decide +kernel)
theorem l_law_missed_products : NmL C_law_missed 10 "products" := nml (by decide +kernel)
theorem s_law_missed_j : NmS C_law_missed 11 "j" := nms (by decide +kernel)
theorem n_law_missed_grown : Nm C_law_missed 9 "grown" := nm (by decide +kernel)
theorem n_law_missed_j : Nm C_law_missed 11 "j" := nm (by decide +kernel)
theorem n_law_missed_ways : Nm C_law_missed 4 "ways" := nm (by decide +kernel)
theorem n_law_missed_tops : Nm C_law_missed 5 "tops" := nm (by decide +kernel)
theorem n_law_missed_first : Nm C_law_missed 1 "first" := nm (by decide +kernel)
theorem n_law_missed_products : Nm C_law_missed 10 "products" := nm (by decide +kernel)
theorem n_law_missed_second : Nm C_law_missed 2 "second" := nm (by decide +kernel)
theorem n_law_missed_under : Nm C_law_missed 7 "under" := nm (by decide +kernel)
theorem n_law_missed_found : Nm C_law_missed 6 "found" := nm (by decide +kernel)
theorem l_law_missed_under : NmL C_law_missed 7 "under" := nml (by decide +kernel)
theorem l_law_missed_found : NmL C_law_missed 6 "found" := nml (by decide +kernel)
theorem n_law_missed_limit : Nm C_law_missed 0 "limit" := nm (by decide +kernel)
theorem l_law_missed_ways : NmL C_law_missed 4 "ways" := nml (by decide +kernel)
theorem l_law_missed_tops : NmL C_law_missed 5 "tops" := nml (by decide +kernel)
theorem g_law_missed_law_ratio : Gn C_law_missed "_law_ratio" := gn (by decide +kernel)
theorem ok_law_missed {G : Gb} (T : Facts G) {limit1 : (Int × Int)} {first1 : Int} {second1 : Int} {n1 : Int} {r : (Int × Int)} (h : law_missed_m limit1 first1 second1 n1 = some r) : Fn G LW_law_missed "_law_missed" [(eP eI eI) limit1, eI first1, eI second1, eI n1] ((eP eI eI) r) := by
  unfold law_missed_m at h
  refine fn_def T.f_law_missed FS_law_missed rfl (r := .rt ((eP eI eI) r)) ?_ .rt
  show Blk G C_law_missed _ [some (.sh ((eP eI eI) limit1)), some (.sh (eI first1)), some (.sh (eI second1)), some (.sh (eI n1)), none, none, none, none, none, none, none, none] _ _
  obtain ⟨w1, hw1, h⟩ := set_ex h
  refine blk_cons (ρ1 := [some (.sh ((eP eI eI) limit1)), some (.sh (eI first1)), some (.sh (eI second1)), some (.sh (eI n1)), some (.sh ((eL eI) w1.1)), some (.sh ((eL eI) w1.2.1)), some (.sh (eI w1.2.2.1)), some (.sh (eI w1.2.2.2)), none, none, none, none]) (st_asg (d := (eP4 (eL eI) (eL eI) eI eI) w1) (Ev.to (ev_tup (ea_cons (EvN.ev (evn_lst (ea_cons ev_int ea_nil (fun _ => rfl)) (le_sz (by decide : 1 ≤ 100000)))) (ea_cons (EvN.ev (evn_lst (ea_cons ev_int ea_nil (fun _ => rfl)) (le_sz (by decide : 1 ≤ 100000)))) (ea_cons ev_int (ea_cons ev_int ea_nil (fun _ => rfl)) (fun _ => rfl)) (fun _ => rfl)) (fun _ => rfl)) (le_sz (by decide : 4 ≤ 100000))) (congrArg (eP4 (eL eI) (eL eI) eI eI) hw1)) (tg_tup (tgs_cons (tN 4 s_law_missed_ways) (tgs_cons (tN 5 s_law_missed_tops) (tgs_cons (tN 6 s_law_missed_found) (tgs_cons (tN 7 s_law_missed_under) tgs_nil (fun _ => rfl)) (fun _ => rfl)) (fun _ => rfl)) (fun _ => rfl)) rfl (fun _ => rfl) (fun _ => rfl)) (fun _ => rfl) (fun _ => rfl) (fun _ => rfl)) ?_
  obtain ⟨hn1, h⟩ := need_ex h
  obtain ⟨s6, hs6, h⟩ := bind_ex h
  refine blk_cons (ρ1 := [some (.sh ((eP eI eI) limit1)), some (.sh (eI first1)), some (.sh (eI second1)), some (.sh (eI n1)), some (.sh ((eL eI) s6.2.2.1)), some (.sh ((eL eI) s6.2.2.2)), some (.sh (eI s6.2.1)), some (.sh (eI s6.1)), none, none, none, none]) (st_for (iR1 g_law_missed_range T.b_range (Ev.toB (vr 3 n_law_missed_n rfl)) hn1 (fun _ => rfl)) (for_s (R := (fun (s1 : (Int × Int × (List Int) × (List Int))) => ([some (.sh ((eP eI eI) limit1)), some (.sh (eI first1)), some (.sh (eI second1)), some (.sh (eI n1)), some (.sh ((eL eI) s1.2.2.1)), some (.sh ((eL eI) s1.2.2.2)), some (.sh (eI s1.2.1)), some (.sh (eI s1.1)), none, none, none, none] : PEnv))) (ea := eI) (step := (law_missed_l3 limit1 first1 second1)) ?_ _ _ _ hs6) (fun _ _ => rfl)) ?_
  · intro s1 x1 o h
    unfold law_missed_l3 at h
    refine ⟨_, [some (.sh ((eP eI eI) limit1)), some (.sh (eI first1)), some (.sh (eI second1)), some (.sh (eI n1)), some (.sh ((eL eI) s1.2.2.1)), some (.sh ((eL eI) s1.2.2.2)), some (.sh (eI s1.2.1)), some (.sh (eI s1.1)), some (.sh (eI x1)), none, none, none], (tN 8 s_law_missed_k), ?_⟩
    obtain ⟨hn2, h⟩ := need_ex h
    obtain ⟨grown1, hgrown1, h⟩ := set_ex h
    obtain ⟨products1, hproducts1, h⟩ := set_ex h
    refine blk_cons (ρ1 := [some (.sh ((eP eI eI) limit1)), some (.sh (eI first1)), some (.sh (eI second1)), some (.sh (eI n1)), some (.sh ((eL eI) s1.2.2.1)), some (.sh ((eL eI) s1.2.2.2)), some (.sh (eI s1.2.1)), some (.sh (eI s1.1)), some (.sh (eI x1)), some (.ow ((eL eI) grown1)), some (.ow ((eL eI) products1)), none]) (st_par (i := 9) (j := 10) l_law_missed_grown.hi l_law_missed_products.hi (by decide) l_law_missed_grown.hl l_law_missed_products.hl (EvN.s (EvN.to (evn_repX (ea := eI) (xs := ([0] : (List Int))) (evn_lst (ea_cons ev_int ea_nil (fun _ => rfl)) (le_sz (by decide : 1 ≤ 100000))) (Ev.toB (ev_op ok_add (Ev.toB (vr 8 n_law_missed_k rfl)) (Ev.toB ev_int))) hn2) (congrArg (eL eI) hgrown1))) (EvN.s (EvN.to (evn_repX (ea := eI) (xs := ([0] : (List Int))) (evn_lst (ea_cons ev_int ea_nil (fun _ => rfl)) (le_sz (by decide : 1 ≤ 100000))) (Ev.toB (ev_op ok_add (Ev.toB (vr 8 n_law_missed_k rfl)) (Ev.toB ev_int))) hn2) (congrArg (eL eI) hproducts1))) (fun env h => swp_sc env h (by kernel_rfl)) (fun _ => rfl) (fun _ => rfl) (fun _ => rfl)) ?_
    obtain ⟨hn3, h⟩ := need_ex h
    obtain ⟨s3, hs3, h⟩ := bind_ex h
    refine blk_cons (ρ1 := [some (.sh ((eP eI eI) limit1)), some (.sh (eI first1)), some (.sh (eI second1)), some (.sh (eI n1)), some (.sh ((eL eI) s1.2.2.1)), some (.sh ((eL eI) s1.2.2.2)), some (.sh (eI s1.2.1)), some (.sh (eI s1.1)), some (.sh (eI x1)), some (.ow ((eL eI) s3.1)), some (.ow ((eL eI) s3.2)), none]) (st_for (iR1 g_law_missed_range T.b_range (Ev.toB (ev_op ok_add (Ev.toB (vr 8 n_law_missed_k rfl)) (Ev.toB ev_int))) hn3 (fun _ => rfl)) (for_s (R := (fun (s2 : ((List Int) × (List Int))) => ([some (.sh ((eP eI eI) limit1)), some (.sh (eI first1)), some (.sh (eI second1)), some (.sh (eI n1)), some (.sh ((eL eI) s1.2.2.1)), some (.sh ((eL eI) s1.2.2.2)), some (.sh (eI s1.2.1)), some (.sh (eI s1.1)), some (.sh (eI x1)), some (.ow ((eL eI) s2.1)), some (.ow ((eL eI) s2.2)), none] : PEnv))) (ea := eI) (step := (law_missed_l1 first1 s1)) ?_ _ _ _ hs3) (fun _ _ => rfl)) ?_
    · intro s2 x2 o h
      unfold law_missed_l1 at h
      refine ⟨_, [some (.sh ((eP eI eI) limit1)), some (.sh (eI first1)), some (.sh (eI second1)), some (.sh (eI n1)), some (.sh ((eL eI) s1.2.2.1)), some (.sh ((eL eI) s1.2.2.2)), some (.sh (eI s1.2.1)), some (.sh (eI s1.1)), some (.sh (eI x1)), some (.ow ((eL eI) s2.1)), some (.ow ((eL eI) s2.2)), some (.sh (eI x2))], (tN 11 s_law_missed_j), ?_⟩
      obtain ⟨x3, hx3, h⟩ := bind_ex h
      obtain ⟨x4, hx4, h⟩ := bind_ex h
      obtain ⟨grown2, hgrown2, h⟩ := bind_ex h
      refine blk_cons (ρ1 := [some (.sh ((eP eI eI) limit1)), some (.sh (eI first1)), some (.sh (eI second1)), some (.sh (eI n1)), some (.sh ((eL eI) s1.2.2.1)), some (.sh ((eL eI) s1.2.2.2)), some (.sh (eI s1.2.1)), some (.sh (eI s1.1)), some (.sh (eI x1)), some (.ow ((eL eI) grown2)), some (.ow ((eL eI) s2.2)), some (.sh (eI x2))]) (sItemX (f := eI) (xs := s2.1) (ys := grown2) (v := (x3 + x4)) 9 n_law_missed_grown rfl (ev_op ok_add (Ev.toB (ev_ix (vo 9 n_law_missed_grown rfl) (Ev.toB (vr 11 n_law_missed_j rfl)) (atI_map eI hx3) (fun _ _ => rfl))) (Ev.toB (ev_ix (Ev.toB (vr 4 n_law_missed_ways rfl)) (Ev.toB (vr 11 n_law_missed_j rfl)) (atI_map eI hx4) (fun _ _ => rfl)))) (Ev.toB (vr 11 n_law_missed_j rfl)) hgrown2 (fun _ => rfl) (fun _ => rfl) (fun _ => rfl) (fun _ _ => rfl)) ?_
      obtain ⟨x5, hx5, h⟩ := bind_ex h
      obtain ⟨x6, hx6, h⟩ := bind_ex h
      obtain ⟨grown3, hgrown3, h⟩ := bind_ex h
      refine blk_cons (ρ1 := [some (.sh ((eP eI eI) limit1)), some (.sh (eI first1)), some (.sh (eI second1)), some (.sh (eI n1)), some (.sh ((eL eI) s1.2.2.1)), some (.sh ((eL eI) s1.2.2.2)), some (.sh (eI s1.2.1)), some (.sh (eI s1.1)), some (.sh (eI x1)), some (.ow ((eL eI) grown3)), some (.ow ((eL eI) s2.2)), some (.sh (eI x2))]) (sItemX (f := eI) (xs := grown2) (ys := grown3) (v := (x5 + x6)) 9 n_law_missed_grown rfl (ev_op ok_add (Ev.toB (ev_ix (vo 9 n_law_missed_grown rfl) (Ev.toB (ev_op ok_add (Ev.toB (vr 11 n_law_missed_j rfl)) (Ev.toB ev_int))) (atI_map eI hx5) (fun _ _ => rfl))) (Ev.toB (ev_ix (Ev.toB (vr 4 n_law_missed_ways rfl)) (Ev.toB (vr 11 n_law_missed_j rfl)) (atI_map eI hx6) (fun _ _ => rfl)))) (Ev.toB (ev_op ok_add (Ev.toB (vr 11 n_law_missed_j rfl)) (Ev.toB ev_int))) hgrown3 (fun _ => rfl) (fun _ => rfl) (fun _ => rfl) (fun _ _ => rfl)) ?_
      obtain ⟨x7, hx7, h⟩ := bind_ex h
      obtain ⟨hn4, h⟩ := need_ex h
      obtain ⟨products2, hproducts2, h⟩ := bind_ex h
      refine blk_cons (ρ1 := [some (.sh ((eP eI eI) limit1)), some (.sh (eI first1)), some (.sh (eI second1)), some (.sh (eI n1)), some (.sh ((eL eI) s1.2.2.1)), some (.sh ((eL eI) s1.2.2.2)), some (.sh (eI s1.2.1)), some (.sh (eI s1.1)), some (.sh (eI x1)), some (.ow ((eL eI) grown3)), some (.ow ((eL eI) products2)), some (.sh (eI x2))]) (sItemX (f := eI) (xs := s2.2) (ys := products2) (v := ((x7 * 2) * first1)) 10 n_law_missed_products rfl (ev_op (ok_mul hn4) (Ev.toB (ev_op (ok_mul (mul_r (by decide))) (Ev.toB (ev_ix (Ev.toB (vr 5 n_law_missed_tops rfl)) (Ev.toB (vr 11 n_law_missed_j rfl)) (atI_map eI hx7) (fun _ _ => rfl))) (Ev.toB ev_int))) (Ev.toB (vr 1 n_law_missed_first rfl))) (Ev.toB (vr 11 n_law_missed_j rfl)) hproducts2 (fun _ => rfl) (fun _ => rfl) (fun _ => rfl) (fun _ _ => rfl)) ?_
      have h := Option.some.inj h
      subst h
      exact Blk.out blk_nil (.nx (.keep (.keep (.keep (.keep (.keep (.keep (.keep (.keep (.keep (.keep (.keep (.drop .nil)))))))))))))
    · obtain ⟨x8, hx8, h⟩ := bind_ex h
      obtain ⟨hn5, h⟩ := need_ex h
      obtain ⟨products3, hproducts3, h⟩ := bind_ex h
      refine blk_cons (ρ1 := [some (.sh ((eP eI eI) limit1)), some (.sh (eI first1)), some (.sh (eI second1)), some (.sh (eI n1)), some (.sh ((eL eI) s1.2.2.1)), some (.sh ((eL eI) s1.2.2.2)), some (.sh (eI s1.2.1)), some (.sh (eI s1.1)), some (.sh (eI x1)), some (.ow ((eL eI) s3.1)), some (.ow ((eL eI) products3)), none]) (sItemX (f := eI) (xs := s3.2) (ys := products3) (v := ((x8 * 2) * second1)) 10 n_law_missed_products rfl (ev_op (ok_mul hn5) (Ev.toB (ev_op (ok_mul (mul_r (by decide))) (Ev.toB (ev_ix (Ev.toB (vr 5 n_law_missed_tops rfl)) (Ev.toB (vr 8 n_law_missed_k rfl)) (atI_map eI hx8) (fun _ _ => rfl))) (Ev.toB ev_int))) (Ev.toB (vr 2 n_law_missed_second rfl))) (Ev.toB (ev_op ok_add (Ev.toB (vr 8 n_law_missed_k rfl)) (Ev.toB ev_int))) hproducts3 (fun _ => rfl) (fun _ => rfl) (fun _ => rfl) (fun _ _ => rfl)) ?_
      refine Blk.weak (ρ1 := [some (.sh ((eP eI eI) limit1)), some (.sh (eI first1)), some (.sh (eI second1)), some (.sh (eI n1)), some (.sh ((eL eI) s1.2.2.1)), some (.sh ((eL eI) s1.2.2.2)), some (.sh (eI s1.2.1)), some (.sh (eI s1.1)), some (.sh (eI x1)), some (.ow ((eL eI) s3.1)), some (.sh ((eL eI) products3)), none]) ?_ (.keep (.keep (.keep (.keep (.keep (.keep (.keep (.keep (.keep (.keep (.frz (.keep .nil))))))))))))
      obtain ⟨hn7, h⟩ := need_ex h
      obtain ⟨under1, hunder1, h⟩ := set_ex h
      obtain ⟨found1, hfound1, h⟩ := set_ex h
      refine blk_cons (ρ1 := [some (.sh ((eP eI eI) limit1)), some (.sh (eI first1)), some (.sh (eI second1)), some (.sh (eI n1)), some (.sh ((eL eI) s1.2.2.1)), some (.sh ((eL eI) s1.2.2.2)), some (.sh (eI found1)), some (.sh (eI under1)), some (.sh (eI x1)), some (.ow ((eL eI) s3.1)), some (.sh ((eL eI) products3)), none]) (st_par (i := 7) (j := 6) l_law_missed_under.hi l_law_missed_found.hi (by decide) l_law_missed_under.hl l_law_missed_found.hl (Ev.s (Ev.to (ev_op (ok_mul hn7) (Ev.toB (vr 7 n_law_missed_under rfl)) (Ev.toB (ev_op ok_add (Ev.toB (vr 1 n_law_missed_first rfl)) (Ev.toB (vr 2 n_law_missed_second rfl))))) (congrArg eI hunder1))) (Ev.s (Ev.to (ev_op (ok_mul (mul_l (by decide))) (Ev.toB ev_int) (Ev.toB (vr 6 n_law_missed_found rfl))) (congrArg eI hfound1))) (fun env h => swp_sc env h (by kernel_rfl)) (fun _ => rfl) (fun _ => rfl) (fun _ => rfl)) ?_
      obtain ⟨hn8, h⟩ := need_ex h
      obtain ⟨s5, hs5, h⟩ := bind_ex h
      refine blk_cons (ρ1 := [some (.sh ((eP eI eI) limit1)), some (.sh (eI first1)), some (.sh (eI second1)), some (.sh (eI n1)), some (.sh ((eL eI) s1.2.2.1)), some (.sh ((eL eI) s1.2.2.2)), some (.sh (eI s5.1)), some (.sh (eI under1)), some (.sh (eI x1)), some (.ow ((eL eI) s5.2)), some (.sh ((eL eI) products3)), none]) (st_for (iR1 g_law_missed_range T.b_range (Ev.toB (ev_op ok_add (Ev.toB (vr 8 n_law_missed_k rfl)) (Ev.toB ev_int))) hn8 (fun _ => rfl)) (for_s (R := (fun (s4 : (Int × (List Int))) => ([some (.sh ((eP eI eI) limit1)), some (.sh (eI first1)), some (.sh (eI second1)), some (.sh (eI n1)), some (.sh ((eL eI) s1.2.2.1)), some (.sh ((eL eI) s1.2.2.2)), some (.sh (eI s4.1)), some (.sh (eI under1)), some (.sh (eI x1)), some (.ow ((eL eI) s4.2)), some (.sh ((eL eI) products3)), none] : PEnv))) (ea := eI) (step := (law_missed_l2 limit1 products3 under1)) ?_ _ _ _ hs5) (fun _ _ => rfl)) ?_
      · intro s4 x9 o h
        unfold law_missed_l2 at h
        refine ⟨_, [some (.sh ((eP eI eI) limit1)), some (.sh (eI first1)), some (.sh (eI second1)), some (.sh (eI n1)), some (.sh ((eL eI) s1.2.2.1)), some (.sh ((eL eI) s1.2.2.2)), some (.sh (eI s4.1)), some (.sh (eI under1)), some (.sh (eI x1)), some (.ow ((eL eI) s4.2)), some (.sh ((eL eI) products3)), some (.sh (eI x9))], (tN 11 s_law_missed_j), ?_⟩
        obtain ⟨x10, hx10, h⟩ := bind_ex h
        obtain ⟨hn9, h⟩ := need_ex h
        obtain ⟨hn10, h⟩ := need_ex h
        obtain ⟨j1, hj1, h⟩ := bind_ex h
        refine blk_cons (ρ1 := [some (.sh ((eP eI eI) limit1)), some (.sh (eI first1)), some (.sh (eI second1)), some (.sh (eI n1)), some (.sh ((eL eI) s1.2.2.1)), some (.sh ((eL eI) s1.2.2.2)), some (.sh (eI j1.1)), some (.sh (eI under1)), some (.sh (eI x1)), some (.ow ((eL eI) j1.2)), some (.sh ((eL eI) products3)), some (.sh (eI x9))]) (st_ifJ hj1 (te_cmp (ok_ge (i := (x10 * limit1.1)) (j := (under1 * limit1.2))) (Ev.toB (ev_op (ok_mul hn9) (Ev.toB (ev_ix (Ev.toB (vr 10 n_law_missed_products rfl)) (Ev.toB (vr 11 n_law_missed_j rfl)) (atI_map eI hx10) (fun _ _ => rfl))) (Ev.toB (ev_ixT (d := eI limit1.1) (Ev.toB (vr 0 n_law_missed_limit rfl)) (Ev.toB ev_int) rfl (fun _ _ => rfl))))) (Ev.toB (ev_op (ok_mul hn10) (Ev.toB (vr 7 n_law_missed_under rfl)) (Ev.toB (ev_ixT (d := eI limit1.2) (Ev.toB (vr 0 n_law_missed_limit rfl)) (Ev.toB ev_int) rfl (fun _ _ => rfl))))) rfl) ?_ ?_) ?_
        · intro h
          obtain ⟨x12, hx12, h⟩ := bind_ex h
          obtain ⟨w2, hw2, h⟩ := set_ex h
          obtain ⟨grown4, hgrown4, h⟩ := bind_ex h
          refine blk_cons (ρ1 := [some (.sh ((eP eI eI) limit1)), some (.sh (eI first1)), some (.sh (eI second1)), some (.sh (eI n1)), some (.sh ((eL eI) s1.2.2.1)), some (.sh ((eL eI) s1.2.2.2)), some (.sh (eI w2.1)), some (.sh (eI under1)), some (.sh (eI x1)), some (.ow ((eL eI) grown4)), some (.sh ((eL eI) products3)), some (.sh (eI x9))]) (st_asgH (d := (eP eI eI) w2) (Ev.to (ev_tup (ea_cons (ev_op ok_add (Ev.toB (vr 6 n_law_missed_found rfl)) (Ev.toB (ev_ix (vo 9 n_law_missed_grown rfl) (Ev.toB (vr 11 n_law_missed_j rfl)) (atI_map eI hx12) (fun _ _ => rfl)))) (ea_cons ev_int ea_nil (fun _ => rfl)) (fun _ => rfl)) (le_sz (by decide : 2 ≤ 100000))) (congrArg (eP eI eI) hw2)) (tgH_tup (tgsH_cons (Tg.h (tN 6 s_law_missed_found)) (tgsH_cons (tgH_item (f := eI) (xs := s4.2) (ys := grown4) (v := w2.2) 9 n_law_missed_grown rfl (Ev.toB (vr 11 n_law_missed_j rfl)) hgrown4 (fun _ _ => rfl)) tgsH_nil (fun _ => rfl)) (fun _ => rfl)) rfl (fun _ => rfl) (fun _ => rfl)) (fun _ => rfl) (fun env h => swp_sc env h (by kernel_rfl)) (fun _ => rfl)) ?_
          have h := Option.some.inj h
          subst h
          exact Blk.out blk_nil (.nx (.keep (.keep (.keep (.keep (.keep (.keep (.keep (.keep (.keep (.keep (.keep (.keep .nil)))))))))))))
        · intro h
          have h := Option.some.inj h
          subst h
          exact Blk.out blk_nil (.nx (.keep (.keep (.keep (.keep (.keep (.keep (.keep (.keep (.keep (.keep (.keep (.keep .nil)))))))))))))
        · have h := Option.some.inj h
          subst h
          exact Blk.out blk_nil (.nx (.keep (.keep (.keep (.keep (.keep (.keep (.keep (.keep (.keep (.keep (.keep (.drop .nil)))))))))))))
      · refine Blk.weak (ρ1 := [some (.sh ((eP eI eI) limit1)), some (.sh (eI first1)), some (.sh (eI second1)), some (.sh (eI n1)), some (.sh ((eL eI) s1.2.2.1)), some (.sh ((eL eI) s1.2.2.2)), some (.sh (eI s5.1)), some (.sh (eI under1)), some (.sh (eI x1)), some (.sh ((eL eI) s5.2)), some (.sh ((eL eI) products3)), none]) ?_ (.keep (.keep (.keep (.keep (.keep (.keep (.keep (.keep (.keep (.frz (.keep (.keep .nil))))))))))))
        obtain ⟨ways1, hways1, h⟩ := set_ex h
        obtain ⟨tops1, htops1, h⟩ := set_ex h
        refine blk_cons (ρ1 := [some (.sh ((eP eI eI) limit1)), some (.sh (eI first1)), some (.sh (eI second1)), some (.sh (eI n1)), some (.sh ((eL eI) ways1)), some (.sh ((eL eI) tops1)), some (.sh (eI s5.1)), some (.sh (eI under1)), some (.sh (eI x1)), some (.sh ((eL eI) s5.2)), some (.sh ((eL eI) products3)), none]) (st_par (i := 4) (j := 5) l_law_missed_ways.hi l_law_missed_tops.hi (by decide) l_law_missed_ways.hl l_law_missed_tops.hl (Ev.s (Ev.to (vr 9 n_law_missed_grown rfl) (congrArg (eL eI) hways1))) (Ev.s (Ev.to (vr 10 n_law_missed_products rfl) (congrArg (eL eI) htops1))) (fun env h => swp_sc env h (by kernel_rfl)) (fun _ => rfl) (fun _ => rfl) (fun _ => rfl)) ?_
        have h := Option.some.inj h
        subst h
        exact Blk.out blk_nil (.nx (.keep (.keep (.keep (.keep (.keep (.keep (.keep (.keep (.drop (.drop (.drop (.keep .nil)))))))))))))
  · obtain ⟨hn11, h⟩ := need_ex h
    obtain ⟨law_ra1, hlaw_ra1, h⟩ := bind_ex h
    have h := Option.some.inj h
    subst h
    exact blk_ret (st_ret (cF g_law_missed_law_ratio (ok_law_ratio T hlaw_ra1) (by decide : LW_law_ratio ≤ LV_law_missed) (ea_cons (vr 6 n_law_missed_found rfl) (ea_cons (ev_op (ok_shl hn11) (Ev.toB ev_int) (Ev.toB (vr 3 n_law_missed_n rfl))) ea_nil (fun _ => rfl)) (fun _ => rfl)) (fun _ => rfl) (fun _ => rfl)))
abbrev LV_law_rows_right : Nat := 7
abbrev LW_law_rows_right : Nat := 8
def C_law_rows_right : SC := ⟨["limit", "first", "second", "plans", "n", "size", "due", "miss", "parts", "count", "behind", "part", "one", "other"], defScope (topS 22), fun _ => true⟩
theorem FS_law_rows_right : FnScope C_law_rows_right.N ["limit", "first", "second", "plans", "n"] (defScope (topS 22)) := ⟨rfl, rfl, rfl, by decide +kernel, rfl, by decide +kernel, by decide +kernel⟩
theorem g_law_rows_right_len : Gn C_law_rows_right "len" := gn (by decide +kernel)
theorem n_law_rows_right_plans : Nm C_law_rows_right 3 "plans" := nm (by decide +kernel)
theorem g_law_rows_right_range : Gn C_law_rows_right "range" := gn (by decide +kernel)
theorem s_law_rows_right_size : NmS C_law_rows_right 5 "size" := nms (by decide +kernel)
theorem g_law_rows_right_law_reached : Gn C_law_rows_right "_law_reached" := gn (by decide +kernel)
theorem n_law_rows_right_limit : Nm C_law_rows_right 0 "limit" := nm (by decide +kernel)
theorem n_law_rows_right_first : Nm C_law_rows_right 1 "first" := nm (by decide +kernel)
theorem n_law_rows_right_second : Nm C_law_rows_right 2 "second" := nm (by decide +kernel)
theorem n_law_rows_right_size : Nm C_law_rows_right 5 "size" := nm (by decide +kernel)
theorem s_law_rows_right_due : NmS C_law_rows_right 6 "due" := nms (by decide +kernel)
theorem g_law_rows_right_law_like : Gn C_law_rows_right "_law_like" := gn (by decide +kernel)
theorem g_law_rows_right_audit_row : Gn C_law_rows_right "audit_row" := gn (by decide +kernel)
theorem n_law_rows_right_due : Nm C_law_rows_right 6 "due" := nm (by decide +kernel)
theorem g_law_rows_right_law_missed : Gn C_law_rows_right "_law_missed" := gn (by decide +kernel)
theorem n_law_rows_right_n : Nm C_law_rows_right 4 "n" := nm (by decide +kernel)
theorem l_law_rows_right_miss : NmL C_law_rows_right 7 "miss" := nml (by decide +kernel)
theorem l_law_rows_right_parts : NmL C_law_rows_right 8 "parts" := nml (by decide +kernel)
theorem g_law_rows_right_audit_miss : Gn C_law_rows_right "audit_miss" := gn (by decide +kernel)
theorem n_law_rows_right_miss : Nm C_law_rows_right 7 "miss" := nm (by decide +kernel)
theorem s_law_rows_right_count : NmS C_law_rows_right 9 "count" := nms (by decide +kernel)
theorem g_law_rows_right_law_ratio : Gn C_law_rows_right "_law_ratio" := gn (by decide +kernel)
theorem n_law_rows_right_count : Nm C_law_rows_right 9 "count" := nm (by decide +kernel)
theorem s_law_rows_right_behind : NmS C_law_rows_right 10 "behind" := nms (by decide +kernel)
theorem g_law_rows_right_int : Gn C_law_rows_right "int" := gn (by decide +kernel)
theorem s_law_rows_right_part : NmS C_law_rows_right 11 "part" := nms (by decide +kernel)
theorem n_law_rows_right_behind : Nm C_law_rows_right 10 "behind" := nm (by decide +kernel)
theorem n_law_rows_right_part : Nm C_law_rows_right 11 "part" := nm (by decide +kernel)
theorem n_law_rows_right_parts : Nm C_law_rows_right 8 "parts" := nm (by decide +kernel)
theorem s_law_rows_right_one : NmS C_law_rows_right 12 "one" := nms (by decide +kernel)
theorem s_law_rows_right_other : NmS C_law_rows_right 13 "other" := nms (by decide +kernel)
theorem n_law_rows_right_one : Nm C_law_rows_right 12 "one" := nm (by decide +kernel)
theorem n_law_rows_right_other : Nm C_law_rows_right 13 "other" := nm (by decide +kernel)
theorem ok_law_rows_right {G : Gb} (T : Facts G) {limit1 : (Int × Int)} {first1 : Int} {second1 : Int} {plans1 : (List Int)} {n1 : Int} {r : Bool} (h : law_rows_right_m limit1 first1 second1 plans1 n1 = some r) : Fn G LW_law_rows_right "_law_rows_right" [(eP eI eI) limit1, eI first1, eI second1, (eT eI) plans1, eI n1] (eB r) := by
  unfold law_rows_right_m at h
  refine fn_def T.f_law_rows_right FS_law_rows_right rfl (r := .rt (eB r)) ?_ .rt
  show Blk G C_law_rows_right _ [some (.sh ((eP eI eI) limit1)), some (.sh (eI first1)), some (.sh (eI second1)), some (.sh ((eT eI) plans1)), some (.sh (eI n1)), none, none, none, none, none, none, none, none, none] _ _
  obtain ⟨hn1, h⟩ := need_ex h
  obtain ⟨o1, ho1, h⟩ := bind_ex h
  refine blk_any (st_for (iR1 g_law_rows_right_range T.b_range (Ev.toB (ev_op ok_add (Ev.toB (cB g_law_rows_right_len T.b_len bb_len (ok_lenT plans1) (eab_cons (Ev.toB (vr 3 n_law_rows_right_plans rfl)) eab_nil (fun _ => rfl)) (fun _ => rfl) (fun _ => rfl))) (Ev.toB ev_int))) hn1 (fun _ => rfl)) (for_o (R := (fun (s1 : (Unit)) => ([some (.sh ((eP eI eI) limit1)), some (.sh (eI first1)), some (.sh (eI second1)), some (.sh ((eT eI) plans1)), some (.sh (eI n1)), none, none, none, none, none, none, none, none, none] : PEnv))) (E := eB) (ea := eI) (step := (law_rows_right_l1 limit1 first1 second1 plans1)) ?_ _ _ _ ho1) (fun _ _ => rfl)) ?_
  · intro s1 x1 o h
    unfold law_rows_right_l1 at h
    refine ⟨_, [some (.sh ((eP eI eI) limit1)), some (.sh (eI first1)), some (.sh (eI second1)), some (.sh ((eT eI) plans1)), some (.sh (eI n1)), some (.sh (eI x1)), none, none, none, none, none, none, none, none], (tN 5 s_law_rows_right_size), ?_⟩
    obtain ⟨law_re1, hlaw_re1, h⟩ := bind_ex h
    obtain ⟨due1, hdue1, h⟩ := set_ex h
    refine blk_cons (ρ1 := [some (.sh ((eP eI eI) limit1)), some (.sh (eI first1)), some (.sh (eI second1)), some (.sh ((eT eI) plans1)), some (.sh (eI n1)), some (.sh (eI x1)), some (.sh ((eO eI) due1)), none, none, none, none, none, none, none]) (sSet (d := (eO eI) due1) 6 s_law_rows_right_due (Ev.to (cF g_law_rows_right_law_reached (ok_law_reached T hlaw_re1) (by decide : LW_law_reached ≤ LV_law_rows_right) (ea_cons (vr 0 n_law_rows_right_limit rfl) (ea_cons (vr 1 n_law_rows_right_first rfl) (ea_cons (vr 2 n_law_rows_right_second rfl) (ea_cons (ev_sliceX (xs := plans1) (vr 3 n_law_rows_right_plans rfl) ep_none (ep_some (Ev.toB (vr 5 n_law_rows_right_size rfl)))) ea_nil (fun _ => rfl)) (fun _ => rfl)) (fun _ => rfl)) (fun _ => rfl)) (fun _ => rfl) (fun _ => rfl)) (congrArg (eO eI) hdue1)) (fun _ _ => rfl)) ?_
    obtain ⟨audit1, haudit1, h⟩ := bind_ex h
    refine blk_ifx h (te_not (te_val (Ev.toB (cF g_law_rows_right_law_like (ok_like T 0 ((eO eI) due1) ((eO eI) audit1) ((du_O du_I).ok _) ((du_O du_I).dp _)) (by decide : 2 ≤ LV_law_rows_right) (ea_cons (cF g_law_rows_right_audit_row (ok_audit_row T haudit1) (by decide : LW_audit_row ≤ LV_law_rows_right) (ea_cons (vr 0 n_law_rows_right_limit rfl) (ea_cons (vr 1 n_law_rows_right_first rfl) (ea_cons (vr 2 n_law_rows_right_second rfl) (ea_cons (ev_sliceX (xs := plans1) (vr 3 n_law_rows_right_plans rfl) ep_none (ep_some (Ev.toB (vr 5 n_law_rows_right_size rfl)))) ea_nil (fun _ => rfl)) (fun _ => rfl)) (fun _ => rfl)) (fun _ => rfl)) (fun _ => rfl) (fun _ => rfl)) (ea_cons (vr 6 n_law_rows_right_due rfl) ea_nil (fun _ => rfl)) (fun _ => rfl)) (fun _ => rfl) (fun _ => rfl))) (fun _ _ => rfl))) ?_ ?_
    · intro h
      have h := Option.some.inj h
      subst h
      exact blkx_ret (st_ret ev_bool)
    · intro h
      have h := Option.some.inj h
      subst h
      exact Blk.out blk_nil (.nx (.keep (.keep (.keep (.keep (.keep (.drop (.drop (.keep (.keep (.keep (.keep (.keep (.keep (.keep .nil)))))))))))))))
  · rcases then_ex h with ⟨s2, e, h⟩ | ⟨b, e, h⟩
    · subst e
      show Blk G C_law_rows_right _ [some (.sh ((eP eI eI) limit1)), some (.sh (eI first1)), some (.sh (eI second1)), some (.sh ((eT eI) plans1)), some (.sh (eI n1)), none, none, none, none, none, none, none, none, none] _ _
      obtain ⟨law_re2, hlaw_re2, h⟩ := bind_ex h
      obtain ⟨due2, hdue2, h⟩ := set_ex h
      refine blk_cons (ρ1 := [some (.sh ((eP eI eI) limit1)), some (.sh (eI first1)), some (.sh (eI second1)), some (.sh ((eT eI) plans1)), some (.sh (eI n1)), none, some (.sh ((eO eI) due2)), none, none, none, none, none, none, none]) (sSet (d := (eO eI) due2) 6 s_law_rows_right_due (Ev.to (cF g_law_rows_right_law_reached (ok_law_reached T hlaw_re2) (by decide : LW_law_reached ≤ LV_law_rows_right) (ea_cons (vr 0 n_law_rows_right_limit rfl) (ea_cons (vr 1 n_law_rows_right_first rfl) (ea_cons (vr 2 n_law_rows_right_second rfl) (ea_cons (vr 3 n_law_rows_right_plans rfl) ea_nil (fun _ => rfl)) (fun _ => rfl)) (fun _ => rfl)) (fun _ => rfl)) (fun _ => rfl) (fun _ => rfl)) (congrArg (eO eI) hdue2)) (fun _ _ => rfl)) ?_
      obtain ⟨audit2, haudit2, h⟩ := bind_ex h
      refine blk_ifx h (te_not (te_val (Ev.toB (cF g_law_rows_right_law_like (ok_like T 0 ((eO eI) due2) ((eO eI) audit2) ((du_O du_I).ok _) ((du_O du_I).dp _)) (by decide : 2 ≤ LV_law_rows_right) (ea_cons (cF g_law_rows_right_audit_row (ok_audit_row T haudit2) (by decide : LW_audit_row ≤ LV_law_rows_right) (ea_cons (vr 0 n_law_rows_right_limit rfl) (ea_cons (ev_op (ok_mul (mul_l (by decide))) (Ev.toB ev_int) (Ev.toB (vr 1 n_law_rows_right_first rfl))) (ea_cons (ev_op (ok_mul (mul_l (by decide))) (Ev.toB ev_int) (Ev.toB (vr 2 n_law_rows_right_second rfl))) (ea_cons (vr 3 n_law_rows_right_plans rfl) ea_nil (fun _ => rfl)) (fun _ => rfl)) (fun _ => rfl)) (fun _ => rfl)) (fun _ => rfl) (fun _ => rfl)) (ea_cons (vr 6 n_law_rows_right_due rfl) ea_nil (fun _ => rfl)) (fun _ => rfl)) (fun _ => rfl) (fun _ => rfl))) (fun _ _ => rfl))) ?_ ?_
      · intro h
        have h := Option.some.inj h
        subst h
        exact blkx_ret (st_ret ev_bool)
      · intro h
        obtain ⟨law_mi1, hlaw_mi1, h⟩ := bind_ex h
        obtain ⟨miss1, hmiss1, h⟩ := set_ex h
        obtain ⟨parts1, hparts1, h⟩ := set_ex h
        refine blk_cons (ρ1 := [some (.sh ((eP eI eI) limit1)), some (.sh (eI first1)), some (.sh (eI second1)), some (.sh ((eT eI) plans1)), some (.sh (eI n1)), none, some (.sh ((eO eI) due2)), some (.sh ((eP eI eI) miss1)), some (.ow ((eL (eP eI eI)) parts1)), none, none, none, none, none]) (st_par (i := 7) (j := 8) l_law_rows_right_miss.hi l_law_rows_right_parts.hi (by decide) l_law_rows_right_miss.hl l_law_rows_right_parts.hl (Ev.s (Ev.to (cF g_law_rows_right_law_missed (ok_law_missed T hlaw_mi1) (by decide : LW_law_missed ≤ LV_law_rows_right) (ea_cons (vr 0 n_law_rows_right_limit rfl) (ea_cons (vr 1 n_law_rows_right_first rfl) (ea_cons (vr 2 n_law_rows_right_second rfl) (ea_cons (ev_op ok_add (Ev.toB (vr 4 n_law_rows_right_n rfl)) (Ev.toB ev_int)) ea_nil (fun _ => rfl)) (fun _ => rfl)) (fun _ => rfl)) (fun _ => rfl)) (fun _ => rfl) (fun _ => rfl)) (congrArg (eP eI eI) hmiss1))) (EvN.s (EvN.to (evn_lst ea_nil (le_sz (by decide : 0 ≤ 100000))) (congrArg (eL (eP eI eI)) hparts1))) (fun env h => swp_sc env h (by kernel_rfl)) (fun _ => rfl) (fun _ => rfl) (fun _ => rfl)) ?_
        obtain ⟨audit3, haudit3, h⟩ := bind_ex h
        refine blk_ifx h (te_not (te_val (Ev.toB (cF g_law_rows_right_law_like (ok_like T 1 ((eP eI eI) miss1) ((eP eI eI) audit3) ((du_P du_I du_I).ok _) ((du_P du_I du_I).dp _)) (by decide : 3 ≤ LV_law_rows_right) (ea_cons (cF g_law_rows_right_audit_miss (ok_audit_miss T haudit3) (by decide : LW_audit_miss ≤ LV_law_rows_right) (ea_cons (vr 0 n_law_rows_right_limit rfl) (ea_cons (vr 1 n_law_rows_right_first rfl) (ea_cons (vr 2 n_law_rows_right_second rfl) (ea_cons (ev_op ok_add (Ev.toB (vr 4 n_law_rows_right_n rfl)) (Ev.toB ev_int)) ea_nil (fun _ => rfl)) (fun _ => rfl)) (fun _ => rfl)) (fun _ => rfl)) (fun _ => rfl) (fun _ => rfl)) (ea_cons (vr 7 n_law_rows_right_miss rfl) ea_nil (fun _ => rfl)) (fun _ => rfl)) (fun _ => rfl) (fun _ => rfl))) (fun _ _ => rfl))) ?_ ?_
        · intro h
          refine BlkX.weak (ρ1 := [some (.sh ((eP eI eI) limit1)), some (.sh (eI first1)), some (.sh (eI second1)), some (.sh ((eT eI) plans1)), some (.sh (eI n1)), none, some (.sh ((eO eI) due2)), some (.sh ((eP eI eI) miss1)), some (.sh ((eL (eP eI eI)) parts1)), none, none, none, none, none]) ?_ (.keep (.keep (.keep (.keep (.keep (.keep (.keep (.keep (.frz (.keep (.keep (.keep (.keep (.keep .nil))))))))))))))
          have h := Option.some.inj h
          subst h
          exact blkx_ret (st_ret ev_bool)
        · intro h
          obtain ⟨audit4, haudit4, h⟩ := bind_ex h
          refine blk_ifx h (te_not (te_val (Ev.toB (cF g_law_rows_right_law_like (ok_like T 1 ((eP eI eI) miss1) ((eP eI eI) audit4) ((du_P du_I du_I).ok _) ((du_P du_I du_I).dp _)) (by decide : 3 ≤ LV_law_rows_right) (ea_cons (cF g_law_rows_right_audit_miss (ok_audit_miss T haudit4) (by decide : LW_audit_miss ≤ LV_law_rows_right) (ea_cons (vr 0 n_law_rows_right_limit rfl) (ea_cons (ev_op (ok_mul (mul_l (by decide))) (Ev.toB ev_int) (Ev.toB (vr 1 n_law_rows_right_first rfl))) (ea_cons (ev_op (ok_mul (mul_l (by decide))) (Ev.toB ev_int) (Ev.toB (vr 2 n_law_rows_right_second rfl))) (ea_cons (ev_op ok_add (Ev.toB (vr 4 n_law_rows_right_n rfl)) (Ev.toB ev_int)) ea_nil (fun _ => rfl)) (fun _ => rfl)) (fun _ => rfl)) (fun _ => rfl)) (fun _ => rfl) (fun _ => rfl)) (ea_cons (vr 7 n_law_rows_right_miss rfl) ea_nil (fun _ => rfl)) (fun _ => rfl)) (fun _ => rfl) (fun _ => rfl))) (fun _ _ => rfl))) ?_ ?_
          · intro h
            refine BlkX.weak (ρ1 := [some (.sh ((eP eI eI) limit1)), some (.sh (eI first1)), some (.sh (eI second1)), some (.sh ((eT eI) plans1)), some (.sh (eI n1)), none, some (.sh ((eO eI) due2)), some (.sh ((eP eI eI) miss1)), some (.sh ((eL (eP eI eI)) parts1)), none, none, none, none, none]) ?_ (.keep (.keep (.keep (.keep (.keep (.keep (.keep (.keep (.frz (.keep (.keep (.keep (.keep (.keep .nil))))))))))))))
            have h := Option.some.inj h
            subst h
            exact blkx_ret (st_ret ev_bool)
          · intro h
            obtain ⟨o3, ho3, h⟩ := bind_ex h
            refine blk_any (st_for (it_tup (ev_tup (ea_cons (vr 1 n_law_rows_right_first rfl) (ea_cons (vr 2 n_law_rows_right_second rfl) ea_nil (fun _ => rfl)) (fun _ => rfl)) (le_sz (by decide : 2 ≤ 100000)))) (for_o (R := (fun (s3 : ((List (Int × Int)))) => ([some (.sh ((eP eI eI) limit1)), some (.sh (eI first1)), some (.sh (eI second1)), some (.sh ((eT eI) plans1)), some (.sh (eI n1)), none, some (.sh ((eO eI) due2)), some (.sh ((eP eI eI) miss1)), some (.ow ((eL (eP eI eI)) s3)), none, none, none, none, none] : PEnv))) (E := eB) (ea := eI) (step := (law_rows_right_l2 limit1 first1 second1 n1)) ?_ _ _ _ ho3) (fun _ _ => rfl)) ?_
            · intro s3 x2 o h
              unfold law_rows_right_l2 at h
              refine ⟨_, [some (.sh ((eP eI eI) limit1)), some (.sh (eI first1)), some (.sh (eI second1)), some (.sh ((eT eI) plans1)), some (.sh (eI n1)), none, some (.sh ((eO eI) due2)), some (.sh ((eP eI eI) miss1)), some (.ow ((eL (eP eI eI)) s3)), some (.sh (eI x2)), none, none, none, none], (tN 9 s_law_rows_right_count), ?_⟩
              obtain ⟨hn2, h⟩ := need_ex h
              obtain ⟨hn3, h⟩ := need_ex h
              obtain ⟨law_ra1, hlaw_ra1, h⟩ := bind_ex h
              obtain ⟨behind1, hbehind1, h⟩ := set_ex h
              refine blk_cons (ρ1 := [some (.sh ((eP eI eI) limit1)), some (.sh (eI first1)), some (.sh (eI second1)), some (.sh ((eT eI) plans1)), some (.sh (eI n1)), none, some (.sh ((eO eI) due2)), some (.sh ((eP eI eI) miss1)), some (.ow ((eL (eP eI eI)) s3)), some (.sh (eI x2)), some (.sh ((eP eI eI) behind1)), none, none, none]) (sSet (d := (eP eI eI) behind1) 10 s_law_rows_right_behind (Ev.to (cF g_law_rows_right_law_ratio (ok_law_ratio T hlaw_ra1) (by decide : LW_law_ratio ≤ LV_law_rows_right) (ea_cons (ev_op (ok_mul hn2) (Ev.toB (ev_op (ok_mul (mul_l (by decide))) (Ev.toB ev_int) (Ev.toB (vr 9 n_law_rows_right_count rfl)))) (Ev.toB (ev_ixT (d := eI limit1.1) (Ev.toB (vr 0 n_law_rows_right_limit rfl)) (Ev.toB ev_int) rfl (fun _ _ => rfl)))) (ea_cons (ev_op (ok_mul hn3) (Ev.toB (ev_op ok_add (Ev.toB (vr 1 n_law_rows_right_first rfl)) (Ev.toB (vr 2 n_law_rows_right_second rfl)))) (Ev.toB (ev_ixT (d := eI limit1.2) (Ev.toB (vr 0 n_law_rows_right_limit rfl)) (Ev.toB ev_int) rfl (fun _ _ => rfl)))) ea_nil (fun _ => rfl)) (fun _ => rfl)) (fun _ => rfl) (fun _ => rfl)) (congrArg (eP eI eI) hbehind1)) (fun _ _ => rfl)) ?_
              obtain ⟨part1, hpart1, h⟩ := set_ex h
              refine blk_cons (ρ1 := [some (.sh ((eP eI eI) limit1)), some (.sh (eI first1)), some (.sh (eI second1)), some (.sh ((eT eI) plans1)), some (.sh (eI n1)), none, some (.sh ((eO eI) due2)), some (.sh ((eP eI eI) miss1)), some (.ow ((eL (eP eI eI)) s3)), some (.sh (eI x2)), some (.sh ((eP eI eI) behind1)), some (.sh ((eP eI eI) part1)), none, none]) (sSet (d := (eP eI eI) part1) 11 s_law_rows_right_part (Ev.to (ev_tup (ea_cons (cT g_law_rows_right_int T.b_int bb_int (ok_intB (b := (decide (0 < x2)))) (eab_cons (Ev.toB (ev_cmp (ok_gt (i := x2) (j := 0)) (Ev.toB (vr 9 n_law_rows_right_count rfl)) (Ev.toB ev_int) rfl)) eab_nil (fun _ => rfl)) (fun _ => rfl) (fun _ => rfl)) (ea_cons ev_int ea_nil (fun _ => rfl)) (fun _ => rfl)) (le_sz (by decide : 2 ≤ 100000))) (congrArg (eP eI eI) hpart1)) (fun _ _ => rfl)) ?_
              obtain ⟨o2, ho2, h⟩ := bind_ex h
              refine blk_any (st_ifJ (o := O.out (fun (j1 : (Int × Int)) => [some (.sh ((eP eI eI) limit1)), some (.sh (eI first1)), some (.sh (eI second1)), some (.sh ((eT eI) plans1)), some (.sh (eI n1)), none, some (.sh ((eO eI) due2)), some (.sh ((eP eI eI) miss1)), some (.ow ((eL (eP eI eI)) s3)), some (.sh (eI x2)), some (.sh ((eP eI eI) behind1)), some (.sh ((eP eI eI) j1)), none, none]) eB o2) ho2 (te_chain2 (ok_lt (i := 0) (j := behind1.1)) (ok_lt (i := behind1.1) (j := behind1.2)) (Ev.toB ev_int) (Ev.toB (ev_ixT (d := eI behind1.1) (Ev.toB (vr 10 n_law_rows_right_behind rfl)) (Ev.toB ev_int) rfl (fun _ _ => rfl))) (Ev.toB (ev_ixT (d := eI behind1.2) (Ev.toB (vr 10 n_law_rows_right_behind rfl)) (Ev.toB ev_int) rfl (fun _ _ => rfl))) rfl) ?_ ?_) ?_
              · intro h
                obtain ⟨law_mi3, hlaw_mi3, h⟩ := bind_ex h
                obtain ⟨part2, hpart2, h⟩ := set_ex h
                refine blk_cons (ρ1 := [some (.sh ((eP eI eI) limit1)), some (.sh (eI first1)), some (.sh (eI second1)), some (.sh ((eT eI) plans1)), some (.sh (eI n1)), none, some (.sh ((eO eI) due2)), some (.sh ((eP eI eI) miss1)), some (.ow ((eL (eP eI eI)) s3)), some (.sh (eI x2)), some (.sh ((eP eI eI) behind1)), some (.sh ((eP eI eI) part2)), none, none]) (sSet (d := (eP eI eI) part2) 11 s_law_rows_right_part (Ev.to (cF g_law_rows_right_law_missed (ok_law_missed T hlaw_mi3) (by decide : LW_law_missed ≤ LV_law_rows_right) (ea_cons (vr 10 n_law_rows_right_behind rfl) (ea_cons (vr 1 n_law_rows_right_first rfl) (ea_cons (vr 2 n_law_rows_right_second rfl) (ea_cons (vr 4 n_law_rows_right_n rfl) ea_nil (fun _ => rfl)) (fun _ => rfl)) (fun _ => rfl)) (fun _ => rfl)) (fun _ => rfl) (fun _ => rfl)) (congrArg (eP eI eI) hpart2)) (fun _ _ => rfl)) ?_
                obtain ⟨audit5, haudit5, h⟩ := bind_ex h
                refine blk_ifx h (te_not (te_val (Ev.toB (cF g_law_rows_right_law_like (ok_like T 1 ((eP eI eI) part2) ((eP eI eI) audit5) ((du_P du_I du_I).ok _) ((du_P du_I du_I).dp _)) (by decide : 3 ≤ LV_law_rows_right) (ea_cons (cF g_law_rows_right_audit_miss (ok_audit_miss T haudit5) (by decide : LW_audit_miss ≤ LV_law_rows_right) (ea_cons (vr 10 n_law_rows_right_behind rfl) (ea_cons (vr 1 n_law_rows_right_first rfl) (ea_cons (vr 2 n_law_rows_right_second rfl) (ea_cons (vr 4 n_law_rows_right_n rfl) ea_nil (fun _ => rfl)) (fun _ => rfl)) (fun _ => rfl)) (fun _ => rfl)) (fun _ => rfl) (fun _ => rfl)) (ea_cons (vr 11 n_law_rows_right_part rfl) ea_nil (fun _ => rfl)) (fun _ => rfl)) (fun _ => rfl) (fun _ => rfl))) (fun _ _ => rfl))) ?_ ?_
                · intro h
                  have h := Option.some.inj h
                  subst h
                  exact blkx_ret (st_ret ev_bool)
                · intro h
                  have h := Option.some.inj h
                  subst h
                  exact Blk.out blk_nil (.nx (.keep (.keep (.keep (.keep (.keep (.keep (.keep (.keep (.keep (.keep (.keep (.keep (.keep (.keep .nil)))))))))))))))
              · intro h
                have h := Option.some.inj h
                subst h
                exact Blk.out blk_nil (.nx (.keep (.keep (.keep (.keep (.keep (.keep (.keep (.keep (.keep (.keep (.keep (.keep (.keep (.keep .nil)))))))))))))))
              · rcases then_ex h with ⟨j1, e, h⟩ | ⟨b, e, h⟩
                · subst e
                  show Blk G C_law_rows_right _ [some (.sh ((eP eI eI) limit1)), some (.sh (eI first1)), some (.sh (eI second1)), some (.sh ((eT eI) plans1)), some (.sh (eI n1)), none, some (.sh ((eO eI) due2)), some (.sh ((eP eI eI) miss1)), some (.ow ((eL (eP eI eI)) s3)), some (.sh (eI x2)), some (.sh ((eP eI eI) behind1)), some (.sh ((eP eI eI) j1)), none, none] _ _
                  obtain ⟨hn4, h⟩ := need_ex h
                  obtain ⟨parts2, hparts2, h⟩ := set_ex h
                  refine blk_cons (ρ1 := [some (.sh ((eP eI eI) limit1)), some (.sh (eI first1)), some (.sh (eI second1)), some (.sh ((eT eI) plans1)), some (.sh (eI n1)), none, some (.sh ((eO eI) due2)), some (.sh ((eP eI eI) miss1)), some (.ow ((eL (eP eI eI)) parts2)), some (.sh (eI x2)), some (.sh ((eP eI eI) behind1)), some (.sh ((eP eI eI) j1)), none, none]) (sAppX (f := (eP eI eI)) (xs := s3) (v := j1) hparts2 8 n_law_rows_right_parts rfl (vr 11 n_law_rows_right_part rfl) hn4 (fun _ => rfl) (fun _ => rfl) (fun _ => rfl) rfl) ?_
                  have h := Option.some.inj h
                  subst h
                  exact Blk.out blk_nil (.nx (.keep (.keep (.keep (.keep (.keep (.keep (.keep (.keep (.keep (.drop (.drop (.drop (.keep (.keep .nil)))))))))))))))
                · subst e
                  have h := Option.some.inj h
                  subst h
                  rfl
            · rcases then_ex h with ⟨s4, e, h⟩ | ⟨b, e, h⟩
              · subst e
                show Blk G C_law_rows_right _ [some (.sh ((eP eI eI) limit1)), some (.sh (eI first1)), some (.sh (eI second1)), some (.sh ((eT eI) plans1)), some (.sh (eI n1)), none, some (.sh ((eO eI) due2)), some (.sh ((eP eI eI) miss1)), some (.ow ((eL (eP eI eI)) s4)), none, none, none, none, none] _ _
                refine Blk.weak (ρ1 := [some (.sh ((eP eI eI) limit1)), some (.sh (eI first1)), some (.sh (eI second1)), some (.sh ((eT eI) plans1)), some (.sh (eI n1)), none, some (.sh ((eO eI) due2)), some (.sh ((eP eI eI) miss1)), some (.sh ((eL (eP eI eI)) s4)), none, none, none, none, none]) ?_ (.keep (.keep (.keep (.keep (.keep (.keep (.keep (.keep (.frz (.keep (.keep (.keep (.keep (.keep .nil))))))))))))))
                obtain ⟨one1, other1, hf1, h⟩ := fit2_ex h
                refine blk_cons (ρ1 := [some (.sh ((eP eI eI) limit1)), some (.sh (eI first1)), some (.sh (eI second1)), some (.sh ((eT eI) plans1)), some (.sh (eI n1)), none, some (.sh ((eO eI) due2)), some (.sh ((eP eI eI) miss1)), some (.sh ((eL (eP eI eI)) s4)), none, none, none, some (.sh ((eP eI eI) one1)), some (.sh ((eP eI eI) other1))]) (st_asg (d := (eL (eP eI eI)) [one1, other1]) (Ev.to (vr 8 n_law_rows_right_parts rfl) (congrArg (eL (eP eI eI)) hf1)) (tg_lst (tgs_cons (tN 12 s_law_rows_right_one) (tgs_cons (tN 13 s_law_rows_right_other) tgs_nil (fun _ => rfl)) (fun _ => rfl)) rfl (fun _ => rfl) (fun _ => rfl)) (fun _ => rfl) (fun _ => rfl) (fun _ => rfl)) ?_
                obtain ⟨hn5, h⟩ := need_ex h
                obtain ⟨hn6, h⟩ := need_ex h
                obtain ⟨hn7, h⟩ := need_ex h
                obtain ⟨law_ra2, hlaw_ra2, h⟩ := bind_ex h
                have h := Option.some.inj h
                subst h
                exact blk_ret (st_ret (ev_cmp (ok_eqT (eq_P eq_I eq_I) law_ra2 miss1) (Ev.toB (cF g_law_rows_right_law_ratio (ok_law_ratio T hlaw_ra2) (by decide : LW_law_ratio ≤ LV_law_rows_right) (ea_cons (ev_op ok_add (Ev.toB (ev_op (ok_mul hn5) (Ev.toB (ev_ixT (d := eI one1.1) (Ev.toB (vr 12 n_law_rows_right_one rfl)) (Ev.toB ev_int) rfl (fun _ _ => rfl))) (Ev.toB (ev_ixT (d := eI other1.2) (Ev.toB (vr 13 n_law_rows_right_other rfl)) (Ev.toB ev_int) rfl (fun _ _ => rfl))))) (Ev.toB (ev_op (ok_mul hn6) (Ev.toB (ev_ixT (d := eI other1.1) (Ev.toB (vr 13 n_law_rows_right_other rfl)) (Ev.toB ev_int) rfl (fun _ _ => rfl))) (Ev.toB (ev_ixT (d := eI one1.2) (Ev.toB (vr 12 n_law_rows_right_one rfl)) (Ev.toB ev_int) rfl (fun _ _ => rfl)))))) (ea_cons (ev_op (ok_mul hn7) (Ev.toB (ev_op (ok_mul (mul_l (by decide))) (Ev.toB ev_int) (Ev.toB (ev_ixT (d := eI one1.2) (Ev.toB (vr 12 n_law_rows_right_one rfl)) (Ev.toB ev_int) rfl (fun _ _ => rfl))))) (Ev.toB (ev_ixT (d := eI other1.2) (Ev.toB (vr 13 n_law_rows_right_other rfl)) (Ev.toB ev_int) rfl (fun _ _ => rfl)))) ea_nil (fun _ => rfl)) (fun _ => rfl)) (fun _ => rfl) (fun _ => rfl))) (Ev.toB (vr 7 n_law_rows_right_miss rfl)) rfl))
              · subst e
                have h := Option.some.inj h
                subst h
                rfl
    · subst e
      have h := Option.some.inj h
      subst h
      rfl
abbrev LV_law : Nat := 9
abbrev LW_law : Nat := 10
def C_law : SC := ⟨["script", "row", "first", "second", "kind", "under", "limit", "stop", "one", "other", "told", "n", "part", "plans", "top", "k", "more", "ballots", "truly", "draws"], defScope (topS 23), fun _ => true⟩
theorem FS_law : FnScope C_law.N ["script"] (defScope (topS 23)) := ⟨rfl, rfl, rfl, by decide +kernel, rfl, by decide +kernel, by decide +kernel⟩
theorem g_law_law_row : Gn C_law "_law_row" := gn (by decide +kernel)
theorem n_law_script : Nm C_law 0 "script" := nm (by decide +kernel)
theorem s_law_row : NmS C_law 1 "row" := nms (by decide +kernel)
theorem g_law_int : Gn C_law "int" := gn (by decide +kernel)
theorem n_law_row : Nm C_law 1 "row" := nm (by decide +kernel)
theorem l_law_first : NmL C_law 2 "first" := nml (by decide +kernel)
theorem l_law_second : NmL C_law 3 "second" := nml (by decide +kernel)
theorem l_law_kind : NmL C_law 4 "kind" := nml (by decide +kernel)
theorem n_law_kind : Nm C_law 4 "kind" := nm (by decide +kernel)
theorem s_law_second : NmS C_law 3 "second" := nms (by decide +kernel)
theorem n_law_first : Nm C_law 2 "first" := nm (by decide +kernel)
theorem s_law_under : NmS C_law 5 "under" := nms (by decide +kernel)
theorem g_law_law_ratio : Gn C_law "_law_ratio" := gn (by decide +kernel)
theorem n_law_under : Nm C_law 5 "under" := nm (by decide +kernel)
theorem s_law_limit : NmS C_law 6 "limit" := nms (by decide +kernel)
theorem g_law_law_stop : Gn C_law "_law_stop" := gn (by decide +kernel)
theorem n_law_second : Nm C_law 3 "second" := nm (by decide +kernel)
theorem n_law_limit : Nm C_law 6 "limit" := nm (by decide +kernel)
theorem s_law_stop : NmS C_law 7 "stop" := nms (by decide +kernel)
theorem s_law_one : NmS C_law 8 "one" := nms (by decide +kernel)
theorem s_law_other : NmS C_law 9 "other" := nms (by decide +kernel)
theorem g_law_law_like : Gn C_law "_law_like" := gn (by decide +kernel)
theorem g_law_audit_stop : Gn C_law "audit_stop" := gn (by decide +kernel)
theorem n_law_one : Nm C_law 8 "one" := nm (by decide +kernel)
theorem n_law_other : Nm C_law 9 "other" := nm (by decide +kernel)
theorem n_law_stop : Nm C_law 7 "stop" := nm (by decide +kernel)
theorem g_law_law_reached : Gn C_law "_law_reached" := gn (by decide +kernel)
theorem s_law_told : NmS C_law 10 "told" := nms (by decide +kernel)
theorem g_law_audit_row : Gn C_law "audit_row" := gn (by decide +kernel)
theorem n_law_told : Nm C_law 10 "told" := nm (by decide +kernel)
theorem s_law_n : NmS C_law 11 "n" := nms (by decide +kernel)
theorem s_law_part : NmS C_law 12 "part" := nms (by decide +kernel)
theorem g_law_tuple : Gn C_law "tuple" := gn (by decide +kernel)
theorem g_law_range : Gn C_law "range" := gn (by decide +kernel)
theorem s_law_plans : NmS C_law 13 "plans" := nms (by decide +kernel)
theorem g_law_law_rows_right : Gn C_law "_law_rows_right" := gn (by decide +kernel)
theorem n_law_plans : Nm C_law 13 "plans" := nm (by decide +kernel)
theorem n_law_n : Nm C_law 11 "n" := nm (by decide +kernel)
theorem s_law_top : NmS C_law 14 "top" := nms (by decide +kernel)
theorem s_law_k : NmS C_law 15 "k" := nms (by decide +kernel)
theorem n_law_top : Nm C_law 14 "top" := nm (by decide +kernel)
theorem g_law_max : Gn C_law "max" := gn (by decide +kernel)
theorem l_law_top : NmL C_law 14 "top" := nml (by decide +kernel)
theorem l_law_under : NmL C_law 5 "under" := nml (by decide +kernel)
theorem s_law_more : NmS C_law 16 "more" := nms (by decide +kernel)
theorem n_law_more : Nm C_law 16 "more" := nm (by decide +kernel)
theorem s_law_ballots : NmS C_law 17 "ballots" := nms (by decide +kernel)
theorem n_law_ballots : Nm C_law 17 "ballots" := nm (by decide +kernel)
theorem l_law_truly : NmL C_law 18 "truly" := nml (by decide +kernel)
theorem l_law_draws : NmL C_law 19 "draws" := nml (by decide +kernel)
theorem g_law_law_chances_right : Gn C_law "_law_chances_right" := gn (by decide +kernel)
theorem n_law_truly : Nm C_law 18 "truly" := nm (by decide +kernel)
theorem n_law_draws : Nm C_law 19 "draws" := nm (by decide +kernel)
theorem blk_law {G : Gb} (T : Facts G) {script1 : List Int} {r : Bool} (h : law_m script1 = some r) : Blk G C_law LV_law (startE C_law.N [eL eI script1]) (defBody (topS 23)) (.rt (eB r)) := by
  unfold law_m at h
  show Blk G C_law _ [some (.sh ((eL eI) script1)), none, none, none, none, none, none, none, none, none, none, none, none, none, none, none, none, none, none, none] _ _
  obtain ⟨law_ro1, hlaw_ro1, h⟩ := bind_ex h
  obtain ⟨row1, hrow1, h⟩ := set_ex h
  refine blk_cons (ρ1 := [some (.sh ((eL eI) script1)), some (.sh ((eL eI) row1)), none, none, none, none, none, none, none, none, none, none, none, none, none, none, none, none, none, none]) (sSet (d := (eL eI) row1) 1 s_law_row (Ev.to (cF g_law_law_row (ok_law_row T hlaw_ro1) (by decide : LW_law_row ≤ LV_law) (ea_cons (vr 0 n_law_script rfl) (ea_cons ev_int ea_nil (fun _ => rfl)) (fun _ => rfl)) (fun _ => rfl) (fun _ => rfl)) (congrArg (eL eI) hrow1)) (fun _ _ => rfl)) ?_
  obtain ⟨x1, hx1, h⟩ := bind_ex h
  obtain ⟨x2, hx2, h⟩ := bind_ex h
  obtain ⟨x3, hx3, h⟩ := bind_ex h
  obtain ⟨first1, hfirst1, h⟩ := set_ex h
  obtain ⟨second1, hsecond1, h⟩ := set_ex h
  obtain ⟨kind1, hkind1, h⟩ := set_ex h
  refine blk_cons (ρ1 := [some (.sh ((eL eI) script1)), some (.sh ((eL eI) row1)), some (.sh (eI first1)), some (.sh (eI second1)), some (.sh (eI kind1)), none, none, none, none, none, none, none, none, none, none, none, none, none, none, none]) (st_par3 (i := 2) (j := 3) (l := 4) l_law_first.hi l_law_second.hi l_law_kind.hi (by decide) (by decide) (by decide) l_law_first.hl l_law_second.hl l_law_kind.hl (Ev.s (Ev.to (ev_op ok_add (Ev.toB ev_int) (Ev.toB (ev_op (ok_mod (by decide)) (Ev.toB (cT g_law_int T.b_int bb_int (ok_intI (i := x1)) (eab_cons (Ev.toB (ev_ix (Ev.toB (vr 1 n_law_row rfl)) (Ev.toB ev_int) (atI_map eI hx1) (fun _ _ => rfl))) eab_nil (fun _ => rfl)) (fun _ => rfl) (fun _ => rfl))) (Ev.toB ev_int)))) (congrArg eI hfirst1))) (Ev.s (Ev.to (ev_op (ok_mod (by decide)) (Ev.toB (cT g_law_int T.b_int bb_int (ok_intI (i := x2)) (eab_cons (Ev.toB (ev_ix (Ev.toB (vr 1 n_law_row rfl)) (Ev.toB ev_int) (atI_map eI hx2) (fun _ _ => rfl))) eab_nil (fun _ => rfl)) (fun _ => rfl) (fun _ => rfl))) (Ev.toB ev_int)) (congrArg eI hsecond1))) (Ev.s (Ev.to (ev_op (ok_mod (by decide)) (Ev.toB (cT g_law_int T.b_int bb_int (ok_intI (i := x3)) (eab_cons (Ev.toB (ev_ix (Ev.toB (vr 1 n_law_row rfl)) (Ev.toB ev_int) (atI_map eI hx3) (fun _ _ => rfl))) eab_nil (fun _ => rfl)) (fun _ => rfl) (fun _ => rfl))) (Ev.toB ev_int)) (congrArg eI hkind1))) (fun env h => swp_sc env h (by kernel_rfl)) (fun _ => rfl) (fun _ => rfl) (fun _ => rfl) (fun _ => rfl)) ?_
  obtain ⟨j1, hj1, h⟩ := bind_ex h
  refine blk_cons (ρ1 := [some (.sh ((eL eI) script1)), some (.sh ((eL eI) row1)), some (.sh (eI first1)), some (.sh (eI j1)), some (.sh (eI kind1)), none, none, none, none, none, none, none, none, none, none, none, none, none, none, none]) (st_ifJ hj1 (te_cmp (ok_eqI (i := kind1) (j := 0)) (Ev.toB (vr 4 n_law_kind rfl)) (Ev.toB ev_int) rfl) ?_ ?_) ?_
  · intro h
    obtain ⟨second2, hsecond2, h⟩ := set_ex h
    refine blk_cons (ρ1 := [some (.sh ((eL eI) script1)), some (.sh ((eL eI) row1)), some (.sh (eI first1)), some (.sh (eI second2)), some (.sh (eI kind1)), none, none, none, none, none, none, none, none, none, none, none, none, none, none, none]) (sSet (d := eI second2) 3 s_law_second (Ev.to ev_int (congrArg eI hsecond2)) (fun _ _ => rfl)) ?_
    have h := Option.some.inj h
    subst h
    exact Blk.out blk_nil (.nx (.keep (.keep (.keep (.keep (.keep (.keep (.keep (.keep (.keep (.keep (.keep (.keep (.keep (.keep (.keep (.keep (.keep (.keep (.keep (.keep .nil)))))))))))))))))))))
  · intro h
    have h := Option.some.inj h
    subst h
    exact Blk.out blk_nil (.nx (.keep (.keep (.keep (.keep (.keep (.keep (.keep (.keep (.keep (.keep (.keep (.keep (.keep (.keep (.keep (.keep (.keep (.keep (.keep (.keep .nil)))))))))))))))))))))
  · obtain ⟨j2, hj2, h⟩ := bind_ex h
    refine blk_cons (ρ1 := [some (.sh ((eL eI) script1)), some (.sh ((eL eI) row1)), some (.sh (eI first1)), some (.sh (eI j2)), some (.sh (eI kind1)), none, none, none, none, none, none, none, none, none, none, none, none, none, none, none]) (st_ifJ hj2 (te_cmp (ok_eqI (i := kind1) (j := 1)) (Ev.toB (vr 4 n_law_kind rfl)) (Ev.toB ev_int) rfl) ?_ ?_) ?_
    · intro h
      obtain ⟨second3, hsecond3, h⟩ := set_ex h
      refine blk_cons (ρ1 := [some (.sh ((eL eI) script1)), some (.sh ((eL eI) row1)), some (.sh (eI first1)), some (.sh (eI second3)), some (.sh (eI kind1)), none, none, none, none, none, none, none, none, none, none, none, none, none, none, none]) (sSet (d := eI second3) 3 s_law_second (Ev.to (vr 2 n_law_first rfl) (congrArg eI hsecond3)) (fun _ _ => rfl)) ?_
      have h := Option.some.inj h
      subst h
      exact Blk.out blk_nil (.nx (.keep (.keep (.keep (.keep (.keep (.keep (.keep (.keep (.keep (.keep (.keep (.keep (.keep (.keep (.keep (.keep (.keep (.keep (.keep (.keep .nil)))))))))))))))))))))
    · intro h
      have h := Option.some.inj h
      subst h
      exact Blk.out blk_nil (.nx (.keep (.keep (.keep (.keep (.keep (.keep (.keep (.keep (.keep (.keep (.keep (.keep (.keep (.keep (.keep (.keep (.keep (.keep (.keep (.keep .nil)))))))))))))))))))))
    · obtain ⟨j3, hj3, h⟩ := bind_ex h
      refine blk_cons (ρ1 := [some (.sh ((eL eI) script1)), some (.sh ((eL eI) row1)), some (.sh (eI first1)), some (.sh (eI j3)), some (.sh (eI kind1)), none, none, none, none, none, none, none, none, none, none, none, none, none, none, none]) (st_ifJ hj3 (te_cmp (ok_eqI (i := kind1) (j := 2)) (Ev.toB (vr 4 n_law_kind rfl)) (Ev.toB ev_int) rfl) ?_ ?_) ?_
      · intro h
        obtain ⟨x5, hx5, h⟩ := bind_ex h
        obtain ⟨hn2, h⟩ := need_ex h
        obtain ⟨second4, hsecond4, h⟩ := set_ex h
        refine blk_cons (ρ1 := [some (.sh ((eL eI) script1)), some (.sh ((eL eI) row1)), some (.sh (eI first1)), some (.sh (eI second4)), some (.sh (eI kind1)), none, none, none, none, none, none, none, none, none, none, none, none, none, none, none]) (sSet (d := eI second4) 3 s_law_second (Ev.to (ev_op (ok_mod hn2) (Ev.toB (cT g_law_int T.b_int bb_int (ok_intI (i := x5)) (eab_cons (Ev.toB (ev_ix (Ev.toB (vr 1 n_law_row rfl)) (Ev.toB ev_int) (atI_map eI hx5) (fun _ _ => rfl))) eab_nil (fun _ => rfl)) (fun _ => rfl) (fun _ => rfl))) (Ev.toB (ev_op ok_add (Ev.toB (vr 2 n_law_first rfl)) (Ev.toB ev_int)))) (congrArg eI hsecond4)) (fun _ _ => rfl)) ?_
        have h := Option.some.inj h
        subst h
        exact Blk.out blk_nil (.nx (.keep (.keep (.keep (.keep (.keep (.keep (.keep (.keep (.keep (.keep (.keep (.keep (.keep (.keep (.keep (.keep (.keep (.keep (.keep (.keep .nil)))))))))))))))))))))
      · intro h
        have h := Option.some.inj h
        subst h
        exact Blk.out blk_nil (.nx (.keep (.keep (.keep (.keep (.keep (.keep (.keep (.keep (.keep (.keep (.keep (.keep (.keep (.keep (.keep (.keep (.keep (.keep (.keep (.keep .nil)))))))))))))))))))))
      · obtain ⟨x6, hx6, h⟩ := bind_ex h
        obtain ⟨under1, hunder1, h⟩ := set_ex h
        refine blk_cons (ρ1 := [some (.sh ((eL eI) script1)), some (.sh ((eL eI) row1)), some (.sh (eI first1)), some (.sh (eI j3)), some (.sh (eI kind1)), some (.sh (eI under1)), none, none, none, none, none, none, none, none, none, none, none, none, none, none]) (sSet (d := eI under1) 5 s_law_under (Ev.to (ev_op ok_add (Ev.toB ev_int) (Ev.toB (ev_op (ok_mod (by decide)) (Ev.toB (cT g_law_int T.b_int bb_int (ok_intI (i := x6)) (eab_cons (Ev.toB (ev_ix (Ev.toB (vr 1 n_law_row rfl)) (Ev.toB ev_int) (atI_map eI hx6) (fun _ _ => rfl))) eab_nil (fun _ => rfl)) (fun _ => rfl) (fun _ => rfl))) (Ev.toB ev_int)))) (congrArg eI hunder1)) (fun _ _ => rfl)) ?_
        obtain ⟨x7, hx7, h⟩ := bind_ex h
        obtain ⟨hn3, h⟩ := need_ex h
        obtain ⟨law_ra1, hlaw_ra1, h⟩ := bind_ex h
        obtain ⟨limit1, hlimit1, h⟩ := set_ex h
        refine blk_cons (ρ1 := [some (.sh ((eL eI) script1)), some (.sh ((eL eI) row1)), some (.sh (eI first1)), some (.sh (eI j3)), some (.sh (eI kind1)), some (.sh (eI under1)), some (.sh ((eP eI eI) limit1)), none, none, none, none, none, none, none, none, none, none, none, none, none]) (sSet (d := (eP eI eI) limit1) 6 s_law_limit (Ev.to (cF g_law_law_ratio (ok_law_ratio T hlaw_ra1) (by decide : LW_law_ratio ≤ LV_law) (ea_cons (ev_op ok_add (Ev.toB ev_int) (Ev.toB (ev_op (ok_mod hn3) (Ev.toB (cT g_law_int T.b_int bb_int (ok_intI (i := x7)) (eab_cons (Ev.toB (ev_ix (Ev.toB (vr 1 n_law_row rfl)) (Ev.toB ev_int) (atI_map eI hx7) (fun _ _ => rfl))) eab_nil (fun _ => rfl)) (fun _ => rfl) (fun _ => rfl))) (Ev.toB (ev_op ok_sub (Ev.toB (vr 5 n_law_under rfl)) (Ev.toB ev_int)))))) (ea_cons (vr 5 n_law_under rfl) ea_nil (fun _ => rfl)) (fun _ => rfl)) (fun _ => rfl) (fun _ => rfl)) (congrArg (eP eI eI) hlimit1)) (fun _ _ => rfl)) ?_
        obtain ⟨x8, hx8, h⟩ := bind_ex h
        obtain ⟨j4, hj4, h⟩ := bind_ex h
        refine blk_cons (ρ1 := [some (.sh ((eL eI) script1)), some (.sh ((eL eI) row1)), some (.sh (eI first1)), some (.sh (eI j3)), some (.sh (eI kind1)), some (.sh (eI under1)), some (.sh ((eP eI eI) j4)), none, none, none, none, none, none, none, none, none, none, none, none, none]) (st_ifJ hj4 (te_cmp (ok_eqI (i := (x8 % 3)) (j := 1)) (Ev.toB (ev_op (ok_mod (by decide)) (Ev.toB (cT g_law_int T.b_int bb_int (ok_intI (i := x8)) (eab_cons (Ev.toB (ev_ix (Ev.toB (vr 1 n_law_row rfl)) (Ev.toB ev_int) (atI_map eI hx8) (fun _ _ => rfl))) eab_nil (fun _ => rfl)) (fun _ => rfl) (fun _ => rfl))) (Ev.toB ev_int))) (Ev.toB ev_int) rfl) ?_ ?_) ?_
        · intro h
          obtain ⟨x10, hx10, h⟩ := bind_ex h
          obtain ⟨hn5, h⟩ := need_ex h
          obtain ⟨limit2, hlimit2, h⟩ := set_ex h
          refine blk_cons (ρ1 := [some (.sh ((eL eI) script1)), some (.sh ((eL eI) row1)), some (.sh (eI first1)), some (.sh (eI j3)), some (.sh (eI kind1)), some (.sh (eI under1)), some (.sh ((eP eI eI) limit2)), none, none, none, none, none, none, none, none, none, none, none, none, none]) (sSet (d := (eP eI eI) limit2) 6 s_law_limit (Ev.to (ev_tup (ea_cons ev_int (ea_cons (ev_op (ok_shl hn5) (Ev.toB ev_int) (Ev.toB (ev_op (ok_mod (by decide)) (Ev.toB (cT g_law_int T.b_int bb_int (ok_intI (i := x10)) (eab_cons (Ev.toB (ev_ix (Ev.toB (vr 1 n_law_row rfl)) (Ev.toB ev_int) (atI_map eI hx10) (fun _ _ => rfl))) eab_nil (fun _ => rfl)) (fun _ => rfl) (fun _ => rfl))) (Ev.toB ev_int)))) ea_nil (fun _ => rfl)) (fun _ => rfl)) (le_sz (by decide : 2 ≤ 100000))) (congrArg (eP eI eI) hlimit2)) (fun _ _ => rfl)) ?_
          have h := Option.some.inj h
          subst h
          exact Blk.out blk_nil (.nx (.keep (.keep (.keep (.keep (.keep (.keep (.keep (.keep (.keep (.keep (.keep (.keep (.keep (.keep (.keep (.keep (.keep (.keep (.keep (.keep .nil)))))))))))))))))))))
        · intro h
          have h := Option.some.inj h
          subst h
          exact Blk.out blk_nil (.nx (.keep (.keep (.keep (.keep (.keep (.keep (.keep (.keep (.keep (.keep (.keep (.keep (.keep (.keep (.keep (.keep (.keep (.keep (.keep (.keep .nil)))))))))))))))))))))
        · obtain ⟨law_st1, hlaw_st1, h⟩ := bind_ex h
          obtain ⟨stop1, hstop1, h⟩ := set_ex h
          refine blk_cons (ρ1 := [some (.sh ((eL eI) script1)), some (.sh ((eL eI) row1)), some (.sh (eI first1)), some (.sh (eI j3)), some (.sh (eI kind1)), some (.sh (eI under1)), some (.sh ((eP eI eI) j4)), some (.sh ((eO eI) stop1)), none, none, none, none, none, none, none, none, none, none, none, none]) (sSet (d := (eO eI) stop1) 7 s_law_stop (Ev.to (cF g_law_law_stop (ok_law_stop T hlaw_st1) (by decide : LW_law_stop ≤ LV_law) (ea_cons (ev_op ok_add (Ev.toB (vr 2 n_law_first rfl)) (Ev.toB (vr 3 n_law_second rfl))) (ea_cons (vr 6 n_law_limit rfl) ea_nil (fun _ => rfl)) (fun _ => rfl)) (fun _ => rfl) (fun _ => rfl)) (congrArg (eO eI) hstop1)) (fun _ _ => rfl)) ?_
          obtain ⟨o1, ho1, h⟩ := bind_ex h
          refine blk_any (st_for (it_tup (ev_tup (ea_cons (ev_tup (ea_cons (vr 2 n_law_first rfl) (ea_cons (vr 3 n_law_second rfl) ea_nil (fun _ => rfl)) (fun _ => rfl)) (le_sz (by decide : 2 ≤ 100000))) (ea_cons (ev_tup (ea_cons (vr 3 n_law_second rfl) (ea_cons (vr 2 n_law_first rfl) ea_nil (fun _ => rfl)) (fun _ => rfl)) (le_sz (by decide : 2 ≤ 100000))) (ea_cons (ev_tup (ea_cons (ev_op ok_add (Ev.toB (vr 2 n_law_first rfl)) (Ev.toB (vr 3 n_law_second rfl))) (ea_cons ev_int ea_nil (fun _ => rfl)) (fun _ => rfl)) (le_sz (by decide : 2 ≤ 100000))) ea_nil (fun _ => rfl)) (fun _ => rfl)) (fun _ => rfl)) (le_sz (by decide : 3 ≤ 100000)))) (for_o (R := (fun (s1 : (Unit)) => ([some (.sh ((eL eI) script1)), some (.sh ((eL eI) row1)), some (.sh (eI first1)), some (.sh (eI j3)), some (.sh (eI kind1)), some (.sh (eI under1)), some (.sh ((eP eI eI) j4)), some (.sh ((eO eI) stop1)), none, none, none, none, none, none, none, none, none, none, none, none] : PEnv))) (E := eB) (ea := (eP eI eI)) (step := (law_l1 j4 stop1)) ?_ _ _ _ ho1) (fun _ _ => rfl)) ?_
          · intro s1 x11 o h
            unfold law_l1 at h
            refine ⟨_, [some (.sh ((eL eI) script1)), some (.sh ((eL eI) row1)), some (.sh (eI first1)), some (.sh (eI j3)), some (.sh (eI kind1)), some (.sh (eI under1)), some (.sh ((eP eI eI) j4)), some (.sh ((eO eI) stop1)), some (.sh (eI x11.1)), some (.sh (eI x11.2)), none, none, none, none, none, none, none, none, none, none], (tg_tup (tgs_cons (tN 8 s_law_one) (tgs_cons (tN 9 s_law_other) tgs_nil (fun _ => rfl)) (fun _ => rfl)) rfl (fun _ => rfl) (fun _ => rfl)), ?_⟩
            obtain ⟨audit1, haudit1, h⟩ := bind_ex h
            refine blk_ifx h (te_not (te_val (Ev.toB (cF g_law_law_like (ok_like T 0 ((eO eI) stop1) ((eO eI) audit1) ((du_O du_I).ok _) ((du_O du_I).dp _)) (by decide : 2 ≤ LV_law) (ea_cons (cF g_law_audit_stop (ok_audit_stop T haudit1) (by decide : LW_audit_stop ≤ LV_law) (ea_cons (vr 8 n_law_one rfl) (ea_cons (vr 9 n_law_other rfl) (ea_cons (vr 6 n_law_limit rfl) ea_nil (fun _ => rfl)) (fun _ => rfl)) (fun _ => rfl)) (fun _ => rfl) (fun _ => rfl)) (ea_cons (vr 7 n_law_stop rfl) ea_nil (fun _ => rfl)) (fun _ => rfl)) (fun _ => rfl) (fun _ => rfl))) (fun _ _ => rfl))) ?_ ?_
            · intro h
              have h := Option.some.inj h
              subst h
              exact blkx_ret (st_ret ev_bool)
            · intro h
              have h := Option.some.inj h
              subst h
              exact Blk.out blk_nil (.nx (.keep (.keep (.keep (.keep (.keep (.keep (.keep (.keep (.drop (.drop (.keep (.keep (.keep (.keep (.keep (.keep (.keep (.keep (.keep (.keep .nil)))))))))))))))))))))
          · rcases then_ex h with ⟨s2, e, h⟩ | ⟨b, e, h⟩
            · subst e
              show Blk G C_law _ [some (.sh ((eL eI) script1)), some (.sh ((eL eI) row1)), some (.sh (eI first1)), some (.sh (eI j3)), some (.sh (eI kind1)), some (.sh (eI under1)), some (.sh ((eP eI eI) j4)), some (.sh ((eO eI) stop1)), none, none, none, none, none, none, none, none, none, none, none, none] _ _
              obtain ⟨hn6, h⟩ := need_ex h
              obtain ⟨law_re1, hlaw_re1, h⟩ := bind_ex h
              obtain ⟨told1, htold1, h⟩ := set_ex h
              refine blk_cons (ρ1 := [some (.sh ((eL eI) script1)), some (.sh ((eL eI) row1)), some (.sh (eI first1)), some (.sh (eI j3)), some (.sh (eI kind1)), some (.sh (eI under1)), some (.sh ((eP eI eI) j4)), some (.sh ((eO eI) stop1)), none, none, some (.sh ((eO eI) told1)), none, none, none, none, none, none, none, none, none]) (sSet (d := (eO eI) told1) 10 s_law_told (Ev.to (cF g_law_law_reached (ok_law_reached T hlaw_re1) (by decide : LW_law_reached ≤ LV_law) (ea_cons (vr 6 n_law_limit rfl) (ea_cons ev_int (ea_cons ev_int (ea_cons (ev_op (ok_repT (ea := eI) (xs := ([0] : (List Int))) hn6) (Ev.toB (ev_tup (ea_cons ev_int ea_nil (fun _ => rfl)) (le_sz (by decide : 1 ≤ 100000)))) (Ev.toB ev_int)) ea_nil (fun _ => rfl)) (fun _ => rfl)) (fun _ => rfl)) (fun _ => rfl)) (fun _ => rfl) (fun _ => rfl)) (congrArg (eO eI) htold1)) (fun _ _ => rfl)) ?_
              obtain ⟨hn7, h⟩ := need_ex h
              obtain ⟨audit2, haudit2, h⟩ := bind_ex h
              obtain ⟨b1, hb1, h⟩ := bind_ex h
              refine blk_ifx h (Tw.te (tw_orO hb1 (te_not (te_val (Ev.toB (cF g_law_law_like (ok_like T 0 ((eO eI) told1) ((eO eI) audit2) ((du_O du_I).ok _) ((du_O du_I).dp _)) (by decide : 2 ≤ LV_law) (ea_cons (cF g_law_audit_row (ok_audit_row T haudit2) (by decide : LW_audit_row ≤ LV_law) (ea_cons (vr 6 n_law_limit rfl) (ea_cons (ev_op ok_add (Ev.toB (vr 2 n_law_first rfl)) (Ev.toB (vr 3 n_law_second rfl))) (ea_cons ev_int (ea_cons (ev_op (ok_repT (ea := eI) (xs := ([0] : (List Int))) hn7) (Ev.toB (ev_tup (ea_cons ev_int ea_nil (fun _ => rfl)) (le_sz (by decide : 1 ≤ 100000)))) (Ev.toB ev_int)) ea_nil (fun _ => rfl)) (fun _ => rfl)) (fun _ => rfl)) (fun _ => rfl)) (fun _ => rfl) (fun _ => rfl)) (ea_cons (vr 10 n_law_told rfl) ea_nil (fun _ => rfl)) (fun _ => rfl)) (fun _ => rfl) (fun _ => rfl))) (fun _ _ => rfl))) (fun h => by (obtain ⟨u1, hu1, h⟩ := bind_ex h; obtain ⟨u2, hu2, h⟩ := bind_ex h; have h := Option.some.inj h; subst h; exact (tw_or1 (te_cmp (ok_gt (i := u1) (j := u2)) (Ev.toB (Ev.to (vr 7 n_law_stop rfl) (congrArg (eO eI) hu1))) (Ev.toB (Ev.to (vr 10 n_law_told rfl) (congrArg (eO eI) hu2))) rfl)))))) ?_ ?_
              · intro h
                have h := Option.some.inj h
                subst h
                exact blkx_ret (st_ret ev_bool)
              · intro h
                obtain ⟨x12, hx12, h⟩ := bind_ex h
                obtain ⟨x13, hx13, h⟩ := bind_ex h
                obtain ⟨n1, hn1, h⟩ := set_ex h
                obtain ⟨part1, hpart1, h⟩ := set_ex h
                refine blk_cons (ρ1 := [some (.sh ((eL eI) script1)), some (.sh ((eL eI) row1)), some (.sh (eI first1)), some (.sh (eI j3)), some (.sh (eI kind1)), some (.sh (eI under1)), some (.sh ((eP eI eI) j4)), some (.sh ((eO eI) stop1)), none, none, some (.sh ((eO eI) told1)), some (.sh (eI n1)), some (.sh (eI part1)), none, none, none, none, none, none, none]) (st_unp2 s_law_n s_law_part (Ev.s (Ev.to (ev_op (ok_mod (by decide)) (Ev.toB (cT g_law_int T.b_int bb_int (ok_intI (i := x12)) (eab_cons (Ev.toB (ev_ix (Ev.toB (vr 1 n_law_row rfl)) (Ev.toB ev_int) (atI_map eI hx12) (fun _ _ => rfl))) eab_nil (fun _ => rfl)) (fun _ => rfl) (fun _ => rfl))) (Ev.toB ev_int)) (congrArg eI hn1))) (Ev.s (Ev.to (ev_op ok_add (Ev.toB ev_int) (Ev.toB (ev_op (ok_mod (by decide)) (Ev.toB (cT g_law_int T.b_int bb_int (ok_intI (i := x13)) (eab_cons (Ev.toB (ev_ix (Ev.toB (vr 1 n_law_row rfl)) (Ev.toB ev_int) (atI_map eI hx13) (fun _ _ => rfl))) eab_nil (fun _ => rfl)) (fun _ => rfl) (fun _ => rfl))) (Ev.toB ev_int)))) (congrArg eI hpart1))) (fun env h => swp_sc env h (by kernel_rfl)) (fun _ => rfl) (fun _ => rfl)) ?_
                obtain ⟨x14, hx14, h⟩ := bind_ex h
                obtain ⟨hn8, h⟩ := need_ex h
                obtain ⟨ys1, hys1, h⟩ := bind_ex h
                obtain ⟨plans1, hplans1, h⟩ := set_ex h
                refine blk_cons (ρ1 := [some (.sh ((eL eI) script1)), some (.sh ((eL eI) row1)), some (.sh (eI first1)), some (.sh (eI j3)), some (.sh (eI kind1)), some (.sh (eI under1)), some (.sh ((eP eI eI) j4)), some (.sh ((eO eI) stop1)), none, none, some (.sh ((eO eI) told1)), some (.sh (eI n1)), some (.sh (eI part1)), some (.sh ((eT eI) plans1)), none, none, none, none, none, none]) (sSet (d := (eT eI) plans1) 13 s_law_plans (Ev.to (cT g_law_tuple T.b_tuple bb_tuple (ok_tupL ys1) (eab_cons (Ev.toB (EvN.ev (nLc [("k", 15)] (by decide +kernel) (It'.toB (iR1 g_law_range T.b_range (Ev.toB (ev_op (ok_mod (by decide)) (Ev.toB (cT g_law_int T.b_int bb_int (ok_intI (i := x14)) (eab_cons (Ev.toB (ev_ix (Ev.toB (vr 1 n_law_row rfl)) (Ev.toB ev_int) (atI_map eI hx14) (fun _ _ => rfl))) eab_nil (fun _ => rfl)) (fun _ => rfl) (fun _ => rfl))) (Ev.toB ev_int))) hn8 (fun _ => rfl))) (lcr_map (ea := eI) (eb := eI) (fun z1 : Int => (Option.bind (idx row1 (14 + z1)) fun x15 => need (0 < (part1 + 1)) <| some (if (decide ((x15 % (part1 + 1)) = 0)) = true then 1 else 0))) (fun z1 y h => by (obtain ⟨x15, hx15, h⟩ := bind_ex h; obtain ⟨hn9, h⟩ := need_ex h; have h := Option.some.inj h; subst h; exact step_one (by decide) (tN 15 (nms (by decide +kernel))) (cT (gn (by decide +kernel)) T.b_int bb_int (ok_intB (b := (decide ((x15 % (part1 + 1)) = 0)))) (eab_cons (Ev.toB (ev_cmp (ok_eqI (i := (x15 % (part1 + 1))) (j := 0)) (Ev.toB (ev_op (ok_mod hn9) (Ev.toB (cT (gn (by decide +kernel)) T.b_int bb_int (ok_intI (i := x15)) (eab_cons (Ev.toB (ev_ix (Ev.toB (vr 1 (nm (by decide +kernel)) rfl)) (Ev.toB (ev_op ok_add (Ev.toB ev_int) (Ev.toB (vr 15 (nm (by decide +kernel)) rfl)))) (atI_map eI hx15) (fun _ _ => rfl))) eab_nil (fun _ => rfl)) (fun _ => rfl) (fun _ => rfl))) (Ev.toB (ev_op ok_add (Ev.toB (vr 12 (nm (by decide +kernel)) rfl)) (Ev.toB ev_int))))) (Ev.toB ev_int) rfl)) eab_nil (fun _ => rfl)) (fun _ => rfl) (fun _ => rfl)))) _ _ hys1) (zz_rg hn8 (Nat.le_of_eq (mapO_len hys1))) (fun _ _ => rfl)))) eab_nil (fun _ => rfl)) (fun _ => rfl) (fun _ => rfl)) (congrArg (eT eI) hplans1)) (fun _ _ => rfl)) ?_
                obtain ⟨law_ro2, hlaw_ro2, h⟩ := bind_ex h
                refine blk_ifx h (te_not (te_val (Ev.toB (cF g_law_law_rows_right (ok_law_rows_right T hlaw_ro2) (by decide : LW_law_rows_right ≤ LV_law) (ea_cons (vr 6 n_law_limit rfl) (ea_cons (vr 2 n_law_first rfl) (ea_cons (vr 3 n_law_second rfl) (ea_cons (vr 13 n_law_plans rfl) (ea_cons (vr 11 n_law_n rfl) ea_nil (fun _ => rfl)) (fun _ => rfl)) (fun _ => rfl)) (fun _ => rfl)) (fun _ => rfl)) (fun _ => rfl) (fun _ => rfl))) (fun _ _ => rfl))) ?_ ?_
                · intro h
                  have h := Option.some.inj h
                  subst h
                  exact blkx_ret (st_ret ev_bool)
                · intro h
                  obtain ⟨top1, htop1, h⟩ := set_ex h
                  obtain ⟨under2, hunder2, h⟩ := set_ex h
                  refine blk_cons (ρ1 := [some (.sh ((eL eI) script1)), some (.sh ((eL eI) row1)), some (.sh (eI first1)), some (.sh (eI j3)), some (.sh (eI kind1)), some (.sh (eI under2)), some (.sh ((eP eI eI) j4)), some (.sh ((eO eI) stop1)), none, none, some (.sh ((eO eI) told1)), some (.sh (eI n1)), some (.sh (eI part1)), some (.sh ((eT eI) plans1)), some (.sh (eI top1)), none, none, none, none, none]) (st_unp2 s_law_top s_law_under (Ev.s (Ev.to ev_int (congrArg eI htop1))) (Ev.s (Ev.to ev_int (congrArg eI hunder2))) (fun env h => swp_sc env h (by kernel_rfl)) (fun _ => rfl) (fun _ => rfl)) ?_
                  obtain ⟨x16, hx16, h⟩ := bind_ex h
                  obtain ⟨hn10, h⟩ := need_ex h
                  obtain ⟨s4, hs4, h⟩ := bind_ex h
                  refine blk_cons (ρ1 := [some (.sh ((eL eI) script1)), some (.sh ((eL eI) row1)), some (.sh (eI first1)), some (.sh (eI j3)), some (.sh (eI kind1)), some (.sh (eI s4.2)), some (.sh ((eP eI eI) j4)), some (.sh ((eO eI) stop1)), none, none, some (.sh ((eO eI) told1)), some (.sh (eI n1)), some (.sh (eI part1)), some (.sh ((eT eI) plans1)), some (.sh (eI s4.1)), none, none, none, none, none]) (st_for (iR1 g_law_range T.b_range (Ev.toB (ev_op ok_add (Ev.toB ev_int) (Ev.toB (ev_op (ok_mod (by decide)) (Ev.toB (cT g_law_int T.b_int bb_int (ok_intI (i := x16)) (eab_cons (Ev.toB (ev_ix (Ev.toB (vr 1 n_law_row rfl)) (Ev.toB ev_int) (atI_map eI hx16) (fun _ _ => rfl))) eab_nil (fun _ => rfl)) (fun _ => rfl) (fun _ => rfl))) (Ev.toB ev_int))))) hn10 (fun _ => rfl)) (for_s (R := (fun (s3 : (Int × Int)) => ([some (.sh ((eL eI) script1)), some (.sh ((eL eI) row1)), some (.sh (eI first1)), some (.sh (eI j3)), some (.sh (eI kind1)), some (.sh (eI s3.2)), some (.sh ((eP eI eI) j4)), some (.sh ((eO eI) stop1)), none, none, some (.sh ((eO eI) told1)), some (.sh (eI n1)), some (.sh (eI part1)), some (.sh ((eT eI) plans1)), some (.sh (eI s3.1)), none, none, none, none, none] : PEnv))) (ea := eI) (step := (law_l2 first1 j3)) ?_ _ _ _ hs4) (fun _ _ => rfl)) ?_
                  · intro s3 x17 o h
                    unfold law_l2 at h
                    refine ⟨_, [some (.sh ((eL eI) script1)), some (.sh ((eL eI) row1)), some (.sh (eI first1)), some (.sh (eI j3)), some (.sh (eI kind1)), some (.sh (eI s3.2)), some (.sh ((eP eI eI) j4)), some (.sh ((eO eI) stop1)), none, none, some (.sh ((eO eI) told1)), some (.sh (eI n1)), some (.sh (eI part1)), some (.sh ((eT eI) plans1)), some (.sh (eI s3.1)), some (.sh (eI x17)), none, none, none, none], (tN 15 s_law_k), ?_⟩
                    obtain ⟨hn12, h⟩ := need_ex h
                    obtain ⟨hn14, h⟩ := need_ex h
                    obtain ⟨top2, htop2, h⟩ := set_ex h
                    obtain ⟨under3, hunder3, h⟩ := set_ex h
                    refine blk_cons (ρ1 := [some (.sh ((eL eI) script1)), some (.sh ((eL eI) row1)), some (.sh (eI first1)), some (.sh (eI j3)), some (.sh (eI kind1)), some (.sh (eI under3)), some (.sh ((eP eI eI) j4)), some (.sh ((eO eI) stop1)), none, none, some (.sh ((eO eI) told1)), some (.sh (eI n1)), some (.sh (eI part1)), some (.sh ((eT eI) plans1)), some (.sh (eI top2)), some (.sh (eI x17)), none, none, none, none]) (st_par (i := 14) (j := 5) l_law_top.hi l_law_under.hi (by decide) l_law_top.hl l_law_under.hl (Ev.s (Ev.to (ev_op (ok_mul hn12) (Ev.toB (ev_op (ok_mul (mul_r (by decide))) (Ev.toB (vr 14 n_law_top rfl)) (Ev.toB ev_int))) (Ev.toB (cB g_law_max T.b_max bb_max (ok_max2 (i := first1) (j := j3)) (eab_cons (Ev.toB (vr 2 n_law_first rfl)) (eab_cons (Ev.toB (vr 3 n_law_second rfl)) eab_nil (fun _ => rfl)) (fun _ => rfl)) (fun _ => rfl) (fun _ => rfl)))) (congrArg eI htop2))) (Ev.s (Ev.to (ev_op (ok_mul hn14) (Ev.toB (vr 5 n_law_under rfl)) (Ev.toB (ev_op ok_add (Ev.toB (vr 2 n_law_first rfl)) (Ev.toB (vr 3 n_law_second rfl))))) (congrArg eI hunder3))) (fun env h => swp_sc env h (by kernel_rfl)) (fun _ => rfl) (fun _ => rfl) (fun _ => rfl)) ?_
                    have h := Option.some.inj h
                    subst h
                    exact Blk.out blk_nil (.nx (.keep (.keep (.keep (.keep (.keep (.keep (.keep (.keep (.keep (.keep (.keep (.keep (.keep (.keep (.keep (.drop (.keep (.keep (.keep (.keep .nil)))))))))))))))))))))
                  · obtain ⟨o2, ho2, h⟩ := bind_ex h
                    refine blk_any (st_for (it_tup (ev_tup (ea_cons ev_int (ea_cons ev_int (ea_cons (ev_un ok_neg (Ev.toB ev_int)) ea_nil (fun _ => rfl)) (fun _ => rfl)) (fun _ => rfl)) (le_sz (by decide : 3 ≤ 100000)))) (for_o (R := (fun (s5 : (Unit)) => ([some (.sh ((eL eI) script1)), some (.sh ((eL eI) row1)), some (.sh (eI first1)), some (.sh (eI j3)), some (.sh (eI kind1)), some (.sh (eI s4.2)), some (.sh ((eP eI eI) j4)), some (.sh ((eO eI) stop1)), none, none, some (.sh ((eO eI) told1)), some (.sh (eI n1)), some (.sh (eI part1)), some (.sh ((eT eI) plans1)), some (.sh (eI s4.1)), none, none, none, none, none] : PEnv))) (E := eB) (ea := eI) (step := (law_l3 first1 j3 n1 plans1 s4)) ?_ _ _ _ ho2) (fun _ _ => rfl)) ?_
                    · intro s5 x18 o h
                      unfold law_l3 at h
                      refine ⟨_, [some (.sh ((eL eI) script1)), some (.sh ((eL eI) row1)), some (.sh (eI first1)), some (.sh (eI j3)), some (.sh (eI kind1)), some (.sh (eI s4.2)), some (.sh ((eP eI eI) j4)), some (.sh ((eO eI) stop1)), none, none, some (.sh ((eO eI) told1)), some (.sh (eI n1)), some (.sh (eI part1)), some (.sh ((eT eI) plans1)), some (.sh (eI s4.1)), none, some (.sh (eI x18)), none, none, none], (tN 16 s_law_more), ?_⟩
                      obtain ⟨b2, hb2, h⟩ := bind_ex h
                      refine blk_ifx h (Tw.te (tw_andO hb2 (te_cmp (ok_neI (i := first1) (j := j3)) (Ev.toB (vr 2 n_law_first rfl)) (Ev.toB (vr 3 n_law_second rfl)) rfl) (fun h => by (obtain ⟨law_ra2, hlaw_ra2, h⟩ := bind_ex h; obtain ⟨law_ro3, hlaw_ro3, h⟩ := bind_ex h; have h := Option.some.inj h; subst h; exact (tw_and1 (te_not (te_val (Ev.toB (cF g_law_law_rows_right (ok_law_rows_right T hlaw_ro3) (by decide : LW_law_rows_right ≤ LV_law) (ea_cons (cF g_law_law_ratio (ok_law_ratio T hlaw_ra2) (by decide : LW_law_ratio ≤ LV_law) (ea_cons (ev_op ok_add (Ev.toB (ev_op (ok_mul (mul_l (by decide))) (Ev.toB ev_int) (Ev.toB (vr 5 n_law_under rfl)))) (Ev.toB (vr 16 n_law_more rfl))) (ea_cons (ev_op (ok_mul (mul_l (by decide))) (Ev.toB ev_int) (Ev.toB (vr 14 n_law_top rfl))) ea_nil (fun _ => rfl)) (fun _ => rfl)) (fun _ => rfl) (fun _ => rfl)) (ea_cons (vr 2 n_law_first rfl) (ea_cons (vr 3 n_law_second rfl) (ea_cons (vr 13 n_law_plans rfl) (ea_cons (vr 11 n_law_n rfl) ea_nil (fun _ => rfl)) (fun _ => rfl)) (fun _ => rfl)) (fun _ => rfl)) (fun _ => rfl)) (fun _ => rfl) (fun _ => rfl))) (fun _ _ => rfl)))))))) ?_ ?_
                      · intro h
                        have h := Option.some.inj h
                        subst h
                        exact blkx_ret (st_ret ev_bool)
                      · intro h
                        have h := Option.some.inj h
                        subst h
                        exact Blk.out blk_nil (.nx (.keep (.keep (.keep (.keep (.keep (.keep (.keep (.keep (.keep (.keep (.keep (.keep (.keep (.keep (.keep (.keep (.drop (.keep (.keep (.keep .nil)))))))))))))))))))))
                    · rcases then_ex h with ⟨s6, e, h⟩ | ⟨b, e, h⟩
                      · subst e
                        show Blk G C_law _ [some (.sh ((eL eI) script1)), some (.sh ((eL eI) row1)), some (.sh (eI first1)), some (.sh (eI j3)), some (.sh (eI kind1)), some (.sh (eI s4.2)), some (.sh ((eP eI eI) j4)), some (.sh ((eO eI) stop1)), none, none, some (.sh ((eO eI) told1)), some (.sh (eI n1)), some (.sh (eI part1)), some (.sh ((eT eI) plans1)), some (.sh (eI s4.1)), none, none, none, none, none] _ _
                        obtain ⟨x19, hx19, h⟩ := bind_ex h
                        obtain ⟨ballots1, hballots1, h⟩ := set_ex h
                        refine blk_cons (ρ1 := [some (.sh ((eL eI) script1)), some (.sh ((eL eI) row1)), some (.sh (eI first1)), some (.sh (eI j3)), some (.sh (eI kind1)), some (.sh (eI s4.2)), some (.sh ((eP eI eI) j4)), some (.sh ((eO eI) stop1)), none, none, some (.sh ((eO eI) told1)), some (.sh (eI n1)), some (.sh (eI part1)), some (.sh ((eT eI) plans1)), some (.sh (eI s4.1)), none, none, some (.sh (eI ballots1)), none, none]) (sSet (d := eI ballots1) 17 s_law_ballots (Ev.to (ev_op ok_add (Ev.toB ev_int) (Ev.toB (ev_op (ok_mod (by decide)) (Ev.toB (cT g_law_int T.b_int bb_int (ok_intI (i := x19)) (eab_cons (Ev.toB (ev_ix (Ev.toB (vr 1 n_law_row rfl)) (Ev.toB ev_int) (atI_map eI hx19) (fun _ _ => rfl))) eab_nil (fun _ => rfl)) (fun _ => rfl) (fun _ => rfl))) (Ev.toB ev_int)))) (congrArg eI hballots1)) (fun _ _ => rfl)) ?_
                        obtain ⟨x20, hx20, h⟩ := bind_ex h
                        obtain ⟨hn15, h⟩ := need_ex h
                        obtain ⟨x21, hx21, h⟩ := bind_ex h
                        obtain ⟨truly1, htruly1, h⟩ := set_ex h
                        obtain ⟨draws1, hdraws1, h⟩ := set_ex h
                        refine blk_cons (ρ1 := [some (.sh ((eL eI) script1)), some (.sh ((eL eI) row1)), some (.sh (eI first1)), some (.sh (eI j3)), some (.sh (eI kind1)), some (.sh (eI s4.2)), some (.sh ((eP eI eI) j4)), some (.sh ((eO eI) stop1)), none, none, some (.sh ((eO eI) told1)), some (.sh (eI n1)), some (.sh (eI part1)), some (.sh ((eT eI) plans1)), some (.sh (eI s4.1)), none, none, some (.sh (eI ballots1)), some (.sh (eI truly1)), some (.sh (eI draws1))]) (st_par (i := 18) (j := 19) l_law_truly.hi l_law_draws.hi (by decide) l_law_truly.hl l_law_draws.hl (Ev.s (Ev.to (ev_op (ok_mod hn15) (Ev.toB (cT g_law_int T.b_int bb_int (ok_intI (i := x20)) (eab_cons (Ev.toB (ev_ix (Ev.toB (vr 1 n_law_row rfl)) (Ev.toB ev_int) (atI_map eI hx20) (fun _ _ => rfl))) eab_nil (fun _ => rfl)) (fun _ => rfl) (fun _ => rfl))) (Ev.toB (ev_op ok_add (Ev.toB (vr 17 n_law_ballots rfl)) (Ev.toB ev_int)))) (congrArg eI htruly1))) (Ev.s (Ev.to (ev_op (ok_mod hn15) (Ev.toB (cT g_law_int T.b_int bb_int (ok_intI (i := x21)) (eab_cons (Ev.toB (ev_ix (Ev.toB (vr 1 n_law_row rfl)) (Ev.toB ev_int) (atI_map eI hx21) (fun _ _ => rfl))) eab_nil (fun _ => rfl)) (fun _ => rfl) (fun _ => rfl))) (Ev.toB (ev_op ok_add (Ev.toB (vr 17 n_law_ballots rfl)) (Ev.toB ev_int)))) (congrArg eI hdraws1))) (fun env h => swp_sc env h (by kernel_rfl)) (fun _ => rfl) (fun _ => rfl) (fun _ => rfl)) ?_
                        obtain ⟨x22, hx22, h⟩ := bind_ex h
                        obtain ⟨hn16, h⟩ := need_ex h
                        obtain ⟨law_ch1, hlaw_ch1, h⟩ := bind_ex h
                        have h := Option.some.inj h
                        subst h
                        exact blk_ret (st_ret (cF g_law_law_chances_right (ok_law_chances_right T hlaw_ch1) (by decide : LW_law_chances_right ≤ LV_law) (ea_cons (vr 17 n_law_ballots rfl) (ea_cons (vr 18 n_law_truly rfl) (ea_cons (vr 19 n_law_draws rfl) (ea_cons (ev_op (ok_mod hn16) (Ev.toB (cT g_law_int T.b_int bb_int (ok_intI (i := x22)) (eab_cons (Ev.toB (ev_ix (Ev.toB (vr 1 n_law_row rfl)) (Ev.toB ev_int) (atI_map eI hx22) (fun _ _ => rfl))) eab_nil (fun _ => rfl)) (fun _ => rfl) (fun _ => rfl))) (Ev.toB (ev_op ok_add (Ev.toB (ev_op ok_sub (Ev.toB (vr 17 n_law_ballots rfl)) (Ev.toB (vr 19 n_law_draws rfl)))) (Ev.toB ev_int)))) ea_nil (fun _ => rfl)) (fun _ => rfl)) (fun _ => rfl)) (fun _ => rfl)) (fun _ => rfl) (fun _ => rfl)))
                      · subst e
                        have h := Option.some.inj h
                        subst h
                        rfl
            · subst e
              have h := Option.some.inj h
              subst h
              rfl
/-! ### the head -/
def d_divisor : He.DefD := ⟨("divisor", none), "divisor", "divisor", defArgs (topS 1), defBody (topS 1), defScope (topS 1), [], []⟩
def d_lowest : He.DefD := ⟨("lowest", none), "lowest", "lowest", defArgs (topS 2), defBody (topS 2), defScope (topS 2), [], []⟩
def d_audit_stop : He.DefD := ⟨("audit_stop", none), "audit_stop", "audit_stop", defArgs (topS 4), defBody (topS 4), defScope (topS 4), [], []⟩
def d_audit_chance : He.DefD := ⟨("audit_chance", none), "audit_chance", "audit_chance", defArgs (topS 5), defBody (topS 5), defScope (topS 5), [], []⟩
def d_is_reached : He.DefD := ⟨("is_reached", none), "is_reached", "is_reached", defArgs (topS 6), defBody (topS 6), defScope (topS 6), [], []⟩
def d_audit_row : He.DefD := ⟨("audit_row", none), "audit_row", "audit_row", defArgs (topS 7), defBody (topS 7), defScope (topS 7), [], []⟩
def d_audit_miss : He.DefD := ⟨("audit_miss", none), "audit_miss", "audit_miss", defArgs (topS 8), defBody (topS 8), defScope (topS 8), [], []⟩
def d_law_mixed : He.DefD := ⟨("_law_mixed", none), "_law_mixed", "_law_mixed", defArgs (topS 10), defBody (topS 10), defScope (topS 10), [], []⟩
def d_law_row : He.DefD := ⟨("_law_row", none), "_law_row", "_law_row", defArgs (topS 11), defBody (topS 11), defScope (topS 11), [], []⟩
def d_law_is_int : He.DefD := ⟨("_law_is_int", none), "_law_is_int", "_law_is_int", defArgs (topS 12), defBody (topS 12), defScope (topS 12), [], []⟩
def d_law_like : He.DefD := ⟨("_law_like", none), "_law_like", "_law_like", defArgs (topS 13), defBody (topS 13), defScope (topS 13), [], []⟩
def d_law_common : He.DefD := ⟨("_law_common", none), "_law_common", "_law_common", defArgs (topS 14), defBody (topS 14), defScope (topS 14), [], []⟩
def d_law_ratio : He.DefD := ⟨("_law_ratio", none), "_law_ratio", "_law_ratio", defArgs (topS 15), defBody (topS 15), defScope (topS 15), [], []⟩
def d_law_choose : He.DefD := ⟨("_law_choose", none), "_law_choose", "_law_choose", defArgs (topS 16), defBody (topS 16), defScope (topS 16), [], []⟩
def d_law_chance : He.DefD := ⟨("_law_chance", none), "_law_chance", "_law_chance", defArgs (topS 17), defBody (topS 17), defScope (topS 17), [], []⟩
def d_law_chances_right : He.DefD := ⟨("_law_chances_right", none), "_law_chances_right", "_law_chances_right", defArgs (topS 18), defBody (topS 18), defScope (topS 18), [], []⟩
def d_law_stop : He.DefD := ⟨("_law_stop", none), "_law_stop", "_law_stop", defArgs (topS 19), defBody (topS 19), defScope (topS 19), [], []⟩
def d_law_reached : He.DefD := ⟨("_law_reached", none), "_law_reached", "_law_reached", defArgs (topS 20), defBody (topS 20), defScope (topS 20), [], []⟩
def d_law_missed : He.DefD := ⟨("_law_missed", none), "_law_missed", "_law_missed", defArgs (topS 21), defBody (topS 21), defScope (topS 21), [], []⟩
def d_law_rows_right : He.DefD := ⟨("_law_rows_right", none), "_law_rows_right", "_law_rows_right", defArgs (topS 22), defBody (topS 22), defScope (topS 22), [], []⟩
def d_law : He.DefD := ⟨("law", none), "law", "law", defArgs (topS 23), defBody (topS 23), defScope (topS 23), [], []⟩
def fnL : List He.DefD := [d_divisor, d_lowest, d_audit_stop, d_audit_chance, d_is_reached, d_audit_row, d_audit_miss, d_law_mixed, d_law_row, d_law_is_int, d_law_like, d_law_common, d_law_ratio, d_law_choose, d_law_chance, d_law_chances_right, d_law_stop, d_law_reached, d_law_missed, d_law_rows_right, d_law]
def faL : List He.Fa := [.glo "divisor", .glo "lowest", .glo "audit_stop", .glo "audit_chance", .glo "is_reached", .glo "audit_row", .glo "audit_miss", .glo "_law_mixed", .glo "_law_row", .glo "_law_is_int", .glo "_law_like", .glo "_law_common", .glo "_law_ratio", .glo "_law_choose", .glo "_law_chance", .glo "_law_chances_right", .glo "_law_stop", .glo "_law_reached", .glo "_law_missed", .glo "_law_rows_right", .glo "law", .free "isinstance", .free "int", .free "bool", .free "tuple", .free "str", .free "all", .free "len", .free "range", .free "abs", .free "enumerate", .free "zip", .free "max"]
abbrev RR : PySem.W.OpenRow := PySem.W.OpenLaw.row PySem.Challenge.rw_sealskept_k39_whole_draws_of_ballots
abbrev hk : PySem.W.Hook := He.hookD 4 faL fnL
def ob (s : PySem.W.SharedT) : He.AlD := He.obsDG 4 faL fnL (HandSHeadRun.getT s)
theorem ob_eq (s : PySem.W.SharedT) : ob s = hk.obs s.abs := He.obsDG_eq (HandSHeadRun.getT_eq s)
def loose0 : List PySem.Str := ["divisor", "lowest", "audit_stop", "audit_chance", "is_reached", "audit_row", "audit_miss", "_law_mixed", "_law_row", "_law_is_int", "_law_like", "_law_common", "_law_ratio", "_law_choose", "_law_chance", "_law_chances_right", "_law_stop", "_law_reached", "_law_missed", "_law_rows_right"]
theorem runs (w : World) : HandSHeadRun.RunEq RR (PySem.W.view RR.prog [23]) hk ob 3000 (loose0) w := by
  intro os
  kernel_rfl
theorem facts {P : Program} {w : World} {K : PySem.W.Frag} {h : Heap} {mg : Str → Option Value} {base : Heap} (X : K.In h) (Gn : h.Ns mainGlobals mg) (c : He.SaysD faL fnL K) : Facts ⟨P, w, K, mg, base⟩ := by
  obtain ⟨fd0, F0⟩ := c.def_ 0 (d := d_divisor) rfl
  obtain ⟨fd1, F1⟩ := c.def_ 1 (d := d_lowest) rfl
  obtain ⟨fd2, F2⟩ := c.def_ 2 (d := d_audit_stop) rfl
  obtain ⟨fd3, F3⟩ := c.def_ 3 (d := d_audit_chance) rfl
  obtain ⟨fd4, F4⟩ := c.def_ 4 (d := d_is_reached) rfl
  obtain ⟨fd5, F5⟩ := c.def_ 5 (d := d_audit_row) rfl
  obtain ⟨fd6, F6⟩ := c.def_ 6 (d := d_audit_miss) rfl
  obtain ⟨fd7, F7⟩ := c.def_ 7 (d := d_law_mixed) rfl
  obtain ⟨fd8, F8⟩ := c.def_ 8 (d := d_law_row) rfl
  obtain ⟨fd9, F9⟩ := c.def_ 9 (d := d_law_is_int) rfl
  obtain ⟨fd10, F10⟩ := c.def_ 10 (d := d_law_like) rfl
  obtain ⟨fd11, F11⟩ := c.def_ 11 (d := d_law_common) rfl
  obtain ⟨fd12, F12⟩ := c.def_ 12 (d := d_law_ratio) rfl
  obtain ⟨fd13, F13⟩ := c.def_ 13 (d := d_law_choose) rfl
  obtain ⟨fd14, F14⟩ := c.def_ 14 (d := d_law_chance) rfl
  obtain ⟨fd15, F15⟩ := c.def_ 15 (d := d_law_chances_right) rfl
  obtain ⟨fd16, F16⟩ := c.def_ 16 (d := d_law_stop) rfl
  obtain ⟨fd17, F17⟩ := c.def_ 17 (d := d_law_reached) rfl
  obtain ⟨fd18, F18⟩ := c.def_ 18 (d := d_law_missed) rfl
  obtain ⟨fd19, F19⟩ := c.def_ 19 (d := d_law_rows_right) rfl
  obtain ⟨fd20, F20⟩ := c.def_ 20 (d := d_law) rfl
  exact ⟨⟨_, fd0, F0, He.glo_ok X Gn (c.fact 0 (f := .glo "divisor") rfl), F0.bindsN fun _ _ _ _ _ _ us hl => match us, hl with | [_, _], _ => rfl⟩, ⟨_, fd1, F1, He.glo_ok X Gn (c.fact 1 (f := .glo "lowest") rfl), F1.bindsN fun _ _ _ _ _ _ us hl => match us, hl with | [_, _], _ => rfl⟩, ⟨_, fd2, F2, He.glo_ok X Gn (c.fact 2 (f := .glo "audit_stop") rfl), F2.bindsN fun _ _ _ _ _ _ us hl => match us, hl with | [_, _, _], _ => rfl⟩, ⟨_, fd3, F3, He.glo_ok X Gn (c.fact 3 (f := .glo "audit_chance") rfl), F3.bindsN fun _ _ _ _ _ _ us hl => match us, hl with | [_, _, _], _ => rfl⟩, ⟨_, fd4, F4, He.glo_ok X Gn (c.fact 4 (f := .glo "is_reached") rfl), F4.bindsN fun _ _ _ _ _ _ us hl => match us, hl with | [_, _, _], _ => rfl⟩, ⟨_, fd5, F5, He.glo_ok X Gn (c.fact 5 (f := .glo "audit_row") rfl), F5.bindsN fun _ _ _ _ _ _ us hl => match us, hl with | [_, _, _, _], _ => rfl⟩, ⟨_, fd6, F6, He.glo_ok X Gn (c.fact 6 (f := .glo "audit_miss") rfl), F6.bindsN fun _ _ _ _ _ _ us hl => match us, hl with | [_, _, _, _], _ => rfl⟩, ⟨_, fd7, F7, He.glo_ok X Gn (c.fact 7 (f := .glo "_law_mixed") rfl), F7.bindsN fun _ _ _ _ _ _ us hl => match us, hl with | [_, _], _ => rfl⟩, ⟨_, fd8, F8, He.glo_ok X Gn (c.fact 8 (f := .glo "_law_row") rfl), F8.bindsN fun _ _ _ _ _ _ us hl => match us, hl with | [_, _], _ => rfl⟩, ⟨_, fd9, F9, He.glo_ok X Gn (c.fact 9 (f := .glo "_law_is_int") rfl), F9.bindsN fun _ _ _ _ _ _ us hl => match us, hl with | [_], _ => rfl⟩, ⟨_, fd10, F10, He.glo_ok X Gn (c.fact 10 (f := .glo "_law_like") rfl), F10.bindsN fun _ _ _ _ _ _ us hl => match us, hl with | [_, _], _ => rfl⟩, ⟨_, fd11, F11, He.glo_ok X Gn (c.fact 11 (f := .glo "_law_common") rfl), F11.bindsN fun _ _ _ _ _ _ us hl => match us, hl with | [_, _], _ => rfl⟩, ⟨_, fd12, F12, He.glo_ok X Gn (c.fact 12 (f := .glo "_law_ratio") rfl), F12.bindsN fun _ _ _ _ _ _ us hl => match us, hl with | [_, _], _ => rfl⟩, ⟨_, fd13, F13, He.glo_ok X Gn (c.fact 13 (f := .glo "_law_choose") rfl), F13.bindsN fun _ _ _ _ _ _ us hl => match us, hl with | [_, _], _ => rfl⟩, ⟨_, fd14, F14, He.glo_ok X Gn (c.fact 14 (f := .glo "_law_chance") rfl), F14.bindsN fun _ _ _ _ _ _ us hl => match us, hl with | [_, _, _], _ => rfl⟩, ⟨_, fd15, F15, He.glo_ok X Gn (c.fact 15 (f := .glo "_law_chances_right") rfl), F15.bindsN fun _ _ _ _ _ _ us hl => match us, hl with | [_, _, _, _], _ => rfl⟩, ⟨_, fd16, F16, He.glo_ok X Gn (c.fact 16 (f := .glo "_law_stop") rfl), F16.bindsN fun _ _ _ _ _ _ us hl => match us, hl with | [_, _], _ => rfl⟩, ⟨_, fd17, F17, He.glo_ok X Gn (c.fact 17 (f := .glo "_law_reached") rfl), F17.bindsN fun _ _ _ _ _ _ us hl => match us, hl with | [_, _, _, _], _ => rfl⟩, ⟨_, fd18, F18, He.glo_ok X Gn (c.fact 18 (f := .glo "_law_missed") rfl), F18.bindsN fun _ _ _ _ _ _ us hl => match us, hl with | [_, _, _, _], _ => rfl⟩, ⟨_, fd19, F19, He.glo_ok X Gn (c.fact 19 (f := .glo "_law_rows_right") rfl), F19.bindsN fun _ _ _ _ _ _ us hl => match us, hl with | [_, _, _, _, _], _ => rfl⟩, ⟨_, fd20, F20, He.glo_ok X Gn (c.fact 20 (f := .glo "law") rfl), F20.bindsN fun _ _ _ _ _ _ us hl => match us, hl with | [_], _ => rfl⟩, He.free_ok X Gn (c.fact 21 (f := .free "isinstance") rfl), He.free_ok X Gn (c.fact 22 (f := .free "int") rfl), He.free_ok X Gn (c.fact 23 (f := .free "bool") rfl), He.free_ok X Gn (c.fact 24 (f := .free "tuple") rfl), He.free_ok X Gn (c.fact 25 (f := .free "str") rfl), He.free_ok X Gn (c.fact 26 (f := .free "all") rfl), He.free_ok X Gn (c.fact 27 (f := .free "len") rfl), He.free_ok X Gn (c.fact 28 (f := .free "range") rfl), He.free_ok X Gn (c.fact 29 (f := .free "abs") rfl), He.free_ok X Gn (c.fact 30 (f := .free "enumerate") rfl), He.free_ok X Gn (c.fact 31 (f := .free "zip") rfl), He.free_ok X Gn (c.fact 32 (f := .free "max") rfl)⟩
theorem lawFn {P : Program} {w : World} {K : PySem.W.Frag} {h : Heap} {mg : Str → Option Value} {f : Addr} (hl : ∀ ns : List Int, ns.length ≤ 63 → law_m ns = some true) (X : K.In h) (Gn : h.Ns mainGlobals mg) (hfa : mg ("law" : Str) = some (.ref f)) (c : He.SaysD faL fnL K) :
    ∃ fd : FuncData, (∀ (s : Shared) (v : Value), BindsTo s fd ⟨[v], []⟩ [("script", v)]) ∧ ∀ base : Heap, K.In base → base.Ns mainGlobals mg → FnOk P w K mg base CX0 (LV_law + 1) f fd ["script"] (spLaw K) := by
  obtain ⟨fd, F⟩ := c.def_ 20 (d := d_law) rfl
  have e := hfa.symm.trans (He.glo_ok X Gn (c.fact 20 (f := .glo "law") rfl))
  cases e
  have b := FunD.bindsA (ps := ["script"]) F fun _ _ _ _ _ _ us hl => match us, hl with | [_], _ => rfl
  exact ⟨fd, fun s v => b s [v] rfl, fun base _ _ => fn_law (G := ⟨P, w, K, mg, base⟩) F FS_law rfl fun ns h => blk_law (facts X Gn c) (hl ns h)⟩
end K39
open PySem PySem.W PySem.Calls PyProof.Rows
theorem PySem.Challenge.cw_sealskept_k39_whole_draws_of_ballots_holds : PySem.Challenge.rw_sealskept_k39_whole_draws_of_ballots.Holds := by
  w_on; o_law
  refine HandSHeadRun.head_any (r := OpenLaw.row PySem.Challenge.rw_sealskept_k39_whole_draws_of_ballots) (q := view (OpenLaw.row PySem.Challenge.rw_sealskept_k39_whole_draws_of_ballots).prog [23]) (H := K39.hk) (ob := K39.ob) (M := 3000) (loose := K39.loose0) (d := HandSHeadRun.topDef (OpenLaw.row PySem.Challenge.rw_sealskept_k39_whole_draws_of_ballots).prog 23) (kwd := []) K39.ob_eq
    (by kernel_rfl) (fun s => by kernel_rfl) K39.runs (by kernel_rfl) (by kernel_rfl) (by kernel_rfl) (by rfl) (by first | assumption | decide +kernel) (by decide +kernel) ⟨rfl, rfl, rfl, rfl, rfl, by decide +kernel⟩ ?hw ?hc
  case hw => w_witness2
  case hc =>
    refine L2.walk_ofE (l := PySem.Challenge.rw_sealskept_k39_whole_draws_of_ballots) (n := 63) (k := K39.LV_law + 1) (x := "script") (CX := L2.CX0) rfl (by decide) (by kernel_rfl) ⟨rfl, by decide, by decide⟩ ?F (fun _ _ _ _ z => z)
    intro w mg fa h Y G hmg0
    obtain ⟨K, KX, c⟩ := Y
    have hmg : mg ("law" : PySem.Str) = some (.ref fa) := by
      have e : (HandSHeadRun.topDef (OpenLaw.row PySem.Challenge.rw_sealskept_k39_whole_draws_of_ballots).prog 23).name = ("law" : PySem.Str) := by kernel_rfl
      rw [← e]
      exact hmg0
    obtain ⟨fd, hb, hF⟩ := K39.lawFn (P := PySem.Challenge.rw_sealskept_k39_whole_draws_of_ballots.prog) (w := w) K39.law_true KX G hmg c
    exact ⟨K, fd, Pl.spLaw K, KX, hb, fun H a ns hl _ hS => ⟨a, ns, hl, rfl, hS, fun _ => rfl⟩, hF⟩
