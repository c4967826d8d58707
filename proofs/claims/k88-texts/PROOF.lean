import PyProof.Rows.All
import HandS.ForMost
import HandS.Conv
import HandS.Star
import HandS.IsInst
import HandS.TupAny
import HandS.StrMore
import HandS.FStr
import HandS.Style
import HandS.Wide
import HandS.More
import HandS.ExcInit
import HandS.ExcSuper
import KE.KSuper
import KE.KExcSuper
import HandS.ExcOwn
import HandS.ExcField
import HandS.WordsExc
import KE.KExcIs
import HandS.ExcIs
import PyProof.ReprRoads
import HandS.RaiseMore
import HandS.Ends
import PySem.Challenge.RW_asneverbegun_k88_texts_of_plain_things_a
import KE.IntTextText
import HandS.Defaults
import Wide.All
import OpenK.AllK
import Wide.FinOn
import KE.RegKSuper
import KE.RegKIsAll
import KE.RegKTryMore
set_option Elab.async false
set_option linter.all false
set_option maxRecDepth 100000
/-! Data-level judgements over HandS: a program part is told by what it does with plain data (trees), with no heap in sight. -/
namespace Dn
open PySem L2

/-! ### data, and how a value stands for it -/
inductive D where
  | non | bl (b : Bool) | int (i : Int) | str (x : Str) | lst (ds : List D) | tup (ds : List D) | raw (v : V)

mutual
/-- v stands for the data d, by the part G of the heap that never changes -/
inductive Rp (K : PySem.W.Frag) (G : Hp) : V → D → Prop
  | non : Rp K G .non .non
  | bl (b : Bool) : Rp K G (.bl b) (.bl b)
  | int (i : Int) : Rp K G (.int i) (.int i)
  | str (x : Str) : Rp K G (.str x) (.str x)
  | lst {a : Addr} {xs : List V} {ds : List D} : G a = some (.lst xs) → RpA K G xs ds → Rp K G (.ref a) (.lst ds)
  | tup {a : Addr} {xs : List V} {ds : List D} : SqT K G a xs → RpA K G xs ds → Rp K G (.ref a) (.tup ds)
  | raw (v : V) : Rp K G v (.raw v)
inductive RpA (K : PySem.W.Frag) (G : Hp) : List V → List D → Prop
  | nil : RpA K G [] []
  | cons {v : V} {vs : List V} {d : D} {ds : List D} : Rp K G v d → RpA K G vs ds → RpA K G (v :: vs) (d :: ds)
end

theorem same_t {K : PySem.W.Frag} {G G' : Hp} {a : Addr} {xs : List V} (e : Same G G') (h : SqT K G a xs) : SqT K G' a xs := by
  rcases h with (h | ⟨o, h⟩) | h
  · exact .inl (.inl (e _ _ h))
  · exact .inl (.inr ⟨o, e _ _ h⟩)
  · exact .inr h

mutual
theorem Rp.mono {K : PySem.W.Frag} {G G' : Hp} (e : Same G G') : ∀ (d : D) (v : V), Rp K G v d → Rp K G' v d
  | .non, _, h => by cases h; exact .non
  | .bl b, _, h => by cases h; exact .bl b
  | .int i, _, h => by cases h; exact .int i
  | .str x, _, h => by cases h; exact .str x
  | .raw v, _, h => by cases h; exact .raw v
  | .lst ds, _, h => by
    cases h with
    | lst s r => exact .lst (e _ _ s) (RpA.mono e ds _ r)
  | .tup ds, _, h => by
    cases h with
    | tup s r => exact .tup (same_t e s) (RpA.mono e ds _ r)
theorem RpA.mono {K : PySem.W.Frag} {G G' : Hp} (e : Same G G') : ∀ (ds : List D) (vs : List V), RpA K G vs ds → RpA K G' vs ds
  | [], _, h => by cases h; exact .nil
  | d :: ds, _, h => by
    cases h with
    | cons r s => exact .cons (Rp.mono e d _ r) (RpA.mono e ds _ s)
end
section
variable {K : PySem.W.Frag} {G G' : Hp} {v : V} {d : D} {vs ws : List V} {ds es : List D}
theorem Rp.mn (h : Rp K G v d) (e : Same G G') : Rp K G' v d := Rp.mono e d v h
theorem RpA.mn (h : RpA K G vs ds) (e : Same G G') : RpA K G' vs ds := RpA.mono e ds vs h
theorem RpA.length : ∀ {vs : List V} {ds : List D}, RpA K G vs ds → vs.length = ds.length
  | _, _, .nil => rfl
  | _, _, .cons _ t => congrArg (· + 1) (RpA.length t)
theorem RpA.get : ∀ {vs : List V} {ds : List D} {i : Nat} {d : D}, RpA K G vs ds → ds[i]? = some d → ∃ v, vs[i]? = some v ∧ Rp K G v d
  | _, _, _, _, .nil, e => by simp at e
  | _, _, 0, _, .cons r _, e => by simp at e; subst e; exact ⟨_, rfl, r⟩
  | _, _, i + 1, x, .cons _ t, e => by
    obtain ⟨u, h1, h2⟩ := RpA.get (i := i) (d := x) t (by simpa using e)
    exact ⟨u, by simpa using h1, h2⟩
theorem RpA.get' : ∀ {vs : List V} {ds : List D} {i : Nat} {v : V}, RpA K G vs ds → vs[i]? = some v → ∃ d, ds[i]? = some d ∧ Rp K G v d
  | _, _, _, _, .nil, e => by simp at e
  | _, _, 0, _, .cons r _, e => by simp at e; subst e; exact ⟨_, rfl, r⟩
  | _, _, i + 1, x, .cons _ t, e => by
    obtain ⟨u, h1, h2⟩ := RpA.get' (i := i) (v := x) t (by simpa using e)
    exact ⟨u, by simpa using h1, h2⟩
theorem RpA.append : ∀ {vs ws : List V} {ds es : List D}, RpA K G vs ds → RpA K G ws es → RpA K G (vs ++ ws) (ds ++ es)
  | _, _, _, _, .nil, s => s
  | _, _, _, _, .cons r t, s => .cons r (RpA.append t s)
theorem RpA.take : ∀ (n : Nat) {vs : List V} {ds : List D}, RpA K G vs ds → RpA K G (vs.take n) (ds.take n)
  | 0, _, _, _ => .nil
  | _ + 1, _, _, .nil => .nil
  | n + 1, _, _, .cons r t => .cons r (RpA.take n t)
theorem RpA.drop : ∀ (n : Nat) {vs : List V} {ds : List D}, RpA K G vs ds → RpA K G (vs.drop n) (ds.drop n)
  | 0, _, _, r => r
  | _ + 1, _, _, .nil => .nil
  | n + 1, _, _, .cons _ t => RpA.drop n t
theorem RpA.set : ∀ (n : Nat) {vs : List V} {ds : List D}, RpA K G vs ds → Rp K G v d → RpA K G (vs.set n v) (ds.set n d)
  | _, _, _, .nil, _ => .nil
  | 0, _, _, .cons _ t, s => .cons s t
  | n + 1, _, _, .cons r t, s => .cons r (RpA.set n t s)
theorem RpA.one (h : Rp K G v d) : RpA K G [v] [d] := .cons h .nil
theorem RpA.strs : ∀ (ys : List Str), RpA K G (ys.map V.str) (ys.map D.str)
  | [] => .nil
  | y :: ys => .cons (.str y) (RpA.strs ys)
theorem RpA.strs_eq : ∀ {vs : List V} (ys : List Str), RpA K G vs (ys.map D.str) → vs = ys.map V.str
  | _, [], h => by cases h; rfl
  | _, y :: ys, h => by
    cases h with
    | cons r t =>
      cases r
      rw [RpA.strs_eq ys t]
      rfl
theorem RpA.bls_eq : ∀ {vs : List V} (ys : List Bool), RpA K G vs (ys.map D.bl) → vs = ys.map V.bl
  | _, [], h => by cases h; rfl
  | _, y :: ys, h => by
    cases h with
    | cons r t =>
      cases r
      rw [RpA.bls_eq ys t]
      rfl
end

/-! ### data as the library's PyData -/
mutual
def D.py : D → PyData
  | .non => .none | .bl b => .bool b | .int i => .int i | .str x => .str x
  | .lst ds => .list (pyAll ds) | .tup ds => .tuple (pyAll ds) | .raw _ => .none
def pyAll : List D → List PyData
  | [] => []
  | d :: ds => d.py :: pyAll ds
end
mutual
/-- no raw address within -/
def D.pl : D → Bool
  | .raw _ => false
  | .lst ds => plAll ds | .tup ds => plAll ds
  | .non => true | .bl _ => true | .int _ => true | .str _ => true
def plAll : List D → Bool
  | [] => true
  | d :: ds => d.pl && plAll ds
end
mutual
theorem Rp.dp {K : PySem.W.Frag} {G H : Hp} (e : Same G H) : ∀ (d : D) (v : V), d.pl = true → Rp K G v d → Dp K H v d.py
  | .non, _, _, h => by cases h; unfold D.py; exact .non
  | .bl b, _, _, h => by cases h; unfold D.py; exact .bl b
  | .int i, _, _, h => by cases h; unfold D.py; exact .int i
  | .str x, _, _, h => by cases h; unfold D.py; exact .str x
  | .raw v, _, p, _ => by unfold D.pl at p; cases p
  | .lst ds, _, p, h => by
    unfold D.pl at p
    cases h with
    | lst s r => unfold D.py; exact .lst (SqL.of (e _ _ s)) (RpA.dp e ds _ p r)
  | .tup ds, _, p, h => by
    unfold D.pl at p
    cases h with
    | tup s r => unfold D.py; exact .tup (same_t e s) (RpA.dp e ds _ p r)
theorem RpA.dp {K : PySem.W.Frag} {G H : Hp} (e : Same G H) : ∀ (ds : List D) (vs : List V), plAll ds = true → RpA K G vs ds → DpAll K H vs (pyAll ds)
  | [], _, _, h => by cases h; unfold pyAll; exact .nil
  | d :: ds, _, p, h => by
    unfold plAll at p
    rw [Bool.and_eq_true] at p
    cases h with
    | cons r s => unfold pyAll; exact .cons (Rp.dp e d _ p.1 r) (RpA.dp e ds _ p.2 s)
end

/-! ### the mutable things outside of a def (the law's box), and the state of a def's run -/
structure Bx where
  B : Addr → Prop
  I : Hp → Prop
  loc : ∀ H H' : Hp, (∀ a, B a → H' a = H a) → I H → I H'
  al : ∀ (H : Hp) a, I H → B a → H a ≠ none
/-- nothing outside is mutable -/
def bx0 : Bx := ⟨fun _ => False, fun _ => True, fun _ _ _ _ => trivial, fun _ _ _ h => h.elim⟩

/-- all of H but what is mutable stands in H' -/
def SameB (b : Bx) (H H' : Hp) : Prop := ∀ a o, ¬ b.B a → H a = some o → H' a = some o
/-- from (G, H) to (G', H') -/
structure Gw (b : Bx) (G H G' H' : Hp) : Prop where
  keep : SameB b H H'
  box : b.I H'
  g : Same G G'
  sub : Same G' H'
  new : ∀ a o, G' a = some o → G a = some o ∨ H a = none
  fz : ∀ a, b.B a → G' a = none
theorem SameB.refl (b : Bx) (H : Hp) : SameB b H H := fun _ _ _ h => h
theorem SameB.trans {b : Bx} {H H1 H2 : Hp} (p : SameB b H H1) (q : SameB b H1 H2) : SameB b H H2 := fun a o n h => q a o n (p a o n h)
theorem Same.b {b : Bx} {H H' : Hp} (p : Same H H') : SameB b H H' := fun a o _ h => p a o h
theorem Bx.same {b : Bx} {H H' : Hp} (i : b.I H) (p : Same H H') : b.I H' := b.loc H H' (fun a ha => by
  cases q : H a with
  | none => exact absurd q (b.al H a i ha)
  | some o => exact p a o q) i
theorem Bx.some {b : Bx} {H : Hp} (i : b.I H) {a : Addr} (h : H a = none) : ¬ b.B a := fun z => b.al H a i z h

structure Bs where
  b : Bx
  H0 : Hp
  G0 : Hp
structure HK (e : Bs) (G H : Hp) : Prop where
  keep : SameB e.b e.H0 H
  sub : Same G H
  fz : ∀ a, e.b.B a → G a = none
  box : e.b.I H
  box0 : e.b.I e.H0
  new : ∀ a o, G a = some o → e.G0 a = some o ∨ e.H0 a = none
  g0 : Same e.G0 G
section
variable {e : Bs} {G H G' H' : Hp}
theorem SameB.none {b : Bx} {H H' : Hp} {a : Addr} (p : SameB b H H') (n : ¬ b.B a) (h : H' a = none) : H a = none := by
  cases q : H a with
  | none => rfl
  | some o =>
    rw [p a o n q] at h
    cases h
theorem HK.refl (k : HK e G H) : Gw e.b G H G H := ⟨.refl _ _, k.box, .refl _, k.sub, fun _ _ h => .inl h, k.fz⟩
theorem HK.grow (k : HK e G H) (w : Gw e.b G H G' H') : HK e G' H' := by
  refine ⟨k.keep.trans w.keep, w.sub, w.fz, w.box, k.box0, fun a o h => ?_, k.g0.trans w.g⟩
  rcases w.new a o h with h1 | h1
  · exact k.new a o h1
  · refine .inr (k.keep.none (fun z => ?_) h1)
    rw [w.fz a z] at h
    cases h
theorem Gw.trans {G2 H2 : Hp} {b : Bx} (w : Gw b G H G' H') (w2 : Gw b G' H' G2 H2) : Gw b G H G2 H2 :=
  ⟨w.keep.trans w2.keep, w2.box, w.g.trans w2.g, w2.sub, fun a o h => by
    rcases w2.new a o h with h1 | h1
    · exact w.new a o h1
    · exact .inr (w.keep.none (fun z => by rw [w2.fz a z] at h; cases h) h1), w2.fz⟩
/-- a new object, frozen at once -/
theorem HK.laid (k : HK e G H) {p : Addr} {o : HO} (h : H p = none) : Gw e.b G H (upd G p o) (upd H p o) := by
  have hg : G p = none := by
    cases q : G p with
    | none => rfl
    | some u => rw [k.sub p u q] at h; cases h
  have s1 : Same H (upd H p o) := fun a u q => by rw [upd_ne (ne_of_none q h)]; exact q
  refine ⟨Same.b s1, Bx.same k.box s1, fun a u q => by rw [upd_ne (ne_of_none q hg)]; exact q, fun a u q => ?_, fun a u q => ?_, fun a u => ?_⟩
  · by_cases z : a = p
    · rw [z, upd_same] at q ⊢; exact q
    · rw [upd_ne z] at q ⊢; exact k.sub a u q
  · by_cases z : a = p
    · exact .inr (by rw [z]; exact h)
    · rw [upd_ne z] at q; exact .inl q
  · rw [upd_ne (fun (z : a = p) => Bx.some k.box h (z ▸ u))]
    exact k.fz a u
/-- a new object, not frozen -/
theorem HK.own (k : HK e G H) {p : Addr} {o : HO} (h : H p = none) : Gw e.b G H G (upd H p o) := by
  have s1 : Same H (upd H p o) := fun a u q => by rw [upd_ne (ne_of_none q h)]; exact q
  exact ⟨Same.b s1, Bx.same k.box s1, .refl _, fun a u q => s1 a u (k.sub a u q), fun _ _ q => .inl q, k.fz⟩
end

/-! ### slots -/
/-- what is known of a slot: nothing | it holds this data | it holds a list of its own, which may still grow -/
inductive SV where
  | un | d (d : D) | own (ds : List D)
abbrev DE := List SV
def Slot (K : PySem.W.Frag) (e : Bs) (G H : Hp) (x : Option (Option V)) : SV → Prop
  | .un => True
  | .d d => ∃ v, x = some (some v) ∧ Rp K G v d
  | .own ds => ∃ p vs, x = some (some (.ref p)) ∧ H p = some (.lst vs) ∧ RpA K G vs ds ∧ G p = none ∧ e.H0 p = none ∧ ¬ e.b.B p ∧ ds.length ≤ sizeLine
structure SK (K : PySem.W.Frag) (e : Bs) (G H : Hp) (σ : St) (δ : DE) : Prop where
  hk : HK e G H
  len : δ.length = σ.length
  sl : ∀ (i : Nat) (s : SV), δ[i]? = some s → Slot K e G H σ[i]? s
  sep : ∀ (i j : Nat) (ds es : List D) (p : Addr), i ≠ j → δ[i]? = some (.own ds) → δ[j]? = some (.own es) → σ[i]? = some (some (.ref p)) → σ[j]? = some (some (.ref p)) → False
section
variable {K : PySem.W.Frag} {e : Bs} {G H G' H' : Hp} {σ : St} {δ : DE}
theorem SK.grow (S : SK K e G H σ δ) (w : Gw e.b G H G' H') : SK K e G' H' σ δ := by
  refine ⟨S.hk.grow w, S.len, fun i s h => ?_, S.sep⟩
  have q := S.sl i s h
  cases s with
  | un => trivial
  | d d =>
    obtain ⟨v, h1, h2⟩ := q
    exact ⟨v, h1, h2.mn w.g⟩
  | own ds =>
    obtain ⟨p, vs, h1, h2, h3, h4, h5, h6, h7⟩ := q
    refine ⟨p, vs, h1, w.keep p _ h6 h2, h3.mn w.g, ?_, h5, h6, h7⟩
    cases q : G' p with
    | none => rfl
    | some o =>
      rcases w.new p o q with z | z
      · rw [h4] at z; cases z
      · rw [h2] at z; cases z
theorem set_get {α : Type} (l : List α) (i j : Nat) (x : α) : (l.set i x)[j]? = if i = j then (if i < l.length then some x else none) else l[j]? := by
  rw [List.getElem?_set]
/-- a slot takes data -/
theorem SK.put (S : SK K e G H σ δ) {i : Nat} {v : V} {d : D} (r : Rp K G v d) : SK K e G H (σ.set i (some v)) (δ.set i (.d d)) := by
  refine ⟨S.hk, by rw [List.length_set, List.length_set]; exact S.len, fun j s h => ?_, fun j k ds es p n h1 h2 h3 h4 => ?_⟩
  · rw [set_get] at h ⊢
    by_cases z : i = j
    · rw [if_pos z] at h ⊢
      by_cases y : i < δ.length
      · rw [if_pos y] at h
        cases h
        rw [if_pos (by rw [← S.len]; exact y)]
        exact ⟨v, rfl, r⟩
      · rw [if_neg y] at h; cases h
    · rw [if_neg z] at h ⊢
      exact S.sl j s h
  · rw [set_get] at h1 h2 h3 h4
    by_cases z : i = j
    · rw [if_pos z] at h1
      split at h1 <;> cases h1
    · by_cases y : i = k
      · rw [if_pos y] at h2
        split at h2 <;> cases h2
      · rw [if_neg z] at h1 h3
        rw [if_neg y] at h2 h4
        exact S.sep j k ds es p n h1 h2 h3 h4
/-- p is no slot's own list -/
def Free (σ : St) (δ : DE) (p : Addr) : Prop := ∀ (i : Nat) (ds : List D), δ[i]? = some (.own ds) → σ[i]? ≠ some (some (.ref p))
theorem SK.free_new (S : SK K e G H σ δ) {p : Addr} (h : H p = none) : Free σ δ p := fun i ds h1 h2 => by
  obtain ⟨q, vs, e1, e2, _⟩ := S.sl i _ h1
  rw [h2] at e1
  cases e1
  rw [h] at e2
  cases e2
/-- a slot takes a list of its own -/
theorem SK.putOwn (S : SK K e G H σ δ) {i : Nat} {p : Addr} {vs : List V} {ds : List D} (f : Free σ δ p) (h1 : H p = some (.lst vs)) (h2 : RpA K G vs ds) (h3 : G p = none) (h4 : e.H0 p = none) (h5 : ¬ e.b.B p) (h6 : ds.length ≤ sizeLine) :
    SK K e G H (σ.set i (some (.ref p))) (δ.set i (.own ds)) := by
  refine ⟨S.hk, by rw [List.length_set, List.length_set]; exact S.len, fun j s h => ?_, fun j k ds es q n g1 g2 g3 g4 => ?_⟩
  · rw [set_get] at h ⊢
    by_cases z : i = j
    · rw [if_pos z] at h ⊢
      by_cases y : i < δ.length
      · rw [if_pos y] at h
        cases h
        rw [if_pos (by rw [← S.len]; exact y)]
        exact ⟨p, vs, rfl, h1, h2, h3, h4, h5, h6⟩
      · rw [if_neg y] at h; cases h
    · rw [if_neg z] at h ⊢
      exact S.sl j s h
  · rw [set_get] at g1 g2 g3 g4
    by_cases z : i = j
    · by_cases y : i = k
      · exact n (z.symm.trans y)
      · rw [if_pos z] at g3
        rw [if_neg y] at g2 g4
        split at g3
        · cases g3
          exact f k es g2 g4
        · cases g3
    · rw [if_neg z] at g1 g3
      by_cases y : i = k
      · rw [if_pos y] at g4
        split at g4
        · cases g4
          exact f j _ g1 g3
        · cases g4
      · rw [if_neg y] at g2 g4
        exact S.sep j k _ es q n g1 g2 g3 g4
/-- an own list becomes data for ever -/
theorem SK.freeze (S : SK K e G H σ δ) {i : Nat} {ds : List D} (h : δ[i]? = some (.own ds)) : ∃ G', Same G G' ∧ SK K e G' H σ (δ.set i (.d (.lst ds))) := by
  obtain ⟨p, vs, h1, h2, h3, h4, h5, h6, h7⟩ := S.sl i _ h
  have hi : i < δ.length := (List.getElem?_eq_some_iff.mp h).1
  have sg : Same G (upd G p (.lst vs)) := fun a u q => by rw [upd_ne (ne_of_none q h4)]; exact q
  have w : ∀ a o, upd G p (.lst vs) a = some o → a = p ∨ G a = some o := fun a o q => by
    by_cases z : a = p
    · exact .inl z
    · rw [upd_ne z] at q; exact .inr q
  have hk : HK e (upd G p (.lst vs)) H := by
    refine ⟨S.hk.keep, fun a o q => ?_, fun a q => ?_, S.hk.box, S.hk.box0, fun a o q => ?_, S.hk.g0.trans sg⟩
    · by_cases z : a = p
      · rw [z, upd_same] at q; rw [z, h2]; exact q
      · rw [upd_ne z] at q; exact S.hk.sub a o q
    · rw [upd_ne (fun (z : a = p) => h6 (z ▸ q))]; exact S.hk.fz a q
    · rcases w a o q with z | z
      · exact .inr (z ▸ h5)
      · exact S.hk.new a o z
  have rp : Rp K (upd G p (.lst vs)) (.ref p) (.lst ds) := .lst upd_same (h3.mn sg)
  refine ⟨upd G p (.lst vs), sg, hk, by rw [List.length_set]; exact S.len, fun j s hj => ?_, fun j k ds' es q n g1 g2 g3 g4 => ?_⟩
  · rw [set_get] at hj
    by_cases z : i = j
    · rw [if_pos z, if_pos hi] at hj
      cases hj
      rw [← z]
      exact ⟨_, h1, rp⟩
    · rw [if_neg z] at hj
      have q := S.sl j s hj
      cases s with
      | un => trivial
      | d d =>
        obtain ⟨v, q1, q2⟩ := q
        exact ⟨v, q1, q2.mn sg⟩
      | own es =>
        obtain ⟨p', vs', q1, q2, q3, q4, q5, q6, q7⟩ := q
        refine ⟨p', vs', q1, q2, q3.mn sg, ?_, q5, q6, q7⟩
        rw [upd_ne (fun (y : p' = p) => S.sep i j ds es p z h hj h1 (y ▸ q1))]
        exact q4
  · rw [set_get] at g1 g2
    by_cases z : i = j
    · rw [if_pos z, if_pos hi] at g1; cases g1
    · by_cases y : i = k
      · rw [if_pos y, if_pos hi] at g2; cases g2
      · rw [if_neg z] at g1
        rw [if_neg y] at g2
        exact S.sep j k ds' es q n g1 g2 g3 g4
/-- a fresh list that no slot holds becomes data -/
theorem SK.frzNew {G0 H0 : Hp} {p : Addr} {vs : List V} {ds : List D} (S : SK K e G H σ δ) (w : Gw e.b G0 H0 G H) (h1 : H p = some (.lst vs)) (h2 : RpA K G vs ds) (h3 : G p = none) (h4 : H0 p = none) (h5 : e.H0 p = none) (h6 : ¬ e.b.B p) (f : Free σ δ p) :
    Gw e.b G0 H0 (upd G p (.lst vs)) H ∧ SK K e (upd G p (.lst vs)) H σ δ ∧ Rp K (upd G p (.lst vs)) (.ref p) (.lst ds) := by
  have sg : Same G (upd G p (.lst vs)) := fun a u q => by rw [upd_ne (ne_of_none q h3)]; exact q
  have hw : ∀ a o, upd G p (.lst vs) a = some o → a = p ∨ G a = some o := fun a o q => by
    by_cases z : a = p
    · exact .inl z
    · rw [upd_ne z] at q; exact .inr q
  have sub : Same (upd G p (.lst vs)) H := fun a o q => by
    by_cases z : a = p
    · rw [z, upd_same] at q; rw [z, h1]; exact q
    · rw [upd_ne z] at q; exact S.hk.sub a o q
  have fz : ∀ a, e.b.B a → upd G p (.lst vs) a = none := fun a q => by
    rw [upd_ne (fun (z : a = p) => h6 (z ▸ q))]; exact S.hk.fz a q
  have hk : HK e (upd G p (.lst vs)) H := by
    refine ⟨S.hk.keep, sub, fz, S.hk.box, S.hk.box0, fun a o q => ?_, S.hk.g0.trans sg⟩
    rcases hw a o q with z | z
    · exact .inr (z ▸ h5)
    · exact S.hk.new a o z
  refine ⟨⟨w.keep, w.box, w.g.trans sg, sub, fun a o q => ?_, fz⟩, ⟨hk, S.len, fun j s hj => ?_, S.sep⟩, .lst upd_same (h2.mn sg)⟩
  · rcases hw a o q with z | z
    · exact .inr (z ▸ h4)
    · exact w.new a o z
  · have q := S.sl j s hj
    cases s with
    | un => trivial
    | d d =>
      obtain ⟨v, q1, q2⟩ := q
      exact ⟨v, q1, q2.mn sg⟩
    | own es =>
      obtain ⟨p', vs', q1, q2, q3, q4, q5, q6, q7⟩ := q
      refine ⟨p', vs', q1, q2, q3.mn sg, ?_, q5, q6, q7⟩
      rw [upd_ne (fun (y : p' = p) => f j es hj (y ▸ q1))]
      exact q4
/-- an own list is changed -/
theorem SK.upOwn (S : SK K e G H σ δ) {i : Nat} {p : Addr} {ds : List D} {ws : List V} {es : List D} (h : δ[i]? = some (.own ds)) (h1 : σ[i]? = some (some (.ref p))) (hr : RpA K G ws es) (hz : es.length ≤ sizeLine) :
    SK K e G (upd H p (.lst ws)) σ (δ.set i (.own es)) := by
  obtain ⟨p', vs, e1, h2, h3, h4, h5, h6, h7⟩ := S.sl i _ h
  rw [h1] at e1
  cases e1
  have hi : i < δ.length := (List.getElem?_eq_some_iff.mp h).1
  have sub : Same G (upd H p (.lst ws)) := fun a o q => by rw [upd_ne (ne_of_none q h4)]; exact S.hk.sub a o q
  have box : e.b.I (upd H p (.lst ws)) := e.b.loc H _ (fun a ha => upd_ne fun z => h6 (z ▸ ha)) S.hk.box
  have hk : HK e G (upd H p (.lst ws)) := ⟨fun a o n q => by rw [upd_ne (ne_of_none q h5)]; exact S.hk.keep a o n q, sub, S.hk.fz, box, S.hk.box0, S.hk.new, S.hk.g0⟩
  refine ⟨hk, by rw [List.length_set]; exact S.len, fun j s hj => ?_, fun j k ds' es' q n g1 g2 g3 g4 => ?_⟩
  · rw [set_get] at hj
    by_cases z : i = j
    · rw [if_pos z, if_pos hi] at hj
      cases hj
      rw [← z]
      exact ⟨p, ws, h1, upd_same, hr, h4, h5, h6, hz⟩
    · rw [if_neg z] at hj
      have q := S.sl j s hj
      cases s with
      | un => trivial
      | d d => exact q
      | own es' =>
        obtain ⟨p', vs', q1, q2, q3, q4, q5, q6, q7⟩ := q
        refine ⟨p', vs', q1, ?_, q3, q4, q5, q6, q7⟩
        rw [upd_ne (fun (y : p' = p) => S.sep i j ds es' p z h hj h1 (y ▸ q1))]
        exact q2
  · have un : ∀ (m : Nat) (fs : List D), (δ.set i (SV.own es))[m]? = some (SV.own fs) → ∃ gs, δ[m]? = some (SV.own gs) := fun m fs g => by
      rw [set_get] at g
      by_cases z : i = m
      · exact ⟨ds, by rw [← z]; exact h⟩
      · rw [if_neg z] at g; exact ⟨fs, g⟩
    obtain ⟨a1, b1⟩ := un j _ g1
    obtain ⟨a2, b2⟩ := un k _ g2
    exact S.sep j k a1 a2 q n b1 b2 g3 g4
end
end Dn
/-! The data-level judgements: expressions, tests, arguments, statements. -/
namespace Dn
open PySem L2

abbrev TD := DE → (D → Prop) → Prop
abbrev TDT := DE → (Bool → Prop) → Prop
abbrev TDA := DE → (List D → Prop) → Prop
abbrev TDO := DE → (Option Int → Prop) → Prop
/-- what is wanted behind a statement -/
structure DEnds where
  nx : DE → Prop
  rt : D → Prop
  bk : DE → Prop := fun _ => False
  ct : DE → Prop := fun _ => False
abbrev TDS := DEnds → DE → Prop

/-! ### the lifts -/
section
variable (K : PySem.W.Frag) (e : Bs)
def lE (t : TD) : TE := fun σ H Q => ∃ G δ, SK K e G H σ δ ∧ t δ fun d => ∀ v G' H', SK K e G' H' σ δ → Gw e.b G H G' H' → Rp K G' v d → Q v H'
/-- a fresh list of one's own -/
def lF (t : TDA) : TE := fun σ H Q => ∃ G δ, SK K e G H σ δ ∧ t δ fun ds => ∀ p vs G' H', SK K e G' H' σ δ → Gw e.b G H G' H' → H' p = some (.lst vs) → RpA K G' vs ds → G' p = none → H p = none → Free σ δ p → ds.length ≤ sizeLine → Q (.ref p) H'
def lT (t : TDT) : TT := fun σ H Q => ∃ G δ, SK K e G H σ δ ∧ t δ fun k => ∀ G' H', SK K e G' H' σ δ → Gw e.b G H G' H' → Q k H'
def lA (t : TDA) : TA := fun σ H Q => ∃ G δ, SK K e G H σ δ ∧ t δ fun ds => ∀ vs G' H', SK K e G' H' σ δ → Gw e.b G H G' H' → RpA K G' vs ds → Q vs H'
def lO (t : TDO) : TO := fun σ H Q => ∃ G δ, SK K e G H σ δ ∧ t δ fun o => ∀ G' H', SK K e G' H' σ δ → Gw e.b G H G' H' → Q o H'
def lS (t : TDS) : TS := fun Z σ H => ∃ G δ DD, SK K e G H σ δ ∧ t DD δ ∧ (∀ δ' σ' G' H', DD.nx δ' → SK K e G' H' σ' δ' → Same G G' → Z.nx σ' H') ∧ (∀ d v G' H', DD.rt d → HK e G' H' → Rp K G' v d → Z.rt v H')
  ∧ (∀ δ' σ' G' H', DD.bk δ' → SK K e G' H' σ' δ' → Same G G' → Z.bk σ' H') ∧ (∀ δ' σ' G' H', DD.ct δ' → SK K e G' H' σ' δ' → Same G G' → Z.ct σ' H')
end

structure DE_ (X : Cx) (e : Bs) (x : Expr) (t : TD) : Prop where
  run : PE X x (lE X.K e t)
  mono : ∀ (δ : DE) (Q Q' : D → Prop), (∀ d, Q d → Q' d) → t δ Q → t δ Q'
structure DF_ (X : Cx) (e : Bs) (x : Expr) (t : TDA) : Prop where
  run : PE X x (lF X.K e t)
  mono : ∀ (δ : DE) (Q Q' : List D → Prop), (∀ d, Q d → Q' d) → t δ Q → t δ Q'
structure DT_ (X : Cx) (e : Bs) (x : Expr) (t : TDT) : Prop where
  run : PT X x (lT X.K e t)
  mono : ∀ (δ : DE) (Q Q' : Bool → Prop), (∀ d, Q d → Q' d) → t δ Q → t δ Q'
/-- and, or as tests -/
structure DW_ (X : Cx) (e : Bs) (x : Expr) (t : TDT) : Prop where
  run : PW X x (lT X.K e t)
  mono : ∀ (δ : DE) (Q Q' : Bool → Prop), (∀ d, Q d → Q' d) → t δ Q → t δ Q'
structure DA_ (X : Cx) (e : Bs) (xs : List Expr) (t : TDA) : Prop where
  run : PA X xs (lA X.K e t)
  mono : ∀ (δ : DE) (Q Q' : List D → Prop), (∀ d, Q d → Q' d) → t δ Q → t δ Q'
structure DO_ (X : Cx) (e : Bs) (x : Option Expr) (t : TDO) : Prop where
  run : PO X x (lO X.K e t)
  mono : ∀ (δ : DE) (Q Q' : Option Int → Prop), (∀ d, Q d → Q' d) → t δ Q → t δ Q'
/-- weaker ends -/
structure DEnds.Le (A B : DEnds) : Prop where
  nx : ∀ δ, A.nx δ → B.nx δ
  rt : ∀ d, A.rt d → B.rt d
  bk : ∀ δ, A.bk δ → B.bk δ
  ct : ∀ δ, A.ct δ → B.ct δ
structure DS_ (X : Cx) (e : Bs) (st : Stmt) (t : TDS) : Prop where
  run : PS X st (lS X.K e t)
  mono : ∀ (A B : DEnds) (δ : DE), A.Le B → t A δ → t B δ
structure DB_ (X : Cx) (e : Bs) (st : List Stmt) (t : TDS) : Prop where
  run : PSs X st (lS X.K e t)
  mono : ∀ (A B : DEnds) (δ : DE), A.Le B → t A δ → t B δ

theorem wkE {X : Cx} {x : Expr} {t t' : TE} (h : PE X x t) (k : ∀ σ H Q, t' σ H Q → t σ H Q) : PE X x t' := ⟨fun pins s σ H Q I q => h.run pins s σ H Q I (k _ _ _ q)⟩
theorem wkT {X : Cx} {x : Expr} {t t' : TT} (h : PT X x t) (k : ∀ σ H Q, t' σ H Q → t σ H Q) : PT X x t' := ⟨fun pins s σ H Q I q => h.run pins s σ H Q I (k _ _ _ q)⟩
theorem wkW {X : Cx} {x : Expr} {t t' : TT} (h : PW X x t) (k : ∀ σ H Q, t' σ H Q → t σ H Q) : PW X x t' := ⟨fun wh pins s σ H Q I q => h.run wh pins s σ H Q I (k _ _ _ q)⟩
theorem wkA {X : Cx} {x : List Expr} {t t' : TA} (h : PA X x t) (k : ∀ σ H Q, t' σ H Q → t σ H Q) : PA X x t' := ⟨fun pos pins s σ H Q I q => h.run pos pins s σ H Q I (k _ _ _ q)⟩
theorem wkO {X : Cx} {x : Option Expr} {t t' : TO} (h : PO X x t) (k : ∀ σ H Q, t' σ H Q → t σ H Q) : PO X x t' := ⟨fun pins s σ H Q I q => h.run pins s σ H Q I (k _ _ _ q)⟩
theorem wkS {X : Cx} {x : Stmt} {t t' : TS} (h : PS X x t) (k : ∀ Z σ H, t' Z σ H → t Z σ H) : PS X x t' := ⟨fun pins s σ H Z I q => h.run pins s σ H Z I (k _ _ _ q)⟩
theorem wkB {X : Cx} {x : List Stmt} {t t' : TS} (h : PSs X x t) (k : ∀ Z σ H, t' Z σ H → t Z σ H) : PSs X x t' := ⟨fun pins s σ H Z I q => h.run pins s σ H Z I (k _ _ _ q)⟩
theorem DEnds.Le.refl (A : DEnds) : A.Le A := ⟨fun _ h => h, fun _ h => h, fun _ h => h, fun _ h => h⟩

section
variable {X : Cx} {e : Bs} {a b c : Expr} {ta tb tc : TD} {pos : Pos}

/-! ### names, constants -/
def dVar (i : Nat) : TD := fun δ Q => ∃ d, δ[i]? = some (.d d) ∧ Q d
theorem de_var (i : Nat) {x : Str} (hN : X.N[i]? = some x := by rfl) (hv : Vis X.env.scope x := by first | exact Or.inl rfl | exact Or.inr (Or.inl rfl) | exact Or.inr (Or.inr rfl)) (hd : (x == ("__debug__" : Str)) = false := by decide)
    (hcd : (x == ("__classdict__" : Str)) = false := by decide) : DE_ X e (.Name x pos) (dVar i) := by
  refine ⟨wkE (pe_var hN hv hd hcd) fun σ H Q h => ?_, fun δ Q Q' k h => ?_⟩
  · obtain ⟨G, δ, S, d, h1, q⟩ := h
    obtain ⟨v, h2, r⟩ := S.sl i _ h1
    exact ⟨v, h2, q v G H S S.hk.refl r⟩
  · obtain ⟨d, h1, q⟩ := h
    exact ⟨d, h1, k d q⟩
def dC (d : D) : TD := fun _ Q => Q d
theorem de_c {v : V} {d : D} {x : Expr} (h : PE X x (tC v)) (r : ∀ G, Rp X.K G v d) : DE_ X e x (dC d) := by
  refine ⟨wkE h fun σ H Q h => ?_, fun δ Q Q' k h => k d h⟩
  obtain ⟨G, δ, S, q⟩ := h
  exact q v G H S S.hk.refl (r G)
theorem de_int {i : Int} {j} : DE_ X e (.Constant (.int i) j pos) (dC (.int i)) := de_c pe_int fun _ => .int i
theorem de_bl {i : Bool} {j} : DE_ X e (.Constant (.bool i) j pos) (dC (.bl i)) := de_c pe_bl fun _ => .bl i
theorem de_non {j} : DE_ X e (.Constant .none j pos) (dC .non) := de_c pe_non fun _ => .non
theorem de_str {i : Str} {j} : DE_ X e (.Constant (.str i) j pos) (dC (.str i)) := de_c pe_str fun _ => .str i
theorem de_glob {x : Str} {u : Value} {v : V} {d : D} (hg : Gl X x) (hm : X.mg x = some u) (r : RelV v u) (rp : ∀ G, Rp X.K G v d) (hd : (x == ("__debug__" : Str)) = false := by decide) : DE_ X e (.Name x pos) (dC d) :=
  de_c (pe_glob hg hm r hd) rp

/-! ### operators by values -/
abbrev RD2 := D → D → (D → Prop) → Prop
/-- r of values is rd of data -/
structure Lift2 (X : Cx) (e : Bs) (r : R2) (rd : RD2) : Prop where
  run : ∀ (x y : V) (d f : D) (G H : Hp) (σ : St) (δ : DE) (Q : VK), SK X.K e G H σ δ → Rp X.K G x d → Rp X.K G y f → rd d f (fun z => ∀ v G' H', SK X.K e G' H' σ δ → Gw e.b G H G' H' → Rp X.K G' v z → Q v H') → r x y H Q
  mono : ∀ (d f : D) (Q Q' : D → Prop), (∀ d, Q d → Q' d) → rd d f Q → rd d f Q'
def dOp (rd : RD2) (ta tb : TD) : TD := fun δ Q => ta δ fun x => tb δ fun y => rd x y Q
theorem dOp_mono {rd : RD2} (m1 : ∀ (δ : DE) (Q Q' : D → Prop), (∀ d, Q d → Q' d) → ta δ Q → ta δ Q') (m2 : ∀ (δ : DE) (Q Q' : D → Prop), (∀ d, Q d → Q' d) → tb δ Q → tb δ Q')
    (m : ∀ (d f : D) (Q Q' : D → Prop), (∀ d, Q d → Q' d) → rd d f Q → rd d f Q') (δ : DE) (Q Q' : D → Prop) (k : ∀ d, Q d → Q' d) (h : dOp rd ta tb δ Q) : dOp rd ta tb δ Q' :=
  m1 _ _ _ (fun x h => m2 _ _ _ (fun y h => m _ _ _ _ k h) h) h
theorem lift_op {r : R2} {rd : RD2} (L : Lift2 X e r rd) (ha : DE_ X e a ta) (hb : DE_ X e b tb) {σ : St} {H : Hp} {Q : VK} (h : lE X.K e (dOp rd ta tb) σ H Q) : tOp r (lE X.K e ta) (lE X.K e tb) σ H Q := by
  obtain ⟨G, δ, S, h⟩ := h
  refine ⟨G, δ, S, ha.mono _ _ _ (fun d h v1 G1 H1 S1 s1 r1 => ?_) h⟩
  refine ⟨G1, δ, S1, hb.mono _ _ _ (fun f h v2 G2 H2 S2 s2 r2 => ?_) h⟩
  exact L.run v1 v2 d f G2 H2 σ δ Q S2 (r1.mn s2.g) r2 (L.mono _ _ _ _ (fun z h v G' H' S' s' r' => h v G' H' S' ((s1.trans s2).trans s') r') h)
theorem de_op {op : Operator} {r : R2} {rd : RD2} (L : Lift2 X e r rd) (ho : OpR X (binaryOp op) r) (ha : DE_ X e a ta) (hb : DE_ X e b tb) : DE_ X e (.BinOp a op b pos) (dOp rd ta tb) :=
  ⟨wkE (pe_op ho ha.run hb.run) fun _ _ _ h => lift_op L ha hb h, dOp_mono ha.mono hb.mono L.mono⟩
theorem de_cmp {op : CmpOp} {r : R2} {rd : RD2} (L : Lift2 X e r rd) (ho : OpR X (compareOp op) r) (ha : DE_ X e a ta) (hb : DE_ X e b tb) (hm : behindInMarks op b = false := by first | exact nomark _ | rfl) : DE_ X e (.Compare a [op] [b] pos) (dOp rd ta tb) :=
  ⟨wkE (pe_cmpR ho ha.run hb.run hm) fun _ _ _ h => lift_op L ha hb h, dOp_mono ha.mono hb.mono L.mono⟩
def dTest (t : TD) : TDT := fun δ Q => t δ fun x => ∃ k, x = .bl k ∧ Q k
theorem dTest_mono (m : ∀ (δ : DE) (Q Q' : D → Prop), (∀ d, Q d → Q' d) → ta δ Q → ta δ Q') (δ : DE) (Q Q' : Bool → Prop) (k : ∀ d, Q d → Q' d) (h : dTest ta δ Q) : dTest ta δ Q' :=
  m _ _ _ (fun x ⟨b, h1, h2⟩ => ⟨b, h1, k b h2⟩) h
theorem lE_test {t : TD} (m : ∀ (δ : DE) (Q Q' : D → Prop), (∀ d, Q d → Q' d) → t δ Q → t δ Q') {σ : St} {H : Hp} {Q : Bool → Hp → Prop} (h : lT X.K e (dTest t) σ H Q) : lE X.K e t σ H fun x H' => ∃ k, x = .bl k ∧ Q k H' := by
  obtain ⟨G, δ, S, h⟩ := h
  refine ⟨G, δ, S, m _ _ _ (fun d ⟨k, h1, h2⟩ v G' H' S' s' r' => ?_) h⟩
  subst h1
  cases r'
  exact ⟨k, rfl, h2 G' H' S' s'⟩
/-- a comparison as a test -/
theorem dt_cmp {op : CmpOp} {r : R2} {rd : RD2} (L : Lift2 X e r rd) (ho : OpR X (compareOp op) r) (ha : DE_ X e a ta) (hb : DE_ X e b tb) (hm : behindInMarks op b = false := by first | exact nomark _ | rfl) : DT_ X e (.Compare a [op] [b] pos) (dTest (dOp rd ta tb)) := by
  refine ⟨wkT (pt_cmpR ho ha.run hb.run hm) fun σ H Q h => ?_, dTest_mono (dOp_mono ha.mono hb.mono L.mono)⟩
  exact lift_op L ha hb (lE_test (dOp_mono ha.mono hb.mono L.mono) h)
/-- an expression that tells a bool, as a test -/
theorem dt_val (ha : DE_ X e a ta) (he : ∀ whole, isTrue a X.env whole = (do let v ← whole; standAt a.pos; holding [v] (truthy v)) := by intro _; rfl) : DT_ X e a (dTest ta) := by
  refine ⟨wkT (pt_val ha.run he) fun σ H Q h => ?_, dTest_mono ha.mono⟩
  exact lE_test ha.mono h
/-- a op b op' c -/
def dChain (rd rd' : RD2) (ta tb tc : TD) : TD := fun δ Q => ta δ fun x => tb δ fun y => rd x y fun z => ∃ k, z = .bl k ∧ (if k = true then tc δ fun w => rd' y w Q else Q (.bl false))
theorem dChain_mono {rd rd' : RD2} (m1 : ∀ (δ : DE) (Q Q' : D → Prop), (∀ d, Q d → Q' d) → ta δ Q → ta δ Q') (m2 : ∀ (δ : DE) (Q Q' : D → Prop), (∀ d, Q d → Q' d) → tb δ Q → tb δ Q') (m3 : ∀ (δ : DE) (Q Q' : D → Prop), (∀ d, Q d → Q' d) → tc δ Q → tc δ Q')
    (m : ∀ (d f : D) (Q Q' : D → Prop), (∀ d, Q d → Q' d) → rd d f Q → rd d f Q') (m' : ∀ (d f : D) (Q Q' : D → Prop), (∀ d, Q d → Q' d) → rd' d f Q → rd' d f Q') (δ : DE) (Q Q' : D → Prop) (k : ∀ d, Q d → Q' d) (h : dChain rd rd' ta tb tc δ Q) : dChain rd rd' ta tb tc δ Q' :=
  m1 _ _ _ (fun x h => m2 _ _ _ (fun y h => m _ _ _ _ (fun z ⟨c, h1, h2⟩ => ⟨c, h1, by
    cases c with
    | true => exact m3 _ _ _ (fun w h => m' _ _ _ _ k h) h2
    | false => exact k _ h2⟩) h) h) h
theorem lift_chain {r r' : R2} {rd rd' : RD2} (L : Lift2 X e r rd) (L' : Lift2 X e r' rd') (ha : DE_ X e a ta) (hb : DE_ X e b tb) (hc : DE_ X e c tc) {σ : St} {H : Hp} {Q : VK} (h : lE X.K e (dChain rd rd' ta tb tc) σ H Q) :
    tChain r r' (lE X.K e ta) (lE X.K e tb) (lE X.K e tc) σ H Q := by
  obtain ⟨G, δ, S, h⟩ := h
  refine ⟨G, δ, S, ha.mono _ _ _ (fun d h v1 G1 H1 S1 s1 r1 => ?_) h⟩
  refine ⟨G1, δ, S1, hb.mono _ _ _ (fun f h v2 G2 H2 S2 s2 r2 => ?_) h⟩
  refine L.run v1 v2 d f G2 H2 σ δ _ S2 (r1.mn s2.g) r2 (L.mono _ _ _ _ (fun z ⟨k, h1, h2⟩ v G3 H3 S3 s3 r3 => ?_) h)
  subst h1
  cases r3
  refine ⟨k, rfl, ?_⟩
  cases k with
  | false => exact h2 (.bl false) G3 H3 S3 ((s1.trans s2).trans s3) (.bl false)
  | true =>
    refine ⟨G3, δ, S3, hc.mono _ _ _ (fun w h v4 G4 H4 S4 s4 r4 => ?_) h2⟩
    exact L'.run v2 v4 f w G4 H4 σ δ Q S4 ((r2.mn s3.g).mn s4.g) r4 (L'.mono _ _ _ _ (fun z h v G' H' S' s' r' => h v G' H' S' ((((s1.trans s2).trans s3).trans s4).trans s') r') h)
theorem de_chain {op op' : CmpOp} {r r' : R2} {rd rd' : RD2} (L : Lift2 X e r rd) (ho : OpR X (compareOp op) r) (L' : Lift2 X e r' rd') (ho' : OpR X (compareOp op') r') (ha : DE_ X e a ta) (hb : DE_ X e b tb) (hc : DE_ X e c tc)
    (hm : lastMarks [op, op'] [b, c] = false := by with_unfolding_all rfl) : DE_ X e (.Compare a [op, op'] [b, c] pos) (dChain rd rd' ta tb tc) :=
  ⟨wkE (pe_chain ho ho' ha.run hb.run hc.run hm) fun _ _ _ h => lift_chain L L' ha hb hc h, dChain_mono ha.mono hb.mono hc.mono L.mono L'.mono⟩
theorem dt_chain {op op' : CmpOp} {r r' : R2} {rd rd' : RD2} (L : Lift2 X e r rd) (ho : OpR X (compareOp op) r) (L' : Lift2 X e r' rd') (ho' : OpR X (compareOp op') r') (ha : DE_ X e a ta) (hb : DE_ X e b tb) (hc : DE_ X e c tc)
    (hm : lastMarks [op, op'] [b, c] = false := by with_unfolding_all rfl) : DT_ X e (.Compare a [op, op'] [b, c] pos) (dTest (dChain rd rd' ta tb tc)) :=
  ⟨wkT (pt_chain ho ho' ha.run hb.run hc.run hm) fun _ _ _ h => lift_chain L L' ha hb hc (lE_test (dChain_mono ha.mono hb.mono hc.mono L.mono L'.mono) h), dTest_mono (dChain_mono ha.mono hb.mono hc.mono L.mono L'.mono)⟩

/-! ### one-place operators -/
abbrev RD1 := D → (D → Prop) → Prop
structure Lift1 (X : Cx) (e : Bs) (r : V → Hp → VK → Prop) (rd : RD1) : Prop where
  run : ∀ (x : V) (d : D) (G H : Hp) (σ : St) (δ : DE) (Q : VK), SK X.K e G H σ δ → Rp X.K G x d → rd d (fun z => ∀ v G' H', SK X.K e G' H' σ δ → Gw e.b G H G' H' → Rp X.K G' v z → Q v H') → r x H Q
  mono : ∀ (d : D) (Q Q' : D → Prop), (∀ d, Q d → Q' d) → rd d Q → rd d Q'
def dUn (rd : RD1) (ta : TD) : TD := fun δ Q => ta δ fun x => rd x Q
theorem dUn_mono {rd : RD1} (m1 : ∀ (δ : DE) (Q Q' : D → Prop), (∀ d, Q d → Q' d) → ta δ Q → ta δ Q') (m : ∀ (d : D) (Q Q' : D → Prop), (∀ d, Q d → Q' d) → rd d Q → rd d Q') (δ : DE) (Q Q' : D → Prop) (k : ∀ d, Q d → Q' d) (h : dUn rd ta δ Q) : dUn rd ta δ Q' :=
  m1 _ _ _ (fun x h => m _ _ _ k h) h
theorem lift_un {r : V → Hp → VK → Prop} {rd : RD1} (L : Lift1 X e r rd) (ha : DE_ X e a ta) {σ : St} {H : Hp} {Q : VK} (h : lE X.K e (dUn rd ta) σ H Q) : lE X.K e ta σ H fun x H1 => r x H1 Q := by
  obtain ⟨G, δ, S, h⟩ := h
  refine ⟨G, δ, S, ha.mono _ _ _ (fun d h v1 G1 H1 S1 s1 r1 => ?_) h⟩
  exact L.run v1 d G1 H1 σ δ Q S1 r1 (L.mono _ _ _ (fun z h v G' H' S' s' r' => h v G' H' S' (s1.trans s') r') h)
theorem de_un {op : UnaryOp} {r : V → Hp → VK → Prop} {rd : RD1} (L : Lift1 X e r rd) (ho : UnR X (unaryOp op) r) (ha : DE_ X e a ta) : DE_ X e (.UnaryOp op a pos) (dUn rd ta) :=
  ⟨wkE (pe_un ho ha.run) fun _ _ _ h => lift_un L ha h, dUn_mono ha.mono L.mono⟩

/-! ### tests: and, or, not; the conditional expression -/
variable {tA tB' : TDT} {rest : List Expr}
def dtAnd (t u : TDT) : TDT := fun δ Q => t δ fun c => if c = true then u δ Q else Q false
def dtOr (t u : TDT) : TDT := fun δ Q => t δ fun c => if c = true then Q true else u δ Q
def dtNot (t : TDT) : TDT := fun δ Q => t δ fun c => Q (!c)
abbrev MoT (t : TDT) : Prop := ∀ (δ : DE) (Q Q' : Bool → Prop), (∀ d, Q d → Q' d) → t δ Q → t δ Q'
abbrev MoE (t : TD) : Prop := ∀ (δ : DE) (Q Q' : D → Prop), (∀ d, Q d → Q' d) → t δ Q → t δ Q'
abbrev MoA (t : TDA) : Prop := ∀ (δ : DE) (Q Q' : List D → Prop), (∀ d, Q d → Q' d) → t δ Q → t δ Q'
theorem DW_.t (h : DW_ X e a tA) : DT_ X e a tA := ⟨h.run.pt, h.mono⟩
theorem lT_mono {t : TDT} (m : MoT t) {σ : St} {H : Hp} {Q : Bool → Hp → Prop} {R : DE → Hp → Bool → Prop} (h : ∃ G δ, SK X.K e G H σ δ ∧ t δ fun c => ∀ G' H', SK X.K e G' H' σ δ → Gw e.b G H G' H' → R δ H' c) (k : ∀ δ H' c, R δ H' c → Q c H') : lT X.K e t σ H Q := by
  obtain ⟨G, δ, S, h⟩ := h
  exact ⟨G, δ, S, m _ _ _ (fun c h G' H' S' s' => k _ _ _ (h G' H' S' s')) h⟩
theorem dw_and1 (ha : DT_ X e a tA) : DW_ X e (.BoolOp .And [a] pos) tA := ⟨pw_and1 ha.run, ha.mono⟩
theorem dw_or1 (ha : DT_ X e a tA) : DW_ X e (.BoolOp .Or [a] pos) tA := ⟨pw_or1 ha.run, ha.mono⟩
theorem dw_and (ha : DT_ X e a tA) (hb : DW_ X e (.BoolOp .And (b :: rest) pos) tB') : DW_ X e (.BoolOp .And (a :: b :: rest) pos) (dtAnd tA tB') := by
  refine ⟨wkW (pw_and ha.run hb.run) fun σ H Q h => ?_, fun δ Q Q' k h => ha.mono _ _ _ (fun c h => ?_) h⟩
  · obtain ⟨G, δ, S, h⟩ := h
    refine ⟨G, δ, S, ha.mono _ _ _ (fun c h G1 H1 S1 s1 => ?_) h⟩
    cases c with
    | true => exact ⟨G1, δ, S1, hb.mono _ _ _ (fun c h G2 H2 S2 s2 => h G2 H2 S2 (s1.trans s2)) h⟩
    | false => exact h G1 H1 S1 s1
  · cases c with
    | true => exact hb.mono _ _ _ k h
    | false => exact k _ h
theorem dw_or (ha : DT_ X e a tA) (hb : DW_ X e (.BoolOp .Or (b :: rest) pos) tB') : DW_ X e (.BoolOp .Or (a :: b :: rest) pos) (dtOr tA tB') := by
  refine ⟨wkW (pw_or ha.run hb.run) fun σ H Q h => ?_, fun δ Q Q' k h => ha.mono _ _ _ (fun c h => ?_) h⟩
  · obtain ⟨G, δ, S, h⟩ := h
    refine ⟨G, δ, S, ha.mono _ _ _ (fun c h G1 H1 S1 s1 => ?_) h⟩
    cases c with
    | true => exact h G1 H1 S1 s1
    | false => exact ⟨G1, δ, S1, hb.mono _ _ _ (fun c h G2 H2 S2 s2 => h G2 H2 S2 (s1.trans s2)) h⟩
  · cases c with
    | true => exact k _ h
    | false => exact hb.mono _ _ _ k h
theorem dt_not (ha : DT_ X e a tA) : DT_ X e (.UnaryOp .Not a pos) (dtNot tA) := by
  refine ⟨wkT (pt_not ha.run) fun σ H Q h => ?_, fun δ Q Q' k h => ha.mono _ _ _ (fun c h => k _ h) h⟩
  obtain ⟨G, δ, S, h⟩ := h
  exact ⟨G, δ, S, ha.mono _ _ _ (fun c h G1 H1 S1 s1 => h G1 H1 S1 s1) h⟩
/-- and, or, not as values of bools -/
def dAndV (ta tb : TD) : TD := fun δ Q => ta δ fun x => ∃ c, x = .bl c ∧ if c = true then tb δ Q else Q (.bl false)
def dOrV (ta tb : TD) : TD := fun δ Q => ta δ fun x => ∃ c, x = .bl c ∧ if c = true then Q (.bl true) else tb δ Q
def dNotV (ta : TD) : TD := fun δ Q => ta δ fun x => ∃ c, x = .bl c ∧ Q (.bl (!c))
theorem de_one {op} (h : DE_ X e a ta) : DE_ X e (.BoolOp op [a] pos) ta := ⟨pe_one h.run, h.mono⟩
theorem de_and (ha : DE_ X e a ta) (hb : DE_ X e (.BoolOp .And (b :: rest) pos) tb) : DE_ X e (.BoolOp .And (a :: b :: rest) pos) (dAndV ta tb) := by
  refine ⟨wkE (pe_and ha.run hb.run) fun σ H Q h => ?_, fun δ Q Q' k h => ha.mono _ _ _ (fun x ⟨c, h1, h⟩ => ⟨c, h1, ?_⟩) h⟩
  · obtain ⟨G, δ, S, h⟩ := h
    refine ⟨G, δ, S, ha.mono _ _ _ (fun x ⟨c, h1, h⟩ v G1 H1 S1 s1 r1 => ?_) h⟩
    subst h1
    cases r1
    refine ⟨c, rfl, ?_⟩
    cases c with
    | true => exact ⟨G1, δ, S1, hb.mono _ _ _ (fun c h v G2 H2 S2 s2 r2 => h v G2 H2 S2 (s1.trans s2) r2) h⟩
    | false => exact h _ G1 H1 S1 s1 (.bl false)
  · cases c with
    | true => exact hb.mono _ _ _ k h
    | false => exact k _ h
theorem de_or (ha : DE_ X e a ta) (hb : DE_ X e (.BoolOp .Or (b :: rest) pos) tb) : DE_ X e (.BoolOp .Or (a :: b :: rest) pos) (dOrV ta tb) := by
  refine ⟨wkE (pe_or ha.run hb.run) fun σ H Q h => ?_, fun δ Q Q' k h => ha.mono _ _ _ (fun x ⟨c, h1, h⟩ => ⟨c, h1, ?_⟩) h⟩
  · obtain ⟨G, δ, S, h⟩ := h
    refine ⟨G, δ, S, ha.mono _ _ _ (fun x ⟨c, h1, h⟩ v G1 H1 S1 s1 r1 => ?_) h⟩
    subst h1
    cases r1
    refine ⟨c, rfl, ?_⟩
    cases c with
    | true => exact h _ G1 H1 S1 s1 (.bl true)
    | false => exact ⟨G1, δ, S1, hb.mono _ _ _ (fun c h v G2 H2 S2 s2 r2 => h v G2 H2 S2 (s1.trans s2) r2) h⟩
  · cases c with
    | true => exact k _ h
    | false => exact hb.mono _ _ _ k h
theorem de_not (ha : DE_ X e a ta) : DE_ X e (.UnaryOp .Not a pos) (dNotV ta) := by
  refine ⟨wkE (pe_not ha.run) fun σ H Q h => ?_, fun δ Q Q' k h => ha.mono _ _ _ (fun x ⟨c, h1, h⟩ => ⟨c, h1, k _ h⟩) h⟩
  obtain ⟨G, δ, S, h⟩ := h
  refine ⟨G, δ, S, ha.mono _ _ _ (fun x ⟨c, h1, h⟩ v G1 H1 S1 s1 r1 => ?_) h⟩
  subst h1
  cases r1
  exact ⟨c, rfl, h _ G1 H1 S1 s1 (.bl (!c))⟩
def dIf (t : TDT) (ta tb : TD) : TD := fun δ Q => t δ fun c => if c = true then ta δ Q else tb δ Q
theorem de_ifExp {c : Expr} (hc : DT_ X e c tA) (ha : DE_ X e a ta) (hb : DE_ X e b tb) : DE_ X e (.IfExp c a b pos) (dIf tA ta tb) := by
  refine ⟨wkE (pe_ifExp hc.run ha.run hb.run) fun σ H Q h => ?_, fun δ Q Q' k h => hc.mono _ _ _ (fun c h => ?_) h⟩
  · obtain ⟨G, δ, S, h⟩ := h
    refine ⟨G, δ, S, hc.mono _ _ _ (fun c h G1 H1 S1 s1 => ?_) h⟩
    cases c with
    | true => exact ⟨G1, δ, S1, ha.mono _ _ _ (fun c h v G2 H2 S2 s2 r2 => h v G2 H2 S2 (s1.trans s2) r2) h⟩
    | false => exact ⟨G1, δ, S1, hb.mono _ _ _ (fun c h v G2 H2 S2 s2 r2 => h v G2 H2 S2 (s1.trans s2) r2) h⟩
  · cases c with
    | true => exact ha.mono _ _ _ k h
    | false => exact hb.mono _ _ _ k h

/-! ### argument lists, displays -/
variable {es : List Expr} {t u : TDA}
def dNil : TDA := fun _ Q => Q []
def dCons (ta : TD) (tr : TDA) : TDA := fun δ Q => ta δ fun x => tr δ fun xs => Q (x :: xs)
theorem da_nil : DA_ X e [] dNil := by
  refine ⟨wkA pa_nil fun σ H Q h => ?_, fun δ Q Q' k h => k _ h⟩
  obtain ⟨G, δ, S, h⟩ := h
  exact h [] G H S S.hk.refl .nil
theorem da_cons (ha : DE_ X e a ta) (hr : DA_ X e es t) (hs : starEach (a :: es) X.env = (false, eval a X.env) :: starEach es X.env := by rfl) : DA_ X e (a :: es) (dCons ta t) := by
  refine ⟨wkA (pa_cons ha.run hr.run hs) fun σ H Q h => ?_, fun δ Q Q' k h => ha.mono _ _ _ (fun x h => hr.mono _ _ _ (fun xs h => k _ h) h) h⟩
  obtain ⟨G, δ, S, h⟩ := h
  refine ⟨G, δ, S, ha.mono _ _ _ (fun d h v1 G1 H1 S1 s1 r1 => ?_) h⟩
  refine ⟨G1, δ, S1, hr.mono _ _ _ (fun ds h vs G2 H2 S2 s2 r2 => ?_) h⟩
  exact h (v1 :: vs) G2 H2 S2 (s1.trans s2) (.cons (r1.mn s2.g) r2)
/-- the items of a list or a tuple, starred -/
def D.seq : D → Option (List D)
  | .lst ds => some ds | .tup ds => some ds | _ => none
def dStar (ta : TD) (tr : TDA) : TDA := fun δ Q => ta δ fun x => ∃ xs, x.seq = some xs ∧ tr δ fun ys => Q (xs ++ ys)
theorem da_star {p : Pos} (ha : DE_ X e a ta) (hr : DA_ X e es t) (hs : starEach (.Starred a p :: es) X.env = (true, eval a X.env) :: starEach es X.env := by rfl) : DA_ X e (.Starred a p :: es) (dStar ta t) := by
  refine ⟨wkA (StX.pa_star ha.run hr.run hs) fun σ H Q h => ?_, fun δ Q Q' k h => ha.mono _ _ _ (fun x ⟨xs, h1, h⟩ => ⟨xs, h1, hr.mono _ _ _ (fun ys h => k _ h) h⟩) h⟩
  obtain ⟨G, δ, S, h⟩ := h
  refine ⟨G, δ, S, ha.mono _ _ _ (fun d ⟨xs, h1, h⟩ v1 G1 H1 S1 s1 r1 => ?_) h⟩
  have fin : ∀ vs, RpA X.K G1 vs xs → lA X.K e t σ H1 fun ys H2 => Q (vs ++ ys) H2 := fun vs r =>
    ⟨G1, δ, S1, hr.mono _ _ _ (fun ds h ws G2 H2 S2 s2 r2 => h (vs ++ ws) G2 H2 S2 (s1.trans s2) ((r.mn s2.g).append r2)) h⟩
  cases r1 with
  | lst s r => cases h1; exact ⟨_, _, rfl, .inr (SqL.of (S1.hk.sub _ _ s)), fin _ r⟩
  | tup s r => cases h1; exact ⟨_, _, rfl, .inl (same_t S1.hk.sub s), fin _ r⟩
  | _ => cases h1
def dTup (t : TDA) : TD := fun δ Q => t δ fun xs => xs.length ≤ sizeLine ∧ Q (.tup xs)
theorem de_tup {x1} (h : DA_ X e es t) : DE_ X e (.Tuple es x1 pos) (dTup t) := by
  refine ⟨wkE (pe_tup h.run) fun σ H Q q => ?_, fun δ Q Q' k q => h.mono _ _ _ (fun xs ⟨z, h⟩ => ⟨z, k _ h⟩) q⟩
  obtain ⟨G, δ, S, q⟩ := q
  refine ⟨G, δ, S, h.mono _ _ _ (fun xs ⟨z, q⟩ vs G1 H1 S1 s1 r1 => ⟨by rw [r1.length]; exact z, fun p hp => ?_⟩) q⟩
  have w := S1.hk.laid (o := .tup vs) hp
  exact q (.ref p) _ _ (S1.grow w) (s1.trans w) (.tup (.inl (.inl upd_same)) (r1.mn w.g))
def dLst (t : TDA) : TDA := fun δ Q => t δ fun xs => xs.length ≤ sizeLine ∧ Q xs
theorem df_lst (h : DA_ X e es t) : DF_ X e (.List es pos) (dLst t) := by
  refine ⟨wkE (pe_lst h.run) fun σ H Q q => ?_, fun δ Q Q' k q => h.mono _ _ _ (fun xs ⟨z, h⟩ => ⟨z, k _ h⟩) q⟩
  obtain ⟨G, δ, S, q⟩ := q
  refine ⟨G, δ, S, h.mono _ _ _ (fun xs ⟨z, q⟩ vs G1 H1 S1 s1 r1 => ⟨by rw [r1.length]; exact z, fun p hp => ?_⟩) q⟩
  have w := S1.hk.own (o := .lst vs) hp
  have nb := Bx.some S1.hk.box hp
  refine q p vs G1 (upd H1 p (.lst vs)) (S1.grow w) (s1.trans w) upd_same r1 ?_ (s1.keep.none nb hp) (S1.free_new hp) z
  cases g : G1 p with
  | none => rfl
  | some o =>
    rw [S1.hk.sub p o g] at hp
    cases hp
/-- a fresh list as data -/
def dFz (t : TDA) : TD := fun δ Q => t δ fun xs => Q (.lst xs)
theorem DF_.de (h : DF_ X e a t) : DE_ X e a (dFz t) := by
  refine ⟨wkE h.run fun σ H Q q => ?_, fun δ Q Q' k q => h.mono _ _ _ (fun xs h => k _ h) q⟩
  obtain ⟨G, δ, S, q⟩ := q
  refine ⟨G, δ, S, h.mono _ _ _ (fun xs q p vs G1 H1 S1 s1 h1 r1 h2 h3 h5 h6 => ?_) q⟩
  have nb := Bx.some S.hk.box h3
  obtain ⟨w, S2, r2⟩ := S1.frzNew s1 h1 r1 h2 h3 (S.hk.keep.none nb h3) nb h5
  exact q (.ref p) _ H1 S2 w r2
end
end Dn
/-! Statements, loops, comprehensions, calls, the rule for a def. -/
namespace Dn
open PySem L2

section
variable {X : Cx} {e : Bs} {a b c : Expr} {ta tb tc : TD} {pos : Pos} {st : Stmt} {body rest els : List Stmt} {t u : TDS} {tt : TDT}
abbrev MoS (t : TDS) : Prop := ∀ (A B : DEnds) (δ : DE), A.Le B → t A δ → t B δ

/-! ### blocks -/
def dNext : TDS := fun Z δ => Z.nx δ
def dSeq (t u : TDS) : TDS := fun Z δ => t { Z with nx := u Z } δ
theorem db_nil : DB_ X e [] dNext := by
  refine ⟨wkB pss_nil fun Z σ H h => ?_, fun A B δ l h => l.nx δ h⟩
  obtain ⟨G, δ, DD, S, h, h1, _⟩ := h
  exact h1 δ σ G H h S (.refl _)
theorem db_cons (h1 : DS_ X e st t) (h2 : DB_ X e rest u) : DB_ X e (st :: rest) (dSeq t u) := by
  refine ⟨wkB (pss_cons h1.run h2.run) fun Z σ H h => ?_, fun A B δ l h => ?_⟩
  rotate_left
  · refine h1.mono _ _ _ ?_ h
    exact ⟨fun δ h => h2.mono _ _ _ l h, l.rt, l.bk, l.ct⟩
  obtain ⟨G, δ, DD, S, h, n, r, k, c⟩ := h
  refine ⟨G, δ, { DD with nx := u DD }, S, h, fun δ' σ' G' H' g S' s' => ?_, r, k, c⟩
  exact ⟨G', δ', DD, S', g, fun δ2 σ2 G2 H2 g2 S2 s2 => n _ _ _ _ g2 S2 (s'.trans s2), r, fun δ2 σ2 G2 H2 g2 S2 s2 => k _ _ _ _ g2 S2 (s'.trans s2), fun δ2 σ2 G2 H2 g2 S2 s2 => c _ _ _ _ g2 S2 (s'.trans s2)⟩
theorem db_one (h1 : DS_ X e st t) : DB_ X e [st] t := ⟨pss_one h1.run, h1.mono⟩
def dBreak : TDS := fun Z δ => Z.bk δ
def dCont : TDS := fun Z δ => Z.ct δ
theorem ds_pass : DS_ X e (.Pass pos) dNext := ⟨wkS ps_pass fun Z σ H ⟨G, δ, DD, S, h, n, r, k, c⟩ => n δ σ G H h S (.refl _), fun A B δ l h => l.nx δ h⟩
theorem ds_break : DS_ X e (.Break pos) dBreak := ⟨wkS ps_break fun Z σ H ⟨G, δ, DD, S, h, n, r, k, c⟩ => k δ σ G H h S (.refl _), fun A B δ l h => l.bk δ h⟩
theorem ds_continue : DS_ X e (.Continue pos) dCont := ⟨wkS ps_continue fun Z σ H ⟨G, δ, DD, S, h, n, r, k, c⟩ => c δ σ G H h S (.refl _), fun A B δ l h => l.ct δ h⟩
def dRet (ta : TD) : TDS := fun Z δ => ta δ Z.rt
theorem ds_ret (ha : DE_ X e a ta) : DS_ X e (.Return (some a) pos) (dRet ta) := by
  refine ⟨wkS (ps_ret ha.run) fun Z σ H ⟨G, δ, DD, S, h, n, r, k, c⟩ => ?_, fun A B δ l h => ha.mono _ _ _ l.rt h⟩
  exact ⟨G, δ, S, ha.mono _ _ _ (fun d h v G1 H1 S1 w1 r1 => r d v G1 H1 h S1.hk r1) h⟩
def dRetN : TDS := fun Z _ => Z.rt .non
theorem ds_retN : DS_ X e (.Return none pos) dRetN := ⟨wkS ps_retN fun Z σ H ⟨G, δ, DD, S, h, n, r, k, c⟩ => r _ _ G H h S.hk .non, fun A B δ l h => l.rt _ h⟩
def dDrop (ta : TD) : TDS := fun Z δ => ta δ fun _ => Z.nx δ
theorem ds_expr (ha : DE_ X e a ta) (hs : swapsWith a none pos.line X.env = pure false := by rfl) : DS_ X e (.Expr a pos) (dDrop ta) := by
  refine ⟨wkS (ps_expr ha.run hs) fun Z σ H ⟨G, δ, DD, S, h, n, r, k, c⟩ => ?_, fun A B δ l h => ha.mono _ _ _ (fun _ h => l.nx _ h) h⟩
  exact ⟨G, δ, S, ha.mono _ _ _ (fun d h v G1 H1 S1 w1 r1 => n δ σ G1 H1 h S1 w1.g) h⟩
def dIfS (tt : TDT) (t u : TDS) : TDS := fun Z δ => tt δ fun b => if b = true then t Z δ else u Z δ
theorem ds_if (hc : DT_ X e a tt) (h1 : DB_ X e body t) (h2 : DB_ X e els u) : DS_ X e (.If a body els pos) (dIfS tt t u) := by
  refine ⟨wkS (ps_if hc.run h1.run h2.run) fun Z σ H ⟨G, δ, DD, S, h, n, r, k, c⟩ => ?_, fun A B δ l h => hc.mono _ _ _ (fun b h => ?_) h⟩
  · refine ⟨G, δ, S, hc.mono _ _ _ (fun b h G1 H1 S1 w1 => ?_) h⟩
    have fin : ∀ {t : TDS}, t DD δ → lS X.K e t Z σ H1 := fun {t} h => ⟨G1, δ, DD, S1, h, fun δ2 σ2 G2 H2 g2 S2 s2 => n _ _ _ _ g2 S2 (w1.g.trans s2), r, fun δ2 σ2 G2 H2 g2 S2 s2 => k _ _ _ _ g2 S2 (w1.g.trans s2), fun δ2 σ2 G2 H2 g2 S2 s2 => c _ _ _ _ g2 S2 (w1.g.trans s2)⟩
    cases b with
    | true => exact fin h
    | false => exact fin h
  · cases b with
    | true => exact h1.mono _ _ _ l h
    | false => exact h2.mono _ _ _ l h
theorem ds_never : DS_ X e st (fun _ _ => False) := ⟨wkS (ps_never) fun Z σ H ⟨G, δ, DD, S, h, n, r, k, c⟩ => h, fun _ _ _ _ h => h⟩
/-- an own list becomes data, ahead of a statement -/
def dFrz (i : Nat) (t : TDS) : TDS := fun Z δ => ∃ ds, δ[i]? = some (.own ds) ∧ t Z (δ.set i (.d (.lst ds)))
theorem lS_frz {i : Nat} {t : TDS} {Z : Ends} {σ : St} {H : Hp} (h : lS X.K e (dFrz i t) Z σ H) : lS X.K e t Z σ H := by
  obtain ⟨G, δ, DD, S, ⟨ds, h0, h⟩, n, r, k, c⟩ := h
  obtain ⟨G1, s1, S1⟩ := S.freeze h0
  exact ⟨G1, _, DD, S1, h, fun δ2 σ2 G2 H2 g2 S2 s2 => n _ _ _ _ g2 S2 (s1.trans s2), r, fun δ2 σ2 G2 H2 g2 S2 s2 => k _ _ _ _ g2 S2 (s1.trans s2), fun δ2 σ2 G2 H2 g2 S2 s2 => c _ _ _ _ g2 S2 (s1.trans s2)⟩
theorem ds_frz (i : Nat) (h : DS_ X e st t) : DS_ X e st (dFrz i t) := ⟨wkS h.run fun _ _ _ q => lS_frz q, fun A B δ l ⟨ds, h0, q⟩ => ⟨ds, h0, h.mono _ _ _ l q⟩⟩
theorem db_frz (i : Nat) (h : DB_ X e body t) : DB_ X e body (dFrz i t) := ⟨wkB h.run fun _ _ _ q => lS_frz q, fun A B δ l ⟨ds, h0, q⟩ => ⟨ds, h0, h.mono _ _ _ l q⟩⟩

/-! ### stores -/
def dAsg (i : Nat) (ta : TD) : TDS := fun Z δ => ta δ fun d => Z.nx (δ.set i (.d d))
theorem ds_set (i : Nat) {x : Str} {pos' : Pos} (hN : X.N.Nodup) (ha : DE_ X e a ta) (hi : X.N[i]? = some x := by rfl) (hx : Loc X.env.scope x := by first | exact .inl rfl | exact .inr rfl) (hs : swapsWith a (some (.Name x pos')) pos.line X.env = pure false := by rfl)
    (hf : X.fn x = true ∨ X.env.scope.names.lookup x = some .local := by first | exact .inl rfl | exact .inr rfl) : DS_ X e (.Assign [.Name x pos'] a pos) (dAsg i ta) := by
  refine ⟨wkS (ps_set (i := i) hN hi hx ha.run hs hf) fun Z σ H ⟨G, δ, DD, S, h, n, r, k, c⟩ => ?_, fun A B δ l h => ha.mono _ _ _ (fun _ h => l.nx _ h) h⟩
  exact ⟨G, δ, S, ha.mono _ _ _ (fun d h v G1 H1 S1 w1 r1 => n _ _ G1 H1 h (S1.put r1) w1.g) h⟩
/-- x = a fresh list, that may grow -/
def dAsgF (i : Nat) (ta : TDA) : TDS := fun Z δ => ta δ fun ds => Z.nx (δ.set i (.own ds))
theorem lF_own {t : TDA} (m : ∀ (δ : DE) (Q Q' : List D → Prop), (∀ d, Q d → Q' d) → t δ Q → t δ Q') {σ : St} {H : Hp} {Q : VK} {G : Hp} {δ : DE} {R : List D → Prop} (S : SK X.K e G H σ δ) (h : t δ R)
    (k : ∀ ds p G' H', R ds → Same G G' → (∀ i, SK X.K e G' H' (σ.set i (some (.ref p))) (δ.set i (.own ds))) → Q (.ref p) H') : lF X.K e t σ H Q := by
  refine ⟨G, δ, S, m _ _ _ (fun ds h p vs G1 H1 S1 w1 h1 r1 h2 h3 h5 h6 => ?_) h⟩
  have nb := Bx.some S.hk.box h3
  exact k ds p G1 H1 h w1.g fun i => S1.putOwn h5 h1 r1 h2 (S.hk.keep.none nb h3) nb h6
theorem ds_setF (i : Nat) {tf : TDA} {x : Str} {pos' : Pos} (hN : X.N.Nodup) (ha : DF_ X e a tf) (hi : X.N[i]? = some x := by rfl) (hx : Loc X.env.scope x := by first | exact .inl rfl | exact .inr rfl) (hs : swapsWith a (some (.Name x pos')) pos.line X.env = pure false := by rfl)
    (hf : X.fn x = true ∨ X.env.scope.names.lookup x = some .local := by first | exact .inl rfl | exact .inr rfl) : DS_ X e (.Assign [.Name x pos'] a pos) (dAsgF i tf) := by
  refine ⟨wkS (ps_set (i := i) hN hi hx ha.run hs hf) fun Z σ H ⟨G, δ, DD, S, h, n, r, k, c⟩ => ?_, fun A B δ l h => ha.mono _ _ _ (fun _ h => l.nx _ h) h⟩
  exact lF_own ha.mono S h fun ds p G' H' h s f => n _ _ G' H' h (f i) s
/-- a, b = x, y -/
def dPar (i j : Nat) (ta tb : TD) : TDS := fun Z δ => ta δ fun x => tb δ fun y => Z.nx ((δ.set i (.d x)).set j (.d y))
theorem ds_par (i j : Nat) {x y : Str} {px py pt : Pos} {kt k2 pt2} (hc : X.calm = true) (hN : X.N.Nodup) (ha : DE_ X e a ta) (hb : DE_ X e b tb) (hi : X.N[i]? = some x := by rfl) (hj : X.N[j]? = some y := by rfl) (hij : i ≠ j := by decide)
    (hx : X.env.scope.names.lookup x = some .local := by rfl) (hy : X.env.scope.names.lookup y = some .local := by rfl)
    (hw : swappedStores [.Tuple [.Name x px, .Name y py] kt pt] (.Tuple [a, b] k2 pt2) X.env = pure (some [x, y]) := by rfl)
    (hs : swapsWithSole [.Tuple [.Name x px, .Name y py] kt pt] (.Tuple [a, b] k2 pt2) pos.line X.env = pure false := by rfl)
    (h1 : starEach [a, b] X.env = (false, eval a X.env) :: starEach [b] X.env := by rfl) (h2 : starEach [b] X.env = (false, eval b X.env) :: starEach [] X.env := by rfl) :
    DS_ X e (.Assign [.Tuple [.Name x px, .Name y py] kt pt] (.Tuple [a, b] k2 pt2) pos) (dPar i j ta tb) := by
  refine ⟨wkS (ps_par hc hN hi hj hij hx hy (pa_cons ha.run (pa_cons hb.run pa_nil h2) h1) hw hs) fun Z σ H ⟨G, δ, DD, S, h, n, r, k, c⟩ => ?_, fun A B δ l h => ha.mono _ _ _ (fun _ h => hb.mono _ _ _ (fun _ h => l.nx _ h) h) h⟩
  refine ⟨G, δ, S, ha.mono _ _ _ (fun d h v G1 H1 S1 w1 r1 => ?_) h⟩
  refine ⟨G1, δ, S1, hb.mono _ _ _ (fun d' h v' G2 H2 S2 w2 r2 => ?_) h⟩
  exact ⟨v, v', rfl, n _ _ G2 H2 h ((S2.put (r1.mn w2.g)).put r2) (w1.g.trans w2.g)⟩
/-- a, b = a fresh list, y -/
def dParF (i j : Nat) (ta : TDA) (tb : TD) : TDS := fun Z δ => ta δ fun x => tb (δ.set i (.own x)) fun y => Z.nx ((δ.set i (.own x)).set j (.d y))
/-- xs.append(e), xs an own list -/
def dApp (i : Nat) (ta : TD) : TDS := fun Z δ => ∃ ds, δ[i]? = some (.own ds) ∧ ta δ fun d => ds.length < sizeLine ∧ Z.nx (δ.set i (.own (ds ++ [d])))
theorem ds_app (i : Nat) {x : Str} {px apos cpos : Pos} (ha : DE_ X e a ta) (hN : X.N[i]? = some x := by rfl) (hv : Vis X.env.scope x := by first | exact Or.inl rfl | exact Or.inr (Or.inl rfl) | exact Or.inr (Or.inr rfl)) (hd : (x == ("__debug__" : Str)) = false := by decide)
    (hcd : (x == ("__classdict__" : Str)) = false := by decide)
    (hbase : attributeBase (.Name x px) "append" X.env (eval (.Name x px) X.env) = eval (.Name x px) X.env := by rfl)
    (hfew : ((backTo cpos (starEach [a] X.env)).all (fun x => !x.1) && (backToKw cpos (keywordEach [] X.env)).all (fun x => x.1.isSome)
      && decide ([a].length + ([] : List Keyword).length + (if ([] : List Keyword).isEmpty then 0 else 1) < 30)) = true := by rfl)
    (hline : (apos.endLine == cpos.line) = true := by rfl) (hs : starEach [a] X.env = (false, eval a X.env) :: starEach [] X.env := by rfl) (hplain : (backTo cpos (starEach [] X.env)).any (·.1) = false := by rfl)
    (hsw : swapsWith (.Call (.Attribute (.Name x px) "append" apos) [a] [] cpos) none pos.line X.env = pure false := by rfl) :
    DS_ X e (.Expr (.Call (.Attribute (.Name x px) "append" apos) [a] [] cpos) pos) (dApp i ta) := by
  refine ⟨wkS (ps_expr (pe_bm PySem.F.plainAttrs_list PySem.F.slot_list_append PySem.F.type_list_append mt_append (pe_var hN hv hd hcd) (pa_cons ha.run pa_nil hs) hbase hfew hline hs hplain) hsw) fun Z σ H ⟨G, δ, DD, S, ⟨ds, h0, h⟩, n, r, k, c⟩ => ?_,
    fun A B δ l ⟨ds, h0, h⟩ => ⟨ds, h0, ha.mono _ _ _ (fun _ ⟨h, h'⟩ => ⟨h, l.nx _ h'⟩) h⟩⟩
  obtain ⟨p, vs, h1, h2, h3, h4, h5, h6, h7⟩ := S.sl i _ h0
  refine ⟨.ref p, h1, .inl ⟨rfl, vs, .inl (.inl h2)⟩, G, δ, S, ha.mono _ _ _ (fun d ⟨hl, h⟩ v G1 H1 S1 w1 r1 => ?_) h⟩
  obtain ⟨p', ws, e1, e2, e3, e4, _⟩ := S1.sl i _ h0
  rw [h1] at e1
  cases e1
  refine ⟨p, ws, v, rfl, rfl, e2, by rw [e3.length]; exact hl, ?_⟩
  exact n _ _ G1 _ h (S1.upOwn h0 h1 (e3.append (RpA.one r1)) (by rw [List.length_append]; exact hl)) w1.g
/-- x op= e, ints -/
def dAug (i : Nat) (f : Int → Int → Int) (ta : TD) : TDS := fun Z δ => ∃ m, δ[i]? = some (.d (.int m)) ∧ ta δ fun d => ∃ k, d = .int k ∧ Z.nx (δ.set i (.d (.int (f m k))))
theorem ds_aug (i : Nat) {f : Int → Int → Int} {op : Operator} {x : Str} {pos' : Pos} (hN : X.N.Nodup) (ho : PIp X op (ipI f)) (ha : DE_ X e a ta) (hi : X.N[i]? = some x := by rfl) (hx : Loc X.env.scope x := by first | exact .inl rfl | exact .inr rfl)
    (hf : X.fn x = true ∨ X.env.scope.names.lookup x = some .local := by first | exact .inl rfl | exact .inr rfl) : DS_ X e (.AugAssign (.Name x pos') op a pos) (dAug i f ta) := by
  refine ⟨wkS (ps_aug hN hi hx ha.run ho hf) fun Z σ H ⟨G, δ, DD, S, ⟨m, h0, h⟩, n, r, k, c⟩ => ?_, fun A B δ l ⟨m, h0, h⟩ => ⟨m, h0, ha.mono _ _ _ (fun _ ⟨j, h1, h⟩ => ⟨j, h1, l.nx _ h⟩) h⟩⟩
  obtain ⟨v, h1, h2⟩ := S.sl i _ h0
  cases h2
  refine ⟨.int m, h1, G, δ, S, ha.mono _ _ _ (fun d ⟨j, h3, h⟩ v G1 H1 S1 w1 r1 => ?_) h⟩
  subst h3
  cases r1
  exact ⟨m, j, rfl, rfl, n _ _ G1 H1 h (S1.put (.int (f m j))) w1.g⟩

/-! ### what is walked -/
structure Yl (K : PySem.W.Frag) (b : Bx) (J : It) (G0 : Hp) (ds : List D) : Prop where
  go : ∀ (G H : Hp) (i : Nat), Same G0 G → Same G H → i < ds.length → J.go i H
  yld : ∀ (e : Bs) (G H : Hp) (i : Nat) (x : V) (H' : Hp), e.b = b → HK e G H → Same G0 G → J.yld i H x H' → ∀ d, ds[i]? = some d → ∃ G', Gw b G H G' H' ∧ Rp K G' x d
  stop : ∀ (G H : Hp), Same G0 G → Same G H → J.stop ds.length H
structure DI_ (X : Cx) (e : Bs) (tg it : Expr) (t : TDA) : Prop where
  run : PI X tg it fun σ H R => ∃ G δ, SK X.K e G H σ δ ∧ t δ fun ds => ∀ J G' H', SK X.K e G' H' σ δ → Gw e.b G H G' H' → Yl X.K e.b J G' ds → R J H'
  mono : MoA t
theorem wkI {X : Cx} {tg x : Expr} {t t' : TI} (h : PI X tg x t) (k : ∀ σ H Q, t' σ H Q → t σ H Q) : PI X tg x t' := ⟨fun pins s σ H Q I q => h.run pins s σ H Q I (k _ _ _ q)⟩
def dSq (l : D → Option (List D)) (ta : TD) : TDA := fun δ Q => ta δ fun x => ∃ ds, l x = some ds ∧ Q ds
theorem dSq_mono {l : D → Option (List D)} (m : MoE ta) : MoA (dSq l ta) := fun δ Q Q' k h => m _ _ _ (fun x ⟨ds, h1, h⟩ => ⟨ds, h1, k _ h⟩) h
def D.lstOf : D → Option (List D) | .lst ds => some ds | _ => none
def D.tupOf : D → Option (List D) | .tup ds => some ds | _ => none
/-- the signs of a text -/
def signs (x : Str) : List D := x.cps.toList.map fun c => .str ⟨#[c]⟩
def D.strOf : D → Option (List D) | .str x => some (signs x) | _ => none
variable {tg : Expr}
theorem yl_list {K : PySem.W.Frag} {b : Bx} {G : Hp} {p : Addr} {xs : List V} {ds : List D} (s : SqL K G p xs) (r : RpA K G xs ds) : Yl K b (Itl K p) G ds where
  go := fun G1 H i s1 s2 hi => by
    have : i < xs.length := by rw [r.length]; exact hi
    exact ⟨xs, xs[i], s2.seq (s1.seq s), by simp [this]⟩
  yld := fun e G1 H i x H' eb hk s1 y d hd => by
    obtain ⟨e1, y⟩ := y
    subst e1
    obtain ⟨v, h1, h2⟩ := r.get hd
    have z := y xs (hk.sub.seq (s1.seq s))
    rw [h1] at z
    cases z
    exact ⟨G1, eb ▸ hk.refl, h2.mn s1⟩
  stop := fun G1 H s1 s2 => ⟨xs, s2.seq (s1.seq s), by rw [r.length]; exact Nat.le_refl _⟩
theorem yl_tup {K : PySem.W.Frag} {b : Bx} {G : Hp} {p : Addr} {xs : List V} {ds : List D} (s : SqT K G p xs) (r : RpA K G xs ds) : Yl K b (Itt K p) G ds where
  go := fun G1 H i s1 s2 hi => by
    have : i < xs.length := by rw [r.length]; exact hi
    exact ⟨xs, xs[i], same_t s2 (same_t s1 s), by simp [this]⟩
  yld := fun e G1 H i x H' eb hk s1 y d hd => by
    obtain ⟨e1, y⟩ := y
    subst e1
    obtain ⟨v, h1, h2⟩ := r.get hd
    have z := y xs (same_t hk.sub (same_t s1 s))
    rw [h1] at z
    cases z
    exact ⟨G1, eb ▸ hk.refl, h2.mn s1⟩
  stop := fun G1 H s1 s2 => ⟨xs, same_t s2 (same_t s1 s), by rw [r.length]; exact Nat.le_refl _⟩
theorem yl_str {K : PySem.W.Frag} {b : Bx} {G : Hp} {z : Str} : Yl K b (Its z) G (signs z) where
  go := fun G1 H i s1 s2 hi => by
    have : i < z.cps.toList.length := by simpa [signs] using hi
    show i < z.cps.size
    simpa using this
  yld := fun e G1 H i x H' eb hk s1 y d hd => by
    obtain ⟨e1, c, h1, h2⟩ := y
    subst e1 h2
    unfold signs at hd
    rw [List.getElem?_map] at hd
    have h3 : z.cps.toList[i]? = some c := by simpa using h1
    rw [h3] at hd
    cases hd
    exact ⟨G1, eb ▸ hk.refl, .str _⟩
  stop := fun G1 H s1 s2 => by
    show z.cps.size ≤ (signs z).length
    simp [signs]
theorem di_list (ha : DE_ X e a ta) : DI_ X e tg a (dSq D.lstOf ta) := by
  refine ⟨wkI (pi_list ha.run) fun σ H R ⟨G, δ, S, h⟩ => ?_, dSq_mono ha.mono⟩
  refine ⟨G, δ, S, ha.mono _ _ _ (fun d ⟨ds, h1, h⟩ v G1 H1 S1 w1 r1 => ?_) h⟩
  cases r1 with
  | lst s r => cases h1; exact ⟨_, rfl, ⟨_, SqL.of (S1.hk.sub _ _ s)⟩, h _ G1 H1 S1 w1 (yl_list (SqL.of s) r)⟩
  | _ => cases h1
theorem di_tup (ha : DE_ X e a ta) : DI_ X e tg a (dSq D.tupOf ta) := by
  refine ⟨wkI (pi_tup ha.run) fun σ H R ⟨G, δ, S, h⟩ => ?_, dSq_mono ha.mono⟩
  refine ⟨G, δ, S, ha.mono _ _ _ (fun d ⟨ds, h1, h⟩ v G1 H1 S1 w1 r1 => ?_) h⟩
  cases r1 with
  | tup s r => cases h1; exact ⟨_, rfl, ⟨_, same_t S1.hk.sub s⟩, h _ G1 H1 S1 w1 (yl_tup s r)⟩
  | _ => cases h1
theorem di_str (ha : DE_ X e a ta) : DI_ X e tg a (dSq D.strOf ta) := by
  refine ⟨wkI (pi_str ha.run) fun σ H R ⟨G, δ, S, h⟩ => ?_, dSq_mono ha.mono⟩
  refine ⟨G, δ, S, ha.mono _ _ _ (fun d ⟨ds, h1, h⟩ v G1 H1 S1 w1 r1 => ?_) h⟩
  cases r1 with
  | str x => cases h1; exact ⟨x, rfl, h _ G1 H1 S1 w1 yl_str⟩
  | _ => cases h1
def rngD (n : Nat) : List D := (List.range n).map fun (i : Nat) => D.int (i : Int)
def dRng (ta : TD) : TDA := fun δ Q => ta δ fun x => ∃ j : Int, x = .int j ∧ -(2 ^ 62) ≤ j ∧ j < 2 ^ 62 ∧ Q (rngD j.toNat)
theorem yl_rng {K : PySem.W.Frag} {b : Bx} {G : Hp} {n : Nat} : Yl K b (Itr 0 n) G (rngD n) where
  go := fun G1 H i s1 s2 hi => by
    show i < n
    simpa [rngD] using hi
  yld := fun e G1 H i x H' eb hk s1 y d hd => by
    obtain ⟨e1, h2⟩ := y
    subst e1 h2
    unfold rngD at hd
    rw [List.getElem?_map] at hd
    by_cases z : i < n
    · rw [List.getElem?_range z] at hd
      cases hd
      rw [Int.zero_add]
      exact ⟨G1, eb ▸ hk.refl, .int _⟩
    · rw [List.getElem?_eq_none (by simpa using z)] at hd
      cases hd
  stop := fun G1 H s1 s2 => by
    show n ≤ (rngD n).length
    simp [rngD]
theorem di_range {p : Pos} (hm : X.mg "range" = none) (ha : DE_ X e a ta) (hg : Gl X "range" := by rfl) (hs : starEach [a] X.env = [(false, eval a X.env)] := by rfl) (hs' : starEach [a] X.env = (false, eval a X.env) :: starEach [] X.env := by rfl) :
    DI_ X e tg (.Call (.Name "range" p) [a] [] pos) (dRng ta) := by
  refine ⟨wkI (pi_range1 hg hm (pa_cons ha.run pa_nil hs') hs) fun σ H R ⟨G, δ, S, h⟩ => ?_, fun δ Q Q' k h => ha.mono _ _ _ (fun x ⟨j, h1, h2, h3, h⟩ => ⟨j, h1, h2, h3, k _ h⟩) h⟩
  refine ⟨G, δ, S, ha.mono _ _ _ (fun d ⟨j, h1, h2, h3, h⟩ v G1 H1 S1 w1 r1 => ?_) h⟩
  subst h1
  cases r1
  exact ⟨j, rfl, h2, h3, h _ G1 H1 S1 w1 yl_rng⟩

/-! ### targets -/
abbrev TDG := D → DE → (DE → Prop) → Prop
structure DG_ (X : Cx) (e : Bs) (tg : Expr) (g : TDG) : Prop where
  run : PG X tg fun v σ H Q => ∃ G δ d, SK X.K e G H σ δ ∧ Rp X.K G v d ∧ g d δ fun δ' => ∀ σ', SK X.K e G H σ' δ' → Q σ' H
  mono : ∀ (d : D) (δ : DE) (Q Q' : DE → Prop), (∀ δ, Q δ → Q' δ) → g d δ Q → g d δ Q'
theorem wkG {X : Cx} {tg : Expr} {t t' : TG} (h : PG X tg t) (k : ∀ v σ H Q, t' v σ H Q → t v σ H Q) : PG X tg t' := ⟨fun pins s σ H v u Q I r q => h.run pins s σ H v u Q I r (k _ _ _ _ q)⟩
def dgName (i : Nat) : TDG := fun d δ Q => Q (δ.set i (.d d))
theorem dg_name (i : Nat) {x : Str} (hN : X.N.Nodup) (hi : X.N[i]? = some x := by rfl) (hx : Loc X.env.scope x := by first | exact .inl rfl | exact .inr rfl) (hf : X.fn x = true ∨ X.env.scope.names.lookup x = some .local := by first | exact .inl rfl | exact .inr rfl) :
    DG_ X e (.Name x pos) (dgName i) :=
  ⟨wkG (pg_name (i := i) hN hi hx hf) fun v σ H Q ⟨G, δ, d, S, r, h⟩ => h _ (S.put r), fun d δ Q Q' k h => k _ h⟩

/-! ### for, while -/
def forW (g : TDG) (tb : TDS) : List D → DEnds → DE → Prop
  | [], Z, δ => Z.nx δ
  | x :: xs, Z, δ => g x δ fun δ' => tb { nx := forW g tb xs Z, ct := forW g tb xs Z, bk := Z.nx, rt := Z.rt } δ'
def dFor (wi : TDA) (g : TDG) (tb : TDS) : TDS := fun Z δ => wi δ fun ds => forW g tb ds Z δ
theorem forW_mono {g : TDG} {tb : TDS} (mg : ∀ (d : D) (δ : DE) (Q Q' : DE → Prop), (∀ δ, Q δ → Q' δ) → g d δ Q → g d δ Q') (mb : MoS tb) : ∀ (ds : List D), MoS (forW g tb ds)
  | [], A, B, δ, l, h => l.nx δ h
  | x :: xs, A, B, δ, l, h => mg _ _ _ _ (fun δ' h => by
    refine mb _ _ _ ?_ h
    exact ⟨fun δ h => forW_mono mg mb xs A B δ l h, l.rt, l.nx, fun δ h => forW_mono mg mb xs A B δ l h⟩) h
theorem ds_for {wi : TDA} {g : TDG} {iter : Expr} (hp : PassesOwn (model X.prog X.w) X.A X.env X.xe) (hc : X.calm = true) (hi : DI_ X e tg iter wi) (hg : DG_ X e tg g) (hb : DB_ X e body t) (hs : ∀ x, foldedSetIterable iter X.env x = pure x := by intro _; rfl) :
    DS_ X e (.For tg iter body [] pos) (dFor wi g t) := by
  refine ⟨wkS (ps_for hp hc hi.run hg.run hb.run hs) fun Z σ H ⟨G, δ, DD, S, h, n, r, k, c⟩ => ?_, fun A B δ l h => hi.mono _ _ _ (fun ds h => forW_mono hg.mono hb.mono ds _ _ _ l h) h⟩
  refine ⟨G, δ, S, hi.mono _ _ _ (fun ds h J G1 H1 S1 w1 y => ?_) h⟩
  refine ⟨fun i m σ H => m = ds.length - i ∧ i ≤ ds.length ∧ ∃ G2 δ2, SK X.K e G2 H σ δ2 ∧ Same G1 G2 ∧ forW g t (ds.drop i) DD δ2, ⟨ds.length, by simp, Nat.zero_le _, G1, δ, S1, .refl _, h⟩, ?_⟩
  rintro i m σ2 H2 ⟨rfl, hi, G2, δ2, S2, s2, h⟩
  by_cases hlt : i < ds.length
  · rw [List.drop_eq_getElem_cons hlt] at h
    refine .inr ⟨y.go G2 H2 i s2 S2.hk.sub hlt, fun σ' H' => ∃ G3 δ3, SK X.K e G3 H' σ' δ3 ∧ Same G1 G3 ∧ forW g t (ds.drop (i + 1)) DD δ3, fun σ' H' ⟨G3, δ3, S3, s3, h⟩ => ⟨ds.length - (i + 1), by omega, rfl, hlt, G3, δ3, S3, s3, h⟩, fun x H' hy => ?_⟩
    obtain ⟨G3, w3, r3⟩ := y.yld e G2 H2 i x H' rfl S2.hk s2 hy ds[i] (List.getElem?_eq_getElem hlt)
    refine ⟨G3, δ2, ds[i], S2.grow w3, r3, hg.mono _ _ _ _ (fun δ3 h σ3 S3 => ?_) h⟩
    refine ⟨G3, δ3, _, S3, h, fun δ4 σ4 G4 H4 g4 S4 s4 => ⟨G4, δ4, S4, (s2.trans w3.g).trans s4, g4⟩, r, fun δ4 σ4 G4 H4 g4 S4 s4 => n _ _ _ _ g4 S4 (((w1.g.trans s2).trans w3.g).trans s4), fun δ4 σ4 G4 H4 g4 S4 s4 => ⟨G4, δ4, S4, (s2.trans w3.g).trans s4, g4⟩⟩
  · have ei : i = ds.length := by omega
    subst ei
    rw [List.drop_length] at h
    exact .inl ⟨y.stop G2 H2 s2 S2.hk.sub, n _ _ _ _ h S2 (w1.g.trans s2)⟩
def whileW (tt : TDT) (tb : TDS) : Nat → DEnds → DE → Prop
  | 0, _, _ => False
  | n + 1, Z, δ => tt δ fun b => if b = true then tb { nx := whileW tt tb n Z, ct := whileW tt tb n Z, bk := Z.nx, rt := Z.rt } δ else Z.nx δ
def dWhile (tt : TDT) (tb : TDS) : TDS := fun Z δ => ∃ n, whileW tt tb n Z δ
theorem whileW_mono {tb : TDS} (mt : MoT tt) (mb : MoS tb) : ∀ n : Nat, MoS (whileW tt tb n)
  | 0, A, B, δ, l, h => h
  | n + 1, A, B, δ, l, h => mt _ _ _ (fun b h => by
    cases b with
    | true =>
      refine mb _ _ _ ?_ h
      exact ⟨fun δ h => whileW_mono mt mb n A B δ l h, l.rt, l.nx, fun δ h => whileW_mono mt mb n A B δ l h⟩
    | false => exact l.nx _ h) h
theorem ds_while (hp : PassesOwn (model X.prog X.w) X.A X.env X.xe) (hc : DT_ X e a tt) (hb : DB_ X e body t) : DS_ X e (.While a body [] pos) (dWhile tt t) := by
  refine ⟨wkS (ps_while hp hc.run hb.run) fun Z σ H ⟨G, δ, DD, S, ⟨m, h⟩, n, r, k, c⟩ => ?_, fun A B δ l ⟨m, h⟩ => ⟨m, whileW_mono hc.mono hb.mono m _ _ _ l h⟩⟩
  refine ⟨fun m σ H => ∃ G2 δ2, SK X.K e G2 H σ δ2 ∧ Same G G2 ∧ whileW tt t m DD δ2, ⟨m, G, δ, S, .refl _, h⟩, ?_⟩
  rintro m σ2 H2 ⟨G2, δ2, S2, s2, h⟩
  cases m with
  | zero => exact h.elim
  | succ m =>
    refine ⟨G2, δ2, S2, hc.mono _ _ _ (fun b h G3 H3 S3 w3 => ?_) h⟩
    cases b with
    | true =>
      refine ⟨fun σ' H' => ∃ G4 δ4, SK X.K e G4 H' σ' δ4 ∧ Same G G4 ∧ whileW tt t m DD δ4, fun σ' H' ⟨G4, δ4, S4, s4, h⟩ => ⟨m, Nat.lt_succ_self _, G4, δ4, S4, s4, h⟩, ?_⟩
      exact ⟨G3, δ2, _, S3, h, fun δ4 σ4 G4 H4 g4 S4 s4 => ⟨G4, δ4, S4, (s2.trans w3.g).trans s4, g4⟩, r, fun δ4 σ4 G4 H4 g4 S4 s4 => n _ _ _ _ g4 S4 ((s2.trans w3.g).trans s4), fun δ4 σ4 G4 H4 g4 S4 s4 => ⟨G4, δ4, S4, (s2.trans w3.g).trans s4, g4⟩⟩
    | false => exact n _ _ _ _ h S3 (s2.trans w3.g)

/-! ### list comprehensions with one name -/
def lcW (j : Nat) (tt : TDT) (te : TD) : List D → List D → DE → (List D → Prop) → Prop
  | [], acc, _, Q => Q acc
  | x :: xs, acc, δ, Q => tt (δ.set j (.d x)) fun b => if b = true then te (δ.set j (.d x)) fun y => acc.length < sizeLine ∧ lcW j tt te xs (acc ++ [y]) δ Q else lcW j tt te xs acc δ Q
def dLc (wi : TDA) (j : Nat) (tt : TDT) (te : TD) : TDA := fun δ Q => wi δ fun ds => lcW j tt te ds [] δ Q
theorem lcW_mono {j : Nat} {te : TD} (mt : MoT tt) (me : MoE te) : ∀ (ds acc : List D) (δ : DE) (Q Q' : List D → Prop), (∀ d, Q d → Q' d) → lcW j tt te ds acc δ Q → lcW j tt te ds acc δ Q'
  | [], acc, δ, Q, Q', k, h => k _ h
  | x :: xs, acc, δ, Q, Q', k, h => mt _ _ _ (fun b h => by
    cases b with
    | true => exact me _ _ _ (fun y ⟨z, h⟩ => ⟨z, lcW_mono mt me xs _ δ Q Q' k h⟩) h
    | false => exact lcW_mono mt me xs acc δ Q Q' k h) h
theorem SK.wipe {K : PySem.W.Frag} {G H : Hp} {σ : St} {δ : DE} (S : SK K e G H σ δ) (j : Nat) : SK K e G H (σ.set j none) (δ.set j .un) := by
  refine ⟨S.hk, by rw [List.length_set, List.length_set]; exact S.len, fun i s h => ?_, fun i k ds es p n h1 h2 h3 h4 => ?_⟩
  · rw [set_get] at h ⊢
    by_cases z : j = i
    · rw [if_pos z] at h
      split at h
      · cases h; trivial
      · cases h
    · rw [if_neg z] at h ⊢
      exact S.sl i s h
  · rw [set_get] at h1 h2 h3 h4
    by_cases z : j = i
    · rw [if_pos z] at h1
      split at h1 <;> cases h1
    · by_cases y : j = k
      · rw [if_pos y] at h2
        split at h2 <;> cases h2
      · rw [if_neg z] at h1 h3
        rw [if_neg y] at h2 h4
        exact S.sep i k ds es p n h1 h2 h3 h4
/-- the ifs of a clause -/
structure DTs_ (X : Cx) (e : Bs) (xs : List Expr) (t : TDT) : Prop where
  run : PTs X xs (lT X.K e t)
  mono : MoT t
def dtYes : TDT := fun _ Q => Q true
theorem wkTs {X : Cx} {x : List Expr} {t t' : TT} (h : PTs X x t) (k : ∀ σ H Q, t' σ H Q → t σ H Q) : PTs X x t' := ⟨fun pins s σ H Q I q => h.run pins s σ H Q I (k _ _ _ q)⟩
theorem dts_nil : DTs_ X e [] dtYes := ⟨wkTs pts_nil fun σ H Q ⟨G, δ, S, h⟩ => h G H S S.hk.refl, fun _ _ _ k h => k _ h⟩
theorem dts_one (h : DT_ X e a tt) : DTs_ X e [a] tt := ⟨pts_one h.run, h.mono⟩
theorem df_lc {wi : TDA} {j : Nat} {x : Str} {te : TD} {elt iter : Expr} {ifs : List Expr} {scope : Scope} {px : Pos} (hc : X.calm = true) (hN : X.N.Nodup) (hi : DI_ X e (.Name x px) iter wi) (ok : BlkOk X.N X.env.scope scope [(x, j)])
    (hg : ∀ (s : Shared) (H : Hp) (C : Addr) (cl : List (Str × Addr)) (fp : List Addr), PG (X.blk s H scope (compEnvC scope cl C X.env) fp) (.Name x px) (gName j))
    (ht : ∀ (s : Shared) (H : Hp) (C : Addr) (cl : List (Str × Addr)) (fp : List Addr), DTs_ (X.blk s H scope (compEnvC scope cl C X.env) fp) e ifs tt)
    (he : ∀ (s : Shared) (H : Hp) (C : Addr) (cl : List (Str × Addr)) (fp : List Addr), DE_ (X.blk s H scope (compEnvC scope cl C X.env) fp) e elt te) (hs : ∀ x, foldedSetIterable iter X.env x = pure x := by intro _; rfl) :
    DF_ X e (.ListComp elt [⟨.Name x px, iter, ifs, 0⟩] scope pos) (dLc wi j tt te) := by
  have mt : MoT tt := (ht {} (fun _ => none) 0 [] []).mono
  have me : MoE te := (he {} (fun _ => none) 0 [] []).mono
  refine ⟨wkE (pe_lc (own := [(x, j)]) (tt := lT X.K e tt) (te := lE X.K e te) hc hN hi.run ok hg (fun s H C cl fp => (ht s H C cl fp).run) (fun s H C cl fp => (he s H C cl fp).run) hs) fun σ H Q ⟨G, δ, S, h⟩ => ?_, fun δ Q Q' k h => hi.mono _ _ _ (fun ds h => lcW_mono mt me _ _ _ _ _ k h) h⟩
  refine ⟨G, δ, S, hi.mono _ _ _ (fun ds h J G1 H1 S1 w1 y L hL => ?_) h⟩
  have nb := Bx.some S1.hk.box hL
  have hL0 : H L = none := w1.keep.none nb hL
  have w0 := S1.hk.own (o := .lst []) hL
  have gL : G1 L = none := by
    cases g : G1 L with
    | none => rfl
    | some o => rw [S1.hk.sub L o g] at hL; cases hL
  let R : List D → Prop := fun ds => ∀ p vs G' H', SK X.K e G' H' σ δ → Gw e.b G H G' H' → H' p = some (.lst vs) → RpA X.K G' vs ds → G' p = none → H p = none → Free σ δ p → ds.length ≤ sizeLine → Q (.ref p) H'
  refine ⟨fun i m H2 => m = ds.length - i ∧ i ≤ ds.length ∧ ∃ G2 acc vs, SK X.K e G2 H2 σ δ ∧ Gw e.b G H G2 H2 ∧ Same G1 G2 ∧ H2 L = some (.lst vs) ∧ RpA X.K G2 vs acc ∧ G2 L = none ∧ acc.length ≤ sizeLine ∧ lcW j tt te (ds.drop i) acc δ R,
    ⟨ds.length, by simp, Nat.zero_le _, G1, [], [], S1.grow w0, w1.trans w0, .refl _, upd_same, .nil, gL, Nat.zero_le _, h⟩, ?_⟩
  rintro i m H2 ⟨rfl, hi, G2, acc, vs, S2, w2, s2, e1, r2, e2, e3, h⟩
  have fr : Free σ δ L := fun k es h1 h2 => by
    obtain ⟨q, ws, a1, a2, _⟩ := S.sl k _ h1
    rw [h2] at a1
    cases a1
    rw [hL0] at a2
    cases a2
  by_cases hlt : i < ds.length
  · rw [List.drop_eq_getElem_cons hlt] at h
    refine .inr ⟨y.go G2 H2 i s2 S2.hk.sub hlt, fun H' => ∃ G3 acc vs, SK X.K e G3 H' σ δ ∧ Gw e.b G H G3 H' ∧ Same G1 G3 ∧ H' L = some (.lst vs) ∧ RpA X.K G3 vs acc ∧ G3 L = none ∧ acc.length ≤ sizeLine ∧ lcW j tt te (ds.drop (i + 1)) acc δ R,
      fun H' h => ⟨ds.length - (i + 1), by omega, rfl, hlt, h⟩, fun v H' hy => ?_⟩
    obtain ⟨G3, w3, r3⟩ := y.yld e G2 H2 i v H' rfl S2.hk s2 hy ds[i] (List.getElem?_eq_getElem hlt)
    have S3 := S2.grow w3
    have h3 : H' L = some (.lst vs) := w3.keep L _ nb e1
    have g3 : G3 L = none := by
      cases g : G3 L with
      | none => rfl
      | some o =>
        rcases w3.new L o g with z | z
        · rw [e2] at z; cases z
        · rw [e1] at z; cases z
    have S4 : SK X.K e G3 H' ((L2.wipe σ [j]).set j (some v)) (δ.set j (.d ds[i])) := by
      have z := (S3.wipe j).put (i := j) r3
      have ed : (δ.set j SV.un).set j (.d ds[i]) = δ.set j (.d ds[i]) := List.set_set ..
      rw [ed] at z
      show SK X.K e G3 H' (((σ.set j none)).set j (some v)) (δ.set j (.d ds[i]))
      exact z
    have fin : ∀ {G4 H4 : Hp}, Gw e.b G3 H' G4 H4 → Gw e.b G H G4 H4 ∧ SK X.K e G4 H4 σ δ ∧ Same G1 G4 ∧ H4 L = some (.lst vs) ∧ RpA X.K G4 vs acc ∧ G4 L = none := fun {G4 H4} w4 => by
      refine ⟨(w2.trans w3).trans w4, S3.grow w4, (s2.trans w3.g).trans w4.g, w4.keep L _ nb h3, (r2.mn w3.g).mn w4.g, ?_⟩
      cases g : G4 L with
      | none => rfl
      | some o =>
        rcases w4.new L o g with z | z
        · rw [g3] at z; cases z
        · rw [h3] at z; cases z
    show L2.wipe ((L2.wipe σ [j]).set j (some v)) [j] = L2.wipe σ [j] ∧ _
    refine ⟨by show (((σ.set j none).set j (some v)).set j none) = σ.set j none; rw [List.set_set, List.set_set], ?_⟩
    refine ⟨G3, _, S4, mt _ _ _ (fun b h G4 H4 S5 w4 => ?_) h⟩
    cases b with
    | false =>
      obtain ⟨a1, a2, a3, a4, a5, a6⟩ := fin w4
      exact ⟨G4, acc, vs, a2, a1, a3, a4, a5, a6, e3, h⟩
    | true =>
      refine ⟨G4, _, S5, me _ _ _ (fun z ⟨hz, h⟩ v5 G5 H5 S6 w5 r5 => ?_) h⟩
      obtain ⟨a1, a2, a3, a4, a5, a6⟩ := fin (w4.trans w5)
      refine ⟨vs, a4, by rw [a5.length]; exact hz, G5, acc ++ [z], vs ++ [v5], ?_⟩
      -- the new list has grown
      have up : ∀ o, upd H5 L o = upd H5 L o := fun _ => rfl
      have keep : SameB e.b H (upd H5 L (.lst (vs ++ [v5]))) := fun a o n q => by
        rw [upd_ne (ne_of_none q hL0)]
        exact a1.keep a o n q
      have box : e.b.I (upd H5 L (.lst (vs ++ [v5]))) := e.b.loc H5 _ (fun a ha => upd_ne fun (q : a = L) => nb (q ▸ ha)) a1.box
      have sub : Same G5 (upd H5 L (.lst (vs ++ [v5]))) := fun a o q => by
        rw [upd_ne (ne_of_none q a6)]
        exact a1.sub a o q
      have gw : Gw e.b G H G5 (upd H5 L (.lst (vs ++ [v5]))) := ⟨keep, box, a1.g, sub, a1.new, a1.fz⟩
      exact ⟨S.grow gw, gw, a3, upd_same, a5.append (RpA.one r5), a6, by rw [List.length_append]; exact hz, h⟩
  · have ei : i = ds.length := by omega
    subst ei
    rw [List.drop_length] at h
    exact .inl ⟨y.stop G2 H2 s2 S2.hk.sub, h L vs G2 H2 S2 w2 e1 r2 e2 hL0 fr e3⟩
end
end Dn
/-! The rule for a def, calls; subscripts, slices, methods of texts; the operators by data. -/
namespace Dn
open PySem L2

/-! ### what a def promises of data -/
abbrev RP := List D → (D → Prop) → Prop
abbrev MoR (R : RP) : Prop := ∀ (ds : List D) (Q Q' : D → Prop), (∀ d, Q d → Q' d) → R ds Q → R ds Q'
def spD (K : PySem.W.Frag) (b : Bx) (R : RP) : Sp := fun vs H Q _ => ∃ G ds, Same G H ∧ (∀ a, b.B a → G a = none) ∧ b.I H ∧ RpA K G vs ds ∧ R ds fun d => ∀ v G' H', Gw b G H G' H' → Rp K G' v d → Q v H'
def startD (N : List Str) (ds : List D) : DE := ds.map .d ++ List.replicate (N.length - ds.length) .un
theorem start_ok {K : PySem.W.Frag} {b : Bx} {G H : Hp} {vs : List V} {ds : List D} {N : List Str} (h1 : Same G H) (h2 : ∀ a, b.B a → G a = none) (h3 : b.I H) (r : RpA K G vs ds) : SK K ⟨b, H, G⟩ G H (L2.start N vs) (startD N ds) := by
  refine ⟨⟨.refl _ _, h1, h2, h3, h3, fun _ _ h => .inl h, .refl _⟩, ?_, fun i s h => ?_, fun i j ds' es p n g1 g2 g3 g4 => ?_⟩
  · unfold L2.start startD
    simp [r.length]
  · unfold startD at h
    unfold L2.start
    by_cases z : i < ds.length
    · rw [List.getElem?_append_left (by simpa using z), List.getElem?_map] at h
      obtain ⟨d, hd⟩ : ∃ d, ds[i]? = some d := ⟨ds[i], List.getElem?_eq_getElem z⟩
      rw [hd] at h
      cases h
      obtain ⟨v, e1, e2⟩ := r.get hd
      refine ⟨v, ?_, e2⟩
      rw [List.getElem?_append_left (by simpa [r.length] using z), List.getElem?_map, e1]
      rfl
    · rw [List.getElem?_append_right (by simpa using z), List.getElem?_replicate] at h
      split at h
      · cases h; trivial
      · cases h
  · unfold startD at g1
    by_cases z : i < ds.length
    · rw [List.getElem?_append_left (by simpa using z), List.getElem?_map] at g1
      cases q : ds[i]? with
      | none => rw [q] at g1; cases g1
      | some x => rw [q] at g1; cases g1
    · rw [List.getElem?_append_right (by simpa using z), List.getElem?_replicate] at g1
      split at g1 <;> cases g1
/-- a def as the top has written it, whatever its defaults are -/
structure FunV (K : PySem.W.Frag) (x qual : Str) (st : Stmt) (f : Addr) (fd : FuncData) : Prop where
  ex : ∃ (oc : Value) (od : Option Addr) (dV kV doc pm : Value) (an : Option Addr) (cdv ct : Value) (osl : Array (Option Value)),
    fd = PySem.W.fnOf x qual (defArgs st) (defBody st) (defScope st) dV kV doc pm an cdv ct ∧ K.lookup f = some ⟨oc, od, .func fd, osl⟩ ∧ PySem.W.codeIn K cdv qual = true
  kp : PySem.W.keepIn K (.ref f) = true
theorem FunV.ok {P : Program} {w : World} {K : PySem.W.Frag} {mg : Str → Option Value} {base : Heap} {x qual : Str} {st : Stmt} {f : Addr} {fd : FuncData} {N ps : List Str} {k : Nat} {sp : Sp} (F : FunV K x qual st f fd) (S : FnScope N ps (defScope st)) (len : ∀ vs H Q E, sp vs H Q E → vs.length = ps.length)
    (go : ∀ (cdv : Value) (A : Around) (outer : List Env) (s : Shared) (H : Hp) (vs : List V) (Q : VK) (E : XK), Room k (A.deeper (PyProof.Rows.envOfC qual (defScope st) s.heap.objs.size f cdv)) → sp vs H Q E →
      ∃ t, PSs (cxOf CX0 P w K mg base N qual (defScope st) f cdv A outer s H E).nox (defBody st) t ∧ t { nx := fun _ H' => Q .non H', rt := Q } (L2.start N vs) H) : FnOk P w K mg base CX0 (k + 1) f fd ps sp := by
  obtain ⟨oc, od, dV, kV, doc, pm, an, cdv, ct, osl, rfl, lk, hcd⟩ := F.ex
  exact fn_of lk hcd S len fun A outer s H vs Q E hr h => let ⟨t, h1, h2⟩ := go cdv A outer s H vs Q E hr h; ⟨t, h1.nox, h2⟩
/-- THE RULE for a def, by data -/
theorem okD {P : Program} {w : World} {K : PySem.W.Frag} {mg : Str → Option Value} {base : Heap} {x qual : Str} {st : Stmt} {f : Addr} {fd : FuncData} {N ps : List Str} {k : Nat} {b : Bx} {R : RP}
    (F : FunV K x qual st f fd) (S : FnScope N ps (defScope st)) (len : ∀ ds Q, R ds Q → ds.length = ps.length)
    (hbody : ∀ (cdv : Value) (A : Around) (outer : List Env) (s : Shared) (H : Hp) (E : XK) (e : Bs), e.b = b → Room k (A.deeper (PyProof.Rows.envOfC qual (defScope st) s.heap.objs.size f cdv)) →
      ∃ t, DB_ (cxOf CX0 P w K mg base N qual (defScope st) f cdv A outer s H E).nox e (defBody st) t ∧ ∀ ds Q, R ds Q → t { nx := fun _ => Q .non, rt := Q } (startD N ds)) :
    FnOk P w K mg base CX0 (k + 1) f fd ps (spD K b R) := by
  refine F.ok S (fun vs H Q E h => ?_) (fun cdv A outer s H vs Q E hr h => ?_)
  · obtain ⟨G, ds, h1, h2, h3, r, h⟩ := h
    rw [r.length]
    exact len _ _ h
  · obtain ⟨G, ds, h1, h2, h3, r, h⟩ := h
    obtain ⟨t, hb, ht⟩ := hbody cdv A outer s H E ⟨b, H, G⟩ rfl hr
    refine ⟨_, hb.run, G, startD N ds, _, start_ok h1 h2 h3 r, ht ds _ h, fun δ' σ' G' H' g S' s' => ?_, fun d v G' H' g hk r' => ?_, fun _ _ _ _ g => g.elim, fun _ _ _ _ g => g.elim⟩
    · exact g .non G' H' ⟨S'.hk.keep, S'.hk.box, S'.hk.g0, S'.hk.sub, S'.hk.new, S'.hk.fz⟩ .non
    · exact g v G' H' ⟨hk.keep, hk.box, hk.g0, hk.sub, hk.new, hk.fz⟩ r'
theorem Gw.up {b : Bx} {G H G' H' : Hp} (w : Gw bx0 G H G' H') (i : b.I H) (fz : ∀ a, b.B a → G a = none) : Gw b G H G' H' := by
  have s : Same H H' := fun a o h => w.keep a o (fun z => z) h
  refine ⟨Same.b s, Bx.same i s, w.g, w.sub, w.new, fun a ha => ?_⟩
  cases q : G' a with
  | none => rfl
  | some o =>
    rcases w.new a o q with h | h
    · rw [fz a ha] at h; cases h
    · exact absurd h (b.al H a i ha)

section
variable {X : Cx} {e : Bs} {a c : Expr} {es : List Expr} {ta tb tc : TD} {t : TDA} {pos p : Pos} {k : Nat} {f : Addr} {fd : FuncData} {ps : List Str} {R : RP} {x : Str} {dvs : List V} {dvl : List Value} {dd : List D} {CX : CXT} {E : XK}
def dCall (R : RP) (dd : List D) (t : TDA) : TD := fun δ Q => t δ fun ds => R (ds ++ dd) Q
theorem lift_call {b : Bx} (hb : b = bx0 ∨ b = e.b) (mR : MoR R) (ha : DA_ X e es t) (hdd : ∀ G, RpA X.K G dvs dd) {σ : St} {H : Hp} {Q : VK} (h : lE X.K e (dCall R dd t) σ H Q) : tCall (spD X.K b R) dvs E (lA X.K e t) σ H Q := by
  obtain ⟨G, δ, S, h⟩ := h
  refine ⟨G, δ, S, ha.mono _ _ _ (fun ds h vs G1 H1 S1 w1 r1 => ?_) h⟩
  rcases hb with rfl | rfl
  · refine ⟨G1, ds ++ dd, S1.hk.sub, fun _ z => z.elim, trivial, r1.append (hdd G1), mR _ _ _ (fun d h v G' H' w' r' => ?_) h⟩
    have w2 := w'.up S1.hk.box S1.hk.fz
    exact h v G' H' (S1.grow w2) (w1.trans w2) r'
  · exact ⟨G1, ds ++ dd, S1.hk.sub, S1.hk.fz, S1.hk.box, r1.append (hdd G1), mR _ _ _ (fun d h v G' H' w' r' => h v G' H' (S1.grow w') (w1.trans w') r') h⟩
/-- f(a, ..), a def of the module; dd: the defaults that fill up -/
theorem de_call {b : Bx} (hb : b = bx0 ∨ b = e.b) (mR : MoR R) (F : FnOk X.prog X.w X.K X.mg X.base CX k f fd ps (spD X.K b R)) (hr : Room k X.A) (hm : X.mg x = some (.ref f)) (hk : PySem.W.keepIn X.K (.ref f) = true) (hbi : Binds X.K fd ps dvl) (hd : Vals dvs dvl) (hdd : ∀ G, RpA X.K G dvs dd) (hx : Passes CX X E)
    (ha : DA_ X e (a :: es) t) (hg : Gl X x := by rfl) (hdb : (x == ("__debug__" : Str)) = false := by decide) (he : starEach (a :: es) X.env = (false, eval a X.env) :: starEach es X.env := by rfl) (hpl : (backTo pos (starEach es X.env)).any (·.1) = false := by rfl) :
    DE_ X e (.Call (.Name x p) (a :: es) [] pos) (dCall R dd t) :=
  ⟨wkE (pe_call F hr hg hm hk hbi hd hx ha.run hdb he hpl) fun _ _ _ h => lift_call hb mR ha hdd h, fun δ Q Q' k h => ha.mono _ _ _ (fun ds h => mR _ _ _ k h) h⟩

/-! ### calls of built-ins by values -/
abbrev RDC := List D → (D → Prop) → Prop
structure LiftC (X : Cx) (e : Bs) (r : List V → Hp → VK → Prop) (rd : RDC) : Prop where
  run : ∀ (vs : List V) (ds : List D) (G H : Hp) (σ : St) (δ : DE) (Q : VK), SK X.K e G H σ δ → RpA X.K G vs ds → rd ds (fun z => ∀ v G' H', SK X.K e G' H' σ δ → Gw e.b G H G' H' → Rp X.K G' v z → Q v H') → r vs H Q
  mono : ∀ (ds : List D) (Q Q' : D → Prop), (∀ d, Q d → Q' d) → rd ds Q → rd ds Q'
def dCB (rd : RDC) (t : TDA) : TD := fun δ Q => t δ fun ds => rd ds Q
theorem lift_cb {r : List V → Hp → VK → Prop} {rd : RDC} (L : LiftC X e r rd) (ha : DA_ X e es t) {σ : St} {H : Hp} {Q : VK} (h : lE X.K e (dCB rd t) σ H Q) : tCB r (lA X.K e t) σ H Q := by
  obtain ⟨G, δ, S, h⟩ := h
  refine ⟨G, δ, S, ha.mono _ _ _ (fun ds h vs G1 H1 S1 w1 r1 => ?_) h⟩
  exact L.run vs ds G1 H1 σ δ Q S1 r1 (L.mono _ _ _ (fun z h v G' H' S' w' r' => h v G' H' S' (w1.trans w') r') h)
theorem dCB_mono {r : List V → Hp → VK → Prop} {rd : RDC} (L : LiftC X e r rd) (m : MoA t) : MoE (dCB rd t) := fun δ Q Q' k h => m _ _ _ (fun ds h => L.mono _ _ _ k h) h
theorem de_callB {id : String} {r : List V → Hp → VK → Prop} {rd : RDC} (L : LiftC X e r rd) (hc : CallR X (.builtin id) r) (hm : X.mg x = none) (hv : bootBuiltins x = some (.builtin id)) (ha : DA_ X e (a :: es) t) (hg : Gl X x := by rfl) (hn : x ≠ "__name__" := by decide) (hdb : (x == ("__debug__" : Str)) = false := by decide)
    (he : starEach (a :: es) X.env = (false, eval a X.env) :: starEach es X.env := by rfl) (hpl : (backTo pos (starEach es X.env)).any (·.1) = false := by rfl) : DE_ X e (.Call (.Name x p) (a :: es) [] pos) (dCB rd t) :=
  ⟨wkE (pe_callB hc hg hm hv ha.run hn hdb he hpl) fun _ _ _ h => lift_cb L ha h, dCB_mono L ha.mono⟩
theorem de_callTy {T : String} {r : List V → Hp → VK → Prop} {rd : RDC} (L : LiftC X e r rd) (hc : CallR X (.type T) r) (hm : X.mg x = none) (hv : bootBuiltins x = some (.type T)) (ha : DA_ X e (a :: es) t) (hg : Gl X x := by rfl) (hn : x ≠ "__name__" := by decide) (hdb : (x == ("__debug__" : Str)) = false := by decide)
    (he : starEach (a :: es) X.env = (false, eval a X.env) :: starEach es X.env := by rfl) (hpl : (backTo pos (starEach es X.env)).any (·.1) = false := by rfl) : DE_ X e (.Call (.Name x p) (a :: es) [] pos) (dCB rd t) :=
  ⟨wkE (pe_callTy hc hg hm hv ha.run hn hdb he hpl) fun _ _ _ h => lift_cb L ha h, dCB_mono L ha.mono⟩

/-! ### subscripts, slices -/
theorem de_ix {r : R2} {rd : RD2} (L : Lift2 X e r rd) (hr : IxR X r) (ha : DE_ X e a ta) (hb : DE_ X e c tb) (hs : PlainIx c := by exact fun _ _ => rfl) : DE_ X e (.Subscript a c pos) (dOp rd ta tb) :=
  ⟨wkE (pe_ix hr ha.run hb.run hs) fun _ _ _ h => lift_op L ha hb h, dOp_mono ha.mono hb.mono L.mono⟩
def dNoPart : TDO := fun _ Q => Q none
def dPart (t : TD) : TDO := fun δ Q => t δ fun x => ∃ i, x = .int i ∧ Q (some i)
theorem do_none : DO_ X e none dNoPart := ⟨wkO po_none fun σ H Q ⟨G, δ, S, h⟩ => h G H S S.hk.refl, fun _ _ _ k h => k _ h⟩
theorem do_some (ha : DE_ X e a ta) : DO_ X e (some a) (dPart ta) := by
  refine ⟨wkO (po_some ha.run) fun σ H Q ⟨G, δ, S, h⟩ => ?_, fun δ Q Q' k h => ha.mono _ _ _ (fun x ⟨i, h1, h⟩ => ⟨i, h1, k _ h⟩) h⟩
  refine ⟨G, δ, S, ha.mono _ _ _ (fun d ⟨i, h1, h⟩ v G1 H1 S1 w1 r1 => ?_) h⟩
  subst h1
  cases r1
  exact ⟨i, rfl, h G1 H1 S1 w1⟩
abbrev RDS := D → Option Int → Option Int → (D → Prop) → Prop
structure LiftS (X : Cx) (e : Bs) (r : V → Option Int → Option Int → Hp → VK → Prop) (rd : RDS) : Prop where
  run : ∀ (x : V) (d : D) (lo hi : Option Int) (G H : Hp) (σ : St) (δ : DE) (Q : VK), SK X.K e G H σ δ → Rp X.K G x d → rd d lo hi (fun z => ∀ v G' H', SK X.K e G' H' σ δ → Gw e.b G H G' H' → Rp X.K G' v z → Q v H') → r x lo hi H Q
  mono : ∀ (d : D) (lo hi : Option Int) (Q Q' : D → Prop), (∀ d, Q d → Q' d) → rd d lo hi Q → rd d lo hi Q'
def dSl (rd : RDS) (ta : TD) (tl th : TDO) : TD := fun δ Q => ta δ fun x => tl δ fun l => th δ fun u => rd x l u Q
theorem de_slice {r : V → Option Int → Option Int → Hp → VK → Prop} {rd : RDS} {lo hi : Option Expr} {tl th : TDO} {p2 : Pos} (L : LiftS X e r rd) (hr : SlR X r) (ha : DE_ X e a ta) (hl : DO_ X e lo tl) (hh : DO_ X e hi th) : DE_ X e (.Subscript a (.Slice lo hi none p2) pos) (dSl rd ta tl th) := by
  refine ⟨wkE (pe_slice hr ha.run hl.run hh.run) fun σ H Q ⟨G, δ, S, h⟩ => ?_, fun δ Q Q' k h => ha.mono _ _ _ (fun x h => hl.mono _ _ _ (fun l h => hh.mono _ _ _ (fun u h => L.mono _ _ _ _ _ k h) h) h) h⟩
  refine ⟨G, δ, S, ha.mono _ _ _ (fun d h v G1 H1 S1 w1 r1 => ?_) h⟩
  refine ⟨G1, δ, S1, hl.mono _ _ _ (fun l h G2 H2 S2 w2 => ?_) h⟩
  refine ⟨G2, δ, S2, hh.mono _ _ _ (fun u h G3 H3 S3 w3 => ?_) h⟩
  exact L.run v d l u G3 H3 σ δ Q S3 ((r1.mn w2.g).mn w3.g) (L.mono _ _ _ _ _ (fun z h v G' H' S' w' r' => h v G' H' S' (((w1.trans w2).trans w3).trans w') r') h)

/-! ### methods of texts -/
abbrev RDM := D → List D → (D → Prop) → Prop
structure LiftM (X : Cx) (e : Bs) (r : V → List V → Hp → VK → Prop) (rd : RDM) : Prop where
  run : ∀ (x : V) (d : D) (vs : List V) (ds : List D) (G H : Hp) (σ : St) (δ : DE) (Q : VK), SK X.K e G H σ δ → Rp X.K G x d → RpA X.K G vs ds → rd d ds (fun z => ∀ v G' H', SK X.K e G' H' σ δ → Gw e.b G H G' H' → Rp X.K G' v z → Q v H') → r x vs H Q
  mono : ∀ (d : D) (ds : List D) (Q Q' : D → Prop), (∀ d, Q d → Q' d) → rd d ds Q → rd d ds Q'
/-- s.m(a), s a text -/
def dM1 (rd : RDM) (ta tb : TD) : TD := fun δ Q => ta δ fun x => ∃ z, x = .str z ∧ tb δ fun y => rd x [y] Q
theorem de_m1 {id : String} {name : Str} {apos : Pos} {r : V → List V → Hp → VK → Prop} {rd : RDM} (L : LiftM X e r rd) (slot : PySem.Slot "str" name id) (ty : typeOf (.builtin id) = pure (.type "method_descriptor")) (rule : MtR X id r) (ha : DE_ X e a ta) (hc : DE_ X e c tc)
    (hs : starEach [c] X.env = [(false, eval c X.env)] := by rfl) (hbase : attributeBase a name X.env (eval a X.env) = eval a X.env := by rfl) (hline : (apos.endLine == pos.line) = true := by rfl) :
    DE_ X e (.Call (.Attribute a name apos) [c] [] pos) (dM1 rd ta tc) := by
  refine ⟨wkE (pe_m1 slot ty rule ha.run hc.run hs hbase hline) fun σ H Q ⟨G, δ, S, h⟩ => ?_, fun δ Q Q' k h => ha.mono _ _ _ (fun x ⟨z, h1, h⟩ => ⟨z, h1, hc.mono _ _ _ (fun y h => L.mono _ _ _ _ k h) h⟩) h⟩
  refine ⟨G, δ, S, ha.mono _ _ _ (fun d ⟨z, h1, h⟩ v G1 H1 S1 w1 r1 => ?_) h⟩
  subst h1
  cases r1
  refine ⟨⟨z, rfl⟩, G1, δ, S1, hc.mono _ _ _ (fun y h v2 G2 H2 S2 w2 r2 => ?_) h⟩
  exact L.run _ _ _ _ G2 H2 σ δ Q S2 (.str z) (RpA.one r2) (L.mono _ _ _ _ (fun z h v G' H' S' w' r' => h v G' H' S' ((w1.trans w2).trans w') r') h)
/-- s.m(a, ..), s a text -/
def dBM (rd : RDM) (ta : TD) (t : TDA) : TD := fun δ Q => ta δ fun x => ∃ z, x = .str z ∧ t δ fun ys => rd x ys Q
theorem de_bm {id : String} {name : Str} {apos : Pos} {r : V → List V → Hp → VK → Prop} {rd : RDM} (L : LiftM X e r rd) (slot : PySem.Slot "str" name id) (ty : typeOf (.builtin id) = pure (.type "method_descriptor")) (rule : MtR X id r) (ha : DE_ X e a ta) (hc : DA_ X e (c :: es) t)
    (hbase : attributeBase a name X.env (eval a X.env) = eval a X.env := by rfl)
    (hfew : ((backTo pos (starEach (c :: es) X.env)).all (fun x => !x.1) && (backToKw pos (keywordEach [] X.env)).all (fun x => x.1.isSome)
      && decide ((c :: es).length + ([] : List Keyword).length + (if ([] : List Keyword).isEmpty then 0 else 1) < 30)) = true := by rfl)
    (hline : (apos.endLine == pos.line) = true := by rfl) (hs : starEach (c :: es) X.env = (false, eval c X.env) :: starEach es X.env := by rfl) (hplain : (backTo pos (starEach es X.env)).any (·.1) = false := by rfl) :
    DE_ X e (.Call (.Attribute a name apos) (c :: es) [] pos) (dBM rd ta t) := by
  refine ⟨wkE (pe_bm PySem.F.plainAttrs_str slot ty rule ha.run hc.run hbase hfew hline hs hplain) fun σ H Q ⟨G, δ, S, h⟩ => ?_, fun δ Q Q' k h => ha.mono _ _ _ (fun x ⟨z, h1, h⟩ => ⟨z, h1, hc.mono _ _ _ (fun y h => L.mono _ _ _ _ k h) h⟩) h⟩
  refine ⟨G, δ, S, ha.mono _ _ _ (fun d ⟨z, h1, h⟩ v G1 H1 S1 w1 r1 => ?_) h⟩
  subst h1
  cases r1
  refine ⟨rfl, G1, δ, S1, hc.mono _ _ _ (fun ys h vs G2 H2 S2 w2 r2 => ?_) h⟩
  exact L.run _ _ _ _ G2 H2 σ δ Q S2 (.str z) r2 (L.mono _ _ _ _ (fun z h v G' H' S' w' r' => h v G' H' S' ((w1.trans w2).trans w') r') h)
end
end Dn
/-! Operators, built-ins, methods: what they do with data. -/
namespace Dn
open PySem L2
section
variable {X : Cx} {e : Bs}

/-! ### ints -/
def rdI (C : Int → Int → Prop) (g : Int → Int → D) : RD2 := fun x y Q => ∃ i j, x = .int i ∧ y = .int j ∧ C i j ∧ Q (g i j)
def rdI0 (g : Int → Int → D) : RD2 := fun x y Q => ∃ i j, x = .int i ∧ y = .int j ∧ Q (g i j)
theorem L_I {C : Int → Int → Prop} {g : Int → Int → V} {gd : Int → Int → D} (h : ∀ i j G, Rp X.K G (g i j) (gd i j)) : Lift2 X e (rI C g) (rdI C gd) := by
  refine ⟨fun x y d f G H σ δ Q S r1 r2 ⟨i, j, h1, h2, c, q⟩ => ?_, fun d f Q Q' k ⟨i, j, h1, h2, c, q⟩ => ⟨i, j, h1, h2, c, k _ q⟩⟩
  subst h1 h2
  cases r1
  cases r2
  exact ⟨i, j, rfl, rfl, c, q _ G H S S.hk.refl (h i j G)⟩
theorem L_I0 {g : Int → Int → V} {gd : Int → Int → D} (h : ∀ i j G, Rp X.K G (g i j) (gd i j)) : Lift2 X e (rI0 g) (rdI0 gd) := by
  refine ⟨fun x y d f G H σ δ Q S r1 r2 ⟨i, j, h1, h2, q⟩ => ?_, fun d f Q Q' k ⟨i, j, h1, h2, q⟩ => ⟨i, j, h1, h2, k _ q⟩⟩
  subst h1 h2
  cases r1
  cases r2
  exact ⟨i, j, rfl, rfl, q _ G H S S.hk.refl (h i j G)⟩
abbrev dAdd : RD2 := rdI0 fun i j => .int (i + j)
abbrev dSub : RD2 := rdI0 fun i j => .int (i - j)
abbrev dLt : RD2 := rdI0 fun i j => .bl (decide (i < j))
abbrev dLe : RD2 := rdI0 fun i j => .bl (decide (i ≤ j))
abbrev dGt : RD2 := rdI0 fun i j => .bl (decide (j < i))
abbrev dGe : RD2 := rdI0 fun i j => .bl (decide (j ≤ i))
theorem L_add : Lift2 X e (rI0 fun i j => .int (i + j)) dAdd := L_I0 fun _ _ _ => .int _
theorem L_sub : Lift2 X e (rI0 fun i j => .int (i - j)) dSub := L_I0 fun _ _ _ => .int _
theorem L_lt : Lift2 X e (rI0 fun i j => .bl (decide (i < j))) dLt := L_I0 fun _ _ _ => .bl _
theorem L_le : Lift2 X e (rI0 fun i j => .bl (decide (i ≤ j))) dLe := L_I0 fun _ _ _ => .bl _
theorem L_gt : Lift2 X e (rI0 fun i j => .bl (decide (j < i))) dGt := L_I0 fun _ _ _ => .bl _
theorem L_ge : Lift2 X e (rI0 fun i j => .bl (decide (j ≤ i))) dGe := L_I0 fun _ _ _ => .bl _
def rd1I (g : Int → D) : RD1 := fun x Q => ∃ i, x = .int i ∧ Q (g i)
theorem L_neg : Lift1 X e (rU fun i => .int (-i)) (rd1I fun i => .int (-i)) := by
  refine ⟨fun x d G H σ δ Q S r1 ⟨i, h1, q⟩ => ?_, fun d Q Q' k ⟨i, h1, q⟩ => ⟨i, h1, k _ q⟩⟩
  subst h1
  cases r1
  exact ⟨i, rfl, q _ G H S S.hk.refl (.int _)⟩

/-! ### texts, tuples, lists put together -/
def rdAddS : RD2 := fun x y Q => ∃ i j, x = .str i ∧ y = .str j ∧ i.length + j.length ≤ sizeLine ∧ Q (.str (i ++ j))
theorem L_addS : Lift2 X e (fun x y H Q => ∃ i j, x = .str i ∧ y = .str j ∧ i.length + j.length ≤ sizeLine ∧ Q (.str (i ++ j)) H) rdAddS := by
  refine ⟨fun x y d f G H σ δ Q S r1 r2 ⟨i, j, h1, h2, c, q⟩ => ?_, fun d f Q Q' k ⟨i, j, h1, h2, c, q⟩ => ⟨i, j, h1, h2, c, k _ q⟩⟩
  subst h1 h2
  cases r1
  cases r2
  exact ⟨i, j, rfl, rfl, c, q _ G H S S.hk.refl (.str _)⟩
def rdCatT : RD2 := fun x y Q => ∃ a b, x = .tup a ∧ y = .tup b ∧ a.length + b.length ≤ sizeLine ∧ Q (.tup (a ++ b))
theorem L_catT : Lift2 X e (rCatA X.K) rdCatT := by
  refine ⟨fun x y d f G H σ δ Q S r1 r2 ⟨a, b, h1, h2, c, q⟩ => ?_, fun d f Q Q' k ⟨i, j, h1, h2, c, q⟩ => ⟨i, j, h1, h2, c, k _ q⟩⟩
  subst h1 h2
  cases r1 with
  | @tup p xs _ s1 t1 =>
    cases r2 with
    | @tup p2 ys _ s2 t2 =>
      have l1 := t1.length
      have l2 := t2.length
      refine ⟨p, p2, xs, ys, rfl, rfl, same_t S.hk.sub s1, same_t S.hk.sub s2, by omega, fun z => ?_, fun z1 z2 => ?_, fun z1 z2 l hl => ?_⟩
      · subst z
        cases t1
        exact q _ G H S S.hk.refl (.tup s2 t2)
      · subst z2
        cases t2
        rw [List.append_nil] at q
        exact q _ G H S S.hk.refl (.tup s1 t1)
      · have w := S.hk.laid (o := .tup (xs ++ ys)) hl
        exact q _ _ _ (S.grow w) w (.tup (.inl (.inl upd_same)) ((t1.append t2).mn w.g))
def rdCatL : RD2 := fun x y Q => ∃ a b, x = .lst a ∧ y = .lst b ∧ a.length + b.length ≤ sizeLine ∧ Q (.lst (a ++ b))
theorem L_catL : Lift2 X e rCat rdCatL := by
  refine ⟨fun x y d f G H σ δ Q S r1 r2 ⟨a, b, h1, h2, c, q⟩ => ?_, fun d f Q Q' k ⟨i, j, h1, h2, c, q⟩ => ⟨i, j, h1, h2, c, k _ q⟩⟩
  subst h1 h2
  cases r1 with
  | @lst p xs _ s1 t1 =>
    cases r2 with
    | @lst p2 ys _ s2 t2 =>
      have l1 := t1.length
      have l2 := t2.length
      refine ⟨p, p2, xs, ys, rfl, rfl, S.hk.sub _ _ s1, S.hk.sub _ _ s2, by omega, fun l hl => ?_⟩
      have w := S.hk.laid (o := .lst (xs ++ ys)) hl
      exact q _ _ _ (S.grow w) w (.lst upd_same ((t1.append t2).mn w.g))

/-! ### flat data; in -/
def D.flat : D → Bool
  | .non => true | .bl _ => true | .int _ => true | .str _ => true | _ => false
def D.v : D → V
  | .bl b => .bl b | .int i => .int i | .str x => .str x | _ => .non
theorem Rp.flat {K : PySem.W.Frag} {G : Hp} {v : V} {d : D} (r : Rp K G v d) (f : d.flat = true) : v = d.v ∧ flatV v = true := by
  cases r with
  | non => exact ⟨rfl, rfl⟩
  | bl b => exact ⟨rfl, rfl⟩
  | int i => exact ⟨rfl, rfl⟩
  | str x => exact ⟨rfl, rfl⟩
  | lst _ _ => cases f
  | tup _ _ => cases f
  | raw _ => cases f
theorem RpA.flat {K : PySem.W.Frag} {G : Hp} : ∀ {vs : List V} {ds : List D}, RpA K G vs ds → ds.all D.flat = true → vs = ds.map D.v ∧ vs.all flatV = true
  | _, _, .nil, _ => ⟨rfl, rfl⟩
  | _, _, .cons r t, f => by
    rw [List.all_cons, Bool.and_eq_true] at f
    obtain ⟨h1, h2⟩ := r.flat f.1
    obtain ⟨h3, h4⟩ := RpA.flat t f.2
    exact ⟨by rw [h1, h3]; rfl, by rw [List.all_cons, h2, h4]; rfl⟩
def rdIn (neg : Bool) : RD2 := fun x y Q => ∃ ds, y.seq = some ds ∧ x.flat = true ∧ ds.all D.flat = true ∧ Q (.bl (if neg then !inV x.v (ds.map D.v) else inV x.v (ds.map D.v)))
theorem Rp.seqs {K : PySem.W.Frag} {G : Hp} {v : V} {d : D} {ds : List D} (r : Rp K G v d) (h : d.seq = some ds) : ∃ p xs, v = .ref p ∧ (SqL K G p xs ∨ SqT K G p xs) ∧ RpA K G xs ds := by
  cases r with
  | @lst p xs _ s t => cases h; exact ⟨p, xs, rfl, .inl (SqL.of s), t⟩
  | @tup p xs _ s t => cases h; exact ⟨p, xs, rfl, .inr s, t⟩
  | _ => cases h
theorem sq_up {K : PySem.W.Frag} {G H : Hp} {p : Addr} {xs : List V} (s : Same G H) (h : SqL K G p xs ∨ SqT K G p xs) : SqL K H p xs ∨ SqT K H p xs := by
  rcases h with h | h
  · exact .inl (s.seq h)
  · exact .inr (same_t s h)
theorem L_in (neg : Bool) : Lift2 X e (rIn X.K neg) (rdIn neg) := by
  refine ⟨fun x y d f G H σ δ Q S r1 r2 ⟨ds, h1, h2, h3, q⟩ => ?_, fun d f Q Q' k ⟨ds, h1, h2, h3, q⟩ => ⟨ds, h1, h2, h3, k _ q⟩⟩
  obtain ⟨p, xs, rfl, s, t⟩ := r2.seqs h1
  obtain ⟨e1, f1⟩ := r1.flat h2
  obtain ⟨e2, f2⟩ := t.flat h3
  refine ⟨p, xs, rfl, sq_up S.hk.sub s, f1, f2, ?_⟩
  rw [e1, e2]
  exact q _ G H S S.hk.refl (.bl _)
/-- a sign in a text -/
def rdSign (neg : Bool) : RD2 := fun x y Q => ∃ (c : Nat) (z : Str), x = .str ⟨#[c]⟩ ∧ y = .str z ∧ Q (.bl (if neg then !decide (c ∈ z.cps.toList) else decide (c ∈ z.cps.toList)))
theorem L_sign : Lift2 X e (fun x y H Q => ∃ (c : Nat) (z : Str), x = .str ⟨#[c]⟩ ∧ y = .str z ∧ Q (.bl (decide (c ∈ z.cps.toList))) H) (rdSign false) := by
  refine ⟨fun x y d f G H σ δ Q S r1 r2 ⟨c, z, h1, h2, q⟩ => ?_, fun d f Q Q' k ⟨c, z, h1, h2, q⟩ => ⟨c, z, h1, h2, k _ q⟩⟩
  subst h1 h2
  cases r1
  cases r2
  exact ⟨c, z, rfl, rfl, q _ G H S S.hk.refl (.bl _)⟩
theorem L_nsign : Lift2 X e (fun x y H Q => ∃ (c : Nat) (z : Str), x = .str ⟨#[c]⟩ ∧ y = .str z ∧ Q (.bl (!decide (c ∈ z.cps.toList))) H) (rdSign true) := by
  refine ⟨fun x y d f G H σ δ Q S r1 r2 ⟨c, z, h1, h2, q⟩ => ?_, fun d f Q Q' k ⟨c, z, h1, h2, q⟩ => ⟨c, z, h1, h2, k _ q⟩⟩
  subst h1 h2
  cases r1
  cases r2
  exact ⟨c, z, rfl, rfl, q _ G H S S.hk.refl (.bl _)⟩

/-! ### ==, is -/
def rdEq (neg : Bool) : RD2 := fun x y Q => x.pl = true ∧ y.pl = true ∧ SeqAt.shaped x.py = true ∧ SeqAt.shaped y.py = true ∧ Q (.bl (if neg then !PyData.eqv x.py y.py else PyData.eqv x.py y.py))
theorem L_eq : Lift2 X e (rEqD X.K) (rdEq false) := by
  refine ⟨fun x y d f G H σ δ Q S r1 r2 ⟨h1, h2, h3, h4, q⟩ => ?_, fun d f Q Q' k ⟨h1, h2, h3, h4, q⟩ => ⟨h1, h2, h3, h4, k _ q⟩⟩
  exact ⟨_, _, Rp.dp S.hk.sub _ _ h1 r1, Rp.dp S.hk.sub _ _ h2 r2, h3, h4, q _ G H S S.hk.refl (.bl _)⟩
theorem L_ne : Lift2 X e (rNeD X.K) (rdEq true) := by
  refine ⟨fun x y d f G H σ δ Q S r1 r2 ⟨h1, h2, h3, h4, q⟩ => ?_, fun d f Q Q' k ⟨h1, h2, h3, h4, q⟩ => ⟨h1, h2, h3, h4, k _ q⟩⟩
  exact ⟨_, _, Rp.dp S.hk.sub _ _ h1 r1, Rp.dp S.hk.sub _ _ h2 r2, h3, h4, q _ G H S S.hk.refl (.bl _)⟩
/-- == of scalars -/
def rdEqS (neg : Bool) : RD2 := fun x y Q => x.flat = true ∧ y.flat = true ∧ scal x.v y.v = true ∧ Q (.bl (if neg then !decide (x.v = y.v) else decide (x.v = y.v)))
theorem L_eqS : Lift2 X e rEq (rdEqS false) := by
  refine ⟨fun x y d f G H σ δ Q S r1 r2 ⟨h1, h2, h3, q⟩ => ?_, fun d f Q Q' k ⟨h1, h2, h3, q⟩ => ⟨h1, h2, h3, k _ q⟩⟩
  obtain ⟨rfl, _⟩ := r1.flat h1
  obtain ⟨rfl, _⟩ := r2.flat h2
  exact ⟨h3, q _ G H S S.hk.refl (.bl _)⟩
theorem L_neS : Lift2 X e rNe (rdEqS true) := by
  refine ⟨fun x y d f G H σ δ Q S r1 r2 ⟨h1, h2, h3, q⟩ => ?_, fun d f Q Q' k ⟨h1, h2, h3, q⟩ => ⟨h1, h2, h3, k _ q⟩⟩
  obtain ⟨rfl, _⟩ := r1.flat h1
  obtain ⟨rfl, _⟩ := r2.flat h2
  exact ⟨h3, q _ G H S S.hk.refl (.bl _)⟩
def D.isNon : D → Bool | .non => true | _ => false
def D.isRaw : D → Bool | .raw _ => true | _ => false
theorem Rp.isNon {K : PySem.W.Frag} {G : Hp} {v : V} {d : D} (r : Rp K G v d) (n : d.isRaw = false) : decide (v = .non) = d.isNon := by
  cases r with
  | non => rfl
  | raw _ => cases n
  | _ => exact decide_eq_false fun z => nomatch z
def rdIsN (neg : Bool) : RD2 := fun x y Q => y = .non ∧ x.isRaw = false ∧ Q (.bl (if neg then !x.isNon else x.isNon))
theorem L_isN : Lift2 X e (fun x y H Q => y = .non ∧ Q (.bl (decide (x = .non))) H) (rdIsN false) := by
  refine ⟨fun x y d f G H σ δ Q S r1 r2 ⟨h1, h2, q⟩ => ?_, fun d f Q Q' k ⟨h1, h2, q⟩ => ⟨h1, h2, k _ q⟩⟩
  subst h1
  cases r2
  rw [r1.isNon h2]
  exact ⟨rfl, q _ G H S S.hk.refl (.bl _)⟩
theorem L_notN : Lift2 X e (fun x y H Q => y = .non ∧ Q (.bl (!decide (x = .non))) H) (rdIsN true) := by
  refine ⟨fun x y d f G H σ δ Q S r1 r2 ⟨h1, h2, q⟩ => ?_, fun d f Q Q' k ⟨h1, h2, q⟩ => ⟨h1, h2, k _ q⟩⟩
  subst h1
  cases r2
  rw [r1.isNon h2]
  exact ⟨rfl, q _ G H S S.hk.refl (.bl _)⟩
def rdIsB (neg : Bool) : RD2 := fun x y Q => ∃ a b : Bool, x = .bl a ∧ y = .bl b ∧ Q (.bl (if neg then !decide (a = b) else decide (a = b)))
theorem L_isB : Lift2 X e rIsB (rdIsB false) := by
  refine ⟨fun x y d f G H σ δ Q S r1 r2 ⟨a, b, h1, h2, q⟩ => ?_, fun d f Q Q' k ⟨a, b, h1, h2, q⟩ => ⟨a, b, h1, h2, k _ q⟩⟩
  subst h1 h2
  cases r1
  cases r2
  exact ⟨a, b, rfl, rfl, q _ G H S S.hk.refl (.bl _)⟩
theorem L_notB : Lift2 X e rNotB (rdIsB true) := by
  refine ⟨fun x y d f G H σ δ Q S r1 r2 ⟨a, b, h1, h2, q⟩ => ?_, fun d f Q Q' k ⟨a, b, h1, h2, q⟩ => ⟨a, b, h1, h2, k _ q⟩⟩
  subst h1 h2
  cases r1
  cases r2
  exact ⟨a, b, rfl, rfl, q _ G H S S.hk.refl (.bl _)⟩

/-! ### subscripts, slices -/
def D.at (d : D) (i : Int) : Option D := match d with
  | .lst ds => atI ds i
  | .tup ds => atI ds i
  | .str z => (atI z.cps.toList i).map fun c => .str ⟨#[c]⟩
  | _ => none
def D.fits : D → Prop | .str z => z.length ≤ sizeLine | _ => True
theorem atI_get {K : PySem.W.Frag} {G : Hp} {xs : List V} {ds : List D} {i : Int} {d : D} (r : RpA K G xs ds) (h : atI ds i = some d) : ∃ v, atI xs i = some v ∧ Rp K G v d := by
  unfold atI at h ⊢
  rw [r.length]
  cases q : ixN ds.length i with
  | none => rw [q] at h; cases h
  | some j =>
    rw [q] at h
    exact r.get h
def rdIx : RD2 := fun x y Q => ∃ i d, y = .int i ∧ x.at i = some d ∧ x.fits ∧ Q d
theorem L_ix : Lift2 X e (rIx X.K) rdIx := by
  refine ⟨fun x y d f G H σ δ Q S r1 r2 ⟨i, z, h1, h2, h3, q⟩ => ?_, fun d f Q Q' k ⟨i, z, h1, h2, h3, q⟩ => ⟨i, z, h1, h2, h3, k _ q⟩⟩
  subst h1
  cases r2
  cases r1 with
  | @lst p xs ds s t =>
    obtain ⟨v, e1, e2⟩ := atI_get t h2
    exact .inl ⟨p, xs, i, v, rfl, rfl, SqL.of (S.hk.sub _ _ s), e1, q v G H S S.hk.refl e2⟩
  | @tup p xs ds s t =>
    obtain ⟨v, e1, e2⟩ := atI_get t h2
    exact .inr (.inl ⟨p, xs, i, v, rfl, rfl, same_t S.hk.sub s, e1, q v G H S S.hk.refl e2⟩)
  | str w =>
    have h2' : (atI w.cps.toList i).map (fun c => D.str ⟨#[c]⟩) = some z := h2
    cases q1 : atI w.cps.toList i with
    | none => rw [q1] at h2'; cases h2'
    | some c =>
      rw [q1] at h2'
      cases h2'
      exact .inr (.inr ⟨w, i, c, rfl, rfl, h3, q1, q _ G H S S.hk.refl (.str _)⟩)
  | _ => cases h2
/-- the items of ds[lo:hi] -/
def cutD (xs : List D) (lo hi : Option Int) : List D := (xs.drop (HT.sIx xs.length 0 lo)).take (HT.sIx xs.length xs.length hi - HT.sIx xs.length 0 lo)
theorem cut_rp {K : PySem.W.Frag} {G : Hp} {xs : List V} {ds : List D} (r : RpA K G xs ds) (lo hi : Option Int) : RpA K G (cutV xs lo hi) (cutD ds lo hi) := by
  unfold cutV cutD
  rw [r.length]
  exact (r.drop _).take _
def rdSlS : RDS := fun x lo hi Q => ∃ z, x = .str z ∧ z.length ≤ sizeLine ∧ Q (.str (cutS z lo hi))
theorem L_slS : LiftS X e rSlS rdSlS := by
  refine ⟨fun x d lo hi G H σ δ Q S r1 ⟨z, h1, h2, q⟩ => ?_, fun d lo hi Q Q' k ⟨z, h1, h2, q⟩ => ⟨z, h1, h2, k _ q⟩⟩
  subst h1
  cases r1
  exact ⟨z, rfl, h2, q _ G H S S.hk.refl (.str _)⟩
def rdSlT : RDS := fun x lo hi Q => ∃ ds, x = .tup ds ∧ Q (.tup (cutD ds lo hi))
theorem cutD_all {ds : List D} {lo hi : Option Int} (h : HT.sIx ds.length 0 lo = 0 ∧ HT.sIx ds.length ds.length hi = ds.length) : cutD ds lo hi = ds := by
  unfold cutD
  rw [h.1, h.2, List.drop_zero, Nat.sub_zero, List.take_length]
theorem L_slT : LiftS X e (rSlA X.K) rdSlT := by
  refine ⟨fun x d lo hi G H σ δ Q S r1 ⟨ds, h1, q⟩ => ?_, fun d lo hi Q Q' k ⟨z, h1, q⟩ => ⟨z, h1, k _ q⟩⟩
  subst h1
  cases r1 with
  | @tup p xs _ s t =>
    refine ⟨p, xs, rfl, same_t S.hk.sub s, fun hw => ?_, fun hw l hl => ?_⟩
    · rw [t.length] at hw
      rw [cutD_all hw] at q
      exact q _ G H S S.hk.refl (.tup s t)
    · have w := S.hk.laid (o := .tup (cutV xs lo hi)) hl
      exact q _ _ _ (S.grow w) w (.tup (.inl (.inl upd_same)) ((cut_rp t lo hi).mn w.g))
def rdSlL : RDS := fun x lo hi Q => ∃ ds, x = .lst ds ∧ Q (.lst (cutD ds lo hi))
theorem L_slL : LiftS X e (rSlL X.K) rdSlL := by
  refine ⟨fun x d lo hi G H σ δ Q S r1 ⟨ds, h1, q⟩ => ?_, fun d lo hi Q Q' k ⟨z, h1, q⟩ => ⟨z, h1, k _ q⟩⟩
  subst h1
  cases r1 with
  | @lst p xs _ s t =>
    refine ⟨p, xs, rfl, SqL.of (S.hk.sub _ _ s), fun l hl => ?_⟩
    have w := S.hk.laid (o := .lst (cutV xs lo hi)) hl
    exact q _ _ _ (S.grow w) w (.lst upd_same ((cut_rp t lo hi).mn w.g))

/-! ### built-ins -/
def D.len : D → Option Nat
  | .str z => some z.length | .lst ds => some ds.length | .tup ds => some ds.length | _ => none
def rdLen : RDC := fun xs Q => ∃ x n, xs = [x] ∧ x.len = some n ∧ x.fits ∧ Q (.int n)
theorem L_len : LiftC X e (fun xs H Q => ∃ x n, xs = [x] ∧ LenV X.K x H n ∧ Q (.int n) H) rdLen := by
  refine ⟨fun vs ds G H σ δ Q S r ⟨x, n, h1, h2, h3, q⟩ => ?_, fun ds Q Q' k ⟨x, n, h1, h2, h3, q⟩ => ⟨x, n, h1, h2, h3, k _ q⟩⟩
  subst h1
  cases r with
  | cons r1 r2 =>
    cases r2
    refine ⟨_, n, rfl, ?_, q _ G H S S.hk.refl (.int _)⟩
    cases r1 with
    | str z => cases h2; exact ⟨h3, rfl⟩
    | lst s t => cases h2; exact .inl ⟨_, SqL.of (S.hk.sub _ _ s), t.length.symm⟩
    | tup s t => cases h2; exact .inr ⟨_, same_t S.hk.sub s, t.length.symm⟩
    | _ => cases h2
def rdAll (f : List Bool → Bool) : RDC := fun xs Q => ∃ bs : List Bool, xs = [.lst (bs.map .bl)] ∧ Q (.bl (f bs))
theorem L_all : LiftC X e (rAll X.K) (rdAll fun bs => bs.all id) := by
  refine ⟨fun vs ds G H σ δ Q S r ⟨bs, h1, q⟩ => ?_, fun ds Q Q' k ⟨x, h1, q⟩ => ⟨x, h1, k _ q⟩⟩
  subst h1
  cases r with
  | cons r1 r2 =>
    cases r2
    cases r1 with
    | @lst p xs _ s t =>
      have z := RpA.bls_eq _ t
      subst z
      exact ⟨p, bs, rfl, SqL.of (S.hk.sub _ _ s), q _ G H S S.hk.refl (.bl _)⟩
theorem L_any : LiftC X e (rAny X.K) (rdAll fun bs => bs.any id) := by
  refine ⟨fun vs ds G H σ δ Q S r ⟨bs, h1, q⟩ => ?_, fun ds Q Q' k ⟨x, h1, q⟩ => ⟨x, h1, k _ q⟩⟩
  subst h1
  cases r with
  | cons r1 r2 =>
    cases r2
    cases r1 with
    | @lst p xs _ s t =>
      have z := RpA.bls_eq _ t
      subst z
      exact ⟨p, bs, rfl, SqL.of (S.hk.sub _ _ s), q _ G H S S.hk.refl (.bl _)⟩
def rdTuple : RDC := fun xs Q => ∃ x ds, xs = [x] ∧ x.seq = some ds ∧ Q (.tup ds)
theorem L_tuple : LiftC X e (fun xs H Q => ∃ p ys, xs = [.ref p] ∧ ((SqL X.K H p ys ∧ ∀ l, H l = none → Q (.ref l) (upd H l (.tup ys))) ∨ (SqT X.K H p ys ∧ Q (.ref p) H))) rdTuple := by
  refine ⟨fun vs ds G H σ δ Q S r ⟨x, xs, h1, h2, q⟩ => ?_, fun ds Q Q' k ⟨x, xs, h1, h2, q⟩ => ⟨x, xs, h1, h2, k _ q⟩⟩
  subst h1
  cases r with
  | cons r1 r2 =>
    cases r2
    cases r1 with
    | @lst p ys _ s t =>
      cases h2
      refine ⟨p, ys, rfl, .inl ⟨SqL.of (S.hk.sub _ _ s), fun l hl => ?_⟩⟩
      have w := S.hk.laid (o := .tup ys) hl
      exact q _ _ _ (S.grow w) w (.tup (.inl (.inl upd_same)) (t.mn w.g))
    | @tup p ys _ s t =>
      cases h2
      exact ⟨p, ys, rfl, .inr ⟨same_t S.hk.sub s, q _ G H S S.hk.refl (.tup s t)⟩⟩
    | _ => cases h2
def rdList : RDC := fun xs Q => ∃ x ds, xs = [x] ∧ x.seq = some ds ∧ Q (.lst ds)
theorem L_list : LiftC X e (fun xs H Q => ∃ p ys, xs = [.ref p] ∧ (SqL X.K H p ys ∨ SqT X.K H p ys) ∧ ∀ l, H l = none → Q (.ref l) (upd H l (.lst ys))) rdList := by
  refine ⟨fun vs ds G H σ δ Q S r ⟨x, xs, h1, h2, q⟩ => ?_, fun ds Q Q' k ⟨x, xs, h1, h2, q⟩ => ⟨x, xs, h1, h2, k _ q⟩⟩
  subst h1
  cases r with
  | cons r1 r2 =>
    cases r2
    obtain ⟨p, ys, rfl, s, t⟩ := r1.seqs h2
    refine ⟨p, ys, rfl, sq_up S.hk.sub s, fun l hl => ?_⟩
    have w := S.hk.laid (o := .lst ys) hl
    exact q _ _ _ (S.grow w) w (.lst upd_same (t.mn w.g))
def rdC1 (C : Int → Prop) (g : Int → D) : RDC := fun xs Q => ∃ i, xs = [.int i] ∧ C i ∧ Q (g i)
theorem L_abs : LiftC X e (fun xs H Q => ∃ i, xs = [.int i] ∧ Q (.int (if i < 0 then -i else i)) H) (rdC1 (fun _ => True) fun i => .int (if i < 0 then -i else i)) := by
  refine ⟨fun vs ds G H σ δ Q S r ⟨i, h1, h2, q⟩ => ?_, fun ds Q Q' k ⟨i, h1, h2, q⟩ => ⟨i, h1, h2, k _ q⟩⟩
  subst h1
  cases r with
  | cons r1 r2 =>
    cases r2
    cases r1
    exact ⟨i, rfl, q _ G H S S.hk.refl (.int _)⟩
theorem L_int : LiftC X e (fun xs H Q => (∃ i, xs = [.int i] ∧ Q (.int i) H) ∨ ∃ k, xs = [.bl k] ∧ Q (.int (if k then 1 else 0)) H) (rdC1 (fun _ => True) fun i => .int i) := by
  refine ⟨fun vs ds G H σ δ Q S r ⟨i, h1, h2, q⟩ => ?_, fun ds Q Q' k ⟨i, h1, h2, q⟩ => ⟨i, h1, h2, k _ q⟩⟩
  subst h1
  cases r with
  | cons r1 r2 =>
    cases r2
    cases r1
    exact .inl ⟨i, rfl, q _ G H S S.hk.refl (.int _)⟩
theorem L_strI : LiftC X e (fun xs H Q => ∃ i, xs = [.int i] ∧ i.natAbs.log2 < 1920 ∧ Q (.str (toString i)) H) (rdC1 (fun i => i.natAbs.log2 < 1920) fun i => .str (toString i)) := by
  refine ⟨fun vs ds G H σ δ Q S r ⟨i, h1, h2, q⟩ => ?_, fun ds Q Q' k ⟨i, h1, h2, q⟩ => ⟨i, h1, h2, k _ q⟩⟩
  subst h1
  cases r with
  | cons r1 r2 =>
    cases r2
    cases r1
    exact ⟨i, rfl, h2, q _ G H S S.hk.refl (.str _)⟩
def rdIntS : RDC := fun xs Q => ∃ a n, xs = [.str a] ∧ PySem.intText? a = some n ∧ a.length ≤ 640 ∧ Q (.int n)
theorem L_intS : LiftC X e (fun xs H Q => ∃ a n, xs = [.str a] ∧ PySem.intText? a = some n ∧ a.length ≤ 640 ∧ Q (.int n) H) rdIntS := by
  refine ⟨fun vs ds G H σ δ Q S r ⟨a, n, h1, h2, h3, q⟩ => ?_, fun ds Q Q' k ⟨a, n, h1, h2, h3, q⟩ => ⟨a, n, h1, h2, h3, k _ q⟩⟩
  subst h1
  cases r with
  | cons r1 r2 =>
    cases r2
    cases r1
    exact ⟨a, n, rfl, h2, h3, q _ G H S S.hk.refl (.int _)⟩
def rdC2 (g : Int → Int → D) : RDC := fun xs Q => ∃ i j, xs = [.int i, .int j] ∧ Q (g i j)
theorem L_max : LiftC X e (fun xs H Q => ∃ i j, xs = [.int i, .int j] ∧ Q (.int (if j > i then j else i)) H) (rdC2 fun i j => .int (if j > i then j else i)) := by
  refine ⟨fun vs ds G H σ δ Q S r ⟨i, j, h1, q⟩ => ?_, fun ds Q Q' k ⟨i, j, h1, q⟩ => ⟨i, j, h1, k _ q⟩⟩
  subst h1
  cases r with
  | cons r1 r2 =>
    cases r2 with
    | cons r2 r3 =>
      cases r3
      cases r1
      cases r2
      exact ⟨i, j, rfl, q _ G H S S.hk.refl (.int _)⟩
theorem L_min : LiftC X e (fun xs H Q => ∃ i j, xs = [.int i, .int j] ∧ Q (.int (if j < i then j else i)) H) (rdC2 fun i j => .int (if j < i then j else i)) := by
  refine ⟨fun vs ds G H σ δ Q S r ⟨i, j, h1, q⟩ => ?_, fun ds Q Q' k ⟨i, j, h1, q⟩ => ⟨i, j, h1, k _ q⟩⟩
  subst h1
  cases r with
  | cons r1 r2 =>
    cases r2 with
    | cons r2 r3 =>
      cases r3
      cases r1
      cases r2
      exact ⟨i, j, rfl, q _ G H S S.hk.refl (.int _)⟩
/-- the built-in class of data -/
def D.ty : D → Option String
  | .non => some "NoneType" | .bl _ => some "bool" | .int _ => some "int" | .str _ => some "str" | .lst _ => some "list" | .tup _ => some "tuple" | .raw _ => none
def rdIsi : RDC := fun xs Q => ∃ x T t b, xs = [x, .raw (.ty T)] ∧ x.ty = some t ∧ kitB t T = some b ∧ Q (.bl b)
theorem Rp.tyX {K : PySem.W.Frag} {G H : Hp} {v : V} {d : D} {t : String} (r : Rp K G v d) (s : Same G H) (h : d.ty = some t) : TyX K H v (.type t) := by
  cases r with
  | non => cases h; exact .base .non
  | bl b => cases h; exact .base (.bl b)
  | int i => cases h; exact .base (.int i)
  | str x => cases h; exact .base (.str x)
  | lst q _ => cases h; exact .base (.lst (s _ _ q))
  | tup q _ =>
    cases h
    rcases q with (q | ⟨o, q⟩) | ⟨o, its, n, q1, q2, _⟩
    · exact .base (.tup (s _ _ q))
    · exact .fTuple (s _ _ q)
    · exact .kTuple q1 q2
  | raw _ => cases h
theorem L_isi : LiftC X e (rIsi X.K) rdIsi := by
  refine ⟨fun vs ds G H σ δ Q S r ⟨x, T, t, b, h1, h2, h3, q⟩ => ?_, fun ds Q Q' k ⟨x, T, t, b, h1, h2, h3, q⟩ => ⟨x, T, t, b, h1, h2, h3, k _ q⟩⟩
  subst h1
  cases r with
  | cons r1 r2 =>
    cases r2 with
    | cons r2 r3 =>
      cases r3
      cases r2
      exact ⟨_, .ty T, .type t, .type T, b, rfl, .ty T, r1.tyX S.hk.sub h2, kit_ty h3, q _ G H S S.hk.refl (.bl _)⟩
/-- a built-in class's name as a value -/
theorem de_ty {x : Str} {T : String} {pos : Pos} (hm : X.mg x = none) (hv : bootBuiltins x = some (.type T)) (hg : Gl X x := by rfl) (hn : x ≠ "__name__" := by decide) (hd : (x == ("__debug__" : Str)) = false := by decide) : DE_ X e (.Name x pos) (dC (.raw (.ty T))) :=
  de_c (pe_bltn (v := .ty T) hg hm hv rfl hn hd) fun _ => .raw _

/-! ### texts -/
def rdSplit : RDM := fun x ds Q => ∃ a b, x = .str a ∧ ds = [.str b] ∧ (b.length == 0) = false ∧ a.length + 2 ≤ sizeLine ∧ Q (.lst ((Txt.split a b).map .str))
theorem L_split : LiftM X e (fun x xs H Q => ∃ a b, x = .str a ∧ xs = [.str b] ∧ (b.length == 0) = false ∧ a.length + 2 ≤ sizeLine ∧ rNewStrs (Txt.split a b) H Q) rdSplit := by
  refine ⟨fun x d vs ds G H σ δ Q S r1 r2 ⟨a, b, h1, h2, h3, h4, q⟩ => ?_, fun d ds Q Q' k ⟨a, b, h1, h2, h3, h4, q⟩ => ⟨a, b, h1, h2, h3, h4, k _ q⟩⟩
  subst h1 h2
  cases r1
  cases r2 with
  | cons r2 r3 =>
    cases r3
    cases r2
    refine ⟨a, b, rfl, rfl, h3, h4, fun l hl => ?_⟩
    have w := S.hk.laid (o := .lst ((Txt.split a b).map V.str)) hl
    exact q _ _ _ (S.grow w) w (.lst upd_same (RpA.strs _))
def rdJoin : RDM := fun x ds Q => ∃ a l, ∃ ys : List Str, x = .str a ∧ ds = [l] ∧ l.seq = some (ys.map .str) ∧ (ys.map (·.length)).sum + ys.length * a.length ≤ 16777216 ∧ Q (.str (Txt.join a ys))
theorem L_join : LiftM X e (fun x xs H Q => ∃ a p, ∃ ys : List Str, x = .str a ∧ xs = [.ref p] ∧ (SqL X.K H p (ys.map V.str) ∨ SqT X.K H p (ys.map V.str)) ∧ (ys.map (·.length)).sum + ys.length * a.length ≤ 16777216 ∧ Q (.str (Txt.join a ys)) H) rdJoin := by
  refine ⟨fun x d vs ds G H σ δ Q S r1 r2 ⟨a, l, ys, h1, h2, h3, h4, q⟩ => ?_, fun d ds Q Q' k ⟨a, l, ys, h1, h2, h3, h4, q⟩ => ⟨a, l, ys, h1, h2, h3, h4, k _ q⟩⟩
  subst h1 h2
  cases r1
  cases r2 with
  | cons r2 r3 =>
    cases r3
    obtain ⟨p, xs, rfl, s, t⟩ := r2.seqs h3
    have z := RpA.strs_eq ys t
    subst z
    exact ⟨a, p, ys, rfl, rfl, sq_up S.hk.sub s, h4, q _ G H S S.hk.refl (.str _)⟩
def rdFind3 : RDM := fun x ds Q => ∃ (a b : Str) (i : Int), x = .str a ∧ ds = [.str b, .int i] ∧ Q (.int (Txt.find3 a b i))
theorem L_find3 : LiftM X e (fun x xs H Q => ∃ (a b : Str) (i : Int), x = .str a ∧ xs = [.str b, .int i] ∧ Q (.int (Txt.find3 a b i)) H) rdFind3 := by
  refine ⟨fun x d vs ds G H σ δ Q S r1 r2 ⟨a, b, i, h1, h2, q⟩ => ?_, fun d ds Q Q' k ⟨a, b, i, h1, h2, q⟩ => ⟨a, b, i, h1, h2, k _ q⟩⟩
  subst h1 h2
  cases r1
  cases r2 with
  | cons r2 r3 =>
    cases r3 with
    | cons r3 r4 =>
      cases r4
      cases r2
      cases r3
      exact ⟨a, b, i, rfl, rfl, q _ G H S S.hk.refl (.int _)⟩

/-! ### f-strings -/
def dFmt (t : TD) : TD := fun δ Q => t δ fun x => ∃ y : Str, x = .str y ∧ y.length ≤ sizeLine ∧ Q (.str y)
theorem de_fmt {a : Expr} {t : TD} {pos : Pos} (ha : DE_ X e a t) : DE_ X e (.FormattedValue a (-1) none pos) (dFmt t) := by
  refine ⟨wkE (pe_fmt ha.run) fun σ H Q ⟨G, δ, S, h⟩ => ?_, fun δ Q Q' k h => ha.mono _ _ _ (fun x ⟨y, h1, h2, h⟩ => ⟨y, h1, h2, k _ h⟩) h⟩
  refine ⟨G, δ, S, ha.mono _ _ _ (fun d ⟨y, h1, h2, h⟩ v G1 H1 S1 w1 r1 => ?_) h⟩
  subst h1
  cases r1
  exact .inl ⟨y, rfl, h2, h _ G1 H1 S1 w1 (.str y)⟩
/-- three parts -/
def dJ3 (ta tb tc : TD) : TD := fun δ Q => ta δ fun x => ∃ a, x = .str a ∧ (Str.empty ++ a).length ≤ sizeLine ∧ tb δ fun y => ∃ b, y = .str b ∧ (Str.empty ++ a ++ b).length ≤ sizeLine ∧ tc δ fun z => ∃ c, z = .str c ∧ (Str.empty ++ a ++ b ++ c).length ≤ sizeLine ∧ Q (.str (Str.empty ++ a ++ b ++ c))
theorem de_j3 {a b c : Expr} {ta tb tc : TD} {pos : Pos} (ha : DE_ X e a ta) (hb : DE_ X e b tb) (hc : DE_ X e c tc) : DE_ X e (.JoinedStr [a, b, c] pos) (dJ3 ta tb tc) := by
  refine ⟨wkE (pe_joined (.cons ha.run (.cons hb.run (.cons hc.run .nil)))) fun σ H Q ⟨G, δ, S, h⟩ => ?_, fun δ Q Q' k h => ha.mono _ _ _ (fun x ⟨a, h1, h2, h⟩ => ⟨a, h1, h2, hb.mono _ _ _ (fun y ⟨b, h3, h4, h⟩ => ⟨b, h3, h4, hc.mono _ _ _ (fun z ⟨c, h5, h6, h⟩ => ⟨c, h5, h6, k _ h⟩) h⟩) h⟩) h⟩
  refine ⟨G, δ, S, ha.mono _ _ _ (fun x ⟨a, h1, h2, h⟩ v G1 H1 S1 w1 r1 => ?_) h⟩
  subst h1
  cases r1
  refine ⟨a, rfl, h2, G1, δ, S1, hb.mono _ _ _ (fun x ⟨b, h3, h4, h⟩ v G2 H2 S2 w2 r2 => ?_) h⟩
  subst h3
  cases r2
  refine ⟨b, rfl, h4, G2, δ, S2, hc.mono _ _ _ (fun x ⟨c, h5, h6, h⟩ v G3 H3 S3 w3 r3 => ?_) h⟩
  subst h5
  cases r3
  exact ⟨c, rfl, h6, h _ G3 H3 S3 ((w1.trans w2).trans w3) (.str _)⟩
end
end Dn
/-! Names of the module, written dicts, two stores at once, match over texts. -/
namespace Dn
open PySem L2
/-- the module's name x holds the data d for ever -/
def GC (K : PySem.W.Frag) (mg : Str → Option Value) (x : Str) (d : D) : Prop := ∃ u v, mg x = some u ∧ RelV v u ∧ ∀ G, Rp K G v d
/-- a written dict with text keys: its pairs -/
def GD (K : PySem.W.Frag) (mg : Str → Option Value) (w : World) (x : Str) (kvs : List (Str × D)) : Prop := ∃ (p : Addr) (es : Array DictEntry) (n : Nat), mg x = some (.ref p) ∧ KDict K w p es n ∧
  Paired (fun (q : Str × D) (en : DictEntry) => (∃ t, en.key = .str q.1 t) ∧ ∃ v, RelV v en.val ∧ ∀ G, Rp K G v q.2) kvs es.toList
section
variable {X : Cx} {e : Bs} {a b c : Expr} {ta tb tc : TD} {pos : Pos} {st : Stmt} {body rest els : List Stmt} {t u : TDS}
theorem GC.de {x : Str} {d : D} (h : GC X.K X.mg x d) (hg : Gl X x := by rfl) (hd : (x == ("__debug__" : Str)) = false := by decide) : DE_ X e (.Name x pos) (dC d) := by
  obtain ⟨u, v, h1, h2, h3⟩ := h
  exact de_glob hg h1 h2 h3 hd
def lookD (z : Str) : List (Str × D) → Option D
  | [] => none
  | (k, d) :: r => if k = z then some d else lookD z r
theorem isStr_key {x z : Str} {t : Tok} : Value.isStr (.str x t) z = decide (x = z) := by
  unfold Value.isStr
  by_cases h : x = z
  · subst h; simp
  · simp [h]
theorem GD.look {K : PySem.W.Frag} {w : World} {p : Addr} {n : Nat} {z : Str} : ∀ {kvs : List (Str × D)} {es : List DictEntry}, Paired (fun (q : Str × D) (en : DictEntry) => (∃ t, en.key = .str q.1 t) ∧ ∃ v, RelV v en.val ∧ ∀ G, Rp K G v q.2) kvs es →
    es.any (·.refKey) = false ∧ ((lookD z kvs = none ∧ es.find? (·.key.isStr z) = none) ∨ ∃ d en v, lookD z kvs = some d ∧ es.find? (·.key.isStr z) = some en ∧ RelV v en.val ∧ ∀ G, Rp K G v d)
  | _, _, .nil => ⟨rfl, .inl ⟨rfl, rfl⟩⟩
  | (k, d) :: r, en :: es, .cons ⟨⟨t, h1⟩, v, h2, h3⟩ q => by
    obtain ⟨i1, i2⟩ := GD.look (w := w) (p := p) (n := n) (z := z) q
    refine ⟨?_, ?_⟩
    · rw [List.any_cons, i1]
      have : en.refKey = false := by
        unfold DictEntry.refKey
        rw [h1]
      rw [this]; rfl
    · unfold lookD
      rw [List.find?_cons, h1, isStr_key]
      by_cases hk : k = z
      · rw [if_pos hk, decide_eq_true hk]
        exact .inr ⟨d, en, v, rfl, rfl, h2, h3⟩
      · rw [if_neg hk, decide_eq_false hk]
        exact i2
def rdInD (kvs : List (Str × D)) (neg : Bool) (ta : TD) : TD := fun δ Q => ta δ fun x => ∃ z, x = .str z ∧ Q (.bl (if neg then !(lookD z kvs).isSome else (lookD z kvs).isSome))
theorem GD.ns {w : World} {x : Str} {kvs : List (Str × D)} {p : Addr} {es : Array DictEntry} {n : Nat} {K : PySem.W.Frag} (D0 : KDict K w p es n) (q : Paired (fun (q : Str × D) (en : DictEntry) => (∃ t, en.key = .str q.1 t) ∧ ∃ v, RelV v en.val ∧ ∀ G, Rp K G v q.2) kvs es.toList) (z : Str) :
    (lookD z kvs = none ∧ PySem.W.nsIn K p z = some none) ∨ ∃ d u v, lookD z kvs = some d ∧ PySem.W.nsIn K p z = some (some u) ∧ RelV v u ∧ ∀ G, Rp K G v d := by
  obtain ⟨h1, h2⟩ := GD.look (w := w) (p := p) (n := n) (z := z) q
  unfold PySem.W.nsIn
  rw [D0.at_]
  rcases h2 with ⟨a1, a2⟩ | ⟨d, en, v, a1, a2, a3, a4⟩
  · refine .inl ⟨a1, ?_⟩
    simp only [a2, h1]
    rfl
  · refine .inr ⟨d, en.val, v, a1, ?_, a3, a4⟩
    simp only [a2]
theorem de_inD {x : Str} {kvs : List (Str × D)} {px : Pos} (g : GD X.K X.mg X.w x kvs) (ha : DE_ X e a ta) (hg : Gl X x := by rfl) (hd : (x == ("__debug__" : Str)) = false := by decide) : DE_ X e (.Compare a [.In] [.Name x px] pos) (rdInD kvs false ta) := by
  obtain ⟨p, es, n, h1, D0, q⟩ := g
  refine ⟨wkE (pe_cmpR (op_in_kd D0) ha.run (pe_glob (v := .ref p) hg h1 rfl hd) (by rfl)) fun σ H Q ⟨G, δ, S, h⟩ => ?_, fun δ Q Q' k h => ha.mono _ _ _ (fun x ⟨z, h1, h⟩ => ⟨z, h1, k _ h⟩) h⟩
  refine ⟨G, δ, S, ha.mono _ _ _ (fun d ⟨z, h1, h⟩ v G1 H1 S1 w1 r1 => ?_) h⟩
  subst h1
  cases r1
  rcases GD.ns (x := x) D0 q z with ⟨a1, a2⟩ | ⟨d, u, v, a1, a2, a3, a4⟩
  · refine ⟨z, none, rfl, rfl, a2, ?_⟩
    rw [a1] at h
    exact h _ G1 H1 S1 w1 (.bl _)
  · refine ⟨z, some u, rfl, rfl, a2, ?_⟩
    rw [a1] at h
    exact h _ G1 H1 S1 w1 (.bl _)
theorem de_ninD {x : Str} {kvs : List (Str × D)} {px : Pos} (g : GD X.K X.mg X.w x kvs) (ha : DE_ X e a ta) (hg : Gl X x := by rfl) (hd : (x == ("__debug__" : Str)) = false := by decide) : DE_ X e (.Compare a [.NotIn] [.Name x px] pos) (rdInD kvs true ta) := by
  obtain ⟨p, es, n, h1, D0, q⟩ := g
  refine ⟨wkE (pe_cmpR (op_notIn_kd D0) ha.run (pe_glob (v := .ref p) hg h1 rfl hd) (by rfl)) fun σ H Q ⟨G, δ, S, h⟩ => ?_, fun δ Q Q' k h => ha.mono _ _ _ (fun x ⟨z, h1, h⟩ => ⟨z, h1, k _ h⟩) h⟩
  refine ⟨G, δ, S, ha.mono _ _ _ (fun d ⟨z, h1, h⟩ v G1 H1 S1 w1 r1 => ?_) h⟩
  subst h1
  cases r1
  rcases GD.ns (x := x) D0 q z with ⟨a1, a2⟩ | ⟨d, u, v, a1, a2, a3, a4⟩
  · refine ⟨z, none, rfl, rfl, a2, ?_⟩
    rw [a1] at h
    exact h _ G1 H1 S1 w1 (.bl _)
  · refine ⟨z, some u, rfl, rfl, a2, ?_⟩
    rw [a1] at h
    exact h _ G1 H1 S1 w1 (.bl _)
theorem rdInD_mono {kvs : List (Str × D)} {neg : Bool} (m : MoE ta) : MoE (rdInD kvs neg ta) := fun δ Q Q' k h => m _ _ _ (fun x ⟨z, h1, h⟩ => ⟨z, h1, k _ h⟩) h
/-- the same as tests -/
theorem dt_inD {x : Str} {kvs : List (Str × D)} {px : Pos} (g : GD X.K X.mg X.w x kvs) (ha : DE_ X e a ta) (hg : Gl X x := by rfl) (hd : (x == ("__debug__" : Str)) = false := by decide) : DT_ X e (.Compare a [.In] [.Name x px] pos) (dTest (rdInD kvs false ta)) := by
  obtain ⟨p, es, n, h1, D0, q⟩ := g
  refine ⟨wkT (pt_cmpR (op_in_kd D0) ha.run (pe_glob (v := .ref p) hg h1 rfl hd) (by rfl)) fun σ H Q h => ?_, dTest_mono (rdInD_mono ha.mono)⟩
  obtain ⟨G, δ, S, h⟩ := lE_test (rdInD_mono ha.mono) h
  refine ⟨G, δ, S, ha.mono _ _ _ (fun d ⟨z, h1, h⟩ v G1 H1 S1 w1 r1 => ?_) h⟩
  subst h1
  cases r1
  rcases GD.ns (x := x) D0 q z with ⟨a1, a2⟩ | ⟨d, u, v, a1, a2, a3, a4⟩
  · refine ⟨z, none, rfl, rfl, a2, ?_⟩
    rw [a1] at h
    exact h _ G1 H1 S1 w1 (.bl _)
  · refine ⟨z, some u, rfl, rfl, a2, ?_⟩
    rw [a1] at h
    exact h _ G1 H1 S1 w1 (.bl _)
theorem dt_ninD {x : Str} {kvs : List (Str × D)} {px : Pos} (g : GD X.K X.mg X.w x kvs) (ha : DE_ X e a ta) (hg : Gl X x := by rfl) (hd : (x == ("__debug__" : Str)) = false := by decide) : DT_ X e (.Compare a [.NotIn] [.Name x px] pos) (dTest (rdInD kvs true ta)) := by
  obtain ⟨p, es, n, h1, D0, q⟩ := g
  refine ⟨wkT (pt_cmpR (op_notIn_kd D0) ha.run (pe_glob (v := .ref p) hg h1 rfl hd) (by rfl)) fun σ H Q h => ?_, dTest_mono (rdInD_mono ha.mono)⟩
  obtain ⟨G, δ, S, h⟩ := lE_test (rdInD_mono ha.mono) h
  refine ⟨G, δ, S, ha.mono _ _ _ (fun d ⟨z, h1, h⟩ v G1 H1 S1 w1 r1 => ?_) h⟩
  subst h1
  cases r1
  rcases GD.ns (x := x) D0 q z with ⟨a1, a2⟩ | ⟨d, u, v, a1, a2, a3, a4⟩
  · refine ⟨z, none, rfl, rfl, a2, ?_⟩
    rw [a1] at h
    exact h _ G1 H1 S1 w1 (.bl _)
  · refine ⟨z, some u, rfl, rfl, a2, ?_⟩
    rw [a1] at h
    exact h _ G1 H1 S1 w1 (.bl _)
/-- d[a], d a written dict, the key is there -/
def rdGetD (kvs : List (Str × D)) (ta : TD) : TD := fun δ Q => ta δ fun x => ∃ z d, x = .str z ∧ lookD z kvs = some d ∧ Q d
theorem de_getD {x : Str} {kvs : List (Str × D)} {px : Pos} (g : GD X.K X.mg X.w x kvs) (ha : DE_ X e a ta) (hg : Gl X x := by rfl) (hd : (x == ("__debug__" : Str)) = false := by decide) (hs : PlainIx a := by exact fun _ _ => rfl) : DE_ X e (.Subscript (.Name x px) a pos) (rdGetD kvs ta) := by
  obtain ⟨p, es, n, h1, D0, q⟩ := g
  refine ⟨wkE (pe_ix ix_kdict (pe_glob (v := .ref p) hg h1 rfl hd) ha.run hs) fun σ H Q ⟨G, δ, S, h⟩ => ?_, fun δ Q Q' k h => ha.mono _ _ _ (fun x ⟨z, d, h1, h2, h⟩ => ⟨z, d, h1, h2, k _ h⟩) h⟩
  refine ⟨G, δ, S, ha.mono _ _ _ (fun d ⟨z, f, h1, h2, h⟩ v G1 H1 S1 w1 r1 => ?_) h⟩
  subst h1
  cases r1
  rcases GD.ns (x := x) D0 q z with ⟨a1, a2⟩ | ⟨d, u, v, a1, a2, a3, a4⟩
  · rw [a1] at h2; cases h2
  · rw [a1] at h2
    cases h2
    exact ⟨p, z, v, rfl, rfl, ⟨es, n, u, D0.at_, D0.lit, a2, a3⟩, h v G1 H1 S1 w1 (a4 G1)⟩

/-! ### a, b = a fresh list, y -/
def dPar2 (i j : Nat) (tf : TDA) (tb : TD) : TDS := fun Z δ => tf δ fun ds => tb δ fun y => Z.nx ((δ.set i (.own ds)).set j (.d y))
theorem ds_parF (i j : Nat) {tf : TDA} {x y : Str} {px py pt : Pos} {kt k2 pt2} (hc : X.calm = true) (hN : X.N.Nodup) (ha : DF_ X e a tf) (hb : DE_ X e b tb) (hi : X.N[i]? = some x := by rfl) (hj : X.N[j]? = some y := by rfl) (hij : i ≠ j := by decide)
    (hx : X.env.scope.names.lookup x = some .local := by rfl) (hy : X.env.scope.names.lookup y = some .local := by rfl)
    (hw : swappedStores [.Tuple [.Name x px, .Name y py] kt pt] (.Tuple [a, b] k2 pt2) X.env = pure (some [x, y]) := by rfl)
    (hs : swapsWithSole [.Tuple [.Name x px, .Name y py] kt pt] (.Tuple [a, b] k2 pt2) pos.line X.env = pure false := by rfl)
    (h1 : starEach [a, b] X.env = (false, eval a X.env) :: starEach [b] X.env := by rfl) (h2 : starEach [b] X.env = (false, eval b X.env) :: starEach [] X.env := by rfl) :
    DS_ X e (.Assign [.Tuple [.Name x px, .Name y py] kt pt] (.Tuple [a, b] k2 pt2) pos) (dPar2 i j tf tb) := by
  refine ⟨wkS (ps_par hc hN hi hj hij hx hy (pa_cons ha.run (pa_cons hb.run pa_nil h2) h1) hw hs) fun Z σ H ⟨G, δ, DD, S, h, n, r, k, c⟩ => ?_, fun A B δ l h => ha.mono _ _ _ (fun _ h => hb.mono _ _ _ (fun _ h => l.nx _ h) h) h⟩
  refine ⟨G, δ, S, ha.mono _ _ _ (fun ds h p vs G1 H1 S1 w1 e1 r1 e2 e3 f z => ?_) h⟩
  have nb := Bx.some S.hk.box e3
  refine ⟨G1, δ, S1, hb.mono _ _ _ (fun d' h v' G2 H2 S2 w2 r2 => ?_) h⟩
  have g2 : G2 p = none := by
    cases g : G2 p with
    | none => rfl
    | some o =>
      rcases w2.new p o g with q | q
      · rw [e2] at q; cases q
      · rw [e1] at q; cases q
  exact ⟨.ref p, v', rfl, n _ _ G2 H2 h ((S2.putOwn f (w2.keep p _ nb e1) (r1.mn w2.g) g2 (S.hk.keep.none nb e3) nb z).put r2) (w1.g.trans w2.g)⟩

/-! ### match s: case 'a': .. (s a text) -/
structure DM_ (X : Cx) (e : Bs) (cs : List MatchCase) (t : Str → TDS) : Prop where
  run : ∀ (pins : List (Addr × Obj)) (s : Shared) (σ : St) (H : Hp) (Z : Ends) (z : Str) (tk : Tok) (first : Bool), Inv X pins σ H s → lS X.K e (t z) Z σ H → wpAny (model X.prog X.w) X.A (matchCases cs X.env (.str z tk) first) (SP X pins Z) X.xe s
  mono : ∀ z, MoS (t z)
theorem dm_nil : DM_ X e [] fun _ => dNext := by
  refine ⟨fun pins s σ H Z z tk first I h => ?_, fun z A B δ l h => l.nx δ h⟩
  obtain ⟨G, δ, DD, S, h, n, r, k, c⟩ := h
  exact wpAny_matchCases_nil ⟨σ, H, I, n _ _ _ _ h S (.refl _)⟩
def dCase (y : Str) (t : TDS) (u : Str → TDS) : Str → TDS := fun z Z δ => if z = y then t Z δ else u z Z δ
theorem dm_str {y : Str} {j} {pc pp : Pos} {cs : List MatchCase} {u : Str → TDS} (hb : DB_ X e body t) (hr : DM_ X e cs u) : DM_ X e (⟨.MatchValue (.Constant (.str y) j pc) pp, none, body⟩ :: cs) (dCase y t u) := by
  refine ⟨fun pins s σ H Z z tk first I h => ?_, fun z A B δ l h => ?_⟩
  · refine wpAny_matchCases_cons (wpAny_matchPattern_Value (thn (pe_str.run pins s σ H (fun v H1 => v = .str y ∧ H1 = H) I ⟨rfl, rfl⟩) fun x s1 ⟨v, H1, I1, r1, q1, q2⟩ => ?_))
    subst q1 q2
    refine thn (op_eq pins s1 σ H1 (.str z) (.str y) (.str z tk) x (fun v H2 => v = .bl (decide (V.str z = V.str y)) ∧ H2 = H1) I1 ⟨tk, rfl⟩ r1 ⟨rfl, rfl, rfl⟩) fun c s2 ⟨v, H2, I2, r2, q3, q4⟩ => ?_
    subst q3 q4
    cases r2
    refine wpAny_truthy_bool ?_
    by_cases hz : z = y
    · subst hz
      rw [decide_eq_true rfl]
      show wpAny _ _ (assignInOrder _ _) _ _ _
      refine PyProof.Rows.assignInOrder_nil ?_
      refine hb.run.run pins s2 σ H2 Z I2 ?_
      obtain ⟨G, δ, DD, S, h, n⟩ := h
      unfold dCase at h
      rw [if_pos rfl] at h
      exact ⟨G, δ, DD, S, h, n⟩
    · have hz' : ¬ V.str z = V.str y := fun q => hz (V.str.inj q)
      rw [decide_eq_false hz']
      refine hr.run pins s2 σ H2 Z z tk false I2 ?_
      obtain ⟨G, δ, DD, S, h, n⟩ := h
      unfold dCase at h
      rw [if_neg hz] at h
      exact ⟨G, δ, DD, S, h, n⟩
  · unfold dCase at h ⊢
    by_cases hz : z = y
    · rw [if_pos hz] at h ⊢
      exact hb.mono _ _ _ l h
    · rw [if_neg hz] at h ⊢
      exact hr.mono z _ _ _ l h
def dMatch (ta : TD) (t : Str → TDS) : TDS := fun Z δ => ta δ fun x => ∃ z, x = .str z ∧ t z Z δ
theorem ds_match {cs : List MatchCase} {u : Str → TDS} (ha : DE_ X e a ta) (hc : DM_ X e cs u) : DS_ X e (.Match a cs pos) (dMatch ta u) := by
  refine ⟨⟨fun pins s σ H Z I ⟨G, δ, DD, S, h, n, r, k, c⟩ => ?_⟩, fun A B δ l h => ha.mono _ _ _ (fun x ⟨z, h1, h⟩ => ⟨z, h1, hc.mono z _ _ _ l h⟩) h⟩
  have h2 : lE X.K e ta σ H fun x H1 => ∃ z, x = .str z ∧ lS X.K e (u z) Z σ H1 := by
    refine ⟨G, δ, S, ha.mono _ _ _ (fun d ⟨z, h1, h⟩ v G1 H1 S1 w1 r1 => ?_) h⟩
    subst h1
    cases r1
    exact ⟨z, rfl, G1, δ, DD, S1, h, fun _ _ _ _ g S' s' => n _ _ _ _ g S' (w1.g.trans s'), r, fun _ _ _ _ g S' s' => k _ _ _ _ g S' (w1.g.trans s'), fun _ _ _ _ g S' s' => c _ _ _ _ g S' (w1.g.trans s')⟩
  refine wpAny_Match (thn (ha.run.run pins s σ H _ I h2) fun v s1 ⟨x, H1, I1, r1, z, e1, q⟩ => ?_)
  subst e1
  obtain ⟨tk, rfl⟩ := r1
  exact hc.run pins s1 σ H1 Z z tk true I1 q
end
end Dn
/-! Readings at known data, as equivalences (for simp). -/
namespace Dn
open PySem L2
theorem kb (a b : String) (r : Bool) (h : kitB a b = some r) : ∀ (P : Bool → Prop), (∃ k, kitB a b = some k ∧ P k) = P r := fun P => propext ⟨fun ⟨k, h1, h2⟩ => by rw [h] at h1; cases h1; exact h2, fun h2 => ⟨r, h, h2⟩⟩
section
variable {Q : D → Prop} {T : String}
theorem isi_of {d : D} {t : String} {r : Bool} (h : d.ty = some t) (k : kitB t T = some r) : rdIsi [d, .raw (.ty T)] Q = Q (.bl r) := by
  refine propext ⟨fun ⟨x, T', t', b, h1, h2, h3, q⟩ => ?_, fun q => ⟨d, T, t, r, rfl, h, k, q⟩⟩
  cases h1
  rw [h] at h2
  cases h2
  rw [k] at h3
  cases h3
  exact q
variable {b : Bool} {i : Int} {x : Str} {ds : List D}
theorem isi_non_int : rdIsi [.non, .raw (.ty "int")] Q = Q (.bl false) := isi_of (t := "NoneType") rfl (by decide +kernel)
theorem isi_non_bool : rdIsi [.non, .raw (.ty "bool")] Q = Q (.bl false) := isi_of (t := "NoneType") rfl (by decide +kernel)
theorem isi_non_str : rdIsi [.non, .raw (.ty "str")] Q = Q (.bl false) := isi_of (t := "NoneType") rfl (by decide +kernel)
theorem isi_non_tup : rdIsi [.non, .raw (.ty "tuple")] Q = Q (.bl false) := isi_of (t := "NoneType") rfl (by decide +kernel)
theorem isi_bl_int : rdIsi [.bl b, .raw (.ty "int")] Q = Q (.bl true) := isi_of (t := "bool") rfl (by decide +kernel)
theorem isi_bl_bool : rdIsi [.bl b, .raw (.ty "bool")] Q = Q (.bl true) := isi_of (t := "bool") rfl (by decide +kernel)
theorem isi_bl_str : rdIsi [.bl b, .raw (.ty "str")] Q = Q (.bl false) := isi_of (t := "bool") rfl (by decide +kernel)
theorem isi_bl_tup : rdIsi [.bl b, .raw (.ty "tuple")] Q = Q (.bl false) := isi_of (t := "bool") rfl (by decide +kernel)
theorem isi_int_int : rdIsi [.int i, .raw (.ty "int")] Q = Q (.bl true) := isi_of (t := "int") rfl (by decide +kernel)
theorem isi_int_bool : rdIsi [.int i, .raw (.ty "bool")] Q = Q (.bl false) := isi_of (t := "int") rfl (by decide +kernel)
theorem isi_int_str : rdIsi [.int i, .raw (.ty "str")] Q = Q (.bl false) := isi_of (t := "int") rfl (by decide +kernel)
theorem isi_int_tup : rdIsi [.int i, .raw (.ty "tuple")] Q = Q (.bl false) := isi_of (t := "int") rfl (by decide +kernel)
theorem isi_str_int : rdIsi [.str x, .raw (.ty "int")] Q = Q (.bl false) := isi_of (t := "str") rfl (by decide +kernel)
theorem isi_str_bool : rdIsi [.str x, .raw (.ty "bool")] Q = Q (.bl false) := isi_of (t := "str") rfl (by decide +kernel)
theorem isi_str_str : rdIsi [.str x, .raw (.ty "str")] Q = Q (.bl true) := isi_of (t := "str") rfl (by decide +kernel)
theorem isi_str_tup : rdIsi [.str x, .raw (.ty "tuple")] Q = Q (.bl false) := isi_of (t := "str") rfl (by decide +kernel)
theorem isi_lst_int : rdIsi [.lst ds, .raw (.ty "int")] Q = Q (.bl false) := isi_of (t := "list") rfl (by decide +kernel)
theorem isi_lst_bool : rdIsi [.lst ds, .raw (.ty "bool")] Q = Q (.bl false) := isi_of (t := "list") rfl (by decide +kernel)
theorem isi_lst_str : rdIsi [.lst ds, .raw (.ty "str")] Q = Q (.bl false) := isi_of (t := "list") rfl (by decide +kernel)
theorem isi_lst_tup : rdIsi [.lst ds, .raw (.ty "tuple")] Q = Q (.bl false) := isi_of (t := "list") rfl (by decide +kernel)
theorem isi_tup_int : rdIsi [.tup ds, .raw (.ty "int")] Q = Q (.bl false) := isi_of (t := "tuple") rfl (by decide +kernel)
theorem isi_tup_bool : rdIsi [.tup ds, .raw (.ty "bool")] Q = Q (.bl false) := isi_of (t := "tuple") rfl (by decide +kernel)
theorem isi_tup_str : rdIsi [.tup ds, .raw (.ty "str")] Q = Q (.bl false) := isi_of (t := "tuple") rfl (by decide +kernel)
theorem isi_tup_tup : rdIsi [.tup ds, .raw (.ty "tuple")] Q = Q (.bl true) := isi_of (t := "tuple") rfl (by decide +kernel)
/-! == of texts and ints -/
variable {y : Str} {j : Int}
theorem eqs_of {x y : D} {neg : Bool} {r : Bool} (h1 : x.flat = true) (h2 : y.flat = true) (h3 : scal x.v y.v = true) (h : (if neg then !decide (x.v = y.v) else decide (x.v = y.v)) = r) : rdEqS neg x y Q = Q (.bl r) := by
  subst h
  exact propext ⟨fun ⟨_, _, _, q⟩ => q, fun q => ⟨h1, h2, h3, q⟩⟩
theorem eq_ss : rdEqS false (.str x) (.str y) Q = Q (.bl (decide (x = y))) := eqs_of rfl rfl rfl (by
  show decide (V.str x = V.str y) = decide (x = y)
  exact decide_eq_decide.mpr ⟨fun h => V.str.inj h, fun h => congrArg _ h⟩)
theorem ne_ss : rdEqS true (.str x) (.str y) Q = Q (.bl (!decide (x = y))) := eqs_of rfl rfl rfl (by
  show (!decide (V.str x = V.str y)) = !decide (x = y)
  exact congrArg _ (decide_eq_decide.mpr ⟨fun h => V.str.inj h, fun h => congrArg _ h⟩))
theorem eq_ii : rdEqS false (.int i) (.int j) Q = Q (.bl (decide (i = j))) := eqs_of rfl rfl rfl (by
  show decide (V.int i = V.int j) = decide (i = j)
  exact decide_eq_decide.mpr ⟨fun h => V.int.inj h, fun h => congrArg _ h⟩)
theorem ne_ii : rdEqS true (.int i) (.int j) Q = Q (.bl (!decide (i = j))) := eqs_of rfl rfl rfl (by
  show (!decide (V.int i = V.int j)) = !decide (i = j)
  exact congrArg _ (decide_eq_decide.mpr ⟨fun h => V.int.inj h, fun h => congrArg _ h⟩))
theorem ne_si : rdEqS true (.str x) (.int j) Q = Q (.bl true) := eqs_of rfl rfl rfl (by
  show (!decide (V.str x = V.int j)) = true
  rw [decide_eq_false (fun h => nomatch h)]; rfl)
/-! single readings -/
theorem ix_lst : rdIx (.lst ds) (.int i) Q = ∃ d, atI ds i = some d ∧ Q d := propext ⟨fun ⟨i', d, h1, h2, _, q⟩ => by cases h1; exact ⟨d, h2, q⟩, fun ⟨d, h, q⟩ => ⟨i, d, rfl, h, trivial, q⟩⟩
theorem ix_tup' : rdIx (.tup ds) (.int i) Q = ∃ d, atI ds i = some d ∧ Q d := propext ⟨fun ⟨i', d, h1, h2, _, q⟩ => by cases h1; exact ⟨d, h2, q⟩, fun ⟨d, h, q⟩ => ⟨i, d, rfl, h, trivial, q⟩⟩
theorem ix_str' : rdIx (.str x) (.int i) Q = ∃ c, atI x.cps.toList i = some c ∧ x.length ≤ sizeLine ∧ Q (.str ⟨#[c]⟩) := by
  refine propext ⟨fun ⟨i', d, h1, h2, h3, q⟩ => ?_, fun ⟨c, h, h3, q⟩ => ⟨i, .str ⟨#[c]⟩, rfl, ?_, h3, q⟩⟩
  · cases h1
    have h2' : (atI x.cps.toList i).map (fun c => D.str ⟨#[c]⟩) = some d := h2
    cases q1 : atI x.cps.toList i with
    | none => rw [q1] at h2'; cases h2'
    | some c =>
      rw [q1] at h2'
      cases h2'
      exact ⟨c, rfl, h3, q⟩
  · show (atI x.cps.toList i).map _ = _
    rw [h]; rfl
theorem len_str' : rdLen [.str x] Q = (x.length ≤ sizeLine ∧ Q (.int x.length)) := propext ⟨fun ⟨x', n, h1, h2, h3, q⟩ => by cases h1; cases h2; exact ⟨h3, q⟩, fun ⟨h3, q⟩ => ⟨.str x, _, rfl, rfl, h3, q⟩⟩
theorem len_tup' : rdLen [.tup ds] Q = Q (.int ds.length) := propext ⟨fun ⟨x', n, h1, h2, h3, q⟩ => by cases h1; cases h2; exact q, fun q => ⟨.tup ds, _, rfl, rfl, trivial, q⟩⟩
theorem len_lst' : rdLen [.lst ds] Q = Q (.int ds.length) := propext ⟨fun ⟨x', n, h1, h2, h3, q⟩ => by cases h1; cases h2; exact q, fun q => ⟨.lst ds, _, rfl, rfl, trivial, q⟩⟩
theorem add_ii : dAdd (.int i) (.int j) Q = Q (.int (i + j)) := propext ⟨fun ⟨a, b, h1, h2, q⟩ => by cases h1; cases h2; exact q, fun q => ⟨i, j, rfl, rfl, q⟩⟩
theorem sub_ii : dSub (.int i) (.int j) Q = Q (.int (i - j)) := propext ⟨fun ⟨a, b, h1, h2, q⟩ => by cases h1; cases h2; exact q, fun q => ⟨i, j, rfl, rfl, q⟩⟩
theorem lt_ii : dLt (.int i) (.int j) Q = Q (.bl (decide (i < j))) := propext ⟨fun ⟨a, b, h1, h2, q⟩ => by cases h1; cases h2; exact q, fun q => ⟨i, j, rfl, rfl, q⟩⟩
theorem le_ii : dLe (.int i) (.int j) Q = Q (.bl (decide (i ≤ j))) := propext ⟨fun ⟨a, b, h1, h2, q⟩ => by cases h1; cases h2; exact q, fun q => ⟨i, j, rfl, rfl, q⟩⟩
theorem gt_ii : dGt (.int i) (.int j) Q = Q (.bl (decide (j < i))) := propext ⟨fun ⟨a, b, h1, h2, q⟩ => by cases h1; cases h2; exact q, fun q => ⟨i, j, rfl, rfl, q⟩⟩
theorem ge_ii : dGe (.int i) (.int j) Q = Q (.bl (decide (j ≤ i))) := propext ⟨fun ⟨a, b, h1, h2, q⟩ => by cases h1; cases h2; exact q, fun q => ⟨i, j, rfl, rfl, q⟩⟩
theorem isN_of {d : D} {neg : Bool} (h : d.isRaw = false) : rdIsN neg d .non Q = Q (.bl (if neg then !d.isNon else d.isNon)) := propext ⟨fun ⟨_, _, q⟩ => q, fun q => ⟨rfl, h, q⟩⟩
theorem isN_non : rdIsN false .non .non Q = Q (.bl true) := isN_of (neg := false) rfl
theorem noN_non : rdIsN true .non .non Q = Q (.bl false) := isN_of (neg := true) rfl
theorem isN_bl : rdIsN false (.bl b) .non Q = Q (.bl false) := isN_of (neg := false) rfl
theorem noN_bl : rdIsN true (.bl b) .non Q = Q (.bl true) := isN_of (neg := true) rfl
theorem isN_int : rdIsN false (.int i) .non Q = Q (.bl false) := isN_of (neg := false) rfl
theorem noN_int : rdIsN true (.int i) .non Q = Q (.bl true) := isN_of (neg := true) rfl
theorem isN_str : rdIsN false (.str x) .non Q = Q (.bl false) := isN_of (neg := false) rfl
theorem noN_str : rdIsN true (.str x) .non Q = Q (.bl true) := isN_of (neg := true) rfl
theorem isN_lst : rdIsN false (.lst ds) .non Q = Q (.bl false) := isN_of (neg := false) rfl
theorem noN_lst : rdIsN true (.lst ds) .non Q = Q (.bl true) := isN_of (neg := true) rfl
theorem isN_tup : rdIsN false (.tup ds) .non Q = Q (.bl false) := isN_of (neg := false) rfl
theorem noN_tup : rdIsN true (.tup ds) .non Q = Q (.bl true) := isN_of (neg := true) rfl
theorem test_bl {t : TD} {δ : DE} {R : Bool → Prop} : dTest t δ R = t δ fun x => ∃ k, x = .bl k ∧ R k := rfl
theorem ex_bl {k : Bool} {R : Bool → Prop} : (∃ c, D.bl k = .bl c ∧ R c) = R k := propext ⟨fun ⟨c, h, q⟩ => by cases h; exact q, fun q => ⟨k, rfl, q⟩⟩
theorem ex_int {k : Int} {R : Int → Prop} : (∃ c, D.int k = .int c ∧ R c) = R k := propext ⟨fun ⟨c, h, q⟩ => by cases h; exact q, fun q => ⟨k, rfl, q⟩⟩
theorem ex_str {k : Str} {R : Str → Prop} : (∃ c, D.str k = .str c ∧ R c) = R k := propext ⟨fun ⟨c, h, q⟩ => by cases h; exact q, fun q => ⟨k, rfl, q⟩⟩
theorem var_at {δ : DE} {i : Nat} {d : D} (h : δ[i]? = some (.d d)) : dVar i δ Q = Q d := propext ⟨fun ⟨d', h1, q⟩ => by rw [h] at h1; cases h1; exact q, fun q => ⟨d, h, q⟩⟩
theorem ex_sv {d : D} {R : D → Prop} : (∃ c, some (SV.d d) = some (.d c) ∧ R c) = R d := propext ⟨fun ⟨c, h, q⟩ => by cases h; exact q, fun q => ⟨d, rfl, q⟩⟩
theorem ex_own {ds : List D} {R : List D → Prop} : (∃ c, some (SV.own ds) = some (.own c) ∧ R c) = R ds := propext ⟨fun ⟨c, h, q⟩ => by cases h; exact q, fun q => ⟨ds, rfl, q⟩⟩
theorem sign_of {c : Nat} {z : Str} {neg : Bool} : rdSign neg (.str ⟨#[c]⟩) (.str z) Q = Q (.bl (if neg then !decide (c ∈ z.cps.toList) else decide (c ∈ z.cps.toList))) := by
  refine propext ⟨fun ⟨c', z', h1, h2, q⟩ => ?_, fun q => ⟨c, z, rfl, rfl, q⟩⟩
  have e1 : (⟨#[c]⟩ : Str) = ⟨#[c']⟩ := D.str.inj h1
  have e2 : c = c' := by
    have := congrArg (fun (s : Str) => s.cps.toList) e1
    simpa using this
  cases h2
  subst e2
  exact q
theorem in_of {x : D} {neg : Bool} {ds : List D} (h1 : x.flat = true) (h2 : ds.all D.flat = true) : rdIn neg x (.tup ds) Q = Q (.bl (if neg then !inV x.v (ds.map D.v) else inV x.v (ds.map D.v))) :=
  propext ⟨fun ⟨ds', a, _, _, q⟩ => by cases a; exact q, fun q => ⟨ds, rfl, h1, h2, q⟩⟩
theorem in_f {x : D} {ds : List D} (h1 : x.flat = true) (h2 : ds.all D.flat = true) : rdIn false x (.tup ds) Q = Q (.bl (inV x.v (ds.map D.v))) := in_of (neg := false) h1 h2
theorem in_fs {x : Str} {ds : List D} (h2 : ds.all D.flat = true) : rdIn false (.str x) (.tup ds) Q = Q (.bl (inV (.str x) (ds.map D.v))) := in_of (neg := false) rfl h2
theorem nin_f {x : D} {ds : List D} (h1 : x.flat = true) (h2 : ds.all D.flat = true) : rdIn true x (.tup ds) Q = Q (.bl (!inV x.v (ds.map D.v))) := in_of (neg := true) h1 h2
theorem all_of {bs : List Bool} {f : List Bool → Bool} : rdAll f [.lst (bs.map .bl)] Q = Q (.bl (f bs)) := by
  refine propext ⟨fun ⟨bs', h1, q⟩ => ?_, fun q => ⟨bs, rfl, q⟩⟩
  have e1 : bs.map D.bl = bs'.map D.bl := by
    injection h1 with h1
    injection h1
  have e2 : ∀ (l m : List Bool), l.map D.bl = m.map D.bl → l = m := by
    intro l
    induction l with
    | nil => intro m h; cases m with | nil => rfl | cons _ _ => cases h
    | cons a l ih =>
      intro m h
      cases m with
      | nil => cases h
      | cons b m =>
        simp only [List.map_cons, List.cons.injEq, D.bl.injEq] at h
        rw [h.1, ih m h.2]
  rw [e2 _ _ e1]
  exact q
/-- a comprehension whose items are all kept, and whose element is a function of the item -/
theorem lc_map {j : Nat} {te : TD} {δ : DE} {f : D → D} : ∀ (ds acc : List D) (R : List D → Prop), (∀ d ∈ ds, ∀ R' : D → Prop, R' (f d) → te (δ.set j (.d d)) R') → acc.length + ds.length ≤ sizeLine → R (acc ++ ds.map f) → lcW j dtYes te ds acc δ R
  | [], acc, R, _, _, h => by
    rw [List.map_nil, List.append_nil] at h
    exact h
  | x :: xs, acc, R, ht, hz, h => by
    have e : lcW j dtYes te (x :: xs) acc δ R = te (δ.set j (.d x)) fun y => acc.length < sizeLine ∧ lcW j dtYes te xs (acc ++ [y]) δ R := by
      simp [lcW, dtYes]
    rw [e]
    refine ht x (List.mem_cons_self ..) _ ⟨by rw [List.length_cons] at hz; omega, ?_⟩
    refine lc_map xs _ R (fun d hd => ht d (List.mem_cons_of_mem _ hd)) (by rw [List.length_append]; rw [List.length_cons] at hz; show acc.length + 1 + xs.length ≤ _; omega) ?_
    rw [List.append_assoc]
    exact h
end
end Dn
set_option maxHeartbeats 4000000
/-! An own exception whose __init__ says super().__init__(text) and keeps one field. -/
namespace L2
open PySem PySem.Spec PyProof.Rows PySem.Calls
/-- what the written part says of such a class and its __init__ -/
structure SupI (P : Program) (K : PySem.W.Frag) (mg : Str → Option Value) (C fI cc : Addr) (qual : Str) (params : Arguments) (body : List Stmt) (scope : Scope) (fd : FuncData) : Prop where
  fn : ∃ (oc : Value) (od : Option Addr) (dV kV doc pm : Value) (an : Option Addr) (cda : Addr) (ct : Value) (osl : Array (Option Value)) (ccl : Value) (cdd : Option Addr) (ccs : Array (Option Value)) (vs : Array Value) (file : Str) (tf : Tok),
    fd = PySem.W.fnX "__init__" qual params body scope [("__class__", cc)] dV kV doc pm an (.ref cda) ct ∧ K.lookup fI = some ⟨oc, od, .func fd, osl⟩ ∧ PySem.W.codeIn K (.ref cda) qual = true ∧
    K.lookup cda = some ⟨ccl, cdd, .fields vs, ccs⟩ ∧ vs[2]? = some (.str file tf) ∧ ((P.main.file : Str) == file) = true
  cell : ∃ (cl : Value) (cld : Option Addr) (csl : Array (Option Value)), K.lookup cc = some ⟨cl, cld, .cell (some (.ref C)), csl⟩
  T : OexC K C
  noat : PySem.W.findIn K (.ref C) "at" = some none
  sup : mg "super" = none
  th : PySem.W.nsIn K PySem.cStatics "thirdparty.any" = some none
  along : PySem.W.ks_superIn K C C "__init__" = some (some (.builtin "ValueError.__init__"))
  isB : PySem.W.subIn K (.ref C) (.type "ValueError") = some true
  self : PySem.W.mroIn K C (.ref C) = some true
  top : (P.main.scope.names.lookup ("super" : Str)).isSome = false
def spI (K : PySem.W.Frag) (C : Addr) : Sp := fun vs H Q E => ∃ (e : Addr) (n : Int), vs = [.ref e, .int n] ∧ H e = some (exo e C none) ∧ ∀ dx, H dx = none → dx ≠ e → Q .non (upd (upd H dx (exd dx [("at", .int n)])) e (exo e C (some dx)))
theorem SupI.ok {P : Program} {w : World} {K : PySem.W.Frag} {mg : Str → Option Value} {base : Heap} {C fI cc : Addr} {qual : Str} {params : Arguments} {body : List Stmt} {scope : Scope} {fd : FuncData} {p0 p1 p2 p3 p4 p5 p6 p7 p8 p9 : Pos} {ctx : Nat} {txt : Str} {ar : Arg}
    (S : SupI P K mg C fI cc qual params body scope fd)
    (hb0 : body = [.Expr (.Call (.Attribute (.Call (.Name "super" p0) [] [] p1) "__init__" p2) [.Constant (.str txt) ctx p9] [] p3) p4, .Assign [.Attribute (.Name "self" p5) "at" p6] (.Name "at" p7) p8])
    (hpar : (params.posonlyargs ++ params.args).head? = some ar) (har : ar.arg = "self")
    (hks : scope.names.lookup ("super" : Str) = some .globalImplicit) (hkc : scope.names.lookup ("__class__" : Str) = some .free) (hka : scope.names.lookup ("self" : Str) = some .local) (hkt : scope.names.lookup ("at" : Str) = some .local)
    (hev : ∀ (L cda : Addr), ∃ pl : Sem Bool, eval (.Call (.Attribute (.Call (.Name "super" p0) [] [] p1) "__init__" p2) [.Constant (.str txt) ctx p9] [] p3) (PySem.W.ksEnv qual scope L fI (.ref cda) cc) = (do
      let ov ← attributeBase (.Call (.Name "super" p0) [] [] p1) "__init__" (PySem.W.ksEnv qual scope L fI (.ref cda) cc) (eval (.Call (.Name "super" p0) [] [] p1) (PySem.W.ksEnv qual scope L fI (.ref cda) cc))
      standAt p2.atName
      let (f, first) ← holding [ov] (getMethod ov "__init__" pl)
      callWith p3 f first (backTo p3 (starEach [.Constant (.str txt) ctx p9] (PySem.W.ksEnv qual scope L fI (.ref cda) cc))) []))
    (hint : ∀ L cda : Addr, interactive (PySem.W.ksEnv qual scope L fI (.ref cda) cc) = false)
    (hsw : ∀ L cda : Addr, swapsWith (.Call (.Attribute (.Call (.Name "super" p0) [] [] p1) "__init__" p2) [.Constant (.str txt) ctx p9] [] p3) none p4.line (PySem.W.ksEnv qual scope L fI (.ref cda) cc) = pure false)
    (hsw2 : ∀ L cda : Addr, swapsWith (.Name "at" p7) (some (.Attribute (.Name "self" p5) "at" p6)) p8.line (PySem.W.ksEnv qual scope L fI (.ref cda) cc) = pure false)
    (hk : scope.kind = .function) (hco : scope.isCoroutine = false) (hgen : scope.isGenerator = false) (hcell : ∀ x ∈ scope.names, x.2 ≠ .cell) :
    FnOk P w K mg base CX0 1 fI fd ["self", "at"] (spI K C) := by
  refine ⟨fun vs H Q E ⟨e, n, h, _⟩ => by rw [h]; rfl, fun A outer s H args us vs Q E hr e0 hb r hsp => ?_⟩
  obtain ⟨oc, od, dV, kV, doc, pm, an, cda, ct, osl, ccl, cdd, ccs, fv, file, tf, rfl, lk, hcd, lkc, hvs, hfile⟩ := S.fn
  obtain ⟨cl, cld, csl, lcell⟩ := S.cell
  obtain ⟨e, n, rfl, he, hq⟩ := hsp
  obtain ⟨mb, hb1, hb2⟩ := e0.mod.blt
  obtain ⟨nm, q, N, bs, bm, sn, sub, ab, col, dd, k0, k1, k2, k3, k5, hC, hbm⟩ := S.T.cls
  cases r with
  | @cons _ u0 _ us r0 r =>
  cases r with
  | @cons _ u1 _ us r1 r =>
  cases r
  obtain rfl : u0 = Value.ref e := r0
  obtain ⟨tn, rfl⟩ : ∃ t, u1 = Value.int n t := r1
  have KX : K.In s.heap := e0.mod.kin.keeps fun b o e => (e0.bs b o e).1
  have lim : s.heap.NoLimit := e0.mod.nolimit.keeps fun b o e => (e0.bs b o e).1
  have hcl : PySem.W.clsIn K C = some { name := nm, bases := bs, mro := .ref C :: bm, ns := N, qualname := q, hasDict := true, slotNames := sn, subclasses := sub, abstract := ab, collection := col, hasDel := false } := by unfold PySem.W.clsIn; rw [hC] <;> rfl
  obtain ⟨t1, hx0⟩ := exo_at e0.hok he
  subst hb0
  refine PySem.ks_codeAny_call_defAt (binds := [("self", Value.ref e), ("at", Value.int n tn)]) hr.depth (KX _ _ lk) rfl lim (PySem.W.codeRec_of KX hcd) rfl hb hcell (fun x hx => ?_) (fun h1 hns hk1 => ?_) hco hgen hk
  · rcases List.mem_cons.mp hx with rfl | hx
    · exact hka
    · rcases List.mem_cons.mp hx with rfl | hx
      · exact hkt
      · cases hx
  have up1 : ∀ {b : Addr} {o : Obj}, s.heap.get? b = some o → h1.get? b = some o := fun {b o} z => hk1 b o z
  have K1 : K.In h1 := KX.keeps hk1
  have gl1 : h1.Ns mainGlobals mg := e0.mod.glob.keeps fun b o z => hk1 b o (e0.bs b o z).1
  have bl1 : h1.Ns builtinsNs mb := hb1.keeps fun b o z => hk1 b o (e0.bs b o z).1
  have hCs : s.heap.get? C = some (excClassObj nm q C N bs bm true sn sub ab col dd k0 k1 k2 k3 k5 "ValueError.__new__") := KX _ _ hC
  have hxC : e ≠ C := fun z => by
    rw [z, hCs] at hx0
    cases hx0
  show PySem.wpAt (model P w) (A.deeper (PySem.W.ksEnv qual scope s.heap.objs.size fI (.ref cda) cc)) (.func _ (PySem.W.ksEnv qual scope s.heap.objs.size fI (.ref cda) cc)) (execs _ (PySem.W.ksEnv qual scope s.heap.objs.size fI (.ref cda) cc)) _ _ _
  generalize hA : A.deeper (PySem.W.ksEnv qual scope s.heap.objs.size fI (.ref cda) cc) = A'
  generalize hL : s.heap.objs.size = L at *
  obtain ⟨pl, hev⟩ := hev L cda
  refine PySem.ks_wpAt_execs_cons (PySem.ks_wpAt_Expr_any (PySem.ks_wpAt_MethodCall (pl := pl) ?_ hev) (hi := hint _ _) (hs := hsw _ _))
  refine PySem.ks_wpAt_super_base (env := PySem.W.ksEnv qual scope L fI (.ref cda) cc) hks hkc (by decide) rfl (up1 (KX _ _ lk)) rfl hpar rfl (up1 (KX _ _ lkc)) rfl hvs hfile S.top ?_
  refine PySem.W.ks_loadName_global hk hks (loadGlobal_builtin (env := PySem.W.ksEnv qual scope L fI (.ref cda) cc) gl1 S.sup bl1 ((hb2 _ (by decide)).trans PyProof.Rows.Boot.«super») ⟨rfl, ?_⟩)
  refine wpAny_loadName_free hk hkc rfl ⟨_, up1 (KX _ _ lcell), rfl⟩ ?_
  rw [har]
  refine wpAny_loadName_local hk hka hns (by rfl) ?_
  refine ks_wpAny_isType_cls (up1 hCs) rfl ⟨rfl, ?_⟩
  refine ks_wpAny_call_super (up1 hCs) rfl (up1 hx0) rfl (fun c z => nomatch z) (PySem.W.looks_mroIn K1 S.self) (fun h2 e2 k2 => ?_)
  have K2 : K.In h2 := K1.keeps k2
  have hal : PySem.W.alongIn K "__init__" (((Value.ref C :: bm).dropWhile (· != .ref C)).drop 1) = some (some (.builtin "ValueError.__init__")) := by
    have := S.along
    unfold PySem.W.ks_superIn at this
    rw [hcl] at this
    exact this
  have I2 : PySem.W.InstAt h2 e ({ cls := .ref C, dict := none, data := .fields #[.ref t1, .none, .none, .none, .bool false, .none] } : Obj) C none := ⟨k2 _ _ (up1 hx0), rfl, rfl, trivial⟩
  refine PySem.W.kxs_getMethod PySem.W.kxs_ValueError e2 (PySem.W.looks_opaque K2 S.th) (l₀ := .ref C :: bm) ((PySem.W.looks_clsIn K2 hcl).andThen .now) rfl K2 hal (I2.type.andThen (PySem.W.looks_subIn K2 S.isB)) hxC (by decide) ?_
  show wpAny _ _ (callWith p3 (Value.ref h2.objs.size) [] (backTo p3 (starEach [Expr.Constant (Const.str txt) ctx p9] (PySem.W.ksEnv qual scope L fI (.ref cda) cc))) []) _ _ _
  rw [show starEach [Expr.Constant (Const.str txt) ctx p9] (PySem.W.ksEnv qual scope L fI (.ref cda) cc) = (false, eval (Expr.Constant (Const.str txt) ctx p9) (PySem.W.ksEnv qual scope L fI (.ref cda) cc)) :: starEach [] (PySem.W.ksEnv qual scope L fI (.ref cda) cc) from rfl]
  have up2 : ∀ {b : Addr} {o : Obj}, s.heap.get? b = some o → (h2.push (PySem.W.kxs_mw "ValueError.__init__" e)).get? b = some o := fun {b o} z => Heap.get?_push_of_some _ (k2 _ _ (up1 z))
  have hu : (h2.push (PySem.W.kxs_mw "ValueError.__init__" e)).get? h2.objs.size = some (PySem.W.kxs_mw "ValueError.__init__" e) := Heap.get?_push_at rfl rfl
  refine PySem.W.kxs_callWith (i := "ValueError.__init__") (x := e) rfl (evalArgs_plain (PyProof.Rows.spliced_more (env := PySem.W.ksEnv qual scope L fI (.ref cda) cc) (Constant_str (PyProof.Rows.spliced_none ⟨hu, ?_⟩))))
  refine wpAny_call (codeAny_of_tree ?_)
  show wpAny _ A'.in1 (callAny (.ref h2.objs.size) _) _ _ _
  simp only [callAny]
  refine wpAny_bind (wpAny_load hu ?_)
  simp only [PySem.W.kxs_mw, show (Value.type "method-wrapper" == Value.type "method" || Value.type "method-wrapper" == Value.type "builtin_function_or_method" || Value.type "method-wrapper" == Value.type "method-wrapper") = true by decide, if_true]
  refine PySem.W.KFB.if_so (by decide) ?_
  refine wpAny_bind (PySem.W.check_bound_init F.excBase_ValueError.toExcCallFacts (up2 hCs) (up2 hx0) rfl ?_)
  refine wpAny_bind (wpAny_pure (wpAny_pure ?_))
  refine ⟨plainId_quiet F.excBase_ValueError.init.plain _, codeAny_builtin F.excBase_ValueError.initEntry ?_⟩
  refine PySem.W.exc_init_tree (cls := .ref C) (t0 := t1) (dv := none) (c2 := .none) (c3 := .none) (b4 := .bool false) (up2 hx0) (by show 1 ≤ sizeLine; decide) (fun h4 k4 x4 _ => ?_)
  have heL : e < L := by rw [← hL]; exact Heap.lt_size hx0
  have up4 : ∀ {b : Addr} {o : Obj}, b ≠ e → s.heap.get? b = some o → h4.get? b = some o := fun {b o} hb z => k4 b o hb (up2 z)
  have hne : H e ≠ none := by rw [he]; exact fun z => nomatch z
  have K4 : K.In h4 := fun b o z => up4 (fun y => by
    have w1 := e0.mod.kin b o z
    have w2 := (e0.bs b o w1).2
    rw [y] at w2
    exact hne w2) (KX b o z)
  have ns4 : h4.Ns L fun x => List.lookup x [(Str.ofString "self", Value.ref e), (Str.ofString "at", Value.int n tn)].reverse := by
    obtain ⟨o, es, ep, ho, hr⟩ := hns
    exact ⟨o, es, ep, k4 _ _ (fun z => absurd heL (by rw [z]; exact Nat.lt_irrefl _)) (Heap.get?_push_of_some _ (k2 _ _ ho)), hr⟩
  show PySem.wpAt _ _ _ (execs _ _) _ _ _
  refine PySem.ks_wpAt_execs_cons (PySem.wpAt_of_wpAny (plainObj_wpAny_Assign_Attribute ?_ (hsw2 _ _)))
  refine wpAny_Name (wpAny_loadName_local hk hkt ns4 (by rfl) ?_) (by decide)
  refine wpAny_Name (wpAny_loadName_local hk hka ns4 (by rfl) ?_) (by decide)
  refine PySem.W.set_plain K4 (ox := { cls := .ref C, dict := none, data := .fields #[.ref _, .none, .none, .none, .bool false, .none] }) (od := none) ⟨x4, rfl, rfl, trivial⟩ S.T.sa ?_
  refine PySem.HandSPX.exc_osa K4 x4 hcl (show PySem.HandSPX.refsVE (.ref C :: bm) = true from hbm) rfl S.noat (fun h5 tk5 dx k5 dn dne hx5 hn5 => ?_)
  refine PySem.wpAt_of_wpAny (wpAny_execs_nil ?_)
  have up5 : ∀ {b : Addr} {o : Obj}, b ≠ e → s.heap.get? b = some o → h5.get? b = some o := fun {b o} hb z => k5 b o hb (up4 hb z)
  have hdx : s.heap.objs.size ≤ dx := by
    refine Nat.le_trans ?_ dn
    rw [hL]
    obtain ⟨o, es, ep, ho, _⟩ := ns4
    exact Nat.le_of_lt (Heap.lt_size ho)
  have hnd : H dx = none := e0.hok.fresh hdx
  have nd : ∀ {b : Addr} {o : Obj}, s.heap.get? b = some o → b ≠ dx := fun {b o} q => Nat.ne_of_lt (Nat.lt_of_lt_of_le (Heap.lt_size q) hdx)
  have na : ∀ {b : Addr}, H b = none → b ≠ e := fun {b} n z => by
    rw [z, he] at n
    cases n
  refine ⟨.non, upd (upd H dx (exd dx [("at", .int n)])) e (exo e C (some dx)), rfl, e0.bare, ?_, ?_, rfl, hq dx hnd dne⟩
  · exact {
      keep := fun b o q n _ _ => up5 (na n) q
      slot := fun b o q n _ _ => ⟨o.slots, up5 (na n) q⟩
      free := fun b o q n _ => by rw [upd_ne (na n), upd_ne (nd q)]; exact n
      there := fun b o q _ => by
        by_cases hb : b = e
        · exact ⟨_, by rw [hb]; exact hx5⟩
        · exact ⟨o, up5 hb q⟩
      tups := fun b xs q => by rw [upd_ne (at_ne he q exo_tup), upd_ne (ne_of_none q hnd)]; exact q
      frzs := fun b o v q => by rw [upd_ne (at_ne he q exo_frz), upd_ne (ne_of_none q hnd)]; exact q
      tbls := fun b ps q => ⟨#[], by rw [upd_ne (at_ne he q exo_tbl), upd_ne (ne_of_none q hnd), q]; simp⟩ }
  · intro b o q
    by_cases hb : b = e
    · subst hb
      rw [upd_same] at q
      cases q
      exact exo_ok hx5
    · rw [upd_ne hb] at q
      by_cases hd : b = dx
      · subst hd
        rw [upd_same] at q
        cases q
        exact exd_ok hn5 (relO_put (fs := []) ⟨tn, rfl⟩ fun g => True.intro)
      · rw [upd_ne hd] at q
        exact (e0.hok b o q).stay (fun c v hc z => up5 (by
            rcases hc with hc | hc
            · rw [hc]
              exact hb
            · exact at_ne he hc exo_own) z)
          (fun c hc => by rw [upd_ne (at_ne he hc exo_own), upd_ne (ne_of_none hc hnd)]; exact hc) (fun c xs hc => by rw [upd_ne (at_ne he hc exo_tup), upd_ne (ne_of_none hc hnd)]; exact hc)
end L2
set_option maxHeartbeats 2000000
/-! Defs that raise an own exception with the field at = 0, caught again: by data. -/
namespace Dn
open PySem L2
/-- what lies at the dict of the exception -/
abbrev xd0 : HO := .xd [("at", .int 0)]
abbrev RX := List D → (D → Prop) → Prop → Prop
abbrev MoX (R : RX) : Prop := ∀ (ds : List D) (Q Q' : D → Prop) (p p' : Prop), (∀ d, Q d → Q' d) → (p → p') → R ds Q p → R ds Q' p'
def spX (K : PySem.W.Frag) (C : Addr) (b : Bx) (R : RX) : Sp := fun vs H Q E => ∃ G ds, Same G H ∧ (∀ a, b.B a → G a = none) ∧ b.I H ∧ RpA K G vs ds ∧
  R ds (fun d => ∀ v G' H', Gw b G H G' H' → Rp K G' v d → Q v H') (∀ G' H' dx, Gw b G H G' H' → H' dx = some xd0 → E (.ref C) (some dx) H')
/-- where nothing is raised -/
theorem spX_imp {K : PySem.W.Frag} {C : Addr} {b : Bx} {R : RX} {vs : List V} {H : Hp} {Q : VK} {E : XK} (h : spD K b (fun ds Q => R ds Q False) vs H Q E) (m : MoX R) : spX K C b R vs H Q E := by
  obtain ⟨G, ds, h1, h2, h3, h4, h5⟩ := h
  exact ⟨G, ds, h1, h2, h3, h4, m _ _ _ _ _ (fun _ z => z) (fun z => z.elim) h5⟩
section
variable {X : Cx} {e : Bs} {a c : Expr} {es : List Expr} {ta tb tc : TD} {t : TDA} {pos p : Pos} {k : Nat} {f : Addr} {fd : FuncData} {ps : List Str} {x : Str} {W : WX} {C : Addr} {φ : DE → Prop}
/-- the exception may leave where φ holds of the slots -/
def Out (X : Cx) (e : Bs) (C : Addr) (W : WX) (φ : DE → Prop) : Prop := ∀ δ, φ δ → ∀ G H σ dx, SK X.K e G H σ δ → H dx = some xd0 → W (.ref C) (some dx) σ H
theorem FunV.okX {P : Program} {w : World} {K : PySem.W.Frag} {mg : Str → Option Value} {base : Heap} {x qual : Str} {st : Stmt} {f : Addr} {fd : FuncData} {N ps : List Str} {k : Nat} {sp : Sp} (F : FunV K x qual st f fd) (S : FnScope N ps (defScope st)) (len : ∀ vs H Q E, sp vs H Q E → vs.length = ps.length)
    (go : ∀ (cdv : Value) (A : Around) (outer : List Env) (s : Shared) (H : Hp) (vs : List V) (Q : VK) (E : XK), Room k (A.deeper (PyProof.Rows.envOfC qual (defScope st) s.heap.objs.size f cdv)) → sp vs H Q E →
      ∃ t, PSs (cxOf (L2.CX P w) P w K mg base N qual (defScope st) f cdv A outer s H E) (defBody st) t ∧ t { nx := fun _ H' => Q .non H', rt := Q } (L2.start N vs) H) : FnOk P w K mg base (L2.CX P w) (k + 1) f fd ps sp := by
  obtain ⟨oc, od, dV, kV, doc, pm, an, cdv, ct, osl, rfl, lk, hcd⟩ := F.ex
  exact fn_of lk hcd S len fun A outer s H vs Q E => go cdv A outer s H vs Q E
theorem okX {P : Program} {w : World} {K : PySem.W.Frag} {mg : Str → Option Value} {base : Heap} {x qual : Str} {st : Stmt} {f : Addr} {fd : FuncData} {N ps : List Str} {k : Nat} {C : Addr} {R : RX}
    (F : FunV K x qual st f fd) (S : FnScope N ps (defScope st)) (len : ∀ ds Q p, R ds Q p → ds.length = ps.length)
    (hbody : ∀ (cdv : Value) (A : Around) (outer : List Env) (s : Shared) (H : Hp) (E : XK) (e : Bs) (W : WX) (φ : DE → Prop), e.b = bx0 → Room k (A.deeper (PyProof.Rows.envOfC qual (defScope st) s.heap.objs.size f cdv)) →
      Takes (cxOf (L2.CX P w) P w K mg base N qual (defScope st) f cdv A outer s H E) W → Out (cxOf (L2.CX P w) P w K mg base N qual (defScope st) f cdv A outer s H E) e C W φ →
      ∃ t, DB_ (cxOf (L2.CX P w) P w K mg base N qual (defScope st) f cdv A outer s H E) e (defBody st) t ∧ ∀ ds Q p, R ds Q p → (p → ∀ δ, φ δ) → t { nx := fun _ => Q .non, rt := Q } (startD N ds)) :
    FnOk P w K mg base (L2.CX P w) (k + 1) f fd ps (spX K C bx0 R) := by
  refine F.okX S (fun vs H Q E h => ?_) (fun cdv A outer s H vs Q E hr h => ?_)
  · obtain ⟨G, ds, h1, h2, h3, r, h⟩ := h
    rw [r.length]
    exact len _ _ _ h
  · obtain ⟨G, ds, h1, h2, h3, r, h⟩ := h
    obtain ⟨t, hb, ht⟩ := hbody cdv A outer s H E ⟨bx0, H, G⟩ (fun cls d _ H => E cls d H) (fun _ => ∀ G' H' dx, Gw bx0 G H G' H' → H' dx = some xd0 → E (.ref C) (some dx) H') rfl hr (takes_of rfl rfl rfl rfl)
      (fun δ hφ G' H' σ dx S hx => hφ G' H' dx ⟨S.hk.keep, S.hk.box, S.hk.g0, S.hk.sub, S.hk.new, S.hk.fz⟩ hx)
    refine ⟨_, hb.run, G, startD N ds, _, start_ok h1 h2 h3 r, ht ds _ _ h fun z _ => z, fun δ' σ' G' H' g S' s' => ?_, fun d v G' H' g hk r' => ?_, fun _ _ _ _ g => g.elim, fun _ _ _ _ g => g.elim⟩
    · exact g .non G' H' ⟨S'.hk.keep, S'.hk.box, S'.hk.g0, S'.hk.sub, S'.hk.new, S'.hk.fz⟩ .non
    · exact g v G' H' ⟨hk.keep, hk.box, hk.g0, hk.sub, hk.new, hk.fz⟩ r'
/-- raise C(0) -/
def dRaise (φ : DE → Prop) : TDS := fun _ δ => φ δ
theorem ds_raise {CX : CXT} {fI : Addr} {fdI : FuncData} (hc : X.calm = true) (tk : Takes X W) (hφ : Out X e C W φ) (T : OexC X.K C) (iC : PySem.W.findIn X.K (.ref C) "__init__" = some (some (.ref fI))) (tI : PySem.W.typeIn X.K (.ref fI) = some (.type "function"))
    (F1 : FnOk X.prog X.w X.K X.mg X.base CX k fI fdI ["self", "at"] (spI X.K C)) (hr : Room (k + 1) X.A) (hb : Binds X.K fdI ["self", "at"] []) (hx : Passes CX X (fun _ _ _ => False)) (hm : X.mg x = some (.ref C)) {j : Nat} {p' : Pos} (hg : Gl X x := by rfl)
    (hdb : (x == ("__debug__" : Str)) = false := by decide) (he : starEach [.Constant (.int 0) j p'] X.env = (false, eval (.Constant (.int 0) j p') X.env) :: starEach [] X.env := by rfl) (hpl : (backTo pos (starEach [] X.env)).any (·.1) = false := by rfl) {p2 : Pos} :
    DS_ X e (.Raise (some (.Call (.Name x p) [.Constant (.int 0) j p'] [] pos)) none p2) (dRaise φ) := by
  have ha : DA_ X e [.Constant (.int 0) j p'] (dCons (dC (.int 0)) dNil) := da_cons de_int da_nil he
  refine ⟨wkS (ps_raise hc tk (pmk_oex T iC tI F1 hr hb .nil hx hg hm ha.run hdb he hpl)) fun Z σ H ⟨G, δ, DD, S, h, _⟩ => ?_, fun A B δ l h => h⟩
  refine ⟨G, δ, S, fun vs G1 H1 S1 w1 r1 => ⟨by rw [r1.length]; decide, fun ad hn => ?_⟩⟩
  cases r1 with
  | cons r0 r1 =>
    cases r1
    cases r0
    refine ⟨ad, 0, rfl, upd_same, fun dx hd hne => ⟨rfl, dx, [("at", .int 0)], upd_same, ?_, ?_, ?_⟩⟩
    · rw [upd_ne hne, upd_same]
    · rw [upd_ne hne] at hd
      exact hd
    · rw [upd_ne hne] at hd
      have e1 : upd (del (upd (upd (upd H1 ad (exo ad C none)) dx (exd dx [("at", .int 0)])) ad (exo ad C (some dx))) ad) dx xd0 = upd H1 dx xd0 := by
        funext b
        by_cases hb1 : b = dx
        · rw [hb1, upd_same, upd_same]
        · rw [upd_ne hb1, upd_ne hb1]
          by_cases hb2 : b = ad
          · rw [hb2, del_same, hn]
          · rw [del_ne hb2, upd_ne hb2, upd_ne hb1, upd_ne hb2]
      rw [e1]
      have w2 : Gw e.b G1 H1 G1 (upd H1 dx xd0) := by
        have sm : Same H1 (upd H1 dx xd0) := fun b o q => by
          rw [upd_ne (ne_of_none q hd)]; exact q
        exact ⟨Same.b sm, Bx.same S1.hk.box sm, .refl _, fun b o q => sm b o (S1.hk.sub b o q), fun _ _ z => .inl z, S1.hk.fz⟩
      exact hφ δ h G1 _ σ dx (S1.grow w2) upd_same
/-- f(a, ..), f a def that may raise; φ: what is wanted then -/
def dCallX (R : RX) (φ : DE → Prop) (t : TDA) : TD := fun δ Q => t δ fun ds => R ds Q (φ δ)
theorem de_callX {R : RX} (mR : MoX R) (tk : Takes X W) (hφ : Out X e C W φ) (F : FnOk X.prog X.w X.K X.mg X.base (L2.CX X.prog X.w) k f fd ps (spX X.K C bx0 R)) (hr : Room k X.A) (hm : X.mg x = some (.ref f)) (hk : PySem.W.keepIn X.K (.ref f) = true) (hbi : Binds X.K fd ps [])
    (ha : DA_ X e (a :: es) t) (hg : Gl X x := by rfl) (hdb : (x == ("__debug__" : Str)) = false := by decide) (he : starEach (a :: es) X.env = (false, eval a X.env) :: starEach es X.env := by rfl) (hpl : (backTo pos (starEach es X.env)).any (·.1) = false := by rfl) :
    DE_ X e (.Call (.Name x p) (a :: es) [] pos) (dCallX R φ t) := by
  refine ⟨wkE (pe_callS (E := WE W) F hr hg hm hk hbi (fun σ => passAt tk σ) ha.run hdb he hpl) fun σ H Q ⟨G, δ, S, h⟩ => ?_, fun δ Q Q' k h => ha.mono _ _ _ (fun ds h => mR _ _ _ _ _ k (fun z => z) h) h⟩
  refine ⟨G, δ, S, ha.mono _ _ _ (fun ds h vs G1 H1 S1 w1 r1 => ?_) h⟩
  refine ⟨G1, ds, S1.hk.sub, fun _ z => z.elim, trivial, r1, mR _ _ _ _ _ (fun d h v G' H' w' r' => ?_) (fun z G' H' dx w' hx => ?_) h⟩
  · have w2 := w'.up S1.hk.box S1.hk.fz
    exact h v G' H' (S1.grow w2) (w1.trans w2) r'
  · exact hφ δ z G' H' σ dx (S1.grow (w'.up S1.hk.box S1.hk.fz)) hx
end
end Dn
set_option maxHeartbeats 2000000
/-! try: one statement; except C as e: y = e.at if isinstance(e, D) else '..' -/
namespace L2
open PySem PySem.Spec PyProof.Rows
/-- isinstance(e, c), e the caught exception with its dict d -/
def rIsD (K : PySem.W.Frag) (D : Addr) (a : Addr) (cls : Value) (d : Option Addr) : List V → Hp → VK → Prop := fun xs H Q =>
  ∃ (dd : Addr) (fs : List (Str × V)) (c : V) (cv : Value) (b : Bool), cls = .ref D ∧ d = some dd ∧ H dd = some (.xd fs) ∧ xs = [.ref a, c] ∧ (∀ u, RelV c u → u = cv) ∧ PySem.W.kitOne K (.ref D) cv = some b ∧ Q (.bl b) H
theorem call_isD {X : Cx} {a D : Addr} {oe : Obj} {cls : Value} {d : Option Addr} {pn : List (Addr × Obj)} (T : ExcC X.K D) (hz : Zc cls d oe) (hf : ∃ vs, oe.data = .fields vs) : CallR (X.suite a ((a, oe) :: pn)) (.builtin "isinstance") (rIsD X.K D a cls d) := by
  intro pins s σ H xs us Q I r h
  obtain ⟨dd, fs, c, cv, b, rfl, rfl, hdd, rfl, hcv, e, q⟩ := h
  cases r with
  | cons rx rr =>
  cases rr with
  | cons rt rr =>
  cases rr
  cases rx
  obtain rfl := hcv _ rt
  obtain ⟨hget, _⟩ := I.pin (a, oe) (List.mem_append.mpr (.inl List.mem_cons_self))
  obtain ⟨vs, hv⟩ := hf
  have hx : ObjOk X.prog X.w H s.heap dd (.xd fs) := I.hok dd _ hdd
  obtain ⟨mA, hns, _⟩ := hx
  obtain ⟨od, ho, _⟩ := lookIn_ns hns
  have J : PySem.W.InstAt s.heap a oe D (some od) := ⟨hget, hz.1, by unfold PySem.W.notCls; rw [hv] <;> rfl, by rw [hz.2]; exact ho⟩
  obtain ⟨cd, hcd, _⟩ := PySem.W.any_some T.hd
  exact PySem.W.kia_one (PySem.W.kitx_exc (by rw [hcd]; rfl) T.hg T.hk T.hs T.ha T.hn T.ht T.hm) I.kIn J e (fun z => nomatch z) fun tk => ⟨.bl b, H, I.kept (t' := tk) fun _ _ z => z, rfl, q⟩
end L2
namespace Dn
open PySem L2
section
variable {K : PySem.W.Frag} {e : Bs} {G H G' H' : Hp} {σ σ' : St} {δ δ' : DE}
theorem SK.putUn (S : SK K e G H σ δ) (i : Nat) (x : Option V) : SK K e G H (σ.set i x) (δ.set i .un) := by
  refine ⟨S.hk, by rw [List.length_set, List.length_set]; exact S.len, fun j s h => ?_, fun j k ds es p n h1 h2 h3 h4 => ?_⟩
  · rw [set_get] at h ⊢
    by_cases z : i = j
    · rw [if_pos z] at h
      split at h <;> cases h
      trivial
    · rw [if_neg z] at h ⊢
      exact S.sl j s h
  · rw [set_get] at h1 h2 h3 h4
    by_cases z : i = j
    · rw [if_pos z] at h1
      split at h1 <;> cases h1
    · by_cases y : i = k
      · rw [if_pos y] at h2
        split at h2 <;> cases h2
      · rw [if_neg z] at h1 h3
        rw [if_neg y] at h2 h4
        exact S.sep j k ds es p n h1 h2 h3 h4
/-- the slots seen from here on -/
theorem SK.enter (S : SK K e G H σ δ) (no : ∀ (i : Nat) (ds : List D), δ[i]? ≠ some (SV.own ds)) : SK K ⟨e.b, H, G⟩ G H σ δ := by
  refine ⟨⟨.refl _ _, S.hk.sub, S.hk.fz, S.hk.box, S.hk.box, fun _ _ h => .inl h, .refl _⟩, S.len, fun i s h => ?_, S.sep⟩
  have q := S.sl i s h
  cases s with
  | un => trivial
  | d d => exact q
  | own ds => exact absurd h (no i ds)
theorem HK.leave (k : HK e G H) (k' : HK ⟨e.b, H, G⟩ G' H') : HK e G' H' := k.grow ⟨k'.keep, k'.box, k'.g0, k'.sub, k'.new, k'.fz⟩
theorem SK.leave (S : HK e G H) (S' : SK K ⟨e.b, H, G⟩ G' H' σ' δ') : SK K e G' H' σ' δ' := by
  refine ⟨S.leave S'.hk, S'.len, fun i s h => ?_, S'.sep⟩
  have q := S'.sl i s h
  cases s with
  | un => trivial
  | d d => exact q
  | own ds =>
    obtain ⟨p, vs, h1, h2, h3, h4, h5, h6, h7⟩ := q
    exact ⟨p, vs, h1, h2, h3, h4, S.keep.none h6 h5, h6, h7⟩
end
section
variable {X : Cx} {e : Bs} {pos p : Pos} {C Cw : Addr} {body : List Stmt}
def noOwn (δ : DE) : Prop := ∀ (i : Nat) (ds : List D), δ[i]? ≠ some (.own ds)
def dTry (i j : Nat) (tb : (DE → Prop) → TDS) : TDS := fun Z δ => noOwn δ ∧ tb (fun δ' => δ'[i]?.isSome = true ∧ i ≠ j ∧ Z.nx ((δ'.set j (.d (.int 0))).set i .un)) Z δ
theorem ds_try {i j : Nat} {c0 n y cD : Str} {np pos' p1 p2 p3 p4 p5 p6 p7 : Pos} {js : Nat} {txt : Str} {tb : (DE → Prop) → TDS}
    (hs : X.stack = X.env :: X.outer) (hf : X.env.frame = some X.env.locals) (hN : X.N.Nodup) (hmC : X.mg c0 = some (.ref C)) (hm : X.mg "isinstance" = none) (hD : X.mg cD = some (.ref Cw))
    (T : ExcC X.K C) (TX : XfC X.K C) (noat : PySem.W.findIn X.K (.ref C) "at" = some none) (hexm : PySem.W.exmOne X.K (.ref C) (.ref C) = some true) (hkit : PySem.W.kitOne X.K (.ref C) (.ref Cw) = some true)
    (mb : ∀ φ φ' A B δ, (∀ δ, φ δ → φ' δ) → A.Le B → tb φ A δ → tb φ' B δ)
    (hb : ∀ (W : WX) (pn : List (Addr × Obj)) (xe : Value → Shared → Prop) (e' : Bs) (φ : DE → Prop), e'.b = e.b → Takes (X.tr pn xe) W → PassesOwn (model X.prog X.w) X.A X.env xe → Out (X.tr pn xe) e' C W φ → DB_ (X.tr pn xe) e' body (tb φ))
    (hi : X.N[i]? = some n := by rfl) (hj : X.N[j]? = some y := by rfl) (hln : X.env.kindOf n = some .local := by rfl) (hgC : Gl X c0 := by rfl) (hdC : (c0 == ("__debug__" : Str)) = false := by decide) (hgD : Gl X cD := by rfl) (hgI : Gl X "isinstance" := by rfl) (hdD : (cD == ("__debug__" : Str)) = false := by decide) (hdn : (n == ("__debug__" : Str)) = false := by decide) (hcn : (n == ("__classdict__" : Str)) = false := by decide)
    (hbase : attributeBase (.Name n p5) "at" X.env (eval (.Name n p5) X.env) = eval (.Name n p5) X.env := by rfl)
    (hst : ∀ whole, isTrue (.Call (.Name "isinstance" p1) [.Name n p2, .Name cD p3] [] p4) X.env whole = (do let v ← whole; standAt (Expr.pos (.Call (.Name "isinstance" p1) [.Name n p2, .Name cD p3] [] p4)); holding [v] (truthy v)) := by intro _; rfl)
    (he1 : starEach [.Name n p2, .Name cD p3] X.env = (false, eval (.Name n p2) X.env) :: starEach [.Name cD p3] X.env := by rfl) (he2 : starEach [.Name cD p3] X.env = (false, eval (.Name cD p3) X.env) :: starEach [] X.env := by rfl) (hpl : (backTo p4 (starEach [.Name cD p3] X.env)).any (·.1) = false := by rfl)
    {pif pas : Pos} {yp : Pos}
    (hyl : Loc X.env.scope y := by first | exact .inl rfl | exact .inr rfl)
    (hsw : swapsWith (.IfExp (.Call (.Name "isinstance" p1) [.Name n p2, .Name cD p3] [] p4) (.Attribute (.Name n p5) "at" p6) (.Constant (.str txt) js p7) pif) (some (.Name y yp)) pas.line X.env = pure false := by rfl)
    (hyf : X.fn y = true ∨ X.env.scope.names.lookup y = some .local := by first | exact .inl rfl | exact .inr rfl) :
    DS_ X e (.Try body [.ExceptHandler (some (.Name c0 np)) (some n) [.Assign [.Name y yp] (.IfExp (.Call (.Name "isinstance" p1) [.Name n p2, .Name cD p3] [] p4) (.Attribute (.Name n p5) "at" p6) (.Constant (.str txt) js p7) pif) pas] pos'] [] [] pos) (dTry i j tb) := by
  have R := ps_try_as (X := X) (x := c0) (n := n) (c := .ref C) (i := i) (body := body) (np := np) (pos := pos) (pos' := pos') (tb := fun W Z σ H => ∃ φ e', e'.b = e.b ∧ Out X e' C W φ ∧ lS X.K e' (tb φ) Z σ H) (Wout := fun _ _ _ _ => False)
    hs hf hN hi hln ⟨hgC, hdC, .inl hmC⟩ takes0
    (fun W pn xe tk ps => ⟨fun pins s σ H Z I ⟨φ, e', eb, ho, h⟩ => (hb W pn xe e' φ eb tk ps ho).run.run pins s σ H Z I h⟩)
    (fun a oe cls d pn hz hfl => pss_one (ps_set (X := X.suite a ((a, oe) :: pn)) (i := j) hN hj hyl
      (pe_ifExp (pt_val (pe_callB (call_isD (X := X) (D := C) T hz hfl) hgI hm PyProof.Rows.Boot.«isinstance» (pa_cons (pe_var hi (.inl hln) hdn hcn) (pa_cons (pe_glob (v := .ref Cw) hgD hD rfl hdD) pa_nil he2) he1) (by decide) (by decide) he1 hpl) hst)
        (pe_xf TX noat hz hfl (pe_var hi (.inl hln) hdn hcn) hbase) pe_str) hsw hyf))
  refine ⟨wkS R fun Z σ H ⟨G, δ, DD, S, ⟨no, h⟩, nx, rt, bk, ct⟩ => ?_, fun A B δ l ⟨no, h⟩ => ⟨no, mb _ _ _ _ _ (fun δ ⟨a, b, h⟩ => ⟨a, b, l.nx _ h⟩) l h⟩⟩
  refine ⟨_, ⟨e.b, H, G⟩, rfl, fun δ' hφ G' H' σ' dx S' hx => ?_, G, δ, DD, S.enter no, h, fun δ' σ' G' H' q S' s' => nx _ _ _ _ q (S'.leave S.hk) s', fun d v G' H' q k r => rt d v G' H' q (S.hk.leave k) r, fun δ' σ' G' H' q S' s' => bk _ _ _ _ q (S'.leave S.hk) s', fun δ' σ' G' H' q S' s' => ct _ _ _ _ q (S'.leave S.hk) s'⟩
  obtain ⟨hd, hij, hn⟩ := hφ
  have hil : i < σ'.length := by
    rw [← S'.len]
    obtain ⟨s, hs⟩ := Option.isSome_iff_exists.mp hd
    exact (List.getElem?_eq_some_iff.mp hs).1
  refine ⟨true, hexm, fun _ a na => ?_, fun z => nomatch z⟩
  have g2 : (σ'.set i (some (V.ref a)))[i]? = some (some (V.ref a)) := by rw [List.getElem?_set, if_pos rfl, if_pos hil]
  refine ⟨.ref a, g2, dx, [("at", .int 0)], .ref Cw, .ref Cw, true, rfl, rfl, hx, rfl, fun u r => r, hkit, true, rfl, ?_⟩
  refine ⟨.ref a, g2, rfl, rfl, dx, [("at", .int 0)], .int 0, rfl, hx, rfl, ?_⟩
  refine nx _ _ G' H' hn ?_ S'.hk.g0
  have S1 := (((S'.leave S.hk).putUn i (some (V.ref a))).put (i := j) (v := .int 0) (d := .int 0) (.int 0)).putUn i none
  have e1 : ((δ'.set i SV.un).set j (.d (.int 0))).set i .un = (δ'.set j (.d (.int 0))).set i .un := by
    rw [List.set_comm _ _ hij, List.set_set]
  rw [e1] at S1
  exact S1
end
end Dn
set_option maxHeartbeats 2000000
/-! The box of two ints: read, stored, handed on. What it holds is not told, but for bounds. -/
namespace Dn
open PySem L2
def bxTop : Int := 2147483629
def bxOk (k m : Int) : Prop := if k = 0 then 0 ≤ m else 1 ≤ m ∧ m ≤ bxTop
def bxp (p : Addr) : Bx where
  B := fun a => a = p
  I := fun H => ∃ i j, H p = some (.lst [.int i, .int j]) ∧ bxOk 0 i ∧ bxOk 1 j
  loc := fun H H' h ⟨i, j, h1, h2⟩ => ⟨i, j, (h p rfl).trans h1, h2⟩
  al := fun H a ⟨i, j, h1, _⟩ h => by subst h; rw [h1]; exact fun z => nomatch z
section
variable {X : Cx} {e : Bs} {a c : Expr} {ta : TD} {pos : Pos} {p : Addr}
/-- box[k] -/
def rdBox (p : Addr) : RD2 := fun x y Q => x = .raw (.ref p) ∧ ∃ k, y = .int k ∧ (k = 0 ∨ k = 1) ∧ ∀ m, bxOk k m → Q (.int m)
theorem L_bx (hb : e.b = bxp p) : Lift2 X e (rIxL X.K) (rdBox p) := by
  refine ⟨fun x y d f G H σ δ Q S r1 r2 ⟨h1, k, h2, h3, q⟩ => ?_, fun d f Q Q' k ⟨h1, j, h2, h3, q⟩ => ⟨h1, j, h2, h3, fun m hm => k _ (q m hm)⟩⟩
  subst h1 h2
  cases r1
  cases r2
  have hi := S.hk.box
  rw [hb] at hi
  obtain ⟨i, j, h4, h5, h6⟩ := hi
  rcases h3 with h3 | h3
  · subst h3
    exact ⟨p, _, 0, .int i, rfl, rfl, .inl (.inl h4), rfl, q i h5 _ G H S S.hk.refl (.int i)⟩
  · subst h3
    exact ⟨p, _, 1, .int j, rfl, rfl, .inl (.inl h4), rfl, q j h6 _ G H S S.hk.refl (.int j)⟩
theorem bx_0 {Q : D → Prop} : rdBox p (.raw (.ref p)) (.int 0) Q = ∀ m : Int, 0 ≤ m → Q (.int m) := propext ⟨fun ⟨_, k, h, _, q⟩ => by cases h; exact q, fun q => ⟨rfl, 0, rfl, .inl rfl, q⟩⟩
theorem bx_1 {Q : D → Prop} : rdBox p (.raw (.ref p)) (.int 1) Q = ∀ m : Int, 1 ≤ m ∧ m ≤ bxTop → Q (.int m) := propext ⟨fun ⟨_, k, h, _, q⟩ => by cases h; exact q, fun q => ⟨rfl, 1, rfl, .inr rfl, q⟩⟩
theorem SK.box {K : PySem.W.Frag} {G H : Hp} {σ : St} {δ : DE} {o : HO} (S : SK K e G H σ δ) (hB : e.b.B p) (hI : e.b.I (upd H p o)) : SK K e G (upd H p o) σ δ := by
  have ne : ∀ {a : Addr}, ¬ e.b.B a → a ≠ p := fun {a} n z => n (z ▸ hB)
  have gp : G p = none := S.hk.fz p hB
  refine ⟨⟨fun a u n h => ?_, fun a u h => ?_, S.hk.fz, hI, S.hk.box0, S.hk.new, S.hk.g0⟩, S.len, fun i s h => ?_, S.sep⟩
  · rw [upd_ne (ne n)]
    exact S.hk.keep a u n h
  · rw [upd_ne (ne_of_none h gp)]
    exact S.hk.sub a u h
  · have q := S.sl i s h
    cases s with
    | un => trivial
    | d d => exact q
    | own ds =>
      obtain ⟨r, vs, h1, h2, h3, h4, h5, h6, h7⟩ := q
      exact ⟨r, vs, h1, by rw [upd_ne (ne h6)]; exact h2, h3, h4, h5, h6, h7⟩
/-- box[k] = e -/
def dBst (p : Addr) (i : Nat) (k : Int) (ta : TD) : TDS := fun Z δ => ta δ fun d => ∃ m, d = .int m ∧ δ[i]? = some (.d (.raw (.ref p))) ∧ bxOk k m ∧ Z.nx δ
theorem ds_bst {x : Str} {px pc ps : Pos} {jc : Nat} {k : Int} (i : Nat) (hb : e.b = bxp p) (hk : k = 0 ∨ k = 1) (ha : DE_ X e a ta) (hN : X.N[i]? = some x := by rfl) (hv : Vis X.env.scope x := by first | exact Or.inl rfl | exact Or.inr (Or.inl rfl) | exact Or.inr (Or.inr rfl)) (hd : (x == ("__debug__" : Str)) = false := by decide) (hcd : (x == ("__classdict__" : Str)) = false := by decide)
    (hg : ∀ v, assign (.Subscript (.Name x px) (.Constant (.int k) jc pc) ps) X.env v = (do
      let ov ← holding [v] (eval (.Name x px) X.env)
      let iv ← holding [v, ov] (eval (.Constant (.int k) jc pc) X.env)
      standAt ps
      holding [v, ov, iv] (setItem ov iv v)
      release [v, ov, iv] []) := by intro _; rfl)
    (hs : swapsWithSole [.Subscript (.Name x px) (.Constant (.int k) jc pc) ps] a pos.line X.env = pure false := by rfl) (hw : swappedStores [.Subscript (.Name x px) (.Constant (.int k) jc pc) ps] a X.env = pure none := by rfl)
    (h1 : (assignEach [.Subscript (.Name x px) (.Constant (.int k) jc pc) ps] X.env).map (·.2) = [assign (.Subscript (.Name x px) (.Constant (.int k) jc pc) ps) X.env] := by rfl) :
    DS_ X e (.Assign [.Subscript (.Name x px) (.Constant (.int k) jc pc) ps] a pos) (dBst p i k ta) := by
  refine ⟨wkS (ps_asg ha.run (pg_sub (pe_var hN hv hd hcd) pe_int set_list hg) hs hw h1) fun Z σ H ⟨G, δ, DD, S, h, n, r, k', c⟩ => ?_, fun A B δ l h => ha.mono _ _ _ (fun d ⟨m, h1, h2, h3, h⟩ => ⟨m, h1, h2, h3, l.nx _ h⟩) h⟩
  refine ⟨G, δ, S, ha.mono _ _ _ (fun d ⟨m, h1, h2, h3, hZ⟩ v G1 H1 S1 w1 r1 => ?_) h⟩
  subst h1
  cases r1
  have hi := S1.hk.box
  rw [hb] at hi
  obtain ⟨i0, j0, h4, h5, h6⟩ := hi
  obtain ⟨v, e1, e2⟩ := S1.sl i _ h2
  cases e2
  have hB : e.b.B p := by rw [hb]; rfl
  refine ⟨.ref p, e1, p, [.int i0, .int j0], k, ?_⟩
  rcases hk with hk | hk
  · subst hk
    refine ⟨0, rfl, rfl, h4, rfl, n _ _ G1 _ hZ (S1.box hB ?_) w1.g⟩
    rw [hb]
    exact ⟨m, j0, upd_same, h3, h6⟩
  · subst hk
    refine ⟨1, rfl, rfl, h4, rfl, n _ _ G1 _ hZ (S1.box hB ?_) w1.g⟩
    rw [hb]
    exact ⟨i0, m, upd_same, h5, h3⟩
/-! great ints -/
def rdIC (C : Int → Int → Prop) (g : Int → Int → D) : RD2 := fun x y Q => ∃ i j, x = .int i ∧ y = .int j ∧ C i j ∧ Q (g i j)
theorem L_rI {C : Int → Int → Prop} {g : Int → Int → Int} : Lift2 X e (rI C fun i j => .int (g i j)) (rdIC C fun i j => .int (g i j)) := by
  refine ⟨fun x y d f G H σ δ Q S r1 r2 ⟨i, j, h1, h2, h3, q⟩ => ?_, fun d f Q Q' k ⟨i, j, h1, h2, h3, q⟩ => ⟨i, j, h1, h2, h3, k _ q⟩⟩
  subst h1 h2
  cases r1
  cases r2
  exact ⟨i, j, rfl, rfl, h3, q _ G H S S.hk.refl (.int _)⟩
theorem rI_ii {C : Int → Int → Prop} {g : Int → Int → D} {i j : Int} {Q : D → Prop} : rdIC C g (.int i) (.int j) Q = (C i j ∧ Q (g i j)) := propext ⟨fun ⟨_, _, h1, h2, h3, q⟩ => by cases h1; cases h2; exact ⟨h3, q⟩, fun ⟨h3, q⟩ => ⟨i, j, rfl, rfl, h3, q⟩⟩
end
end Dn
set_option maxHeartbeats 2000000
/-! repr of data. It asks that no repr is under way; so do the defs that use it. -/
namespace L2
open PySem PySem.Spec PyProof.Rows
/-- a promise that is kept where no repr is under way -/
structure FnG (P : Program) (w : World) (K : PySem.W.Frag) (mg : Str → Option Value) (base : Heap) (k : Nat) (f : Addr) (fd : FuncData) (ps : List Str) (sp : Sp) : Prop where
  len : ∀ vs H Q E, sp vs H Q E → vs.length = ps.length
  run : ∀ (A : Around) (outer : List Env) (s : Shared) (H : Hp) (args : Args) (us : List Value) (vs : List V) (Q : VK) (E : XK), A.guards = some [] → Room k A → Env0 P w K mg base A outer s H → BindsTo s fd args (ps.zip us) → Vals vs us → sp vs H Q E →
    codeAny (model P w) A (.call (.ref f) args) (CR CX0 outer P w H s Q E) s
section
variable {P : Program} {w : World} {K : PySem.W.Frag} {mg : Str → Option Value} {base : Heap} {k : Nat} {f : Addr} {fd : FuncData} {ps N : List Str} {sp : Sp} {x qual : Str} {st : Stmt}
theorem FnOk.g (F : FnOk P w K mg base CX0 k f fd ps sp) : FnG P w K mg base k f fd ps sp := ⟨F.len, fun A outer s H args us vs Q E _ => F.run A outer s H args us vs Q E⟩
theorem FnG.mono {j : Nat} (F : FnG P w K mg base j f fd ps sp) (h : j ≤ k) : FnG P w K mg base k f fd ps sp := ⟨F.len, fun A outer s H args us vs Q E hg hr => F.run A outer s H args us vs Q E hg (hr.mono h)⟩
theorem _root_.Dn.FunV.okG (F : Dn.FunV K x qual st f fd) (S : FnScope N ps (defScope st)) (len : ∀ vs H Q E, sp vs H Q E → vs.length = ps.length)
    (hbody : ∀ (cdv : Value) (A : Around) (outer : List Env) (s : Shared) (H : Hp) (vs : List V) (Q : VK) (E : XK), A.guards = some [] → Room k (A.deeper (envOfC qual (defScope st) s.heap.objs.size f cdv)) → sp vs H Q E →
      ∃ t, PSs (cxOf CX0 P w K mg base N qual (defScope st) f cdv A outer s H E).nox (defBody st) t ∧ t { nx := fun _ H' => Q .non H', rt := Q } (start N vs) H) : FnG P w K mg base (k + 1) f fd ps sp := by
  obtain ⟨oc, od, dV, kV, doc, pm, an, cdv, ct, osl, rfl, lk, hcd⟩ := F.ex
  refine ⟨len, fun A outer s H args us vs Q E hgd hr e0 hb r hsp => ?_⟩
  have same : ∀ b o, base.get? b = some o → s.heap.get? b = some o := fun b o z => (e0.bs b o z).1
  have kin : K.In s.heap := e0.mod.kin.keeps same
  refine codeAny_call_function hr.depth (kin _ _ lk) rfl S.co S.gen rfl (PySem.W.codeRec_of kin hcd) (hb _ _ _ _ (wpAny_newFunctionEnv_cells S.kind (fun ⟨n, v⟩ hy => ?_) fun env he s1 icc => ?_))
  · have hp := S.par n (List.of_mem_zip hy).1
    exact hp.imp (fun z => z) fun z => ⟨z, PySem.W.cellsFrom_some _ _ _ (.inl z)⟩
  subst he
  obtain ⟨t, ht, hq⟩ := hbody cdv A outer s H vs Q E hgd (hr.deeper _) hsp
  have J : Inv (cxOf CX0 P w K mg base N qual (defScope st) f cdv A outer s H E) [] (start N vs) H s1 := inv_start S hr.hd e0 (len _ _ _ _ hsp) r icc
  refine ⟨(e0.mod.nolimit.keeps same).keeps icc.toInCall.keep, codeAny_func (wpAny_mono (ht.nox.run [] s1 (start N vs) H _ J hq) (fun fl s' hs => ?_) fun _ _ z => z)⟩
  cases fl with
  | brk => exact hs.choose_spec.choose_spec.2.elim
  | cont => exact hs.choose_spec.choose_spec.2.elim
  | next =>
    obtain ⟨σ', H', I', q⟩ := hs
    exact ⟨.non, H', I'.os, I'.bare, I'.base, I'.hok, rfl, q⟩
  | ret u =>
    obtain ⟨v, σ', H', I', rv, q⟩ := hs
    exact ⟨v, H', I'.os, I'.bare, I'.base, I'.hok, rv, q⟩
end
section
variable {X : Cx} {k : Nat} {f : Addr} {fd : FuncData} {ps : List Str} {sp : Sp} {x : Str} {p pos : Pos} {e : Expr} {es : List Expr} {t : TA}
theorem pe_callG (F : FnG X.prog X.w X.K X.mg X.base k f fd ps sp) (hgd : X.A.guards = some []) (hr : Room k X.A) (hg : Gl X x) (hm : X.mg x = some (.ref f)) (hk : PySem.W.keepIn X.K (.ref f) = true) (hb : Binds X.K fd ps [])
    (ha : PA X (e :: es) t) (hdb : (x == ("__debug__" : Str)) = false := by decide) (he : starEach (e :: es) X.env = (false, eval e X.env) :: starEach es X.env := by rfl) (hpl : (backTo pos (starEach es X.env)).any (·.1) = false := by rfl) :
    PE X (.Call (.Name x p) (e :: es) [] pos) (tCallS sp (fun _ _ _ _ => False) t) := by
  refine ⟨fun pins s σ H Q I h => wpAny_Call_Name_kw (ld_glob I hg hm (PySem.W.callWith_K (h₀ := X.base) I.ok.mod.kin hk (thn (ha.run pos pins s σ H _ I h) fun us s1 ⟨vs, H1, I1, r, q⟩ => ⟨I1.kIn, ?_⟩) he hpl) hdb)⟩
  have hl : us.length = ps.length := r.length.symm.trans (F.len _ _ _ _ q)
  have b := hb s1 us I1.kIn (by rw [List.append_nil]; exact hl)
  rw [List.append_nil] at b
  refine wpAny_call (codeAny_mono (F.run X.A X.stack s1 H1 ⟨us, []⟩ us vs Q _ hgd hr I1.env0 b r q) fun res s' hq => ?_)
  match res, hq with
  | .error er, hq => exact hq.elim
  | .ok (.ret u), hq => exact I1.after hq
/-- repr(x), x data without dicts -/
def rRepr (K : PySem.W.Frag) : List V → Hp → VK → Prop := fun xs H Q => ∃ v d, xs = [v] ∧ Dp K H v d ∧ d.showable = true ∧ d.hasDict = false ∧ d.depth ≤ 100 ∧ d.shown.length ≤ sizeLine ∧ Q (.str d.shown) H
theorem call_repr (hgd : X.A.guards = some []) (hr : Room k X.A) : CallR X (.builtin "repr") (rRepr X.K) := by
  intro pins s σ H xs us Q I r h
  obtain ⟨v, d, rfl, dp, hs, hd, hdep, hsz, q⟩ := h
  have hun := hr.un
  cases r with
  | @cons _ u _ _ rx rr =>
    cases rr
    obtain ⟨as, rd⟩ := Dp.reads I d v u dp rx
    have fin : ∀ (h' : Heap) (tk0 : Tok) (tk : Nat), (∀ b o, s.heap.get? b = some o → h'.get? b = some o) → EP X pins σ Q (.str d.shown tk0) { s with heap := h', toks := tk } := fun h' tk0 tk kp => ⟨.str d.shown, H, I.kept (t' := tk) kp, ⟨tk0, rfl⟩, q⟩
    have far : ∀ a, u = .ref a → wpAny (model X.prog X.w) X.A (call (.builtin "repr") [u]) (EP X pins σ Q) X.xe s := fun a e => by
      subst e
      exact repr_of_reads' rd hs (fun z => by rw [hd] at z; cases z) hgd (by omega) (fun _ _ z => z) (fun h' tk0 tk kp => fin h' tk0 tk kp) hsz
    cases rd with
    | none => exact PySem.P.repr_of_none (fin s.heap _ _ fun _ _ z => z)
    | bool b => exact PySem.P.repr_of_bool (fin s.heap _ _ fun _ _ z => z)
    | int i t => exact PySem.P.repr_of_int (by simpa [PyData.showable] using hs) (fin s.heap _ _ fun _ _ z => z)
    | str y t => exact PySem.P.repr_of_str (fin s.heap _ _ fun _ _ z => z) hsz
    | list => exact far _ rfl
    | tuple => exact far _ rfl
    | dict => exact far _ rfl
end
end L2
namespace Dn
open PySem L2
section
variable {X : Cx} {e : Bs} {a : Expr} {es : List Expr} {t : TDA} {pos p : Pos} {k : Nat} {f : Addr} {fd : FuncData} {ps : List Str} {R : RP} {x : Str}
def shD (d : D) : Str := d.py.shown
/-- repr may be asked of d -/
def repOk (d : D) : Prop := d.pl = true ∧ d.py.showable = true ∧ d.py.hasDict = false ∧ d.py.depth ≤ 100 ∧ (shD d).length ≤ sizeLine
def rdRepr : RDC := fun xs Q => ∃ d, xs = [d] ∧ repOk d ∧ Q (.str (shD d))
theorem L_repr : LiftC X e (rRepr X.K) rdRepr := by
  refine ⟨fun vs ds G H σ δ Q S r ⟨d, h1, ⟨h2, h3, h4, h5, h6⟩, q⟩ => ?_, fun ds Q Q' k ⟨d, h1, h2, q⟩ => ⟨d, h1, h2, k _ q⟩⟩
  subst h1
  cases r with
  | @cons v _ _ _ rx rr =>
    cases rr
    exact ⟨v, d.py, rfl, Rp.dp S.hk.sub d v h2 rx, h3, h4, h5, h6, q _ G H S S.hk.refl (.str _)⟩
theorem de_callG {b : Bx} (hb : b = bx0 ∨ b = e.b) (mR : MoR R) (F : FnG X.prog X.w X.K X.mg X.base k f fd ps (spD X.K b R)) (hgd : X.A.guards = some []) (hr : Room k X.A) (hm : X.mg x = some (.ref f)) (hk : PySem.W.keepIn X.K (.ref f) = true) (hbi : Binds X.K fd ps [])
    (ha : DA_ X e (a :: es) t) (hg : Gl X x := by rfl) (hdb : (x == ("__debug__" : Str)) = false := by decide) (he : starEach (a :: es) X.env = (false, eval a X.env) :: starEach es X.env := by rfl) (hpl : (backTo pos (starEach es X.env)).any (·.1) = false := by rfl) :
    DE_ X e (.Call (.Name x p) (a :: es) [] pos) (dCall R [] t) := by
  refine ⟨wkE (pe_callG F hgd hr hg hm hk hbi ha.run hdb he hpl) fun σ H Q h => ?_, fun δ Q Q' k h => ha.mono _ _ _ (fun ds h => mR _ _ _ k h) h⟩
  have h2 := lift_call (dvs := []) (dd := []) (E := fun _ _ _ => False) hb mR ha (fun _ => .nil) h
  simp only [tCall, List.append_nil] at h2
  exact h2
end
end Dn
set_option maxHeartbeats 2000000
/-! The law's script; the box that is made in a loop's turn. -/
namespace Dn
open PySem L2
/-- the rule for a def, by data, where no repr is under way -/
theorem okGD {P : Program} {w : World} {K : PySem.W.Frag} {mg : Str → Option Value} {base : Heap} {x qual : Str} {st : Stmt} {f : Addr} {fd : FuncData} {N ps : List Str} {k : Nat} {b : Bx} {R : RP}
    (F : FunV K x qual st f fd) (S : FnScope N ps (defScope st)) (len : ∀ ds Q, R ds Q → ds.length = ps.length)
    (hbody : ∀ (cdv : Value) (A : Around) (outer : List Env) (s : Shared) (H : Hp) (E : XK) (e : Bs), e.b = b → A.guards = some [] → Room k (A.deeper (PyProof.Rows.envOfC qual (defScope st) s.heap.objs.size f cdv)) →
      ∃ t, DB_ (cxOf CX0 P w K mg base N qual (defScope st) f cdv A outer s H E).nox e (defBody st) t ∧ ∀ ds Q, R ds Q → t { nx := fun _ => Q .non, rt := Q } (startD N ds)) :
    FnG P w K mg base (k + 1) f fd ps (spD K b R) := by
  refine F.okG S (fun vs H Q E ⟨G, ds, h1, h2, h3, r, h⟩ => by rw [r.length]; exact len _ _ h) (fun cdv A outer s H vs Q E hgd hr ⟨G, ds, h1, h2, h3, r, h⟩ => ?_)
  obtain ⟨t, hb, ht⟩ := hbody cdv A outer s H E ⟨b, H, G⟩ rfl hgd hr
  refine ⟨_, hb.run, G, startD N ds, _, start_ok h1 h2 h3 r, ht ds _ h, fun δ' σ' G' H' g S' s' => ?_, fun d v G' H' g hk r' => ?_, fun _ _ _ _ g => g.elim, fun _ _ _ _ g => g.elim⟩
  · exact g .non G' H' ⟨S'.hk.keep, S'.hk.box, S'.hk.g0, S'.hk.sub, S'.hk.new, S'.hk.fz⟩ .non
  · exact g v G' H' ⟨hk.keep, hk.box, hk.g0, hk.sub, hk.new, hk.fz⟩ r'
/-- a def that is handed the script (at sc, of the ints ns) ahead of data -/
def spSc (K : PySem.W.Frag) (R : List V → Hp → VK → Prop) : Sp := fun vs H Q _ => ∃ (sc : Addr) (ns : List Int), vs.head? = some (.ref sc) ∧ SqL K H sc (ns.map V.int) ∧ ns.length ≤ 1000 ∧ R vs H Q
section
variable {X : Cx} {e : Bs} {a c : Expr} {es : List Expr} {ta tb tc : TD} {t : TDA} {pos p : Pos} {sc : Addr} {ns : List Int}
theorem sc_at {K : PySem.W.Frag} {G H : Hp} (hb : ¬ e.b.B sc) (hs : SqL K e.H0 sc (ns.map V.int)) (k : HK e G H) : SqL K H sc (ns.map V.int) := by
  rcases hs with (h | ⟨o, h⟩) | h
  · exact .inl (.inl (k.keep _ _ hb h))
  · exact .inl (.inr ⟨o, k.keep _ _ hb h⟩)
  · exact .inr h
def rdLenR (sc : Addr) (ns : List Int) : RDC := fun xs Q => xs = [.raw (.ref sc)] ∧ Q (.int ns.length)
theorem L_lenR (hb : ¬ e.b.B sc) (hs : SqL X.K e.H0 sc (ns.map V.int)) : LiftC X e (fun xs H Q => ∃ p ys, xs = [.ref p] ∧ (SqL X.K H p ys ∨ SqT X.K H p ys) ∧ Q (.int ys.length) H) (rdLenR sc ns) := by
  refine ⟨fun vs ds G H σ δ Q S r ⟨h1, q⟩ => ?_, fun ds Q Q' k ⟨h1, q⟩ => ⟨h1, k _ q⟩⟩
  subst h1
  cases r with
  | cons rx rr =>
    cases rr
    cases rx
    refine ⟨sc, ns.map V.int, rfl, .inl (sc_at hb hs S.hk), ?_⟩
    rw [List.length_map]
    exact q _ G H S S.hk.refl (.int _)
def rdIxR (sc : Addr) (ns : List Int) : RD2 := fun x y Q => x = .raw (.ref sc) ∧ ∃ k m, y = .int k ∧ atI ns k = some m ∧ Q (.int m)
theorem atI_map {α β : Type} (f : α → β) {xs : List α} {i : Int} {m : α} (h : atI xs i = some m) : atI (xs.map f) i = some (f m) := by
  unfold atI at h ⊢
  rw [List.length_map]
  cases e : ixN xs.length i with
  | none => rw [e] at h; cases h
  | some j =>
    rw [e] at h
    have h' : xs[j]? = some m := h
    show (xs.map f)[j]? = some (f m)
    rw [List.getElem?_map, h']
    rfl
theorem L_ixR (hb : ¬ e.b.B sc) (hs : SqL X.K e.H0 sc (ns.map V.int)) : Lift2 X e (rIxL X.K) (rdIxR sc ns) := by
  refine ⟨fun x y d f G H σ δ Q S r1 r2 ⟨h1, k, m, h2, h3, q⟩ => ?_, fun d f Q Q' kk ⟨h1, k, m, h2, h3, q⟩ => ⟨h1, k, m, h2, h3, kk _ q⟩⟩
  subst h1 h2
  cases r1
  cases r2
  exact ⟨sc, ns.map V.int, k, .int m, rfl, rfl, sc_at hb hs S.hk, atI_map V.int h3, q _ G H S S.hk.refl (.int m)⟩
/-! the box is made -/
def spBox (K : PySem.W.Frag) : Sp := fun vs H Q _ => ∃ (sc : Addr) (ns : List Int) (k : Int), vs = [.ref sc, .int k] ∧ (0 ≤ k ∧ k < 1000) ∧ SqL K H sc (ns.map V.int) ∧
  ∀ (p : Addr) (H' : Hp) (i j : Int), Same H H' → H p = none → H' p = some (.lst [.int i, .int j]) → bxOk 0 i → bxOk 1 j → Q (.ref p) H'
theorem HK.leaveB {G H H1 G' H' : Hp} {q : Addr} (hb : e.b = bx0) (k : HK e G H) (s1 : Same H H1) (n : H q = none) (k' : HK ⟨bxp q, H1, G⟩ G' H') : HK e G' H' := by
  obtain ⟨b, H0, G0⟩ := e
  have hb' : b = bx0 := hb
  subst hb'
  have up : ∀ a o, H0 a = some o → H1 a = some o := fun a o h => s1 a o (k.keep a o (fun z => z) h)
  refine ⟨fun a o _ h => k'.keep a o (fun z => ?_) (up a o h), k'.sub, fun _ z => z.elim, trivial, trivial, fun a o h => ?_, k.g0.trans k'.g0⟩
  · have z' : a = q := z
    rw [z'] at h
    have := k.keep q o (fun z => z) h
    rw [n] at this
    cases this
  · rcases k'.new a o h with z | z
    · exact k.new a o z
    · refine .inr ?_
      have z' : H1 a = none := z
      show H0 a = none
      cases y : H0 a with
      | none => rfl
      | some u =>
        have := up a u y
        rw [z'] at this
        cases this
theorem SK.leaveB {K : PySem.W.Frag} {G H H1 G' H' : Hp} {q : Addr} {σ' : St} {δ' : DE} (hb : e.b = bx0) (k : HK e G H) (s1 : Same H H1) (n : H q = none) (S' : SK K ⟨bxp q, H1, G⟩ G' H' σ' δ') : SK K e G' H' σ' δ' := by
  refine ⟨HK.leaveB hb k s1 n S'.hk, S'.len, fun i s h => ?_, S'.sep⟩
  have y := S'.sl i s h
  cases s with
  | un => trivial
  | d d => exact y
  | own ds =>
    obtain ⟨r, vs, h1, h2, h3, h4, h5, h6, h7⟩ := y
    refine ⟨r, vs, h1, h2, h3, h4, ?_, by rw [hb]; exact fun z => z, h7⟩
    cases z : e.H0 r with
    | none => rfl
    | some u =>
      have := s1 r u (k.keep r u (by rw [hb]; exact fun z => z) z)
      have h5' : H1 r = none := h5
      rw [h5'] at this
      cases this
def dBoxed (i j s : Nat) (sc : Addr) (u : Addr → TDS) : TDS := fun Z δ => noOwn δ ∧ δ[i]? = some (.d (.raw (.ref sc))) ∧ (∃ k : Int, δ[j]? = some (.d (.int k)) ∧ 0 ≤ k ∧ k < 1000) ∧ ∀ p, u p Z (δ.set s (.d (.raw (.ref p))))
theorem db_box {rest : List Stmt} {x y xa xb : Str} {pa pb pc px pst : Pos} {i j s k : Nat} {f : Addr} {fd : FuncData} {ps : List Str} {u : Addr → TDS} (hb : e.b = bx0) (hs : SqL X.K e.H0 sc (ns.map V.int)) (hN : X.N.Nodup)
    (F : FnOk X.prog X.w X.K X.mg X.base CX0 k f fd ps (spBox X.K)) (hr : Room k X.A) (hm : X.mg y = some (.ref f)) (hk : PySem.W.keepIn X.K (.ref f) = true) (hbi : Binds X.K fd ps [])
    (hrest : ∀ (p : Addr) (e' : Bs), e'.b = bxp p → DB_ X e' rest (u p))
    (hi : X.N[i]? = some xa := by rfl) (hj : X.N[j]? = some xb := by rfl) (hsx : X.N[s]? = some x := by rfl)
    (hva : Vis X.env.scope xa := by first | exact Or.inl rfl | exact Or.inr (Or.inl rfl) | exact Or.inr (Or.inr rfl)) (hvb : Vis X.env.scope xb := by first | exact Or.inl rfl | exact Or.inr (Or.inl rfl) | exact Or.inr (Or.inr rfl))
    (hda : (xa == ("__debug__" : Str)) = false := by decide) (hca : (xa == ("__classdict__" : Str)) = false := by decide) (hdb' : (xb == ("__debug__" : Str)) = false := by decide) (hcb : (xb == ("__classdict__" : Str)) = false := by decide)
    (hx : Loc X.env.scope x := by first | exact .inl rfl | exact .inr rfl) (hg : Gl X y := by rfl) (hdb : (y == ("__debug__" : Str)) = false := by decide)
    (he : starEach [.Name xa pa, .Name xb pb] X.env = (false, eval (.Name xa pa) X.env) :: starEach [.Name xb pb] X.env := by rfl) (he2 : starEach [.Name xb pb] X.env = (false, eval (.Name xb pb) X.env) :: starEach [] X.env := by rfl)
    (hpl : (backTo pc (starEach [.Name xb pb] X.env)).any (·.1) = false := by rfl)
    (hsw : swapsWith (.Call (.Name y px) [.Name xa pa, .Name xb pb] [] pc) (some (.Name x pst)) pos.line X.env = pure false := by rfl)
    (hf : X.fn x = true ∨ X.env.scope.names.lookup x = some .local := by first | exact .inl rfl | exact .inr rfl) :
    DB_ X e (.Assign [.Name x pst] (.Call (.Name y px) [.Name xa pa, .Name xb pb] [] pc) pos :: rest) (dBoxed i j s sc u) := by
  have R1 := ps_set (X := X) (i := s) (pos := pos) (pos' := pst) hN hsx hx (pe_call F hr hg hm hk hbi .nil (pass0 (X := X)) (pa_cons (pe_var hi hva hda hca) (pa_cons (pe_var hj hvb hdb' hcb) pa_nil he2) he) hdb he hpl) hsw hf
  have R2 : PSs X rest (fun Z σ H => ∃ p e', e'.b = bxp p ∧ lS X.K e' (u p) Z σ H) := ⟨fun pins s σ H Z I ⟨p, e', h1, h2⟩ => (hrest p e' h1).run.run pins s σ H Z I h2⟩
  refine ⟨wkB (pss_cons R1 R2) fun Z σ H ⟨G, δ, DD, S, ⟨no, h1, ⟨kk, h2, hk0⟩, h3⟩, n, r, kb, c⟩ => ?_, fun A B δ l ⟨no, h1, h2, h3⟩ => ⟨no, h1, h2, fun p => (hrest p ⟨bxp p, fun _ => none, fun _ => none⟩ rfl).mono _ _ _ l (h3 p)⟩⟩
  obtain ⟨v1, g1, r1⟩ := S.sl i _ h1
  obtain ⟨v2, g2, r2⟩ := S.sl j _ h2
  cases r1
  cases r2
  refine ⟨.ref sc, g1, .int kk, g2, sc, ns, kk, rfl, hk0, sc_at (by rw [hb]; exact fun z => z) hs S.hk, fun p H1 bi bj s1 np hp b0 b1 => ?_⟩
  refine ⟨p, ⟨bxp p, H1, G⟩, rfl, G, δ.set s (.d (.raw (.ref p))), DD, ?_, h3 p, fun δ' σ' G' H' q S' s' => n δ' σ' G' H' q (SK.leaveB hb S.hk s1 np S') s', fun d v G' H' q hk' rr => r d v G' H' q (HK.leaveB hb S.hk s1 np hk') rr, fun δ' σ' G' H' q S' s' => kb δ' σ' G' H' q (SK.leaveB hb S.hk s1 np S') s', fun δ' σ' G' H' q S' s' => c δ' σ' G' H' q (SK.leaveB hb S.hk s1 np S') s'⟩
  have gp : G p = none := by
    cases z : G p with
    | none => rfl
    | some o =>
      have := S.hk.sub p o z
      rw [np] at this
      cases this
  have S1 : SK X.K ⟨bxp p, H1, G⟩ G H1 σ δ := by
    refine ⟨⟨.refl _ _, fun a o z => s1 a o (S.hk.sub a o z), fun a z => by have z' : a = p := z; rw [z']; exact gp, ⟨bi, bj, hp, b0, b1⟩, ⟨bi, bj, hp, b0, b1⟩, fun _ _ z => .inl z, .refl _⟩, S.len, fun i' s' h' => ?_, S.sep⟩
    have y := S.sl i' s' h'
    cases s' with
    | un => trivial
    | d d => exact y
    | own ds => exact absurd h' (no i' ds)
  exact S1.put (.raw _)
end
end Dn
set_option maxHeartbeats 2000000
/-! The end: a law whose promise asks that no repr is under way, called from outside. -/
namespace L2
open PySem PySem.Spec PyProof.Rows
section
variable {P : Program} {w : World} {K : PySem.W.Frag} {mg mb : Str → Option Value} {k : Nat} {fa a : Addr} {fd : FuncData} {x : Str} {sp : Sp} {s₁ : Shared} {vs : List Value} {ns : List Int}
abbrev lawEnd (s₁ : Shared) : Result → Shared → Prop := fun r s' => r = .ok (.ret (.bool true)) ∧ OldK s₁.heap s'.heap ∧ s'.os = s₁.os ∧ AllBare s'.gens
/-- with the part of the heap that is told chosen: nothing, or the script alone -/
theorem lawG_from {H : Hp} {scr : Obj} {xs : List V} (hscr : scr.data = .seq vs.toArray) (ha : s₁.heap.get? a = some scr) (only : ∀ b u, H b = some u → b = a ∧ u = .frz scr (.lst xs)) (apart : ∀ u, H a = some u → K.lookup a = none)
    (kin : K.In s₁.heap) (gl : s₁.heap.Ns mainGlobals mg) (bl : s₁.heap.Ns builtinsNs mb) (blb : ∀ y : Str, y ≠ "__name__" → mb y = bootBuiltins y) (nol : s₁.heap.NoLimit) (gens : s₁.gens = #[]) (hok : HOk P w H s₁.heap) (hr : Room k callerA)
    (F : ∀ base : Heap, K.In base → base.Ns mainGlobals mg → FnG P w K mg base k fa fd [x] sp) (bind1 : ∀ (s : Shared) (u : Value), BindsTo s fd ⟨[u], []⟩ [(x, u)])
    (hsp : sp [.ref a] H (fun v _ => v = .bl true) fun _ _ _ => False) : codeAny (model P w) callerA (.call (.ref fa) ⟨[.ref a], []⟩) (lawEnd s₁) s₁ := by
  have free : ∀ {b : Addr}, b ≠ a → H b = none := fun {b} hb => by
    cases z : H b with
    | none => rfl
    | some u => exact absurd (only b u z).1 hb
  have freeD : ∀ {b : Addr} {o : Obj} {es : Array DictEntry} {n : Nat}, s₁.heap.get? b = some o → o.data = .dict es n → H b = none := fun {b o es n} h1 h2 => free fun z => by
    subst z
    rw [ha] at h1
    cases h1
    rw [hscr] at h2
    cases h2
  have low : ∀ {b : Addr} {m : Str → Option Value}, s₁.heap.Ns b m → (hidT s₁.heap H).Ns b m := fun {b m} ⟨o, es, n, h1, h2, h3⟩ => ⟨o, es, n, hidT_get h1 (freeD h1 h2), h2, h3⟩
  have kinB : K.In (hidT s₁.heap H) := fun b o z => hidT_get (kin b o z) (by
    cases y : H b with
    | none => rfl
    | some u =>
      have e := (only b u y).1
      subst e
      rw [apart u y] at z
      cases z)
  obtain ⟨mc, l1, l2⟩ := id nol
  have E0 : Env0 P w K mg (hidT s₁.heap H) callerA [] s₁ H := {
    frames := rfl
    mod := ⟨kinB, low gl, ⟨mb, low bl, blb⟩, ⟨mc, low l1, l2⟩⟩
    bs := fun _ _ z => of_hidT z
    bsz := Nat.le_of_eq (hidT_size _ _)
    funs := trivial
    frf := fun _ hb => nomatch hb
    hok := hok
    bare := .of_eq gens }
  have run := (F _ kinB (low gl)).run callerA [] s₁ H ⟨[.ref a], []⟩ [.ref a] [.ref a] _ _ rfl hr E0 (bind1 s₁ (.ref a)) (.cons rfl .nil) hsp
  refine codeAny_mono run fun r s' z => ?_
  match r, z with
  | .error _, z => exact z.elim
  | .ok (.ret u), z =>
    obtain ⟨v, H', os, bare, un, hok', rv, q⟩ := z
    have q1 : v = .bl true := q
    subst q1
    cases rv
    refine ⟨rfl, OldK.of_keep fun b o h => ?_, os, bare⟩
    cases y : H b with
    | none => exact un.keep b o h y (fun z => nomatch z) (fun z => nomatch z)
    | some u =>
      obtain ⟨e1, e2⟩ := only b u y
      subst e2
      have y2 := un.frzs b scr _ y
      have o1 := (hok b _ y).1
      have o2 := (hok' b _ y2).1
      rw [h] at o1
      cases o1
      exact o2
/-- the law called with its script -/
theorem lawG_call (kin : K.In s₁.heap) (gl : s₁.heap.Ns mainGlobals mg) (bl : s₁.heap.Ns builtinsNs mb) (blb : ∀ y : Str, y ≠ "__name__" → mb y = bootBuiltins y) (nol : s₁.heap.NoLimit) (gens : s₁.gens = #[])
    (ha : s₁.heap.get? a = some { cls := .type "list", data := .seq vs.toArray }) (hi : IntsAre vs ns) (hl : ns.length ≤ sizeLine) (hr : Room k callerA)
    (F : ∀ base : Heap, K.In base → base.Ns mainGlobals mg → FnG P w K mg base k fa fd [x] sp) (bind1 : ∀ (s : Shared) (u : Value), BindsTo s fd ⟨[u], []⟩ [(x, u)])
    (hsp : ∀ H : Hp, SqL K H a (ns.map V.int) → sp [.ref a] H (fun v _ => v = .bl true) fun _ _ _ => False) : codeAny (model P w) callerA (.call (.ref fa) ⟨[.ref a], []⟩) (lawEnd s₁) s₁ := by
  have vals := vals_ints hi
  have ln := hi.length
  cases known : K.lookup a with
  | some o =>
    have same := kin a o known
    rw [ha] at same
    cases same
    refine lawG_from (H := fun _ => none) (xs := []) (hscr := rfl) (ha := ha) (fun _ _ z => nomatch z) (fun _ z => nomatch z) kin gl bl blb nol gens (fun _ _ z => nomatch z) hr F bind1 (hsp _ (.inr ⟨_, vs.toArray, _, known, rfl, rfl, rfl, ?_, ?_⟩))
    · rw [List.size_toArray, ln]; exact hl
    · simpa using vals
  | none =>
    have at_a : ∀ {b : Addr} {u : HO}, (if b = a then some (HO.frz { cls := .type "list", data := .seq vs.toArray } (.lst (ns.map V.int))) else none) = some u → b = a ∧ u = .frz { cls := .type "list", data := .seq vs.toArray } (.lst (ns.map V.int)) := fun {b u} z => by
      by_cases e : b = a
      · rw [if_pos e] at z
        cases z
        exact ⟨e, rfl⟩
      · rw [if_neg e] at z
        cases z
    refine lawG_from (H := fun b => if b = a then some (HO.frz { cls := .type "list", data := .seq vs.toArray } (.lst (ns.map V.int))) else none) (hscr := rfl) (ha := ha) (fun b u z => at_a z) (fun _ _ => known) kin gl bl blb nol gens (fun b u z => ?_) hr F bind1 (hsp _ (.inl (.inr ⟨_, if_pos rfl⟩)))
    obtain ⟨e1, e2⟩ := at_a z
    subst e1 e2
    exact ⟨ha, by rw [List.length_map]; exact hl, vs, _, vals, ha⟩
/-- the goal that the head leaves, from a law's promise -/
theorem walkG {l : PySem.W.OpenLaw} {n k : Nat} {q : Program} {loose : List Str} {XP : (Str → Option Value) → Heap → Prop} {YP : World → Heap → Prop} {d : DefRec} {K : Params → PySem.W.Frag} {sp : PySem.W.Frag → Sp} {x : Str}
    (hn : l.most = some n) (hn2 : n ≤ sizeLine) (hdf : d.params.defaults = []) (hr : Room k callerA) (hY : ∀ (w : World) (h : Heap), YP w h → (K w.params).In h)
    (F : ∀ (w : World) (mg : Str → Option Value) (fa : Addr) (h : Heap), (K w.params).In h → h.Ns mainGlobals mg → mg d.name = some (.ref fa) →
      ∃ fd : FuncData, (∀ (s : Shared) (u : Value), BindsTo s fd ⟨[u], []⟩ [(x, u)]) ∧ ∀ base : Heap, (K w.params).In base → base.Ns mainGlobals mg → FnG l.prog w (K w.params) mg base k fa fd [x] (sp (K w.params)))
    (hsp : ∀ (K : PySem.W.Frag) (H : Hp) (a : Addr) (ns : List Int), ns.length ≤ n → SqL K H a (ns.map V.int) → sp K [.ref a] H (fun v _ => v = .bl true) fun _ _ _ => False) :
    PySem.W.WalkO q loose XP YP l.row.toRowW d [] (fun f vs => PySem.call f vs) := by
  refine Att.attach_call hn hdf fun w s₀ s₁ mg mb fa o pm cd doc a vs ns G Y ho hd hcd hmg hobj hints hlen hg => ?_
  have kin := hY w _ Y
  obtain ⟨fd, hb, hF⟩ := F w mg fa _ kin G.T.g hmg
  exact lawG_call kin G.T.g G.T.b G.T.builtins G.T.nolimit hg hobj hints (Nat.le_trans hlen hn2) hr hF hb fun H hS => hsp _ H a ns hlen hS
end
end L2
namespace K88
open PySem L2 Dn
def topS (i : Nat) : Stmt := PySem.Challenge.pw_asneverbegun_k88_texts_of_plain_things_a.main.body.getD i (.Pass ⟨0, 0, 0, 0⟩)
abbrev s_is_integer : Stmt := topS 8
theorem sc_is_integer : FnScope ["value"] ["value"] (defScope s_is_integer) := ⟨rfl, rfl, rfl, by decide +kernel, rfl, by decide +kernel, by decide +kernel⟩
abbrev s_is_number : Stmt := topS 9
theorem sc_is_number : FnScope ["value"] ["value"] (defScope s_is_number) := ⟨rfl, rfl, rfl, by decide +kernel, rfl, by decide +kernel, by decide +kernel⟩
abbrev s_is_name : Stmt := topS 10
theorem sc_is_name : FnScope ["value", "sign"] ["value"] (defScope s_is_name) := ⟨rfl, rfl, rfl, by decide +kernel, rfl, by decide +kernel, by decide +kernel⟩
abbrev s_number_in : Stmt := topS 11
theorem sc_number_in : FnScope ["word", "most", "sign"] ["word", "most"] (defScope s_number_in) := ⟨rfl, rfl, rfl, by decide +kernel, rfl, by decide +kernel, by decide +kernel⟩
abbrev s_words_of : Stmt := topS 16
theorem sc_words_of : FnScope ["value", "words"] ["value"] (defScope s_words_of) := ⟨rfl, rfl, rfl, by decide +kernel, rfl, by decide +kernel, by decide +kernel⟩
abbrev s_is_plain : Stmt := topS 21
theorem sc_is_plain : FnScope ["value", "deep", "sign", "part"] ["value", "deep"] (defScope s_is_plain) := ⟨rfl, rfl, rfl, by decide +kernel, rfl, by decide +kernel, by decide +kernel⟩
abbrev s_plain_text : Stmt := topS 22
theorem sc_plain_text : FnScope ["value", "part"] ["value"] (defScope s_plain_text) := ⟨rfl, rfl, rfl, by decide +kernel, rfl, by decide +kernel, by decide +kernel⟩
abbrev s_word_end : Stmt := topS 23
theorem sc_word_end : FnScope ["text", "at"] ["text", "at"] (defScope s_word_end) := ⟨rfl, rfl, rfl, by decide +kernel, rfl, by decide +kernel, by decide +kernel⟩
abbrev s_is_digits : Stmt := topS 24
theorem sc_is_digits : FnScope ["word", "sign"] ["word"] (defScope s_is_digits) := ⟨rfl, rfl, rfl, by decide +kernel, rfl, by decide +kernel, by decide +kernel⟩
abbrev s_word_at : Stmt := topS 25
theorem sc_word_at : FnScope ["text", "at", "end", "word"] ["text", "at"] (defScope s_word_at) := ⟨rfl, rfl, rfl, by decide +kernel, rfl, by decide +kernel, by decide +kernel⟩
abbrev s_tuple_at : Stmt := topS 26
theorem sc_tuple_at : FnScope ["text", "at", "deep", "found", "part"] ["text", "at", "deep"] (defScope s_tuple_at) := ⟨rfl, rfl, rfl, by decide +kernel, rfl, by decide +kernel, by decide +kernel⟩
abbrev s_thing_at : Stmt := topS 27
theorem sc_thing_at : FnScope ["text", "at", "deep", "sign", "end", "one"] ["text", "at", "deep"] (defScope s_thing_at) := ⟨rfl, rfl, rfl, by decide +kernel, rfl, by decide +kernel, by decide +kernel⟩
abbrev s_things_in : Stmt := topS 28
theorem sc_things_in : FnScope ["text", "found", "at", "part"] ["text"] (defScope s_things_in) := ⟨rfl, rfl, rfl, by decide +kernel, rfl, by decide +kernel, by decide +kernel⟩
abbrev s_read_plain : Stmt := topS 29
theorem sc_read_plain : FnScope ["text", "found"] ["text"] (defScope s_read_plain) := ⟨rfl, rfl, rfl, by decide +kernel, rfl, by decide +kernel, by decide +kernel⟩
abbrev s_are_events : Stmt := topS 33
theorem sc_are_events : FnScope ["value", "event"] ["value"] (defScope s_are_events) := ⟨rfl, rfl, rfl, by decide +kernel, rfl, by decide +kernel, by decide +kernel⟩
abbrev s_is_start : Stmt := topS 34
theorem sc_is_start : FnScope ["value", "number"] ["value"] (defScope s_is_start) := ⟨rfl, rfl, rfl, by decide +kernel, rfl, by decide +kernel, by decide +kernel⟩
abbrev s_is_paper : Stmt := topS 35
theorem sc_is_paper : FnScope ["value"] ["value"] (defScope s_is_paper) := ⟨rfl, rfl, rfl, by decide +kernel, rfl, by decide +kernel, by decide +kernel⟩
abbrev s_is_word_of : Stmt := topS 36
theorem sc_is_word_of : FnScope ["value", "words"] ["value", "words"] (defScope s_is_word_of) := ⟨rfl, rfl, rfl, by decide +kernel, rfl, by decide +kernel, by decide +kernel⟩
abbrev s_is_claim : Stmt := topS 37
theorem sc_is_claim : FnScope ["value"] ["value"] (defScope s_is_claim) := ⟨rfl, rfl, rfl, by decide +kernel, rfl, by decide +kernel, by decide +kernel⟩
abbrev s_bare_words : Stmt := topS 38
theorem sc_bare_words : FnScope ["word"] ["word"] (defScope s_bare_words) := ⟨rfl, rfl, rfl, by decide +kernel, rfl, by decide +kernel, by decide +kernel⟩
abbrev s_claim_text : Stmt := topS 39
theorem sc_claim_text : FnScope ["claim", "many", "part"] ["claim"] (defScope s_claim_text) := ⟨rfl, rfl, rfl, by decide +kernel, rfl, by decide +kernel, by decide +kernel⟩
abbrev s_read_claim : Stmt := topS 40
theorem sc_read_claim : FnScope ["text", "words", "many", "rest", "claim"] ["text"] (defScope s_read_claim) := ⟨rfl, rfl, rfl, by decide +kernel, rfl, by decide +kernel, by decide +kernel⟩
abbrev s__law_seed : Stmt := topS 42
theorem sc__law_seed : FnScope ["_law_script", "_law_k", "_law_cell"] ["_law_script", "_law_k"] (defScope s__law_seed) := ⟨rfl, rfl, rfl, by decide +kernel, rfl, by decide +kernel, by decide +kernel⟩
abbrev s__law_choose : Stmt := topS 43
theorem sc__law_choose : FnScope ["_law_box", "_law_bound", "_law_digit", "_law_raw"] ["_law_box", "_law_bound"] (defScope s__law_choose) := ⟨rfl, rfl, rfl, by decide +kernel, rfl, by decide +kernel, by decide +kernel⟩
abbrev s__law_one_of : Stmt := topS 44
theorem sc__law_one_of : FnScope ["_law_box", "_law_some"] ["_law_box", "_law_some"] (defScope s__law_one_of) := ⟨rfl, rfl, rfl, by decide +kernel, rfl, by decide +kernel, by decide +kernel⟩
abbrev s__law_plain : Stmt := topS 45
theorem sc__law_plain : FnScope ["_law_box", "_law_deep", "_law_form", "_law_some", "_law_turn"] ["_law_box", "_law_deep"] (defScope s__law_plain) := ⟨rfl, rfl, rfl, by decide +kernel, rfl, by decide +kernel, by decide +kernel⟩
abbrev s__law_plain_text : Stmt := topS 46
theorem sc__law_plain_text : FnScope ["_law_value", "_law_part"] ["_law_value"] (defScope s__law_plain_text) := ⟨rfl, rfl, rfl, by decide +kernel, rfl, by decide +kernel, by decide +kernel⟩
abbrev s__law_claim_text : Stmt := topS 47
theorem sc__law_claim_text : FnScope ["_law_claim_here", "_law_bare", "_law_part"] ["_law_claim_here"] (defScope s__law_claim_text) := ⟨rfl, rfl, rfl, by decide +kernel, rfl, by decide +kernel, by decide +kernel⟩
abbrev s__law_some_events : Stmt := topS 48
theorem sc__law_some_events : FnScope ["_law_box", "_law_some", "_law_turn"] ["_law_box"] (defScope s__law_some_events) := ⟨rfl, rfl, rfl, by decide +kernel, rfl, by decide +kernel, by decide +kernel⟩
abbrev s__law_claim : Stmt := topS 49
theorem sc__law_claim : FnScope ["_law_box", "_law_names", "_law_name", "_law_start", "_law_form", "_law_edition", "_law_harm", "_law_paper", "_law_turn"] ["_law_box", "_law_names"] (defScope s__law_claim) := ⟨rfl, rfl, rfl, by decide +kernel, rfl, by decide +kernel, by decide +kernel⟩
abbrev s__law_read : Stmt := topS 50
theorem sc__law_read : FnScope ["_law_text", "_law_is_for_claim", "_law_found", "e"] ["_law_text", "_law_is_for_claim"] (defScope s__law_read) := ⟨rfl, rfl, rfl, by decide +kernel, rfl, by decide +kernel, by decide +kernel⟩
abbrev s__law_bent : Stmt := topS 51
theorem sc__law_bent : FnScope ["_law_box", "_law_text", "_law_at", "_law_sign"] ["_law_box", "_law_text"] (defScope s__law_bent) := ⟨rfl, rfl, rfl, by decide +kernel, rfl, by decide +kernel, by decide +kernel⟩
abbrev s__law_is_same : Stmt := topS 52
theorem sc__law_is_same : FnScope ["_law_one", "_law_other"] ["_law_one", "_law_other"] (defScope s__law_is_same) := ⟨rfl, rfl, rfl, by decide +kernel, rfl, by decide +kernel, by decide +kernel⟩
abbrev s__law_odd : Stmt := topS 53
theorem sc__law_odd : FnScope ["_law_box", "_law_claim_here", "_law_at", "_law_odd_here", "_law_some"] ["_law_box", "_law_claim_here"] (defScope s__law_odd) := ⟨rfl, rfl, rfl, by decide +kernel, rfl, by decide +kernel, by decide +kernel⟩
abbrev s_law : Stmt := topS 54
theorem sc_law : FnScope ["_law_script", "_law_k", "_law_box", "_law_turn", "_law_value", "_law_claim_here", "_law_text", "_law_line", "_law_more", "_law_bent_here", "_law_near", "_law_odd_here", "_law_some", "_law_bad", "_law_one"] ["_law_script"] (defScope s_law) := ⟨rfl, rfl, rfl, by decide +kernel, rfl, by decide +kernel, by decide +kernel⟩
structure Tx (K : PySem.W.Frag) (mg : Str → Option Value) (w : World) where
  n_len : mg "len" = none
  n_all : mg "all" = none
  n_any : mg "any" = none
  n_isinstance : mg "isinstance" = none
  n_int : mg "int" = none
  n_str : mg "str" = none
  n_bool : mg "bool" = none
  n_tuple : mg "tuple" = none
  n_list : mg "list" = none
  n_range : mg "range" = none
  n_abs : mg "abs" = none
  n_max : mg "max" = none
  n_min : mg "min" = none
  n_repr : mg "repr" = none
  k_LETTERS : GC K mg "LETTERS" (.str (Str.ofString "abcdefghijklmnopqrstuvwxyz"))
  k_DIGITS : GC K mg "DIGITS" (.str (Str.ofString "0123456789"))
  k_BARRED_words : GC K mg "BARRED_words" (.tup [(.str (Str.ofString "do")), (.str (Str.ofString "undo")), (.str (Str.ofString "else")), (.str (Str.ofString "go")), (.str (Str.ofString "sure")), (.str (Str.ofString "cut")), (.str (Str.ofString "back")), (.str (Str.ofString "gone")), (.str (Str.ofString "end")), (.str (Str.ofString "key")), (.str (Str.ofString "word")), (.str (Str.ofString "ok")), (.str (Str.ofString "no"))])
  k_HARMS : GC K mg "HARMS" (.tup [(.str (Str.ofString "again")), (.str (Str.ofString "astray")), (.str (Str.ofString "left")), (.str (Str.ofString "loose")), (.str (Str.ofString "noticed")), (.str (Str.ofString "stale")), (.str (Str.ofString "stuck")), (.str (Str.ofString "unlike"))])
  k_ALONE : GC K mg "ALONE" (.tup [(.str (Str.ofString "next")), (.str (Str.ofString "write"))])
  k_NUMBERED : GC K mg "NUMBERED" (.tup [(.str (Str.ofString "over")), (.str (Str.ofString "late"))])
  k_BARRED_plainthings : GC K mg "BARRED_plainthings" (.tup [(.str (Str.ofString "\"")), (.str (Str.ofString "\n")), (.str (Str.ofString "\\"))])
  d_FIXED : GD K mg w "FIXED" [(Str.ofString "yes", (.bl true)), (Str.ofString "no", (.bl false)), (Str.ofString "none", .non)]
  k_CALM : GC K mg "CALM" (.tup [(.str (Str.ofString "again")), (.str (Str.ofString "unlike")), (.str (Str.ofString "loose")), (.str (Str.ofString "astray"))])
  d_WIDTHS : GD K mg w "WIDTHS" [(Str.ofString "story", (.int 6)), (Str.ofString "alike", (.int 6)), (Str.ofString "clean", (.int 5)), (Str.ofString "reads", (.int 3)), (Str.ofString "calm", (.int 4))]
  a_is_integer : Addr
  f_is_integer : FuncData
  g_is_integer : mg "is_integer" = some (.ref a_is_integer)
  F_is_integer : FunV K "is_integer" "is_integer" s_is_integer a_is_integer f_is_integer
  b_is_integer : Binds K f_is_integer ["value"] []
  a_is_number : Addr
  f_is_number : FuncData
  g_is_number : mg "is_number" = some (.ref a_is_number)
  F_is_number : FunV K "is_number" "is_number" s_is_number a_is_number f_is_number
  b_is_number : Binds K f_is_number ["value"] []
  a_is_name : Addr
  f_is_name : FuncData
  g_is_name : mg "is_name" = some (.ref a_is_name)
  F_is_name : FunV K "is_name" "is_name" s_is_name a_is_name f_is_name
  b_is_name : Binds K f_is_name ["value"] []
  a_number_in : Addr
  f_number_in : FuncData
  g_number_in : mg "number_in" = some (.ref a_number_in)
  F_number_in : FunV K "number_in" "number_in" s_number_in a_number_in f_number_in
  b_number_in : Binds K f_number_in ["word", "most"] []
  u_number_in : List Value
  w_number_in : List V
  bd_number_in : Binds K f_number_in ["word", "most"] u_number_in
  v_number_in : Vals w_number_in u_number_in
  r_number_in : ∀ G, RpA K G w_number_in [.int 4]
  a_words_of : Addr
  f_words_of : FuncData
  g_words_of : mg "words_of" = some (.ref a_words_of)
  F_words_of : FunV K "words_of" "words_of" s_words_of a_words_of f_words_of
  b_words_of : Binds K f_words_of ["value"] []
  a_is_plain : Addr
  f_is_plain : FuncData
  g_is_plain : mg "is_plain" = some (.ref a_is_plain)
  F_is_plain : FunV K "is_plain" "is_plain" s_is_plain a_is_plain f_is_plain
  b_is_plain : Binds K f_is_plain ["value", "deep"] []
  u_is_plain : List Value
  w_is_plain : List V
  bd_is_plain : Binds K f_is_plain ["value", "deep"] u_is_plain
  v_is_plain : Vals w_is_plain u_is_plain
  r_is_plain : ∀ G, RpA K G w_is_plain [.int 40]
  a_plain_text : Addr
  f_plain_text : FuncData
  g_plain_text : mg "plain_text" = some (.ref a_plain_text)
  F_plain_text : FunV K "plain_text" "plain_text" s_plain_text a_plain_text f_plain_text
  b_plain_text : Binds K f_plain_text ["value"] []
  a_word_end : Addr
  f_word_end : FuncData
  g_word_end : mg "word_end" = some (.ref a_word_end)
  F_word_end : FunV K "word_end" "word_end" s_word_end a_word_end f_word_end
  b_word_end : Binds K f_word_end ["text", "at"] []
  a_is_digits : Addr
  f_is_digits : FuncData
  g_is_digits : mg "is_digits" = some (.ref a_is_digits)
  F_is_digits : FunV K "is_digits" "is_digits" s_is_digits a_is_digits f_is_digits
  b_is_digits : Binds K f_is_digits ["word"] []
  a_word_at : Addr
  f_word_at : FuncData
  g_word_at : mg "word_at" = some (.ref a_word_at)
  F_word_at : FunV K "word_at" "word_at" s_word_at a_word_at f_word_at
  b_word_at : Binds K f_word_at ["text", "at"] []
  a_tuple_at : Addr
  f_tuple_at : FuncData
  g_tuple_at : mg "tuple_at" = some (.ref a_tuple_at)
  F_tuple_at : FunV K "tuple_at" "tuple_at" s_tuple_at a_tuple_at f_tuple_at
  b_tuple_at : Binds K f_tuple_at ["text", "at", "deep"] []
  a_thing_at : Addr
  f_thing_at : FuncData
  g_thing_at : mg "thing_at" = some (.ref a_thing_at)
  F_thing_at : FunV K "thing_at" "thing_at" s_thing_at a_thing_at f_thing_at
  b_thing_at : Binds K f_thing_at ["text", "at", "deep"] []
  u_thing_at : List Value
  w_thing_at : List V
  bd_thing_at : Binds K f_thing_at ["text", "at", "deep"] u_thing_at
  v_thing_at : Vals w_thing_at u_thing_at
  r_thing_at : ∀ G, RpA K G w_thing_at [.int 40]
  a_things_in : Addr
  f_things_in : FuncData
  g_things_in : mg "things_in" = some (.ref a_things_in)
  F_things_in : FunV K "things_in" "things_in" s_things_in a_things_in f_things_in
  b_things_in : Binds K f_things_in ["text"] []
  a_read_plain : Addr
  f_read_plain : FuncData
  g_read_plain : mg "read_plain" = some (.ref a_read_plain)
  F_read_plain : FunV K "read_plain" "read_plain" s_read_plain a_read_plain f_read_plain
  b_read_plain : Binds K f_read_plain ["text"] []
  a_are_events : Addr
  f_are_events : FuncData
  g_are_events : mg "are_events" = some (.ref a_are_events)
  F_are_events : FunV K "are_events" "are_events" s_are_events a_are_events f_are_events
  b_are_events : Binds K f_are_events ["value"] []
  a_is_start : Addr
  f_is_start : FuncData
  g_is_start : mg "is_start" = some (.ref a_is_start)
  F_is_start : FunV K "is_start" "is_start" s_is_start a_is_start f_is_start
  b_is_start : Binds K f_is_start ["value"] []
  a_is_paper : Addr
  f_is_paper : FuncData
  g_is_paper : mg "is_paper" = some (.ref a_is_paper)
  F_is_paper : FunV K "is_paper" "is_paper" s_is_paper a_is_paper f_is_paper
  b_is_paper : Binds K f_is_paper ["value"] []
  a_is_word_of : Addr
  f_is_word_of : FuncData
  g_is_word_of : mg "is_word_of" = some (.ref a_is_word_of)
  F_is_word_of : FunV K "is_word_of" "is_word_of" s_is_word_of a_is_word_of f_is_word_of
  b_is_word_of : Binds K f_is_word_of ["value", "words"] []
  a_is_claim : Addr
  f_is_claim : FuncData
  g_is_claim : mg "is_claim" = some (.ref a_is_claim)
  F_is_claim : FunV K "is_claim" "is_claim" s_is_claim a_is_claim f_is_claim
  b_is_claim : Binds K f_is_claim ["value"] []
  a_bare_words : Addr
  f_bare_words : FuncData
  g_bare_words : mg "bare_words" = some (.ref a_bare_words)
  F_bare_words : FunV K "bare_words" "bare_words" s_bare_words a_bare_words f_bare_words
  b_bare_words : Binds K f_bare_words ["word"] []
  a_claim_text : Addr
  f_claim_text : FuncData
  g_claim_text : mg "claim_text" = some (.ref a_claim_text)
  F_claim_text : FunV K "claim_text" "claim_text" s_claim_text a_claim_text f_claim_text
  b_claim_text : Binds K f_claim_text ["claim"] []
  a_read_claim : Addr
  f_read_claim : FuncData
  g_read_claim : mg "read_claim" = some (.ref a_read_claim)
  F_read_claim : FunV K "read_claim" "read_claim" s_read_claim a_read_claim f_read_claim
  b_read_claim : Binds K f_read_claim ["text"] []
  a__law_seed : Addr
  f__law_seed : FuncData
  g__law_seed : mg "_law_seed" = some (.ref a__law_seed)
  F__law_seed : FunV K "_law_seed" "_law_seed" s__law_seed a__law_seed f__law_seed
  b__law_seed : Binds K f__law_seed ["_law_script", "_law_k"] []
  a__law_choose : Addr
  f__law_choose : FuncData
  g__law_choose : mg "_law_choose" = some (.ref a__law_choose)
  F__law_choose : FunV K "_law_choose" "_law_choose" s__law_choose a__law_choose f__law_choose
  b__law_choose : Binds K f__law_choose ["_law_box", "_law_bound"] []
  a__law_one_of : Addr
  f__law_one_of : FuncData
  g__law_one_of : mg "_law_one_of" = some (.ref a__law_one_of)
  F__law_one_of : FunV K "_law_one_of" "_law_one_of" s__law_one_of a__law_one_of f__law_one_of
  b__law_one_of : Binds K f__law_one_of ["_law_box", "_law_some"] []
  a__law_plain : Addr
  f__law_plain : FuncData
  g__law_plain : mg "_law_plain" = some (.ref a__law_plain)
  F__law_plain : FunV K "_law_plain" "_law_plain" s__law_plain a__law_plain f__law_plain
  b__law_plain : Binds K f__law_plain ["_law_box", "_law_deep"] []
  a__law_plain_text : Addr
  f__law_plain_text : FuncData
  g__law_plain_text : mg "_law_plain_text" = some (.ref a__law_plain_text)
  F__law_plain_text : FunV K "_law_plain_text" "_law_plain_text" s__law_plain_text a__law_plain_text f__law_plain_text
  b__law_plain_text : Binds K f__law_plain_text ["_law_value"] []
  a__law_claim_text : Addr
  f__law_claim_text : FuncData
  g__law_claim_text : mg "_law_claim_text" = some (.ref a__law_claim_text)
  F__law_claim_text : FunV K "_law_claim_text" "_law_claim_text" s__law_claim_text a__law_claim_text f__law_claim_text
  b__law_claim_text : Binds K f__law_claim_text ["_law_claim_here"] []
  a__law_some_events : Addr
  f__law_some_events : FuncData
  g__law_some_events : mg "_law_some_events" = some (.ref a__law_some_events)
  F__law_some_events : FunV K "_law_some_events" "_law_some_events" s__law_some_events a__law_some_events f__law_some_events
  b__law_some_events : Binds K f__law_some_events ["_law_box"] []
  a__law_claim : Addr
  f__law_claim : FuncData
  g__law_claim : mg "_law_claim" = some (.ref a__law_claim)
  F__law_claim : FunV K "_law_claim" "_law_claim" s__law_claim a__law_claim f__law_claim
  b__law_claim : Binds K f__law_claim ["_law_box", "_law_names"] []
  a__law_read : Addr
  f__law_read : FuncData
  g__law_read : mg "_law_read" = some (.ref a__law_read)
  F__law_read : FunV K "_law_read" "_law_read" s__law_read a__law_read f__law_read
  b__law_read : Binds K f__law_read ["_law_text", "_law_is_for_claim"] []
  a__law_bent : Addr
  f__law_bent : FuncData
  g__law_bent : mg "_law_bent" = some (.ref a__law_bent)
  F__law_bent : FunV K "_law_bent" "_law_bent" s__law_bent a__law_bent f__law_bent
  b__law_bent : Binds K f__law_bent ["_law_box", "_law_text"] []
  a__law_is_same : Addr
  f__law_is_same : FuncData
  g__law_is_same : mg "_law_is_same" = some (.ref a__law_is_same)
  F__law_is_same : FunV K "_law_is_same" "_law_is_same" s__law_is_same a__law_is_same f__law_is_same
  b__law_is_same : Binds K f__law_is_same ["_law_one", "_law_other"] []
  a__law_odd : Addr
  f__law_odd : FuncData
  g__law_odd : mg "_law_odd" = some (.ref a__law_odd)
  F__law_odd : FunV K "_law_odd" "_law_odd" s__law_odd a__law_odd f__law_odd
  b__law_odd : Binds K f__law_odd ["_law_box", "_law_claim_here"] []
  a_law : Addr
  f_law : FuncData
  g_law : mg "law" = some (.ref a_law)
  F_law : FunV K "law" "law" s_law a_law f_law
  b_law : Binds K f_law ["_law_script"] []
end K88
set_option maxHeartbeats 4000000
/-! small defs: numbers, names -/
namespace K88
open PySem L2 Dn
/-! promises of functions of data -/
def RF1 (P : D → Prop) (f : D → D) : RP := fun ds Q => ∃ d, ds = [d] ∧ P d ∧ Q (f d)
def RF2 (P : D → D → Prop) (f : D → D → D) : RP := fun ds Q => ∃ a b, ds = [a, b] ∧ P a b ∧ Q (f a b)
def RF3 (P : D → D → D → Prop) (f : D → D → D → D) : RP := fun ds Q => ∃ a b c, ds = [a, b, c] ∧ P a b c ∧ Q (f a b c)
theorem moF1 {P : D → Prop} {f : D → D} : MoR (RF1 P f) := fun ds Q Q' k ⟨d, h1, h2, q⟩ => ⟨d, h1, h2, k _ q⟩
theorem moF2 {P : D → D → Prop} {f : D → D → D} : MoR (RF2 P f) := fun ds Q Q' k ⟨a, b, h1, h2, q⟩ => ⟨a, b, h1, h2, k _ q⟩
theorem moF3 {P : D → D → D → Prop} {f : D → D → D → D} : MoR (RF3 P f) := fun ds Q Q' k ⟨a, b, c, h1, h2, q⟩ => ⟨a, b, c, h1, h2, k _ q⟩
theorem lenF1 {P : D → Prop} {f : D → D} {p : Str} : ∀ ds Q, RF1 P f ds Q → ds.length = [p].length := fun ds Q ⟨d, h, _⟩ => by rw [h]; rfl
theorem lenF2 {P : D → D → Prop} {f : D → D → D} {p q : Str} : ∀ ds Q, RF2 P f ds Q → ds.length = [p, q].length := fun ds Q ⟨d, _, h, _⟩ => by rw [h]; rfl
theorem lenF3 {P : D → D → D → Prop} {f : D → D → D → D} {p q r : Str} : ∀ ds Q, RF3 P f ds Q → ds.length = [p, q, r].length := fun ds Q ⟨d, _, _, h, _⟩ => by rw [h]; rfl
theorem rf1 {P : D → Prop} {f : D → D} {d : D} {Q : D → Prop} : RF1 P f [d] Q = (P d ∧ Q (f d)) := propext ⟨fun ⟨x, h1, h2, q⟩ => by cases h1; exact ⟨h2, q⟩, fun ⟨h, q⟩ => ⟨d, rfl, h, q⟩⟩
theorem rf2 {P : D → D → Prop} {f : D → D → D} {a b : D} {Q : D → Prop} : RF2 P f [a, b] Q = (P a b ∧ Q (f a b)) := propext ⟨fun ⟨x, y, h1, h2, q⟩ => by cases h1; exact ⟨h2, q⟩, fun ⟨h, q⟩ => ⟨a, b, rfl, h, q⟩⟩
theorem rf3 {P : D → D → D → Prop} {f : D → D → D → D} {a b c : D} {Q : D → Prop} : RF3 P f [a, b, c] Q = (P a b c ∧ Q (f a b c)) := propext ⟨fun ⟨x, y, z, h1, h2, q⟩ => by cases h1; exact ⟨h2, q⟩, fun ⟨h, q⟩ => ⟨a, b, c, rfl, h, q⟩⟩

/-! ### the mirror -/
def isInteger : D → Bool | .int _ => true | _ => false
def isNumber : D → Bool | .int i => decide (0 ≤ i) | _ => false
def notRaw (d : D) : Prop := d.isRaw = false
abbrev tx (s : String) : D := .str (Str.ofString s)
abbrev barredW : List D := [tx "do", tx "undo", tx "else", tx "go", tx "sure", tx "cut", tx "back", tx "gone", tx "end", tx "key", tx "word", tx "ok", tx "no"]
abbrev letters : List Nat := (Str.ofString "abcdefghijklmnopqrstuvwxyz").cps.toList
abbrev digits : List Nat := (Str.ofString "0123456789").cps.toList
def allIn (L : List Nat) (x : Str) : Bool := x.cps.toList.all fun c => decide (c ∈ L)
def nameS (x : Str) : Bool := decide ((1 : Int) ≤ (x.length : Int)) && decide ((x.length : Int) ≤ 4) && !inV (.str x) (barredW.map D.v) && allIn letters x
def isName : D → Bool | .str x => nameS x | _ => false
def shortS (d : D) : Prop := match d with | .str x => x.length ≤ 100000 | .raw _ => False | _ => True

section
variable {P : Program} {w : World} {K : PySem.W.Frag} {mg : Str → Option Value} {base : Heap}
theorem ok_is_integer (T : Tx K mg w) : FnOk P w K mg base CX0 1 T.a_is_integer T.f_is_integer ["value"] (spD K bx0 (RF1 notRaw fun d => .bl (isInteger d))) := by
  refine okD T.F_is_integer sc_is_integer lenF1 (fun cdv A outer s H E e heb hr => ⟨_, (db_one (ds_ret (de_and (de_callB L_isi call_isi T.n_isinstance (by decide +kernel) (da_cons (de_var 0) (da_cons (de_ty (T := "int") T.n_int (by decide +kernel)) da_nil))) (de_one (de_not (de_callB L_isi call_isi T.n_isinstance (by decide +kernel) (da_cons (de_var 0) (da_cons (de_ty (T := "bool") T.n_bool (by decide +kernel)) da_nil)))))))), fun ds Q h => ?_⟩)
  obtain ⟨d, rfl, h, q⟩ := h
  cases d <;> first | (simp only [dSeq, dIfS, dRet, dRetN, dDrop, dAsg, dAsgF, dApp, dAug, dPar, dPar2, dFrz, dNext, dC, dOp, dTest, dChain, dUn, dtAnd, dtOr, dtNot, dAndV, dOrV, dNotV, dIf, dNil, dCons, dStar, dTup, dLst, dFz, dCall, dCB, dSl, dNoPart, dPart, dM1, dBM, dFmt, dJ3, dSq, dVar, startD,
    List.map_cons, List.map_nil, List.length_cons, List.length_nil, List.nil_append, List.cons_append, List.append_nil, List.replicate_succ, List.replicate_zero, List.getElem?_cons_zero, List.getElem?_cons_succ, List.set_cons_zero, List.set_cons_succ, Nat.reduceAdd, Nat.reduceSub,
    isi_non_int, isi_non_bool, isi_non_str, isi_non_tup, isi_bl_int, isi_bl_bool, isi_bl_str, isi_bl_tup, isi_int_int, isi_int_bool, isi_int_str, isi_int_tup, isi_str_int, isi_str_bool, isi_str_str, isi_str_tup, isi_lst_int, isi_lst_bool, isi_lst_str, isi_lst_tup, isi_tup_int, isi_tup_bool, isi_tup_str, isi_tup_tup,
    isN_non, noN_non, isN_bl, noN_bl, isN_int, noN_int, isN_str, noN_str, isN_lst, noN_lst, isN_tup, noN_tup,
    eq_ss, ne_ss, eq_ii, ne_ii, ne_si, len_str', len_tup', len_lst', add_ii, sub_ii, lt_ii, le_ii, gt_ii, ge_ii, ex_bl, ex_int, ex_str, ex_sv, ex_own, all_of, Bool.not_true, Bool.not_false, Bool.false_eq_true, reduceIte, ix_lst, ix_tup', ix_str', sign_of]; exact q) | (simp [notRaw, D.isRaw] at h)
theorem ok_is_number (T : Tx K mg w) : FnOk P w K mg base CX0 2 T.a_is_number T.f_is_number ["value"] (spD K bx0 (RF1 notRaw fun d => .bl (isNumber d))) := by
  have G_is_integer := ok_is_integer (P := P) (base := base) T
  refine okD T.F_is_number sc_is_number lenF1 (fun cdv A outer s H E e heb hr => ⟨_, (db_one (ds_ret (de_and (de_call (.inl rfl) moF1 G_is_integer (Room.mono hr (by first | decide | omega)) T.g_is_integer T.F_is_integer.kp T.b_is_integer .nil (fun _ => .nil) pass0 (da_cons (de_var 0) da_nil)) (de_one (de_cmp L_ge op_ge (de_var 0) de_int))))), fun ds Q h => ?_⟩)
  obtain ⟨d, rfl, h, q⟩ := h
  cases d <;> first | (simp only [dSeq, dIfS, dRet, dRetN, dDrop, dAsg, dAsgF, dApp, dAug, dPar, dPar2, dFrz, dNext, dC, dOp, dTest, dChain, dUn, dtAnd, dtOr, dtNot, dAndV, dOrV, dNotV, dIf, dNil, dCons, dStar, dTup, dLst, dFz, dCall, dCB, dSl, dNoPart, dPart, dM1, dBM, dFmt, dJ3, dSq, dVar, startD,
    List.map_cons, List.map_nil, List.length_cons, List.length_nil, List.nil_append, List.cons_append, List.append_nil, List.replicate_succ, List.replicate_zero, List.getElem?_cons_zero, List.getElem?_cons_succ, List.set_cons_zero, List.set_cons_succ, Nat.reduceAdd, Nat.reduceSub,
    isi_non_int, isi_non_bool, isi_non_str, isi_non_tup, isi_bl_int, isi_bl_bool, isi_bl_str, isi_bl_tup, isi_int_int, isi_int_bool, isi_int_str, isi_int_tup, isi_str_int, isi_str_bool, isi_str_str, isi_str_tup, isi_lst_int, isi_lst_bool, isi_lst_str, isi_lst_tup, isi_tup_int, isi_tup_bool, isi_tup_str, isi_tup_tup,
    isN_non, noN_non, isN_bl, noN_bl, isN_int, noN_int, isN_str, noN_str, isN_lst, noN_lst, isN_tup, noN_tup,
    eq_ss, ne_ss, eq_ii, ne_ii, ne_si, len_str', len_tup', len_lst', add_ii, sub_ii, lt_ii, le_ii, gt_ii, ge_ii, ex_bl, ex_int, ex_str, ex_sv, ex_own, all_of, Bool.not_true, Bool.not_false, Bool.false_eq_true, reduceIte, ix_lst, ix_tup', ix_str', sign_of, rf1, isInteger, notRaw, D.isRaw, true_and]; exact q) | (simp [notRaw, D.isRaw] at h)
/-- all signs of a text are in a text -/
theorem lc_signs {j : Nat} {te : TD} {δ : DE} {R : List D → Prop} {x : Str} {L : List Nat} (hz : x.length ≤ sizeLine) (ht : ∀ (c : Nat) (R' : D → Prop), R' (.bl (decide (c ∈ L))) → te (δ.set j (.d (.str ⟨#[c]⟩))) R') (h : R ((x.cps.toList.map fun c => decide (c ∈ L)).map .bl)) : lcW j dtYes te (signs x) [] δ R := by
  refine lc_map (f := fun d => match d with | .str z => .bl (decide (z.cps.toList.headD 0 ∈ L)) | d => d) (signs x) [] R (fun d hd R' hR => ?_) (by simpa [signs, Str.length] using hz) ?_
  · unfold signs at hd
    obtain ⟨c, _, rfl⟩ := List.mem_map.mp hd
    exact ht c R' hR
  · rw [List.nil_append]
    unfold signs
    rw [List.map_map]
    rw [List.map_map] at h
    exact h
theorem ok_is_name (T : Tx K mg w) : FnOk P w K mg base CX0 1 T.a_is_name T.f_is_name ["value"] (spD K bx0 (RF1 shortS fun d => .bl (isName d))) := by
  refine okD T.F_is_name sc_is_name lenF1 (fun cdv A outer s H E e heb hr => ⟨_, (db_cons (ds_if (DW_.t (dw_or (dt_not (dt_val (de_callB L_isi call_isi T.n_isinstance (by decide +kernel) (da_cons (de_var 0) (da_cons (de_ty (T := "str") T.n_str (by decide +kernel)) da_nil))))) (dw_or (dt_not (dt_chain L_le op_le L_le op_le de_int (de_callB L_len call_len T.n_len PySem.boot_len (da_cons (de_var 0) da_nil)) de_int)) (dw_or1 (dt_cmp (L_in false) op_in_seq (de_var 0) (GC.de T.k_BARRED_words)))))) (db_one (ds_ret de_bl)) db_nil) (db_one (ds_ret (de_callB L_all (cr_all rfl) T.n_all (by decide +kernel) (da_cons (DF_.de (df_lc (j := 1) rfl sc_is_name.nd (di_str (de_var 0)) (blkOk_by (N := ["value", "sign"]) (sc := defScope s_is_name) (own := [("sign", 1)]) (by decide +kernel)) (fun _ _ _ _ _ => pg_name (i := 1) sc_is_name.nd rfl (Or.inl rfl)) (fun _ _ _ _ _ => dts_nil) (fun _ _ _ _ _ => (de_cmp L_sign op_in_sign (de_var 1) (GC.de T.k_LETTERS))))) da_nil))))), fun ds Q h => ?_⟩)
  obtain ⟨d, rfl, h, q⟩ := h
  cases d with
  | str x =>
    have hx : x.length ≤ 100000 := h
    have hz : x.length ≤ sizeLine := Nat.le_trans hx (by decide)
    simp only [dSeq, dIfS, dRet, dRetN, dDrop, dAsg, dAsgF, dApp, dAug, dPar, dPar2, dFrz, dNext, dC, dOp, dTest, dChain, dUn, dtAnd, dtOr, dtNot, dAndV, dOrV, dNotV, dIf, dNil, dCons, dStar, dTup, dLst, dFz, dCall, dCB, dSl, dNoPart, dPart, dM1, dBM, dFmt, dJ3, dSq, dVar, startD,
    List.map_cons, List.map_nil, List.length_cons, List.length_nil, List.nil_append, List.cons_append, List.append_nil, List.replicate_succ, List.replicate_zero, List.getElem?_cons_zero, List.getElem?_cons_succ, List.set_cons_zero, List.set_cons_succ, Nat.reduceAdd, Nat.reduceSub,
    isi_non_int, isi_non_bool, isi_non_str, isi_non_tup, isi_bl_int, isi_bl_bool, isi_bl_str, isi_bl_tup, isi_int_int, isi_int_bool, isi_int_str, isi_int_tup, isi_str_int, isi_str_bool, isi_str_str, isi_str_tup, isi_lst_int, isi_lst_bool, isi_lst_str, isi_lst_tup, isi_tup_int, isi_tup_bool, isi_tup_str, isi_tup_tup,
    isN_non, noN_non, isN_bl, noN_bl, isN_int, noN_int, isN_str, noN_str, isN_lst, noN_lst, isN_tup, noN_tup,
    eq_ss, ne_ss, eq_ii, ne_ii, ne_si, len_str', len_tup', len_lst', add_ii, sub_ii, lt_ii, le_ii, gt_ii, ge_ii, ex_bl, ex_int, ex_str, ex_sv, ex_own, all_of, Bool.not_true, Bool.not_false, Bool.false_eq_true, reduceIte, ix_lst, ix_tup', ix_str', sign_of, dLc, D.strOf]
    refine ⟨hz, ?_⟩
    rw [in_fs (ds := barredW) rfl]
    have q' : Q (.bl (nameS x)) := q
    unfold nameS at q'
    by_cases a1 : (1 : Int) ≤ (x.length : Int)
    · rw [if_pos (decide_eq_true a1)]
      rw [decide_eq_true a1, Bool.true_and] at q'
      by_cases a2 : (x.length : Int) ≤ 4
      · rw [if_neg (by simp [a2])]
        rw [decide_eq_true a2, Bool.true_and] at q'
        refine ⟨_, rfl, ?_⟩
        by_cases a3 : inV (.str x) (barredW.map D.v) = true
        · rw [if_pos a3]
          have e : (D.str x).v = V.str x := rfl
          rw [a3] at q'
          exact q'
        · rw [if_neg a3]
          have e : inV (.str x) (barredW.map D.v) = false := by simpa using a3
          rw [e] at q'
          refine ⟨_, rfl, lc_signs (L := letters) hz (fun c R' hR => ?_) ?_⟩
          · simp only [dSeq, dIfS, dRet, dRetN, dDrop, dAsg, dAsgF, dApp, dAug, dPar, dPar2, dFrz, dNext, dC, dOp, dTest, dChain, dUn, dtAnd, dtOr, dtNot, dAndV, dOrV, dNotV, dIf, dNil, dCons, dStar, dTup, dLst, dFz, dCall, dCB, dSl, dNoPart, dPart, dM1, dBM, dFmt, dJ3, dSq, dVar, startD,
    List.map_cons, List.map_nil, List.length_cons, List.length_nil, List.nil_append, List.cons_append, List.append_nil, List.replicate_succ, List.replicate_zero, List.getElem?_cons_zero, List.getElem?_cons_succ, List.set_cons_zero, List.set_cons_succ, Nat.reduceAdd, Nat.reduceSub,
    isi_non_int, isi_non_bool, isi_non_str, isi_non_tup, isi_bl_int, isi_bl_bool, isi_bl_str, isi_bl_tup, isi_int_int, isi_int_bool, isi_int_str, isi_int_tup, isi_str_int, isi_str_bool, isi_str_str, isi_str_tup, isi_lst_int, isi_lst_bool, isi_lst_str, isi_lst_tup, isi_tup_int, isi_tup_bool, isi_tup_str, isi_tup_tup,
    isN_non, noN_non, isN_bl, noN_bl, isN_int, noN_int, isN_str, noN_str, isN_lst, noN_lst, isN_tup, noN_tup,
    eq_ss, ne_ss, eq_ii, ne_ii, ne_si, len_str', len_tup', len_lst', add_ii, sub_ii, lt_ii, le_ii, gt_ii, ge_ii, ex_bl, ex_int, ex_str, ex_sv, ex_own, all_of, Bool.not_true, Bool.not_false, Bool.false_eq_true, reduceIte, ix_lst, ix_tup', ix_str', sign_of]
            exact hR
          · rw [all_of]
            have e2 : (List.map (fun c => decide (c ∈ letters)) x.cps.toList).all id = allIn letters x := by
              unfold allIn
              rw [List.all_map]; rfl
            rw [e2]
            exact q'
      · rw [if_pos (by simp [a2])]
        rw [decide_eq_false a2] at q'
        exact q'
    · rw [if_neg (by simp [a1])]
      rw [decide_eq_false a1] at q'
      exact q'
  | raw _ => exact h.elim
  | _ => simp only [dSeq, dIfS, dRet, dRetN, dDrop, dAsg, dAsgF, dApp, dAug, dPar, dPar2, dFrz, dNext, dC, dOp, dTest, dChain, dUn, dtAnd, dtOr, dtNot, dAndV, dOrV, dNotV, dIf, dNil, dCons, dStar, dTup, dLst, dFz, dCall, dCB, dSl, dNoPart, dPart, dM1, dBM, dFmt, dJ3, dSq, dVar, startD,
    List.map_cons, List.map_nil, List.length_cons, List.length_nil, List.nil_append, List.cons_append, List.append_nil, List.replicate_succ, List.replicate_zero, List.getElem?_cons_zero, List.getElem?_cons_succ, List.set_cons_zero, List.set_cons_succ, Nat.reduceAdd, Nat.reduceSub,
    isi_non_int, isi_non_bool, isi_non_str, isi_non_tup, isi_bl_int, isi_bl_bool, isi_bl_str, isi_bl_tup, isi_int_int, isi_int_bool, isi_int_str, isi_int_tup, isi_str_int, isi_str_bool, isi_str_str, isi_str_tup, isi_lst_int, isi_lst_bool, isi_lst_str, isi_lst_tup, isi_tup_int, isi_tup_bool, isi_tup_str, isi_tup_tup,
    isN_non, noN_non, isN_bl, noN_bl, isN_int, noN_int, isN_str, noN_str, isN_lst, noN_lst, isN_tup, noN_tup,
    eq_ss, ne_ss, eq_ii, ne_ii, ne_si, len_str', len_tup', len_lst', add_ii, sub_ii, lt_ii, le_ii, gt_ii, ge_ii, ex_bl, ex_int, ex_str, ex_sv, ex_own, all_of, Bool.not_true, Bool.not_false, Bool.false_eq_true, reduceIte, ix_lst, ix_tup', ix_str', sign_of]; exact q
theorem ok_bare_words (T : Tx K mg w) : FnOk P w K mg base CX0 1 T.a_bare_words T.f_bare_words ["word"] (spD K bx0 (RF1 (fun d => d.flat = true) fun d => .int (if inV d.v [.str (Str.ofString "story"), .str (Str.ofString "calm")] then 3 else 2))) := by
  refine okD T.F_bare_words sc_bare_words lenF1 (fun cdv A outer s H E e heb hr => ⟨_, (db_one (ds_ret (de_ifExp (dt_cmp (L_in false) op_in_seq (de_var 0) (de_tup (da_cons de_str (da_cons de_str da_nil)))) de_int de_int))), fun ds Q h => ?_⟩)
  obtain ⟨d, rfl, h, q⟩ := h
  simp only [dSeq, dIfS, dRet, dRetN, dDrop, dAsg, dAsgF, dApp, dAug, dPar, dPar2, dFrz, dNext, dC, dOp, dTest, dChain, dUn, dtAnd, dtOr, dtNot, dAndV, dOrV, dNotV, dIf, dNil, dCons, dStar, dTup, dLst, dFz, dCall, dCB, dSl, dNoPart, dPart, dM1, dBM, dFmt, dJ3, dSq, dVar, startD,
    List.map_cons, List.map_nil, List.length_cons, List.length_nil, List.nil_append, List.cons_append, List.append_nil, List.replicate_succ, List.replicate_zero, List.getElem?_cons_zero, List.getElem?_cons_succ, List.set_cons_zero, List.set_cons_succ, Nat.reduceAdd, Nat.reduceSub,
    isi_non_int, isi_non_bool, isi_non_str, isi_non_tup, isi_bl_int, isi_bl_bool, isi_bl_str, isi_bl_tup, isi_int_int, isi_int_bool, isi_int_str, isi_int_tup, isi_str_int, isi_str_bool, isi_str_str, isi_str_tup, isi_lst_int, isi_lst_bool, isi_lst_str, isi_lst_tup, isi_tup_int, isi_tup_bool, isi_tup_str, isi_tup_tup,
    isN_non, noN_non, isN_bl, noN_bl, isN_int, noN_int, isN_str, noN_str, isN_lst, noN_lst, isN_tup, noN_tup,
    eq_ss, ne_ss, eq_ii, ne_ii, ne_si, len_str', len_tup', len_lst', add_ii, sub_ii, lt_ii, le_ii, gt_ii, ge_ii, ex_bl, ex_int, ex_str, ex_sv, ex_own, all_of, Bool.not_true, Bool.not_false, Bool.false_eq_true, reduceIte, ix_lst, ix_tup', ix_str', sign_of]
  refine ⟨by decide, ?_⟩
  rw [in_f (x := d) (ds := [.str (Str.ofString "story"), .str (Str.ofString "calm")]) h rfl]
  refine ⟨_, rfl, ?_⟩
  show if inV d.v [.str (Str.ofString "story"), .str (Str.ofString "calm")] = true then Q (.int 3) else Q (.int 2)
  have q' : Q (.int (if inV d.v [.str (Str.ofString "story"), .str (Str.ofString "calm")] then 3 else 2)) := q
  by_cases a : inV d.v [.str (Str.ofString "story"), .str (Str.ofString "calm")] = true
  · rw [if_pos a] at q' ⊢; exact q'
  · rw [if_neg a] at q' ⊢; exact q'
def isWordOf (v ws : D) : D := .bl (match v, ws with | .str x, .tup ds => inV (.str x) (ds.map D.v) | _, _ => false)
theorem ok_is_word_of (T : Tx K mg w) : FnOk P w K mg base CX0 1 T.a_is_word_of T.f_is_word_of ["value", "words"] (spD K bx0 (RF2 (fun v ws => notRaw v ∧ ∃ ds, ws = .tup ds ∧ ds.all D.flat = true) isWordOf)) := by
  refine okD T.F_is_word_of sc_is_word_of lenF2 (fun cdv A outer s H E e heb hr => ⟨_, (db_one (ds_ret (de_and (de_callB L_isi call_isi T.n_isinstance (by decide +kernel) (da_cons (de_var 0) (da_cons (de_ty (T := "str") T.n_str (by decide +kernel)) da_nil))) (de_one (de_cmp (L_in false) op_in_seq (de_var 0) (de_var 1)))))), fun ds Q h => ?_⟩)
  obtain ⟨d, ws, rfl, ⟨h, ds, rfl, hf⟩, q⟩ := h
  cases d with
  | str x =>
    simp only [dSeq, dIfS, dRet, dRetN, dDrop, dAsg, dAsgF, dApp, dAug, dPar, dPar2, dFrz, dNext, dC, dOp, dTest, dChain, dUn, dtAnd, dtOr, dtNot, dAndV, dOrV, dNotV, dIf, dNil, dCons, dStar, dTup, dLst, dFz, dCall, dCB, dSl, dNoPart, dPart, dM1, dBM, dFmt, dJ3, dSq, dVar, startD,
    List.map_cons, List.map_nil, List.length_cons, List.length_nil, List.nil_append, List.cons_append, List.append_nil, List.replicate_succ, List.replicate_zero, List.getElem?_cons_zero, List.getElem?_cons_succ, List.set_cons_zero, List.set_cons_succ, Nat.reduceAdd, Nat.reduceSub,
    isi_non_int, isi_non_bool, isi_non_str, isi_non_tup, isi_bl_int, isi_bl_bool, isi_bl_str, isi_bl_tup, isi_int_int, isi_int_bool, isi_int_str, isi_int_tup, isi_str_int, isi_str_bool, isi_str_str, isi_str_tup, isi_lst_int, isi_lst_bool, isi_lst_str, isi_lst_tup, isi_tup_int, isi_tup_bool, isi_tup_str, isi_tup_tup,
    isN_non, noN_non, isN_bl, noN_bl, isN_int, noN_int, isN_str, noN_str, isN_lst, noN_lst, isN_tup, noN_tup,
    eq_ss, ne_ss, eq_ii, ne_ii, ne_si, len_str', len_tup', len_lst', add_ii, sub_ii, lt_ii, le_ii, gt_ii, ge_ii, ex_bl, ex_int, ex_str, ex_sv, ex_own, all_of, Bool.not_true, Bool.not_false, Bool.false_eq_true, reduceIte, ix_lst, ix_tup', ix_str', sign_of]
    rw [in_fs hf]
    exact q
  | raw _ => simp [notRaw, D.isRaw] at h
  | _ => simp only [dSeq, dIfS, dRet, dRetN, dDrop, dAsg, dAsgF, dApp, dAug, dPar, dPar2, dFrz, dNext, dC, dOp, dTest, dChain, dUn, dtAnd, dtOr, dtNot, dAndV, dOrV, dNotV, dIf, dNil, dCons, dStar, dTup, dLst, dFz, dCall, dCB, dSl, dNoPart, dPart, dM1, dBM, dFmt, dJ3, dSq, dVar, startD,
    List.map_cons, List.map_nil, List.length_cons, List.length_nil, List.nil_append, List.cons_append, List.append_nil, List.replicate_succ, List.replicate_zero, List.getElem?_cons_zero, List.getElem?_cons_succ, List.set_cons_zero, List.set_cons_succ, Nat.reduceAdd, Nat.reduceSub,
    isi_non_int, isi_non_bool, isi_non_str, isi_non_tup, isi_bl_int, isi_bl_bool, isi_bl_str, isi_bl_tup, isi_int_int, isi_int_bool, isi_int_str, isi_int_tup, isi_str_int, isi_str_bool, isi_str_str, isi_str_tup, isi_lst_int, isi_lst_bool, isi_lst_str, isi_lst_tup, isi_tup_int, isi_tup_bool, isi_tup_str, isi_tup_tup,
    isN_non, noN_non, isN_bl, noN_bl, isN_int, noN_int, isN_str, noN_str, isN_lst, noN_lst, isN_tup, noN_tup,
    eq_ss, ne_ss, eq_ii, ne_ii, ne_si, len_str', len_tup', len_lst', add_ii, sub_ii, lt_ii, le_ii, gt_ii, ge_ii, ex_bl, ex_int, ex_str, ex_sv, ex_own, all_of, Bool.not_true, Bool.not_false, Bool.false_eq_true, reduceIte, ix_lst, ix_tup', ix_str', sign_of]; exact q
/-! texts by their signs -/
abbrev tl (x : Str) : List Nat := x.cps.toList
def S (l : List Nat) : Str := ⟨l.toArray⟩
theorem tl_S (l : List Nat) : tl (S l) = l := rfl
theorem S_tl (x : Str) : S (tl x) = x := TL.mk_tl x
theorem len_S (l : List Nat) : (S l).length = l.length := by simp [S, Str.length]
def isDig (c : Nat) : Bool := decide (c ∈ digits)
/-- decimal digits without leading zeros -/
def dgs (l : List Nat) : Bool := match l with
  | [] => false
  | c :: r => (c :: r).all isDig && (r.isEmpty && decide (c = 48) || !decide (c = 48))
theorem dgs_cons (c : Nat) (r : List Nat) : dgs (c :: r) = ((c :: r).all isDig && (r.isEmpty && decide (c = 48) || !decide (c = 48))) := rfl
def isDigits : D → Bool | .str x => dgs (tl x) | _ => false
theorem ok_is_digits (T : Tx K mg w) : FnOk P w K mg base CX0 1 T.a_is_digits T.f_is_digits ["word"] (spD K bx0 (RF1 (fun d => ∃ x, d = .str x ∧ x.length ≤ 100000) fun d => .bl (isDigits d))) := by
  refine okD T.F_is_digits sc_is_digits lenF1 (fun cdv A outer s H E e heb hr => ⟨_, (db_one (ds_ret (de_and (de_cmp L_neS op_ne (de_var 0) de_str) (de_and (de_callB L_all (cr_all rfl) T.n_all (by decide +kernel) (da_cons (DF_.de (df_lc (j := 1) rfl sc_is_digits.nd (di_str (de_var 0)) (blkOk_by (N := ["word", "sign"]) (sc := defScope s_is_digits) (own := [("sign", 1)]) (by decide +kernel)) (fun _ _ _ _ _ => pg_name (i := 1) sc_is_digits.nd rfl (Or.inl rfl)) (fun _ _ _ _ _ => dts_nil) (fun _ _ _ _ _ => (de_cmp L_sign op_in_sign (de_var 1) (GC.de T.k_DIGITS))))) da_nil)) (de_one (de_or (de_cmp L_eqS op_eq (de_var 0) de_str) (de_one (de_cmp L_neS op_ne (de_ix L_ix ix_seq (de_var 0) de_int) de_str)))))))), fun ds Q h => ?_⟩)
  obtain ⟨d, rfl, ⟨x, rfl, hx⟩, q⟩ := h
  have hz : x.length ≤ sizeLine := Nat.le_trans hx (by decide)
  simp only [dSeq, dIfS, dRet, dRetN, dDrop, dAsg, dAsgF, dApp, dAug, dPar, dPar2, dFrz, dNext, dC, dOp, dTest, dChain, dUn, dtAnd, dtOr, dtNot, dAndV, dOrV, dNotV, dIf, dNil, dCons, dStar, dTup, dLst, dFz, dCall, dCB, dSl, dNoPart, dPart, dM1, dBM, dFmt, dJ3, dSq, dVar, startD,
    List.map_cons, List.map_nil, List.length_cons, List.length_nil, List.nil_append, List.cons_append, List.append_nil, List.replicate_succ, List.replicate_zero, List.getElem?_cons_zero, List.getElem?_cons_succ, List.set_cons_zero, List.set_cons_succ, Nat.reduceAdd, Nat.reduceSub,
    isi_non_int, isi_non_bool, isi_non_str, isi_non_tup, isi_bl_int, isi_bl_bool, isi_bl_str, isi_bl_tup, isi_int_int, isi_int_bool, isi_int_str, isi_int_tup, isi_str_int, isi_str_bool, isi_str_str, isi_str_tup, isi_lst_int, isi_lst_bool, isi_lst_str, isi_lst_tup, isi_tup_int, isi_tup_bool, isi_tup_str, isi_tup_tup,
    isN_non, noN_non, isN_bl, noN_bl, isN_int, noN_int, isN_str, noN_str, isN_lst, noN_lst, isN_tup, noN_tup,
    eq_ss, ne_ss, eq_ii, ne_ii, ne_si, len_str', len_tup', len_lst', add_ii, sub_ii, lt_ii, le_ii, gt_ii, ge_ii, ex_bl, ex_int, ex_str, ex_sv, ex_own, all_of, Bool.not_true, Bool.not_false, Bool.false_eq_true, reduceIte, ix_lst, ix_tup', ix_str', sign_of, dLc, D.strOf]
  have q' : Q (.bl (dgs (tl x))) := q
  cases hl : tl x with
  | nil =>
    have ex : x = Str.ofString "" := TL.ext_tl (by show tl x = tl (Str.ofString ""); rw [hl]; rfl)
    rw [hl] at q'
    rw [decide_eq_true ex]
    exact q'
  | cons c r =>
    have ex : ¬ x = Str.ofString "" := fun z => by
      rw [z] at hl
      cases hl
    rw [hl] at q'
    rw [decide_eq_false ex]
    simp only [Bool.not_false, if_true]
    refine ⟨_, rfl, lc_signs (L := digits) hz (fun c R' hR => ?_) ?_⟩
    · simp only [dSeq, dIfS, dRet, dRetN, dDrop, dAsg, dAsgF, dApp, dAug, dPar, dPar2, dFrz, dNext, dC, dOp, dTest, dChain, dUn, dtAnd, dtOr, dtNot, dAndV, dOrV, dNotV, dIf, dNil, dCons, dStar, dTup, dLst, dFz, dCall, dCB, dSl, dNoPart, dPart, dM1, dBM, dFmt, dJ3, dSq, dVar, startD,
    List.map_cons, List.map_nil, List.length_cons, List.length_nil, List.nil_append, List.cons_append, List.append_nil, List.replicate_succ, List.replicate_zero, List.getElem?_cons_zero, List.getElem?_cons_succ, List.set_cons_zero, List.set_cons_succ, Nat.reduceAdd, Nat.reduceSub,
    isi_non_int, isi_non_bool, isi_non_str, isi_non_tup, isi_bl_int, isi_bl_bool, isi_bl_str, isi_bl_tup, isi_int_int, isi_int_bool, isi_int_str, isi_int_tup, isi_str_int, isi_str_bool, isi_str_str, isi_str_tup, isi_lst_int, isi_lst_bool, isi_lst_str, isi_lst_tup, isi_tup_int, isi_tup_bool, isi_tup_str, isi_tup_tup,
    isN_non, noN_non, isN_bl, noN_bl, isN_int, noN_int, isN_str, noN_str, isN_lst, noN_lst, isN_tup, noN_tup,
    eq_ss, ne_ss, eq_ii, ne_ii, ne_si, len_str', len_tup', len_lst', add_ii, sub_ii, lt_ii, le_ii, gt_ii, ge_ii, ex_bl, ex_int, ex_str, ex_sv, ex_own, all_of, Bool.not_true, Bool.not_false, Bool.false_eq_true, reduceIte, ix_lst, ix_tup', ix_str', sign_of]
      exact hR
    · rw [all_of]
      have e2 : (List.map (fun c => decide (c ∈ digits)) x.cps.toList).all id = (c :: r).all isDig := by
        rw [← hl, List.all_map]; rfl
      rw [e2]
      refine ⟨_, rfl, ?_⟩
      cases ha : (c :: r).all isDig with
      | false =>
        rw [dgs_cons, ha] at q'
        exact q'
      | true =>
        rw [if_pos rfl]
        rw [dgs_cons, ha, Bool.true_and] at q'
        have e3 : decide (x = Str.ofString "0") = (r.isEmpty && decide (c = 48)) := by
          have e4 : (x = Str.ofString "0") ↔ (r = [] ∧ c = 48) := by
            constructor
            · intro z
              rw [z] at hl
              have : [48] = c :: r := hl
              injection this with a b
              exact ⟨b.symm, a.symm⟩
            · intro ⟨a, b⟩
              refine TL.ext_tl ?_
              show tl x = [48]
              rw [hl, a, b]
          cases r with
          | nil => simp [e4]
          | cons _ _ => simp [e4]
        rw [e3]
        cases hb : (r.isEmpty && decide (c = 48)) with
        | true => rw [hb] at q'; exact q'
        | false =>
          rw [hb] at q'
          have e5 : atI x.cps.toList 0 = some c := by
            show atI (tl x) 0 = some c
            rw [hl]
            exact atI_nat (j := 0) rfl
          rw [if_neg Bool.false_ne_true]
          refine ⟨c, e5, hz, ?_⟩
          have e6 : decide ((⟨#[c]⟩ : Str) = Str.ofString "0") = decide (c = 48) := by
            refine decide_eq_decide.mpr ⟨fun z => ?_, fun z => by rw [z]; rfl⟩
            have := congrArg tl z
            have t : [c] = [48] := this
            injection t
          rw [e6]
          exact q'
end
end K88
set_option maxHeartbeats 4000000
/-! words: their ends, numbers, events -/
namespace K88
open PySem L2 Dn
/-! ### the mirror -/
def delims : List Nat := (Str.ofString " ,()").cps.toList
def isDel (c : Nat) : Bool := decide (c ∈ delims)
def wordLen (l : List Nat) : Nat := (l.takeWhile fun c => !isDel c).length
def wordEnd : D → D → D
  | .str x, .int i => .int (i + (wordLen ((tl x).drop i.toNat) : Nat))
  | _, _ => .non
/-- a text and a place in it -/
def placed (a b : D) : Prop := ∃ (x : Str) (n : Nat), a = .str x ∧ b = .int n ∧ n ≤ x.length ∧ x.length ≤ 100000
theorem len_tl (x : Str) : x.length = (tl x).length := TL.len_tl x
theorem wordLen_le (l : List Nat) : wordLen l ≤ l.length := by
  unfold wordLen
  exact List.takeWhile_prefix _ |>.length_le
theorem wordLen_cons (c : Nat) (r : List Nat) : wordLen (c :: r) = if isDel c then 0 else wordLen r + 1 := by
  unfold wordLen
  rw [List.takeWhile_cons]
  cases isDel c <;> simp
def weT : TDT := dtAnd (dTest (dOp dLt (dVar 1) (dCB rdLen (dCons (dVar 0) dNil)))) (dTest (dOp (rdSign true) (dOp rdIx (dVar 0) (dVar 1)) (dC (.str (Str.ofString " ,()")))))
def weB : TDS := dAug 1 (fun i j => i + j) (dC (.int 1))
theorem we_loop (x : Str) (hz : x.length ≤ sizeLine) (Z : DEnds) : ∀ (m i : Nat), i ≤ x.length → x.length - i < m → Z.nx [.d (.str x), .d (.int ((i + wordLen ((tl x).drop i) : Nat) : Int))] → whileW weT weB m Z [.d (.str x), .d (.int (i : Int))]
  | 0, i, _, h, _ => by omega
  | m + 1, i, hi, hm, q => by
    unfold whileW weT weB
    simp only [dSeq, dIfS, dRet, dRetN, dDrop, dAsg, dAsgF, dApp, dAug, dPar, dPar2, dFrz, dNext, dC, dOp, dTest, dChain, dUn, dtAnd, dtOr, dtNot, dAndV, dOrV, dNotV, dIf, dNil, dCons, dStar, dTup, dLst, dFz, dCall, dCB, dSl, dNoPart, dPart, dM1, dBM, dFmt, dJ3, dSq, dVar, startD,
    List.map_cons, List.map_nil, List.length_cons, List.length_nil, List.nil_append, List.cons_append, List.append_nil, List.replicate_succ, List.replicate_zero, List.getElem?_cons_zero, List.getElem?_cons_succ, List.set_cons_zero, List.set_cons_succ, Nat.reduceAdd, Nat.reduceSub,
    isi_non_int, isi_non_bool, isi_non_str, isi_non_tup, isi_bl_int, isi_bl_bool, isi_bl_str, isi_bl_tup, isi_int_int, isi_int_bool, isi_int_str, isi_int_tup, isi_str_int, isi_str_bool, isi_str_str, isi_str_tup, isi_lst_int, isi_lst_bool, isi_lst_str, isi_lst_tup, isi_tup_int, isi_tup_bool, isi_tup_str, isi_tup_tup,
    isN_non, noN_non, isN_bl, noN_bl, isN_int, noN_int, isN_str, noN_str, isN_lst, noN_lst, isN_tup, noN_tup,
    eq_ss, ne_ss, eq_ii, ne_ii, ne_si, len_str', len_tup', len_lst', add_ii, sub_ii, lt_ii, le_ii, gt_ii, ge_ii, ex_bl, ex_int, ex_str, ex_sv, ex_own, all_of, Bool.not_true, Bool.not_false, Bool.false_eq_true, reduceIte, ix_lst, ix_tup', ix_str', sign_of]
    refine ⟨hz, ?_⟩
    by_cases hlt : i < x.length
    · have hl : i < (tl x).length := by rw [← len_tl]; exact hlt
      have e1 : atI x.cps.toList (i : Int) = some (tl x)[i] := atI_nat (List.getElem?_eq_getElem hl)
      have e2 : (tl x).drop i = (tl x)[i] :: (tl x).drop (i + 1) := List.drop_eq_getElem_cons hl
      rw [e2, wordLen_cons] at q
      rw [if_pos (by simpa using hlt)]
      refine ⟨_, e1, hz, ?_⟩
      show if (!isDel (tl x)[i]) = true then _ else _
      cases hd : isDel (tl x)[i] with
      | true =>
        rw [hd] at q
        exact q
      | false =>
        rw [hd] at q
        rw [if_pos (by rfl)]
        refine ⟨_, rfl, ?_⟩
        have e4 : (i : Int) + 1 = ((i + 1 : Nat) : Int) := by omega
        rw [e4]
        refine we_loop x hz Z m (i + 1) hlt (by omega) ?_
        have e3 : i + (wordLen ((tl x).drop (i + 1)) + 1) = i + 1 + wordLen ((tl x).drop (i + 1)) := by omega
        rw [if_neg (by simp), e3] at q
        exact q
    · have e1 : (tl x).drop i = [] := List.drop_eq_nil_of_le (by rw [← len_tl]; omega)
      rw [e1] at q
      rw [if_neg (by simpa using hlt)]
      exact q
section
variable {P : Program} {w : World} {K : PySem.W.Frag} {mg : Str → Option Value} {base : Heap}
theorem ok_word_end (T : Tx K mg w) : FnOk P w K mg base CX0 1 T.a_word_end T.f_word_end ["text", "at"] (spD K bx0 (RF2 placed wordEnd)) := by
  refine okD T.F_word_end sc_word_end lenF2 (fun cdv A outer s H E e heb hr => ⟨_, (db_cons (ds_while PassesOwn.never (DW_.t (dw_and (dt_cmp L_lt op_lt (de_var 1) (de_callB L_len call_len T.n_len PySem.boot_len (da_cons (de_var 0) da_nil))) (dw_and1 (dt_cmp L_nsign op_notIn_sign (de_ix L_ix ix_seq (de_var 0) (de_var 1)) de_str)))) (db_one (ds_aug 1 sc_word_end.nd ip_add de_int))) (db_one (ds_ret (de_var 1)))), fun ds Q h => ?_⟩)
  obtain ⟨a, b, rfl, ⟨x, n, rfl, rfl, hn, hx⟩, q⟩ := h
  have hz : x.length ≤ sizeLine := Nat.le_trans hx (by decide)
  refine ⟨x.length - n + 1, we_loop x hz _ _ n hn (by omega) ?_⟩
  refine ⟨_, rfl, ?_⟩
  have e : (n : Int).toNat = n := Int.toNat_natCast n
  have q' : Q (.int ((n : Int) + (wordLen ((tl x).drop (n : Int).toNat) : Nat))) := q
  rw [e] at q'
  exact q'
/-! numbers in words -/
def numberIn (x : Str) : D := if decide ((1 : Int) ≤ (x.length : Int)) && decide ((x.length : Int) ≤ 4) && (tl x).all isDig then (if decide (1 < x.length) && decide ((tl x).headD 0 = 48) then .non else .int (NumText.digitsVal (tl x) : Nat)) else .non
theorem allDig {l : List Nat} (h : l.all isDig = true) : NumText.AllDigits l := fun c hc => by
  have h1 := List.all_eq_true.mp h c hc
  unfold isDig at h1
  have h2 := of_decide_eq_true h1
  have h3 : digits = [48, 49, 50, 51, 52, 53, 54, 55, 56, 57] := rfl
  rw [h3] at h2
  simp at h2
  omega
theorem ok_number_in (T : Tx K mg w) : FnOk P w K mg base CX0 1 T.a_number_in T.f_number_in ["word", "most"] (spD K bx0 (RF2 (fun a b => (∃ x, a = .str x ∧ x.length ≤ 100000) ∧ b = .int 4) fun a _ => match a with | .str x => numberIn x | _ => .non)) := by
  refine okD T.F_number_in sc_number_in lenF2 (fun cdv A outer s H E e heb hr => ⟨_, (db_cons (ds_if (DW_.t (dw_or (dt_not (dt_chain L_le op_le L_le op_le de_int (de_callB L_len call_len T.n_len PySem.boot_len (da_cons (de_var 0) da_nil)) (de_var 1))) (dw_or1 (dt_not (dt_val (de_callB L_all (cr_all rfl) T.n_all (by decide +kernel) (da_cons (DF_.de (df_lc (j := 2) rfl sc_number_in.nd (di_str (de_var 0)) (blkOk_by (N := ["word", "most", "sign"]) (sc := defScope s_number_in) (own := [("sign", 2)]) (by decide +kernel)) (fun _ _ _ _ _ => pg_name (i := 2) sc_number_in.nd rfl (Or.inl rfl)) (fun _ _ _ _ _ => dts_nil) (fun _ _ _ _ _ => (de_cmp L_sign op_in_sign (de_var 2) (GC.de T.k_DIGITS))))) da_nil))))))) (db_one (ds_ret de_non)) db_nil) (db_one (ds_ret (de_ifExp (DW_.t (dw_and (dt_cmp L_gt op_gt (de_callB L_len call_len T.n_len PySem.boot_len (da_cons (de_var 0) da_nil)) de_int) (dw_and1 (dt_cmp L_eqS op_eq (de_ix L_ix ix_seq (de_var 0) de_int) de_str)))) de_non (de_callTy L_intS call_int_str T.n_int (by decide +kernel) (da_cons (de_var 0) da_nil)))))), fun ds Q h => ?_⟩)
  obtain ⟨a, b, rfl, ⟨⟨x, rfl, hx⟩, rfl⟩, q⟩ := h
  have hz : x.length ≤ sizeLine := Nat.le_trans hx (by decide)
  have q' : Q (numberIn x) := q
  unfold numberIn at q'
  simp only [dSeq, dIfS, dRet, dRetN, dDrop, dAsg, dAsgF, dApp, dAug, dPar, dPar2, dFrz, dNext, dC, dOp, dTest, dChain, dUn, dtAnd, dtOr, dtNot, dAndV, dOrV, dNotV, dIf, dNil, dCons, dStar, dTup, dLst, dFz, dCall, dCB, dSl, dNoPart, dPart, dM1, dBM, dFmt, dJ3, dSq, dVar, startD,
    List.map_cons, List.map_nil, List.length_cons, List.length_nil, List.nil_append, List.cons_append, List.append_nil, List.replicate_succ, List.replicate_zero, List.getElem?_cons_zero, List.getElem?_cons_succ, List.set_cons_zero, List.set_cons_succ, Nat.reduceAdd, Nat.reduceSub,
    isi_non_int, isi_non_bool, isi_non_str, isi_non_tup, isi_bl_int, isi_bl_bool, isi_bl_str, isi_bl_tup, isi_int_int, isi_int_bool, isi_int_str, isi_int_tup, isi_str_int, isi_str_bool, isi_str_str, isi_str_tup, isi_lst_int, isi_lst_bool, isi_lst_str, isi_lst_tup, isi_tup_int, isi_tup_bool, isi_tup_str, isi_tup_tup,
    isN_non, noN_non, isN_bl, noN_bl, isN_int, noN_int, isN_str, noN_str, isN_lst, noN_lst, isN_tup, noN_tup,
    eq_ss, ne_ss, eq_ii, ne_ii, ne_si, len_str', len_tup', len_lst', add_ii, sub_ii, lt_ii, le_ii, gt_ii, ge_ii, ex_bl, ex_int, ex_str, ex_sv, ex_own, all_of, Bool.not_true, Bool.not_false, Bool.false_eq_true, reduceIte, ix_lst, ix_tup', ix_str', sign_of, dLc, D.strOf]
  refine ⟨hz, ?_⟩
  by_cases a1 : (1 : Int) ≤ (x.length : Int)
  · rw [if_pos (decide_eq_true a1)]
    rw [decide_eq_true a1, Bool.true_and] at q'
    by_cases a2 : (x.length : Int) ≤ 4
    · rw [if_neg (by simp [a2])]
      rw [decide_eq_true a2, Bool.true_and] at q'
      refine ⟨_, rfl, lc_signs (L := digits) hz (fun c R' hR => ?_) ?_⟩
      · simp only [dSeq, dIfS, dRet, dRetN, dDrop, dAsg, dAsgF, dApp, dAug, dPar, dPar2, dFrz, dNext, dC, dOp, dTest, dChain, dUn, dtAnd, dtOr, dtNot, dAndV, dOrV, dNotV, dIf, dNil, dCons, dStar, dTup, dLst, dFz, dCall, dCB, dSl, dNoPart, dPart, dM1, dBM, dFmt, dJ3, dSq, dVar, startD,
    List.map_cons, List.map_nil, List.length_cons, List.length_nil, List.nil_append, List.cons_append, List.append_nil, List.replicate_succ, List.replicate_zero, List.getElem?_cons_zero, List.getElem?_cons_succ, List.set_cons_zero, List.set_cons_succ, Nat.reduceAdd, Nat.reduceSub,
    isi_non_int, isi_non_bool, isi_non_str, isi_non_tup, isi_bl_int, isi_bl_bool, isi_bl_str, isi_bl_tup, isi_int_int, isi_int_bool, isi_int_str, isi_int_tup, isi_str_int, isi_str_bool, isi_str_str, isi_str_tup, isi_lst_int, isi_lst_bool, isi_lst_str, isi_lst_tup, isi_tup_int, isi_tup_bool, isi_tup_str, isi_tup_tup,
    isN_non, noN_non, isN_bl, noN_bl, isN_int, noN_int, isN_str, noN_str, isN_lst, noN_lst, isN_tup, noN_tup,
    eq_ss, ne_ss, eq_ii, ne_ii, ne_si, len_str', len_tup', len_lst', add_ii, sub_ii, lt_ii, le_ii, gt_ii, ge_ii, ex_bl, ex_int, ex_str, ex_sv, ex_own, all_of, Bool.not_true, Bool.not_false, Bool.false_eq_true, reduceIte, ix_lst, ix_tup', ix_str', sign_of]
        exact hR
      · rw [all_of]
        have e2 : (List.map (fun c => decide (c ∈ digits)) x.cps.toList).all id = (tl x).all isDig := by
          rw [List.all_map]; rfl
        rw [e2]
        refine ⟨_, rfl, ?_⟩
        cases a3 : (tl x).all isDig with
        | false =>
          rw [a3] at q'
          exact q'
        | true =>
          rw [a3] at q'
          rw [if_pos rfl] at q'
          rw [if_neg (by simp)]
          have h1 := allDig a3
          have hne : tl x ≠ [] := fun z => by
            rw [len_tl, z] at a1
            simp at a1
          have h4 : x.length ≤ 640 := by omega
          have hi := PySem.intText_digits h1 hne (by omega)
          have fin : Q (.int (NumText.digitsVal (tl x) : Nat)) → rdIntS [.str x] Q := fun z => ⟨x, _, rfl, hi, h4, z⟩
          refine ⟨hz, ?_⟩
          by_cases a4 : 1 < x.length
          · rw [if_pos (by simp; omega)]
            rw [decide_eq_true a4, Bool.true_and] at q'
            cases hl : tl x with
            | nil => exact absurd hl hne
            | cons c r =>
              have e5 : atI x.cps.toList 0 = some c := by
                show atI (tl x) 0 = some c
                rw [hl]
                exact atI_nat (j := 0) rfl
              refine ⟨c, e5, hz, ?_⟩
              have e6 : decide ((⟨#[c]⟩ : Str) = Str.ofString "0") = decide (c = 48) := by
                refine decide_eq_decide.mpr ⟨fun z => ?_, fun z => by rw [z]; rfl⟩
                have := congrArg tl z
                have t : [c] = [48] := this
                injection t
              have hd : (tl x).headD 0 = c := by rw [hl]; rfl
              rw [hd] at q'
              rw [e6]
              by_cases a5 : c = 48
              · rw [decide_eq_true a5] at q' ⊢
                exact q'
              · rw [decide_eq_false a5] at q' ⊢
                exact fin q'
          · rw [if_neg (by simp; omega)]
            rw [decide_eq_false a4, Bool.false_and] at q'
            exact fin q'
    · rw [if_pos (by simp [a2])]
      rw [decide_eq_false a2] at q'
      exact q'
  · rw [if_neg (by simp [a1])]
    rw [decide_eq_false a1] at q'
    exact q'
/-! words of an event -/
theorem spl_len (Sp : List Nat) : ∀ (l : List Nat) (k : Nat) (acc : List Nat), ∀ p ∈ TL.spl Sp k acc l, p.length ≤ acc.length + l.length
  | [], k, acc, p, h => by
    rw [TL.spl_nil] at h
    rw [List.mem_singleton.mp h]
    simp
  | c :: r, 0, acc, p, h => by
    unfold TL.spl at h
    by_cases z : TL.pre Sp (c :: r) = true
    · rw [if_pos z] at h
      rcases List.mem_cons.mp h with h | h
      · rw [h]; simp
      · have := spl_len Sp r _ [] p h
        simp at this ⊢
        omega
    · rw [if_neg z] at h
      have := spl_len Sp r _ _ p h
      simp at this ⊢
      omega
  | c :: r, k + 1, acc, p, h => by
    unfold TL.spl at h
    have := spl_len Sp r k acc p h
    simp at this ⊢
    omega
abbrev sp1 : Str := Str.ofString " "
theorem split_tl (x : Str) : (Txt.split x sp1).map tl = TL.spl [32] 0 [] (tl x) := TL.split_spl x sp1 (by decide) (TL.kind_ok (by decide +kernel))
theorem split_len (x : Str) : ∀ y ∈ Txt.split x sp1, y.length ≤ x.length := fun y hy => by
  have h1 : tl y ∈ (Txt.split x sp1).map tl := List.mem_map.mpr ⟨y, hy, rfl⟩
  rw [split_tl] at h1
  have := spl_len [32] (tl x) 0 [] _ h1
  rw [len_tl y, len_tl x]
  simpa using this
theorem spl_ne (Sp : List Nat) : ∀ (l : List Nat) (k : Nat) (acc : List Nat), TL.spl Sp k acc l ≠ []
  | [], k, acc, h => by rw [TL.spl_nil] at h; cases h
  | c :: r, 0, acc, h => by
    unfold TL.spl at h
    by_cases z : TL.pre Sp (c :: r) = true
    · rw [if_pos z] at h; cases h
    · rw [if_neg z] at h; exact spl_ne Sp r _ _ h
  | c :: r, k + 1, acc, h => by
    unfold TL.spl at h
    exact spl_ne Sp r k acc h
theorem split_ne (x : Str) : Txt.split x sp1 ≠ [] := fun h => by
  have h1 := split_tl x
  rw [h] at h1
  exact spl_ne [32] (tl x) 0 [] h1.symm
/-- do the words tell an event -/
def evW : List Str → Bool
  | [a] => inV (.str a) [.str (Str.ofString "next"), .str (Str.ofString "write")]
  | [a, b] => if decide (a = Str.ofString "street") then nameS b else inV (.str a) [.str (Str.ofString "over"), .str (Str.ofString "late")] && !(numberIn b).isNon
  | _ => false
theorem evW1 (a : Str) : evW [a] = inV (.str a) [.str (Str.ofString "next"), .str (Str.ofString "write")] := rfl
theorem evW2 (a b : Str) : evW [a, b] = if decide (a = Str.ofString "street") then nameS b else inV (.str a) [.str (Str.ofString "over"), .str (Str.ofString "late")] && !(numberIn b).isNon := rfl
theorem evW3 (a b c : Str) (r : List Str) : evW (a :: b :: c :: r) = false := rfl
def isEv : D → Bool | .str x => evW (Txt.split x sp1) | _ => false
def wordsOf (d : D) : D := match d with | .str x => if evW (Txt.split x sp1) then .lst ((Txt.split x sp1).map .str) else .non | _ => .non
theorem numberIn_raw (x : Str) : (numberIn x).isRaw = false := by
  unfold numberIn
  split
  · split <;> rfl
  · rfl
theorem ok_words_of (T : Tx K mg w) : FnOk P w K mg base CX0 2 T.a_words_of T.f_words_of ["value"] (spD K bx0 (RF1 shortS wordsOf)) := by
  have G_is_name := ok_is_name (P := P) (base := base) T
  have G_number_in := ok_number_in (P := P) (base := base) T
  refine okD T.F_words_of sc_words_of lenF1 (fun cdv A outer s H E e heb hr => ⟨_, (db_cons (ds_if (dt_not (dt_val (de_callB L_isi call_isi T.n_isinstance (by decide +kernel) (da_cons (de_var 0) (da_cons (de_ty (T := "str") T.n_str (by decide +kernel)) da_nil))))) (db_one (ds_ret de_non)) db_nil) (db_cons (ds_set 1 sc_words_of.nd (de_m1 L_split PySem.F.slot_str_split PySem.F.type_str_split mt_split (de_var 0) de_str)) (db_cons (ds_if (dt_cmp L_eqS op_eq (de_callB L_len call_len T.n_len PySem.boot_len (da_cons (de_var 1) da_nil)) de_int) (db_one (ds_ret (de_ifExp (dt_cmp (L_in false) op_in_seq (de_ix L_ix ix_seq (de_var 1) de_int) (GC.de T.k_ALONE)) (de_var 1) de_non))) db_nil) (db_cons (ds_if (dt_cmp L_neS op_ne (de_callB L_len call_len T.n_len PySem.boot_len (da_cons (de_var 1) da_nil)) de_int) (db_one (ds_ret de_non)) db_nil) (db_cons (ds_if (dt_cmp L_eqS op_eq (de_ix L_ix ix_seq (de_var 1) de_int) de_str) (db_one (ds_ret (de_ifExp (dt_val (de_call (.inl rfl) moF1 G_is_name (Room.mono hr (by first | decide | omega)) T.g_is_name T.F_is_name.kp T.b_is_name .nil (fun _ => .nil) pass0 (da_cons (de_ix L_ix ix_seq (de_var 1) de_int) da_nil))) (de_var 1) de_non))) db_nil) (db_one (ds_ret (de_ifExp (DW_.t (dw_and (dt_cmp (L_in false) op_in_seq (de_ix L_ix ix_seq (de_var 1) de_int) (GC.de T.k_NUMBERED)) (dw_and1 (dt_cmp L_notN op_notN (de_call (.inl rfl) moF2 G_number_in (Room.mono hr (by first | decide | omega)) T.g_number_in T.F_number_in.kp T.bd_number_in T.v_number_in T.r_number_in pass0 (da_cons (de_ix L_ix ix_seq (de_var 1) de_int) da_nil)) de_non)))) (de_var 1) de_non)))))))), fun ds Q h => ?_⟩)
  obtain ⟨d, rfl, h, q⟩ := h
  cases d with
  | str x =>
    have hx : x.length ≤ 100000 := h
    have hz : x.length + 2 ≤ sizeLine := Nat.le_trans (Nat.add_le_add_right hx 2) (by decide)
    have q' : Q (if evW (Txt.split x sp1) then .lst ((Txt.split x sp1).map .str) else .non) := q
    have hl := split_len x
    have hn := split_ne x
    simp only [dSeq, dIfS, dRet, dRetN, dDrop, dAsg, dAsgF, dApp, dAug, dPar, dPar2, dFrz, dNext, dC, dOp, dTest, dChain, dUn, dtAnd, dtOr, dtNot, dAndV, dOrV, dNotV, dIf, dNil, dCons, dStar, dTup, dLst, dFz, dCall, dCB, dSl, dNoPart, dPart, dM1, dBM, dFmt, dJ3, dSq, dVar, startD,
    List.map_cons, List.map_nil, List.length_cons, List.length_nil, List.nil_append, List.cons_append, List.append_nil, List.replicate_succ, List.replicate_zero, List.getElem?_cons_zero, List.getElem?_cons_succ, List.set_cons_zero, List.set_cons_succ, Nat.reduceAdd, Nat.reduceSub,
    isi_non_int, isi_non_bool, isi_non_str, isi_non_tup, isi_bl_int, isi_bl_bool, isi_bl_str, isi_bl_tup, isi_int_int, isi_int_bool, isi_int_str, isi_int_tup, isi_str_int, isi_str_bool, isi_str_str, isi_str_tup, isi_lst_int, isi_lst_bool, isi_lst_str, isi_lst_tup, isi_tup_int, isi_tup_bool, isi_tup_str, isi_tup_tup,
    isN_non, noN_non, isN_bl, noN_bl, isN_int, noN_int, isN_str, noN_str, isN_lst, noN_lst, isN_tup, noN_tup,
    eq_ss, ne_ss, eq_ii, ne_ii, ne_si, len_str', len_tup', len_lst', add_ii, sub_ii, lt_ii, le_ii, gt_ii, ge_ii, ex_bl, ex_int, ex_str, ex_sv, ex_own, all_of, Bool.not_true, Bool.not_false, Bool.false_eq_true, reduceIte, ix_lst, ix_tup', ix_str', sign_of]
    refine ⟨x, sp1, rfl, rfl, rfl, hz, ?_⟩
    generalize Txt.split x sp1 = ws at q' hl hn
    simp only [dSeq, dIfS, dRet, dRetN, dDrop, dAsg, dAsgF, dApp, dAug, dPar, dPar2, dFrz, dNext, dC, dOp, dTest, dChain, dUn, dtAnd, dtOr, dtNot, dAndV, dOrV, dNotV, dIf, dNil, dCons, dStar, dTup, dLst, dFz, dCall, dCB, dSl, dNoPart, dPart, dM1, dBM, dFmt, dJ3, dSq, dVar, startD,
    List.map_cons, List.map_nil, List.length_cons, List.length_nil, List.nil_append, List.cons_append, List.append_nil, List.replicate_succ, List.replicate_zero, List.getElem?_cons_zero, List.getElem?_cons_succ, List.set_cons_zero, List.set_cons_succ, Nat.reduceAdd, Nat.reduceSub,
    isi_non_int, isi_non_bool, isi_non_str, isi_non_tup, isi_bl_int, isi_bl_bool, isi_bl_str, isi_bl_tup, isi_int_int, isi_int_bool, isi_int_str, isi_int_tup, isi_str_int, isi_str_bool, isi_str_str, isi_str_tup, isi_lst_int, isi_lst_bool, isi_lst_str, isi_lst_tup, isi_tup_int, isi_tup_bool, isi_tup_str, isi_tup_tup,
    isN_non, noN_non, isN_bl, noN_bl, isN_int, noN_int, isN_str, noN_str, isN_lst, noN_lst, isN_tup, noN_tup,
    eq_ss, ne_ss, eq_ii, ne_ii, ne_si, len_str', len_tup', len_lst', add_ii, sub_ii, lt_ii, le_ii, gt_ii, ge_ii, ex_bl, ex_int, ex_str, ex_sv, ex_own, all_of, Bool.not_true, Bool.not_false, Bool.false_eq_true, reduceIte, ix_lst, ix_tup', ix_str', sign_of]
    match ws, q', hl, hn with
    | [], _, _, hn => exact absurd rfl hn
    | [a], q', hl, _ =>
      simp only [dSeq, dIfS, dRet, dRetN, dDrop, dAsg, dAsgF, dApp, dAug, dPar, dPar2, dFrz, dNext, dC, dOp, dTest, dChain, dUn, dtAnd, dtOr, dtNot, dAndV, dOrV, dNotV, dIf, dNil, dCons, dStar, dTup, dLst, dFz, dCall, dCB, dSl, dNoPart, dPart, dM1, dBM, dFmt, dJ3, dSq, dVar, startD,
    List.map_cons, List.map_nil, List.length_cons, List.length_nil, List.nil_append, List.cons_append, List.append_nil, List.replicate_succ, List.replicate_zero, List.getElem?_cons_zero, List.getElem?_cons_succ, List.set_cons_zero, List.set_cons_succ, Nat.reduceAdd, Nat.reduceSub,
    isi_non_int, isi_non_bool, isi_non_str, isi_non_tup, isi_bl_int, isi_bl_bool, isi_bl_str, isi_bl_tup, isi_int_int, isi_int_bool, isi_int_str, isi_int_tup, isi_str_int, isi_str_bool, isi_str_str, isi_str_tup, isi_lst_int, isi_lst_bool, isi_lst_str, isi_lst_tup, isi_tup_int, isi_tup_bool, isi_tup_str, isi_tup_tup,
    isN_non, noN_non, isN_bl, noN_bl, isN_int, noN_int, isN_str, noN_str, isN_lst, noN_lst, isN_tup, noN_tup,
    eq_ss, ne_ss, eq_ii, ne_ii, ne_si, len_str', len_tup', len_lst', add_ii, sub_ii, lt_ii, le_ii, gt_ii, ge_ii, ex_bl, ex_int, ex_str, ex_sv, ex_own, all_of, Bool.not_true, Bool.not_false, Bool.false_eq_true, reduceIte, ix_lst, ix_tup', ix_str', sign_of]
      refine ⟨.str a, atI_nat (j := 0) rfl, ?_⟩
      rw [in_fs rfl]
      refine ⟨_, rfl, ?_⟩
      rw [evW1] at q'
      exact (by
        show if inV (.str a) [.str (Str.ofString "next"), .str (Str.ofString "write")] = true then _ else _
        by_cases z : inV (.str a) [.str (Str.ofString "next"), .str (Str.ofString "write")] = true
        · rw [if_pos z] at q' ⊢; exact q'
        · rw [if_neg z] at q' ⊢; exact q')
    | [a, b], q', hl, _ =>
      have hb : b.length ≤ 100000 := Nat.le_trans (hl b (by simp)) hx
      simp only [dSeq, dIfS, dRet, dRetN, dDrop, dAsg, dAsgF, dApp, dAug, dPar, dPar2, dFrz, dNext, dC, dOp, dTest, dChain, dUn, dtAnd, dtOr, dtNot, dAndV, dOrV, dNotV, dIf, dNil, dCons, dStar, dTup, dLst, dFz, dCall, dCB, dSl, dNoPart, dPart, dM1, dBM, dFmt, dJ3, dSq, dVar, startD,
    List.map_cons, List.map_nil, List.length_cons, List.length_nil, List.nil_append, List.cons_append, List.append_nil, List.replicate_succ, List.replicate_zero, List.getElem?_cons_zero, List.getElem?_cons_succ, List.set_cons_zero, List.set_cons_succ, Nat.reduceAdd, Nat.reduceSub,
    isi_non_int, isi_non_bool, isi_non_str, isi_non_tup, isi_bl_int, isi_bl_bool, isi_bl_str, isi_bl_tup, isi_int_int, isi_int_bool, isi_int_str, isi_int_tup, isi_str_int, isi_str_bool, isi_str_str, isi_str_tup, isi_lst_int, isi_lst_bool, isi_lst_str, isi_lst_tup, isi_tup_int, isi_tup_bool, isi_tup_str, isi_tup_tup,
    isN_non, noN_non, isN_bl, noN_bl, isN_int, noN_int, isN_str, noN_str, isN_lst, noN_lst, isN_tup, noN_tup,
    eq_ss, ne_ss, eq_ii, ne_ii, ne_si, len_str', len_tup', len_lst', add_ii, sub_ii, lt_ii, le_ii, gt_ii, ge_ii, ex_bl, ex_int, ex_str, ex_sv, ex_own, all_of, Bool.not_true, Bool.not_false, Bool.false_eq_true, reduceIte, ix_lst, ix_tup', ix_str', sign_of]
      rw [if_neg (by decide), if_neg (by decide)]
      refine ⟨.str a, atI_nat (j := 0) rfl, ?_⟩
      rw [evW2] at q'
      simp only [dSeq, dIfS, dRet, dRetN, dDrop, dAsg, dAsgF, dApp, dAug, dPar, dPar2, dFrz, dNext, dC, dOp, dTest, dChain, dUn, dtAnd, dtOr, dtNot, dAndV, dOrV, dNotV, dIf, dNil, dCons, dStar, dTup, dLst, dFz, dCall, dCB, dSl, dNoPart, dPart, dM1, dBM, dFmt, dJ3, dSq, dVar, startD,
    List.map_cons, List.map_nil, List.length_cons, List.length_nil, List.nil_append, List.cons_append, List.append_nil, List.replicate_succ, List.replicate_zero, List.getElem?_cons_zero, List.getElem?_cons_succ, List.set_cons_zero, List.set_cons_succ, Nat.reduceAdd, Nat.reduceSub,
    isi_non_int, isi_non_bool, isi_non_str, isi_non_tup, isi_bl_int, isi_bl_bool, isi_bl_str, isi_bl_tup, isi_int_int, isi_int_bool, isi_int_str, isi_int_tup, isi_str_int, isi_str_bool, isi_str_str, isi_str_tup, isi_lst_int, isi_lst_bool, isi_lst_str, isi_lst_tup, isi_tup_int, isi_tup_bool, isi_tup_str, isi_tup_tup,
    isN_non, noN_non, isN_bl, noN_bl, isN_int, noN_int, isN_str, noN_str, isN_lst, noN_lst, isN_tup, noN_tup,
    eq_ss, ne_ss, eq_ii, ne_ii, ne_si, len_str', len_tup', len_lst', add_ii, sub_ii, lt_ii, le_ii, gt_ii, ge_ii, ex_bl, ex_int, ex_str, ex_sv, ex_own, all_of, Bool.not_true, Bool.not_false, Bool.false_eq_true, reduceIte, ix_lst, ix_tup', ix_str', sign_of, rf1, rf2]
      by_cases z : a = Str.ofString "street"
      · rw [decide_eq_true z] at q' ⊢
        rw [if_pos rfl]
        rw [if_pos rfl] at q'
        refine ⟨.str b, atI_nat (j := 1) rfl, hb, ?_⟩
        show if nameS b = true then _ else _
        by_cases y : nameS b = true
        · rw [if_pos y] at q' ⊢; exact q'
        · rw [if_neg y] at q' ⊢; exact q'
      · rw [decide_eq_false z] at q' ⊢
        rw [if_neg Bool.false_ne_true]
        rw [if_neg Bool.false_ne_true] at q'
        refine ⟨.str a, atI_nat (j := 0) rfl, ?_⟩
        rw [in_fs rfl]
        refine ⟨_, rfl, ?_⟩
        by_cases z2 : inV (.str a) [.str (Str.ofString "over"), .str (Str.ofString "late")] = true
        · rw [z2, Bool.true_and] at q'
          show if inV (.str a) [.str (Str.ofString "over"), .str (Str.ofString "late")] = true then _ else _
          rw [if_pos z2]
          refine ⟨.str b, atI_nat (j := 1) rfl, ⟨⟨⟨b, rfl, hb⟩, trivial⟩, ?_⟩⟩
          rw [isN_of (numberIn_raw b)]
          refine ⟨_, rfl, ?_⟩
          show if (!(numberIn b).isNon) = true then _ else _
          by_cases y : (!(numberIn b).isNon) = true
          · rw [if_pos y] at q' ⊢; exact q'
          · rw [if_neg y] at q' ⊢; exact q'
        · have e : inV (.str a) [.str (Str.ofString "over"), .str (Str.ofString "late")] = false := by simpa using z2
          rw [e] at q'
          show if inV (.str a) [.str (Str.ofString "over"), .str (Str.ofString "late")] = true then _ else _
          rw [if_neg z2]
          exact q'
    | a :: b :: c :: r, q', hl, _ =>
      simp only [dSeq, dIfS, dRet, dRetN, dDrop, dAsg, dAsgF, dApp, dAug, dPar, dPar2, dFrz, dNext, dC, dOp, dTest, dChain, dUn, dtAnd, dtOr, dtNot, dAndV, dOrV, dNotV, dIf, dNil, dCons, dStar, dTup, dLst, dFz, dCall, dCB, dSl, dNoPart, dPart, dM1, dBM, dFmt, dJ3, dSq, dVar, startD,
    List.map_cons, List.map_nil, List.length_cons, List.length_nil, List.nil_append, List.cons_append, List.append_nil, List.replicate_succ, List.replicate_zero, List.getElem?_cons_zero, List.getElem?_cons_succ, List.set_cons_zero, List.set_cons_succ, Nat.reduceAdd, Nat.reduceSub,
    isi_non_int, isi_non_bool, isi_non_str, isi_non_tup, isi_bl_int, isi_bl_bool, isi_bl_str, isi_bl_tup, isi_int_int, isi_int_bool, isi_int_str, isi_int_tup, isi_str_int, isi_str_bool, isi_str_str, isi_str_tup, isi_lst_int, isi_lst_bool, isi_lst_str, isi_lst_tup, isi_tup_int, isi_tup_bool, isi_tup_str, isi_tup_tup,
    isN_non, noN_non, isN_bl, noN_bl, isN_int, noN_int, isN_str, noN_str, isN_lst, noN_lst, isN_tup, noN_tup,
    eq_ss, ne_ss, eq_ii, ne_ii, ne_si, len_str', len_tup', len_lst', add_ii, sub_ii, lt_ii, le_ii, gt_ii, ge_ii, ex_bl, ex_int, ex_str, ex_sv, ex_own, all_of, Bool.not_true, Bool.not_false, Bool.false_eq_true, reduceIte, ix_lst, ix_tup', ix_str', sign_of]
      rw [evW3] at q'
      rw [if_neg (by simp; omega), if_pos (by simp; omega)]
      exact q'
  | raw _ => exact h.elim
  | _ => simp only [dSeq, dIfS, dRet, dRetN, dDrop, dAsg, dAsgF, dApp, dAug, dPar, dPar2, dFrz, dNext, dC, dOp, dTest, dChain, dUn, dtAnd, dtOr, dtNot, dAndV, dOrV, dNotV, dIf, dNil, dCons, dStar, dTup, dLst, dFz, dCall, dCB, dSl, dNoPart, dPart, dM1, dBM, dFmt, dJ3, dSq, dVar, startD,
    List.map_cons, List.map_nil, List.length_cons, List.length_nil, List.nil_append, List.cons_append, List.append_nil, List.replicate_succ, List.replicate_zero, List.getElem?_cons_zero, List.getElem?_cons_succ, List.set_cons_zero, List.set_cons_succ, Nat.reduceAdd, Nat.reduceSub,
    isi_non_int, isi_non_bool, isi_non_str, isi_non_tup, isi_bl_int, isi_bl_bool, isi_bl_str, isi_bl_tup, isi_int_int, isi_int_bool, isi_int_str, isi_int_tup, isi_str_int, isi_str_bool, isi_str_str, isi_str_tup, isi_lst_int, isi_lst_bool, isi_lst_str, isi_lst_tup, isi_tup_int, isi_tup_bool, isi_tup_str, isi_tup_tup,
    isN_non, noN_non, isN_bl, noN_bl, isN_int, noN_int, isN_str, noN_str, isN_lst, noN_lst, isN_tup, noN_tup,
    eq_ss, ne_ss, eq_ii, ne_ii, ne_si, len_str', len_tup', len_lst', add_ii, sub_ii, lt_ii, le_ii, gt_ii, ge_ii, ex_bl, ex_int, ex_str, ex_sv, ex_own, all_of, Bool.not_true, Bool.not_false, Bool.false_eq_true, reduceIte, ix_lst, ix_tup', ix_str', sign_of]; exact q
end
end K88
set_option maxHeartbeats 4000000
/-! starts, events, plain things, their texts -/
namespace K88
open PySem L2 Dn
/-! ### data of bounded size, without addresses -/
mutual
def okd : D → Bool
  | .str x => decide (x.length ≤ 100000)
  | .raw _ => false
  | .lst ds => decide (ds.length ≤ 100000) && okA ds
  | .tup ds => decide (ds.length ≤ 100000) && okA ds
  | .non => true | .bl _ => true | .int _ => true
def okA : List D → Bool
  | [] => true
  | d :: ds => okd d && okA ds
end
theorem okA_mem : ∀ {ds : List D} {d : D}, okA ds = true → d ∈ ds → okd d = true
  | x :: xs, d, h, hm => by
    unfold okA at h
    rw [Bool.and_eq_true] at h
    rcases List.mem_cons.mp hm with e | hm
    · rw [e]; exact h.1
    · exact okA_mem h.2 hm
theorem okd_raw {d : D} (h : okd d = true) : notRaw d := by
  cases d with
  | raw _ => unfold okd at h; cases h
  | _ => rfl
theorem okd_short {d : D} (h : okd d = true) : shortS d := by
  cases d with
  | raw _ => unfold okd at h; cases h
  | str x =>
    unfold okd at h
    have h' : x.length ≤ 100000 := of_decide_eq_true h
    exact h'
  | _ => trivial
theorem okd_tup {ds : List D} (h : okd (.tup ds) = true) : ds.length ≤ 100000 ∧ okA ds = true := by
  unfold okd at h
  rw [Bool.and_eq_true] at h
  exact ⟨of_decide_eq_true h.1, h.2⟩
theorem sz5 {n : Nat} (h : n ≤ 100000) : n ≤ sizeLine := Nat.le_trans h (by decide)
/-- all(f(x) for x in a tuple), as a comprehension -/
theorem lc_all {j : Nat} {te : TD} {δ : DE} {Q : D → Prop} {ds : List D} {g : D → Bool} (hz : ds.length ≤ 100000) (ht : ∀ d ∈ ds, ∀ R' : D → Prop, R' (.bl (g d)) → te (δ.set j (.d d)) R') (h : Q (.bl (ds.all g))) :
    lcW j dtYes te ds [] δ fun xs => rdAll (fun bs => bs.all id) [.lst xs] Q := by
  refine lc_map (f := fun d => .bl (g d)) ds [] _ ht (by simpa using sz5 hz) ?_
  have e : ([] : List D) ++ ds.map (fun d => D.bl (g d)) = (ds.map g).map .bl := by
    rw [List.nil_append, List.map_map]; rfl
  rw [e, all_of, List.all_map]
  exact h
def isStart : D → Bool | .tup ds => ds.all isNumber | _ => false
def areEvents : D → Bool | .tup ds => ds.all isEv | _ => false
/-- a plain thing, at most n deep -/
def plainD : Nat → D → Bool
  | _, .str x => !((tl x).any fun c => decide (c ∈ [34, 10, 92]))
  | 0, .tup _ => false
  | n + 1, .tup ds => ds.all (plainD n)
  | _, .lst _ => false
  | _, .raw _ => false
  | _, .non => true | _, .bl _ => true | _, .int _ => true
def RPl : Nat → RP
  | 0 => fun _ _ => False
  | n + 1 => RF2 (fun d k => okd d = true ∧ ∃ m : Nat, k = .int m ∧ m ≤ n) fun d k => .bl (plainD (match k with | .int m => m.toNat | _ => 0) d)
theorem moPl : ∀ n, MoR (RPl n)
  | 0 => fun _ _ _ _ h => h
  | _ + 1 => moF2
theorem words_ev (d : D) : (wordsOf d).isRaw = false ∧ (!(wordsOf d).isNon) = isEv d := by
  unfold wordsOf isEv
  cases d with
  | str x =>
    show D.isRaw (if evW (Txt.split x sp1) then _ else _) = false ∧ (!D.isNon (if evW (Txt.split x sp1) then _ else _)) = evW (Txt.split x sp1)
    cases evW (Txt.split x sp1) <;> exact ⟨rfl, rfl⟩
  | _ => exact ⟨rfl, rfl⟩
section
variable {P : Program} {w : World} {K : PySem.W.Frag} {mg : Str → Option Value} {base : Heap}
theorem ok_never {k : Nat} {f : Addr} {fd : FuncData} {ps : List Str} {b : Bx} : FnOk P w K mg base CX0 k f fd ps (spD K b fun _ _ => False) :=
  ⟨fun _ _ _ _ ⟨_, _, _, _, _, _, h⟩ => h.elim, fun _ _ _ _ _ _ _ _ _ _ _ _ _ ⟨_, _, _, _, _, _, h⟩ => h.elim⟩
theorem ok_is_start (T : Tx K mg w) : FnOk P w K mg base CX0 3 T.a_is_start T.f_is_start ["value"] (spD K bx0 (RF1 (fun d => okd d = true) fun d => .bl (isStart d))) := by
  have G_is_number := ok_is_number (P := P) (base := base) T
  refine okD T.F_is_start sc_is_start lenF1 (fun cdv A outer s H E e heb hr => ⟨_, (db_one (ds_ret (de_and (de_callB L_isi call_isi T.n_isinstance (by decide +kernel) (da_cons (de_var 0) (da_cons (de_ty (T := "tuple") T.n_tuple (by decide +kernel)) da_nil))) (de_one (de_callB L_all (cr_all rfl) T.n_all (by decide +kernel) (da_cons (DF_.de (df_lc (j := 1) rfl sc_is_start.nd (di_tup (de_var 0)) (blkOk_by (N := ["value", "number"]) (sc := defScope s_is_start) (own := [("number", 1)]) (by decide +kernel)) (fun _ _ _ _ _ => pg_name (i := 1) sc_is_start.nd rfl (Or.inl rfl)) (fun _ _ _ _ _ => dts_nil) (fun _ _ _ _ _ => (de_call (.inl rfl) moF1 G_is_number (Room.mono hr (by first | decide | omega)) T.g_is_number T.F_is_number.kp T.b_is_number .nil (fun _ => .nil) pass0 (da_cons (de_var 1) da_nil))))) da_nil)))))), fun ds Q h => ?_⟩)
  obtain ⟨d, rfl, h, q⟩ := h
  cases d with
  | tup ds =>
    obtain ⟨hz, ho⟩ := okd_tup h
    simp only [dSeq, dIfS, dRet, dRetN, dDrop, dAsg, dAsgF, dApp, dAug, dPar, dPar2, dFrz, dNext, dC, dOp, dTest, dChain, dUn, dtAnd, dtOr, dtNot, dAndV, dOrV, dNotV, dIf, dNil, dCons, dStar, dTup, dLst, dFz, dCall, dCB, dSl, dNoPart, dPart, dM1, dBM, dFmt, dJ3, dSq, dVar, startD,
    List.map_cons, List.map_nil, List.length_cons, List.length_nil, List.nil_append, List.cons_append, List.append_nil, List.replicate_succ, List.replicate_zero, List.getElem?_cons_zero, List.getElem?_cons_succ, List.set_cons_zero, List.set_cons_succ, Nat.reduceAdd, Nat.reduceSub,
    isi_non_int, isi_non_bool, isi_non_str, isi_non_tup, isi_bl_int, isi_bl_bool, isi_bl_str, isi_bl_tup, isi_int_int, isi_int_bool, isi_int_str, isi_int_tup, isi_str_int, isi_str_bool, isi_str_str, isi_str_tup, isi_lst_int, isi_lst_bool, isi_lst_str, isi_lst_tup, isi_tup_int, isi_tup_bool, isi_tup_str, isi_tup_tup,
    isN_non, noN_non, isN_bl, noN_bl, isN_int, noN_int, isN_str, noN_str, isN_lst, noN_lst, isN_tup, noN_tup,
    eq_ss, ne_ss, eq_ii, ne_ii, ne_si, len_str', len_tup', len_lst', add_ii, sub_ii, lt_ii, le_ii, gt_ii, ge_ii, ex_bl, ex_int, ex_str, ex_sv, ex_own, all_of, Bool.not_true, Bool.not_false, Bool.false_eq_true, reduceIte, ix_lst, ix_tup', ix_str', sign_of, dLc, D.tupOf, rf1]
    refine ⟨ds, rfl, lc_all (g := isNumber) hz (fun d hd R' hR => ?_) q⟩
    simp only [dSeq, dIfS, dRet, dRetN, dDrop, dAsg, dAsgF, dApp, dAug, dPar, dPar2, dFrz, dNext, dC, dOp, dTest, dChain, dUn, dtAnd, dtOr, dtNot, dAndV, dOrV, dNotV, dIf, dNil, dCons, dStar, dTup, dLst, dFz, dCall, dCB, dSl, dNoPart, dPart, dM1, dBM, dFmt, dJ3, dSq, dVar, startD,
    List.map_cons, List.map_nil, List.length_cons, List.length_nil, List.nil_append, List.cons_append, List.append_nil, List.replicate_succ, List.replicate_zero, List.getElem?_cons_zero, List.getElem?_cons_succ, List.set_cons_zero, List.set_cons_succ, Nat.reduceAdd, Nat.reduceSub,
    isi_non_int, isi_non_bool, isi_non_str, isi_non_tup, isi_bl_int, isi_bl_bool, isi_bl_str, isi_bl_tup, isi_int_int, isi_int_bool, isi_int_str, isi_int_tup, isi_str_int, isi_str_bool, isi_str_str, isi_str_tup, isi_lst_int, isi_lst_bool, isi_lst_str, isi_lst_tup, isi_tup_int, isi_tup_bool, isi_tup_str, isi_tup_tup,
    isN_non, noN_non, isN_bl, noN_bl, isN_int, noN_int, isN_str, noN_str, isN_lst, noN_lst, isN_tup, noN_tup,
    eq_ss, ne_ss, eq_ii, ne_ii, ne_si, len_str', len_tup', len_lst', add_ii, sub_ii, lt_ii, le_ii, gt_ii, ge_ii, ex_bl, ex_int, ex_str, ex_sv, ex_own, all_of, Bool.not_true, Bool.not_false, Bool.false_eq_true, reduceIte, ix_lst, ix_tup', ix_str', sign_of, rf1]
    exact ⟨okd_raw (okA_mem ho hd), hR⟩
  | raw _ => unfold okd at h; cases h
  | _ => simp only [dSeq, dIfS, dRet, dRetN, dDrop, dAsg, dAsgF, dApp, dAug, dPar, dPar2, dFrz, dNext, dC, dOp, dTest, dChain, dUn, dtAnd, dtOr, dtNot, dAndV, dOrV, dNotV, dIf, dNil, dCons, dStar, dTup, dLst, dFz, dCall, dCB, dSl, dNoPart, dPart, dM1, dBM, dFmt, dJ3, dSq, dVar, startD,
    List.map_cons, List.map_nil, List.length_cons, List.length_nil, List.nil_append, List.cons_append, List.append_nil, List.replicate_succ, List.replicate_zero, List.getElem?_cons_zero, List.getElem?_cons_succ, List.set_cons_zero, List.set_cons_succ, Nat.reduceAdd, Nat.reduceSub,
    isi_non_int, isi_non_bool, isi_non_str, isi_non_tup, isi_bl_int, isi_bl_bool, isi_bl_str, isi_bl_tup, isi_int_int, isi_int_bool, isi_int_str, isi_int_tup, isi_str_int, isi_str_bool, isi_str_str, isi_str_tup, isi_lst_int, isi_lst_bool, isi_lst_str, isi_lst_tup, isi_tup_int, isi_tup_bool, isi_tup_str, isi_tup_tup,
    isN_non, noN_non, isN_bl, noN_bl, isN_int, noN_int, isN_str, noN_str, isN_lst, noN_lst, isN_tup, noN_tup,
    eq_ss, ne_ss, eq_ii, ne_ii, ne_si, len_str', len_tup', len_lst', add_ii, sub_ii, lt_ii, le_ii, gt_ii, ge_ii, ex_bl, ex_int, ex_str, ex_sv, ex_own, all_of, Bool.not_true, Bool.not_false, Bool.false_eq_true, reduceIte, ix_lst, ix_tup', ix_str', sign_of]; exact q
theorem ok_are_events (T : Tx K mg w) : FnOk P w K mg base CX0 3 T.a_are_events T.f_are_events ["value"] (spD K bx0 (RF1 (fun d => okd d = true) fun d => .bl (areEvents d))) := by
  have G_words_of := ok_words_of (P := P) (base := base) T
  refine okD T.F_are_events sc_are_events lenF1 (fun cdv A outer s H E e heb hr => ⟨_, (db_one (ds_ret (de_and (de_callB L_isi call_isi T.n_isinstance (by decide +kernel) (da_cons (de_var 0) (da_cons (de_ty (T := "tuple") T.n_tuple (by decide +kernel)) da_nil))) (de_one (de_callB L_all (cr_all rfl) T.n_all (by decide +kernel) (da_cons (DF_.de (df_lc (j := 1) rfl sc_are_events.nd (di_tup (de_var 0)) (blkOk_by (N := ["value", "event"]) (sc := defScope s_are_events) (own := [("event", 1)]) (by decide +kernel)) (fun _ _ _ _ _ => pg_name (i := 1) sc_are_events.nd rfl (Or.inl rfl)) (fun _ _ _ _ _ => dts_nil) (fun _ _ _ _ _ => (de_cmp L_notN op_notN (de_call (.inl rfl) moF1 G_words_of (Room.mono hr (by first | decide | omega)) T.g_words_of T.F_words_of.kp T.b_words_of .nil (fun _ => .nil) pass0 (da_cons (de_var 1) da_nil)) de_non)))) da_nil)))))), fun ds Q h => ?_⟩)
  obtain ⟨d, rfl, h, q⟩ := h
  cases d with
  | tup ds =>
    obtain ⟨hz, ho⟩ := okd_tup h
    simp only [dSeq, dIfS, dRet, dRetN, dDrop, dAsg, dAsgF, dApp, dAug, dPar, dPar2, dFrz, dNext, dC, dOp, dTest, dChain, dUn, dtAnd, dtOr, dtNot, dAndV, dOrV, dNotV, dIf, dNil, dCons, dStar, dTup, dLst, dFz, dCall, dCB, dSl, dNoPart, dPart, dM1, dBM, dFmt, dJ3, dSq, dVar, startD,
    List.map_cons, List.map_nil, List.length_cons, List.length_nil, List.nil_append, List.cons_append, List.append_nil, List.replicate_succ, List.replicate_zero, List.getElem?_cons_zero, List.getElem?_cons_succ, List.set_cons_zero, List.set_cons_succ, Nat.reduceAdd, Nat.reduceSub,
    isi_non_int, isi_non_bool, isi_non_str, isi_non_tup, isi_bl_int, isi_bl_bool, isi_bl_str, isi_bl_tup, isi_int_int, isi_int_bool, isi_int_str, isi_int_tup, isi_str_int, isi_str_bool, isi_str_str, isi_str_tup, isi_lst_int, isi_lst_bool, isi_lst_str, isi_lst_tup, isi_tup_int, isi_tup_bool, isi_tup_str, isi_tup_tup,
    isN_non, noN_non, isN_bl, noN_bl, isN_int, noN_int, isN_str, noN_str, isN_lst, noN_lst, isN_tup, noN_tup,
    eq_ss, ne_ss, eq_ii, ne_ii, ne_si, len_str', len_tup', len_lst', add_ii, sub_ii, lt_ii, le_ii, gt_ii, ge_ii, ex_bl, ex_int, ex_str, ex_sv, ex_own, all_of, Bool.not_true, Bool.not_false, Bool.false_eq_true, reduceIte, ix_lst, ix_tup', ix_str', sign_of, dLc, D.tupOf, rf1]
    refine ⟨ds, rfl, lc_all (g := isEv) hz (fun d hd R' hR => ?_) q⟩
    simp only [dSeq, dIfS, dRet, dRetN, dDrop, dAsg, dAsgF, dApp, dAug, dPar, dPar2, dFrz, dNext, dC, dOp, dTest, dChain, dUn, dtAnd, dtOr, dtNot, dAndV, dOrV, dNotV, dIf, dNil, dCons, dStar, dTup, dLst, dFz, dCall, dCB, dSl, dNoPart, dPart, dM1, dBM, dFmt, dJ3, dSq, dVar, startD,
    List.map_cons, List.map_nil, List.length_cons, List.length_nil, List.nil_append, List.cons_append, List.append_nil, List.replicate_succ, List.replicate_zero, List.getElem?_cons_zero, List.getElem?_cons_succ, List.set_cons_zero, List.set_cons_succ, Nat.reduceAdd, Nat.reduceSub,
    isi_non_int, isi_non_bool, isi_non_str, isi_non_tup, isi_bl_int, isi_bl_bool, isi_bl_str, isi_bl_tup, isi_int_int, isi_int_bool, isi_int_str, isi_int_tup, isi_str_int, isi_str_bool, isi_str_str, isi_str_tup, isi_lst_int, isi_lst_bool, isi_lst_str, isi_lst_tup, isi_tup_int, isi_tup_bool, isi_tup_str, isi_tup_tup,
    isN_non, noN_non, isN_bl, noN_bl, isN_int, noN_int, isN_str, noN_str, isN_lst, noN_lst, isN_tup, noN_tup,
    eq_ss, ne_ss, eq_ii, ne_ii, ne_si, len_str', len_tup', len_lst', add_ii, sub_ii, lt_ii, le_ii, gt_ii, ge_ii, ex_bl, ex_int, ex_str, ex_sv, ex_own, all_of, Bool.not_true, Bool.not_false, Bool.false_eq_true, reduceIte, ix_lst, ix_tup', ix_str', sign_of, rf1]
    refine ⟨okd_short (okA_mem ho hd), ?_⟩
    obtain ⟨a1, a2⟩ := words_ev d
    rw [isN_of a1]
    show R' (.bl (!(wordsOf d).isNon))
    rw [a2]
    exact hR
  | raw _ => unfold okd at h; cases h
  | _ => simp only [dSeq, dIfS, dRet, dRetN, dDrop, dAsg, dAsgF, dApp, dAug, dPar, dPar2, dFrz, dNext, dC, dOp, dTest, dChain, dUn, dtAnd, dtOr, dtNot, dAndV, dOrV, dNotV, dIf, dNil, dCons, dStar, dTup, dLst, dFz, dCall, dCB, dSl, dNoPart, dPart, dM1, dBM, dFmt, dJ3, dSq, dVar, startD,
    List.map_cons, List.map_nil, List.length_cons, List.length_nil, List.nil_append, List.cons_append, List.append_nil, List.replicate_succ, List.replicate_zero, List.getElem?_cons_zero, List.getElem?_cons_succ, List.set_cons_zero, List.set_cons_succ, Nat.reduceAdd, Nat.reduceSub,
    isi_non_int, isi_non_bool, isi_non_str, isi_non_tup, isi_bl_int, isi_bl_bool, isi_bl_str, isi_bl_tup, isi_int_int, isi_int_bool, isi_int_str, isi_int_tup, isi_str_int, isi_str_bool, isi_str_str, isi_str_tup, isi_lst_int, isi_lst_bool, isi_lst_str, isi_lst_tup, isi_tup_int, isi_tup_bool, isi_tup_str, isi_tup_tup,
    isN_non, noN_non, isN_bl, noN_bl, isN_int, noN_int, isN_str, noN_str, isN_lst, noN_lst, isN_tup, noN_tup,
    eq_ss, ne_ss, eq_ii, ne_ii, ne_si, len_str', len_tup', len_lst', add_ii, sub_ii, lt_ii, le_ii, gt_ii, ge_ii, ex_bl, ex_int, ex_str, ex_sv, ex_own, all_of, Bool.not_true, Bool.not_false, Bool.false_eq_true, reduceIte, ix_lst, ix_tup', ix_str', sign_of]; exact q
theorem ok_is_plain (T : Tx K mg w) : ∀ n : Nat, FnOk P w K mg base CX0 (n + 1) T.a_is_plain T.f_is_plain ["value", "deep"] (spD K bx0 (RPl n))
  | 0 => ok_never
  | n + 1 => by
    have G_is_plain := ok_is_plain T n
    have G_is_integer := ok_is_integer (P := P) (base := base) T
    refine okD T.F_is_plain sc_is_plain lenF2 (fun cdv A outer s H E e heb hr => ⟨_, (db_cons (ds_if (DW_.t (dw_or (dt_cmp L_isN op_isN (de_var 0) de_non) (dw_or (dt_val (de_callB L_isi call_isi T.n_isinstance (by decide +kernel) (da_cons (de_var 0) (da_cons (de_ty (T := "bool") T.n_bool (by decide +kernel)) da_nil)))) (dw_or1 (dt_val (de_call (.inl rfl) moF1 G_is_integer (Room.mono hr (by first | decide | omega)) T.g_is_integer T.F_is_integer.kp T.b_is_integer .nil (fun _ => .nil) pass0 (da_cons (de_var 0) da_nil))))))) (db_one (ds_ret de_bl)) db_nil) (db_cons (ds_if (dt_val (de_callB L_isi call_isi T.n_isinstance (by decide +kernel) (da_cons (de_var 0) (da_cons (de_ty (T := "str") T.n_str (by decide +kernel)) da_nil)))) (db_one (ds_ret (de_not (de_callB L_any (cr_any rfl) T.n_any (by decide +kernel) (da_cons (DF_.de (df_lc (j := 2) rfl sc_is_plain.nd (di_tup (GC.de T.k_BARRED_plainthings)) (blkOk_by (N := ["value", "deep", "sign", "part"]) (sc := defScope s_is_plain) (own := [("sign", 2)]) (by decide +kernel)) (fun _ _ _ _ _ => pg_name (i := 2) sc_is_plain.nd rfl (Or.inl rfl)) (fun _ _ _ _ _ => dts_nil) (fun _ _ _ _ _ => (de_cmp L_sign op_in_sign (de_var 2) (de_var 0))))) da_nil))))) db_nil) (db_one (ds_ret (de_and (de_callB L_isi call_isi T.n_isinstance (by decide +kernel) (da_cons (de_var 0) (da_cons (de_ty (T := "tuple") T.n_tuple (by decide +kernel)) da_nil))) (de_and (de_cmp L_gt op_gt (de_var 1) de_int) (de_one (de_callB L_all (cr_all rfl) T.n_all (by decide +kernel) (da_cons (DF_.de (df_lc (j := 3) rfl sc_is_plain.nd (di_tup (de_var 0)) (blkOk_by (N := ["value", "deep", "sign", "part"]) (sc := defScope s_is_plain) (own := [("part", 3)]) (by decide +kernel)) (fun _ _ _ _ _ => pg_name (i := 3) sc_is_plain.nd rfl (Or.inl rfl)) (fun _ _ _ _ _ => dts_nil) (fun _ _ _ _ _ => (de_call (.inl rfl) (moPl _) G_is_plain (Room.mono hr (by first | decide | omega)) T.g_is_plain T.F_is_plain.kp T.b_is_plain .nil (fun _ => .nil) pass0 (da_cons (de_var 3) (da_cons (de_op L_sub op_sub (de_var 1) de_int) da_nil)))))) da_nil))))))))), fun ds Q h => ?_⟩)
    obtain ⟨d, k, rfl, ⟨h, m, rfl, hm⟩, q⟩ := h
    have q' : Q (.bl (plainD m d)) := q
    cases d with
    | tup ds =>
      obtain ⟨hz, ho⟩ := okd_tup h
      simp only [dSeq, dIfS, dRet, dRetN, dDrop, dAsg, dAsgF, dApp, dAug, dPar, dPar2, dFrz, dNext, dC, dOp, dTest, dChain, dUn, dtAnd, dtOr, dtNot, dAndV, dOrV, dNotV, dIf, dNil, dCons, dStar, dTup, dLst, dFz, dCall, dCB, dSl, dNoPart, dPart, dM1, dBM, dFmt, dJ3, dSq, dVar, startD,
    List.map_cons, List.map_nil, List.length_cons, List.length_nil, List.nil_append, List.cons_append, List.append_nil, List.replicate_succ, List.replicate_zero, List.getElem?_cons_zero, List.getElem?_cons_succ, List.set_cons_zero, List.set_cons_succ, Nat.reduceAdd, Nat.reduceSub,
    isi_non_int, isi_non_bool, isi_non_str, isi_non_tup, isi_bl_int, isi_bl_bool, isi_bl_str, isi_bl_tup, isi_int_int, isi_int_bool, isi_int_str, isi_int_tup, isi_str_int, isi_str_bool, isi_str_str, isi_str_tup, isi_lst_int, isi_lst_bool, isi_lst_str, isi_lst_tup, isi_tup_int, isi_tup_bool, isi_tup_str, isi_tup_tup,
    isN_non, noN_non, isN_bl, noN_bl, isN_int, noN_int, isN_str, noN_str, isN_lst, noN_lst, isN_tup, noN_tup,
    eq_ss, ne_ss, eq_ii, ne_ii, ne_si, len_str', len_tup', len_lst', add_ii, sub_ii, lt_ii, le_ii, gt_ii, ge_ii, ex_bl, ex_int, ex_str, ex_sv, ex_own, all_of, Bool.not_true, Bool.not_false, Bool.false_eq_true, reduceIte, ix_lst, ix_tup', ix_str', sign_of, dLc, D.tupOf, rf1, isInteger]
      rw [show notRaw (.tup ds) = True from eq_true rfl, true_and]
      cases m with
      | zero =>
        rw [if_neg (by decide)]
        exact q'
      | succ m =>
        rw [if_pos (by simp)]
        refine ⟨ds, rfl, lc_all (g := plainD m) hz (fun d hd R' hR => ?_) q'⟩
        simp only [dSeq, dIfS, dRet, dRetN, dDrop, dAsg, dAsgF, dApp, dAug, dPar, dPar2, dFrz, dNext, dC, dOp, dTest, dChain, dUn, dtAnd, dtOr, dtNot, dAndV, dOrV, dNotV, dIf, dNil, dCons, dStar, dTup, dLst, dFz, dCall, dCB, dSl, dNoPart, dPart, dM1, dBM, dFmt, dJ3, dSq, dVar, startD,
    List.map_cons, List.map_nil, List.length_cons, List.length_nil, List.nil_append, List.cons_append, List.append_nil, List.replicate_succ, List.replicate_zero, List.getElem?_cons_zero, List.getElem?_cons_succ, List.set_cons_zero, List.set_cons_succ, Nat.reduceAdd, Nat.reduceSub,
    isi_non_int, isi_non_bool, isi_non_str, isi_non_tup, isi_bl_int, isi_bl_bool, isi_bl_str, isi_bl_tup, isi_int_int, isi_int_bool, isi_int_str, isi_int_tup, isi_str_int, isi_str_bool, isi_str_str, isi_str_tup, isi_lst_int, isi_lst_bool, isi_lst_str, isi_lst_tup, isi_tup_int, isi_tup_bool, isi_tup_str, isi_tup_tup,
    isN_non, noN_non, isN_bl, noN_bl, isN_int, noN_int, isN_str, noN_str, isN_lst, noN_lst, isN_tup, noN_tup,
    eq_ss, ne_ss, eq_ii, ne_ii, ne_si, len_str', len_tup', len_lst', add_ii, sub_ii, lt_ii, le_ii, gt_ii, ge_ii, ex_bl, ex_int, ex_str, ex_sv, ex_own, all_of, Bool.not_true, Bool.not_false, Bool.false_eq_true, reduceIte, ix_lst, ix_tup', ix_str', sign_of]
        have e1 : ((m + 1 : Nat) : Int) - 1 = (m : Int) := by omega
        cases n with
        | zero => omega
        | succ n =>
          rw [e1]
          show RF2 _ _ [d, .int (m : Int)] R'
          rw [rf2]
          refine ⟨⟨okA_mem ho hd, m, rfl, by omega⟩, ?_⟩
          show R' (.bl (plainD (Int.toNat (m : Int)) d))
          rw [Int.toNat_natCast]
          exact hR
    | str x =>
      simp only [dSeq, dIfS, dRet, dRetN, dDrop, dAsg, dAsgF, dApp, dAug, dPar, dPar2, dFrz, dNext, dC, dOp, dTest, dChain, dUn, dtAnd, dtOr, dtNot, dAndV, dOrV, dNotV, dIf, dNil, dCons, dStar, dTup, dLst, dFz, dCall, dCB, dSl, dNoPart, dPart, dM1, dBM, dFmt, dJ3, dSq, dVar, startD,
    List.map_cons, List.map_nil, List.length_cons, List.length_nil, List.nil_append, List.cons_append, List.append_nil, List.replicate_succ, List.replicate_zero, List.getElem?_cons_zero, List.getElem?_cons_succ, List.set_cons_zero, List.set_cons_succ, Nat.reduceAdd, Nat.reduceSub,
    isi_non_int, isi_non_bool, isi_non_str, isi_non_tup, isi_bl_int, isi_bl_bool, isi_bl_str, isi_bl_tup, isi_int_int, isi_int_bool, isi_int_str, isi_int_tup, isi_str_int, isi_str_bool, isi_str_str, isi_str_tup, isi_lst_int, isi_lst_bool, isi_lst_str, isi_lst_tup, isi_tup_int, isi_tup_bool, isi_tup_str, isi_tup_tup,
    isN_non, noN_non, isN_bl, noN_bl, isN_int, noN_int, isN_str, noN_str, isN_lst, noN_lst, isN_tup, noN_tup,
    eq_ss, ne_ss, eq_ii, ne_ii, ne_si, len_str', len_tup', len_lst', add_ii, sub_ii, lt_ii, le_ii, gt_ii, ge_ii, ex_bl, ex_int, ex_str, ex_sv, ex_own, all_of, Bool.not_true, Bool.not_false, Bool.false_eq_true, reduceIte, ix_lst, ix_tup', ix_str', sign_of, dLc, D.tupOf, rf1, isInteger]
      rw [show notRaw (.str x) = True from eq_true rfl, true_and]
      have e2 : plainD m (.str x) = !((tl x).any fun c => decide (c ∈ [34, 10, 92])) := by cases m <;> rfl
      rw [e2] at q'
      refine ⟨[.str (S [34]), .str (S [10]), .str (S [92])], rfl, ?_⟩
      have e3 : (tl x).any (fun c => decide (c ∈ [34, 10, 92])) = [decide (34 ∈ tl x), decide (10 ∈ tl x), decide (92 ∈ tl x)].any id := by
        rw [Bool.eq_iff_iff]
        simp only [List.any_eq_true, decide_eq_true_eq, List.any_cons, List.any_nil, id, Bool.or_false, Bool.or_eq_true, List.mem_cons, List.not_mem_nil, or_false]
        constructor
        · rintro ⟨c, hc, rfl | rfl | rfl⟩
          · exact .inl hc
          · exact .inr (.inl hc)
          · exact .inr (.inr hc)
        · rintro (h | h | h)
          · exact ⟨_, h, .inl rfl⟩
          · exact ⟨_, h, .inr (.inl rfl)⟩
          · exact ⟨_, h, .inr (.inr rfl)⟩
      rw [e3] at q'
      have key : ∀ (c : Nat) (R' : D → Prop), R' (.bl (decide (c ∈ tl x))) → rdSign false (.str (S [c])) (.str x) R' := fun c R' h => ⟨c, x, rfl, rfl, h⟩
      simp only [lcW, dSeq, dIfS, dRet, dRetN, dDrop, dAsg, dAsgF, dApp, dAug, dPar, dPar2, dFrz, dNext, dC, dOp, dTest, dChain, dUn, dtAnd, dtOr, dtNot, dAndV, dOrV, dNotV, dIf, dNil, dCons, dStar, dTup, dLst, dFz, dCall, dCB, dSl, dNoPart, dPart, dM1, dBM, dFmt, dJ3, dSq, dVar, startD,
    List.map_cons, List.map_nil, List.length_cons, List.length_nil, List.nil_append, List.cons_append, List.append_nil, List.replicate_succ, List.replicate_zero, List.getElem?_cons_zero, List.getElem?_cons_succ, List.set_cons_zero, List.set_cons_succ, Nat.reduceAdd, Nat.reduceSub,
    isi_non_int, isi_non_bool, isi_non_str, isi_non_tup, isi_bl_int, isi_bl_bool, isi_bl_str, isi_bl_tup, isi_int_int, isi_int_bool, isi_int_str, isi_int_tup, isi_str_int, isi_str_bool, isi_str_str, isi_str_tup, isi_lst_int, isi_lst_bool, isi_lst_str, isi_lst_tup, isi_tup_int, isi_tup_bool, isi_tup_str, isi_tup_tup,
    isN_non, noN_non, isN_bl, noN_bl, isN_int, noN_int, isN_str, noN_str, isN_lst, noN_lst, isN_tup, noN_tup,
    eq_ss, ne_ss, eq_ii, ne_ii, ne_si, len_str', len_tup', len_lst', add_ii, sub_ii, lt_ii, le_ii, gt_ii, ge_ii, ex_bl, ex_int, ex_str, ex_sv, ex_own, all_of, Bool.not_true, Bool.not_false, Bool.false_eq_true, reduceIte, ix_lst, ix_tup', ix_str', sign_of, dtYes]
      refine key 34 _ ⟨by decide, key 10 _ ⟨by decide, key 92 _ ⟨by decide, ?_⟩⟩⟩
      show rdAll _ [.lst ([decide (34 ∈ tl x), decide (10 ∈ tl x), decide (92 ∈ tl x)].map .bl)] _
      rw [all_of]
      exact ⟨_, rfl, q'⟩
    | lst ds =>
      simp only [dSeq, dIfS, dRet, dRetN, dDrop, dAsg, dAsgF, dApp, dAug, dPar, dPar2, dFrz, dNext, dC, dOp, dTest, dChain, dUn, dtAnd, dtOr, dtNot, dAndV, dOrV, dNotV, dIf, dNil, dCons, dStar, dTup, dLst, dFz, dCall, dCB, dSl, dNoPart, dPart, dM1, dBM, dFmt, dJ3, dSq, dVar, startD,
    List.map_cons, List.map_nil, List.length_cons, List.length_nil, List.nil_append, List.cons_append, List.append_nil, List.replicate_succ, List.replicate_zero, List.getElem?_cons_zero, List.getElem?_cons_succ, List.set_cons_zero, List.set_cons_succ, Nat.reduceAdd, Nat.reduceSub,
    isi_non_int, isi_non_bool, isi_non_str, isi_non_tup, isi_bl_int, isi_bl_bool, isi_bl_str, isi_bl_tup, isi_int_int, isi_int_bool, isi_int_str, isi_int_tup, isi_str_int, isi_str_bool, isi_str_str, isi_str_tup, isi_lst_int, isi_lst_bool, isi_lst_str, isi_lst_tup, isi_tup_int, isi_tup_bool, isi_tup_str, isi_tup_tup,
    isN_non, noN_non, isN_bl, noN_bl, isN_int, noN_int, isN_str, noN_str, isN_lst, noN_lst, isN_tup, noN_tup,
    eq_ss, ne_ss, eq_ii, ne_ii, ne_si, len_str', len_tup', len_lst', add_ii, sub_ii, lt_ii, le_ii, gt_ii, ge_ii, ex_bl, ex_int, ex_str, ex_sv, ex_own, all_of, Bool.not_true, Bool.not_false, Bool.false_eq_true, reduceIte, ix_lst, ix_tup', ix_str', sign_of, rf1, isInteger]
      rw [show notRaw (.lst ds) = True from eq_true rfl, true_and]
      have e2 : plainD m (.lst ds) = false := by cases m <;> rfl
      rw [e2] at q'
      exact q'
    | raw _ => unfold okd at h; cases h
    | _ =>
      have e2 : plainD m .non = true := by cases m <;> rfl
      simp only [dSeq, dIfS, dRet, dRetN, dDrop, dAsg, dAsgF, dApp, dAug, dPar, dPar2, dFrz, dNext, dC, dOp, dTest, dChain, dUn, dtAnd, dtOr, dtNot, dAndV, dOrV, dNotV, dIf, dNil, dCons, dStar, dTup, dLst, dFz, dCall, dCB, dSl, dNoPart, dPart, dM1, dBM, dFmt, dJ3, dSq, dVar, startD,
    List.map_cons, List.map_nil, List.length_cons, List.length_nil, List.nil_append, List.cons_append, List.append_nil, List.replicate_succ, List.replicate_zero, List.getElem?_cons_zero, List.getElem?_cons_succ, List.set_cons_zero, List.set_cons_succ, Nat.reduceAdd, Nat.reduceSub,
    isi_non_int, isi_non_bool, isi_non_str, isi_non_tup, isi_bl_int, isi_bl_bool, isi_bl_str, isi_bl_tup, isi_int_int, isi_int_bool, isi_int_str, isi_int_tup, isi_str_int, isi_str_bool, isi_str_str, isi_str_tup, isi_lst_int, isi_lst_bool, isi_lst_str, isi_lst_tup, isi_tup_int, isi_tup_bool, isi_tup_str, isi_tup_tup,
    isN_non, noN_non, isN_bl, noN_bl, isN_int, noN_int, isN_str, noN_str, isN_lst, noN_lst, isN_tup, noN_tup,
    eq_ss, ne_ss, eq_ii, ne_ii, ne_si, len_str', len_tup', len_lst', add_ii, sub_ii, lt_ii, le_ii, gt_ii, ge_ii, ex_bl, ex_int, ex_str, ex_sv, ex_own, all_of, Bool.not_true, Bool.not_false, Bool.false_eq_true, reduceIte, ix_lst, ix_tup', ix_str', sign_of, rf1, isInteger]
      first | exact ⟨rfl, by cases m <;> exact q'⟩ | exact (by cases m <;> exact q')
theorem ok_is_paper (T : Tx K mg w) : FnOk P w K mg base CX0 43 T.a_is_paper T.f_is_paper ["value"] (spD K bx0 (RF1 (fun d => okd d = true) fun d => .bl (match d with | .tup _ => plainD 40 d | _ => false))) := by
  have G_is_plain := ok_is_plain (P := P) (base := base) T 41
  refine okD T.F_is_paper sc_is_paper lenF1 (fun cdv A outer s H E e heb hr => ⟨_, (db_one (ds_ret (de_and (de_callB L_isi call_isi T.n_isinstance (by decide +kernel) (da_cons (de_var 0) (da_cons (de_ty (T := "tuple") T.n_tuple (by decide +kernel)) da_nil))) (de_one (de_call (.inl rfl) (moPl _) G_is_plain (Room.mono hr (by first | decide | omega)) T.g_is_plain T.F_is_plain.kp T.bd_is_plain T.v_is_plain T.r_is_plain pass0 (da_cons (de_var 0) da_nil)))))), fun ds Q h => ?_⟩)
  obtain ⟨d, rfl, h, q⟩ := h
  cases d with
  | tup ds =>
    simp only [dSeq, dIfS, dRet, dRetN, dDrop, dAsg, dAsgF, dApp, dAug, dPar, dPar2, dFrz, dNext, dC, dOp, dTest, dChain, dUn, dtAnd, dtOr, dtNot, dAndV, dOrV, dNotV, dIf, dNil, dCons, dStar, dTup, dLst, dFz, dCall, dCB, dSl, dNoPart, dPart, dM1, dBM, dFmt, dJ3, dSq, dVar, startD,
    List.map_cons, List.map_nil, List.length_cons, List.length_nil, List.nil_append, List.cons_append, List.append_nil, List.replicate_succ, List.replicate_zero, List.getElem?_cons_zero, List.getElem?_cons_succ, List.set_cons_zero, List.set_cons_succ, Nat.reduceAdd, Nat.reduceSub,
    isi_non_int, isi_non_bool, isi_non_str, isi_non_tup, isi_bl_int, isi_bl_bool, isi_bl_str, isi_bl_tup, isi_int_int, isi_int_bool, isi_int_str, isi_int_tup, isi_str_int, isi_str_bool, isi_str_str, isi_str_tup, isi_lst_int, isi_lst_bool, isi_lst_str, isi_lst_tup, isi_tup_int, isi_tup_bool, isi_tup_str, isi_tup_tup,
    isN_non, noN_non, isN_bl, noN_bl, isN_int, noN_int, isN_str, noN_str, isN_lst, noN_lst, isN_tup, noN_tup,
    eq_ss, ne_ss, eq_ii, ne_ii, ne_si, len_str', len_tup', len_lst', add_ii, sub_ii, lt_ii, le_ii, gt_ii, ge_ii, ex_bl, ex_int, ex_str, ex_sv, ex_own, all_of, Bool.not_true, Bool.not_false, Bool.false_eq_true, reduceIte, ix_lst, ix_tup', ix_str', sign_of]
    show RF2 _ _ [.tup ds, .int 40] Q
    rw [rf2]
    exact ⟨⟨h, 40, rfl, Nat.le_refl _⟩, q⟩
  | raw _ => unfold okd at h; cases h
  | _ => simp only [dSeq, dIfS, dRet, dRetN, dDrop, dAsg, dAsgF, dApp, dAug, dPar, dPar2, dFrz, dNext, dC, dOp, dTest, dChain, dUn, dtAnd, dtOr, dtNot, dAndV, dOrV, dNotV, dIf, dNil, dCons, dStar, dTup, dLst, dFz, dCall, dCB, dSl, dNoPart, dPart, dM1, dBM, dFmt, dJ3, dSq, dVar, startD,
    List.map_cons, List.map_nil, List.length_cons, List.length_nil, List.nil_append, List.cons_append, List.append_nil, List.replicate_succ, List.replicate_zero, List.getElem?_cons_zero, List.getElem?_cons_succ, List.set_cons_zero, List.set_cons_succ, Nat.reduceAdd, Nat.reduceSub,
    isi_non_int, isi_non_bool, isi_non_str, isi_non_tup, isi_bl_int, isi_bl_bool, isi_bl_str, isi_bl_tup, isi_int_int, isi_int_bool, isi_int_str, isi_int_tup, isi_str_int, isi_str_bool, isi_str_str, isi_str_tup, isi_lst_int, isi_lst_bool, isi_lst_str, isi_lst_tup, isi_tup_int, isi_tup_bool, isi_tup_str, isi_tup_tup,
    isN_non, noN_non, isN_bl, noN_bl, isN_int, noN_int, isN_str, noN_str, isN_lst, noN_lst, isN_tup, noN_tup,
    eq_ss, ne_ss, eq_ii, ne_ii, ne_si, len_str', len_tup', len_lst', add_ii, sub_ii, lt_ii, le_ii, gt_ii, ge_ii, ex_bl, ex_int, ex_str, ex_sv, ex_own, all_of, Bool.not_true, Bool.not_false, Bool.false_eq_true, reduceIte, ix_lst, ix_tup', ix_str', sign_of]; exact q
end
end K88
set_option maxHeartbeats 4000000
/-! texts of plain things and claims -/
namespace K88
open PySem L2 Dn
/-! ### the mirror -/
abbrev cm : List Nat := [44, 32]
mutual
def pt : D → List Nat
  | .non => tl (Str.ofString "none")
  | .bl b => if b then tl (Str.ofString "yes") else tl (Str.ofString "no")
  | .int i => tl (Str.ofString (toString i))
  | .str x => 34 :: (tl x ++ [34])
  | .tup ds => 40 :: (TL.joinL cm (ptA ds) ++ [41])
  | .lst _ => []
  | .raw _ => []
def ptA : List D → List (List Nat)
  | [] => []
  | d :: ds => pt d :: ptA ds
end
theorem ptA_map : ∀ ds : List D, ptA ds = ds.map pt
  | [] => by unfold ptA; rfl
  | d :: ds => by unfold ptA; rw [ptA_map ds]; rfl
/-- a thing whose text can be made, at most n deep -/
def txD : Nat → D → Bool
  | _, .non => true | _, .bl _ => true | _, .str _ => true
  | _, .int i => decide (i.natAbs.log2 < 1920)
  | n + 1, .tup ds => ds.all (txD n)
  | 0, .tup _ => false
  | _, .lst _ => false | _, .raw _ => false
theorem joinL_mem (Sp : List Nat) : ∀ (ps : List (List Nat)) (p : List Nat), p ∈ ps → p.length ≤ (TL.joinL Sp ps).length
  | [], p, h => by cases h
  | [q], p, h => by rw [List.mem_singleton.mp h]; exact Nat.le_refl _
  | q :: r :: ps, p, h => by
    have e : TL.joinL Sp (q :: r :: ps) = q ++ (Sp ++ TL.joinL Sp (r :: ps)) := rfl
    rw [e, List.length_append, List.length_append]
    rcases List.mem_cons.mp h with h | h
    · rw [h]; omega
    · have := joinL_mem Sp (r :: ps) p h
      omega
theorem joinL_sum (Sp : List Nat) : ∀ (ps : List (List Nat)), (ps.map List.length).sum + ps.length * Sp.length ≤ (TL.joinL Sp ps).length + Sp.length
  | [] => by simp
  | [q] => by simp [TL.joinL]
  | q :: r :: ps => by
    have e : TL.joinL Sp (q :: r :: ps) = q ++ (Sp ++ TL.joinL Sp (r :: ps)) := rfl
    have ih := joinL_sum Sp (r :: ps)
    rw [e, List.length_append, List.length_append, List.map_cons, List.sum_cons]
    have e2 : (q :: r :: ps).length * Sp.length = (r :: ps).length * Sp.length + Sp.length := by
      show ((r :: ps).length + 1) * Sp.length = _
      rw [Nat.succ_mul]
    rw [e2]
    omega
theorem pt_pos : ∀ d : D, ∀ n, txD n d = true → (pt d).length ≠ 0
  | .non, n, h => by unfold pt; decide
  | .bl b, n, h => by unfold pt; cases b <;> decide
  | .int i, n, h => by
    unfold pt
    intro z
    have e0 : TL.tl (Str.ofString (toString i)) = [] := List.eq_nil_of_length_eq_zero z
    rw [TL.tl_ofString] at e0
    have e1 : (toString i).toList = [] := List.map_eq_nil_iff.mp e0
    cases i with
    | ofNat m =>
      have e2 : (Nat.repr m).toList = [] := e1
      rw [Nat.toList_repr] at e2
      exact absurd e2 (fun z => by have := Nat.toDigits_ne_nil (n := m) (b := 10); exact this z)
    | negSucc m =>
      have e2 : ("-" ++ Nat.repr (m + 1)).toList = [] := e1
      simp at e2
  | .str x, n, h => by unfold pt; simp
  | .tup ds, n, h => by unfold pt; simp
  | .lst _, n, h => by cases n <;> cases h
  | .raw _, n, h => by cases n <;> cases h
def RPt : Nat → RP
  | 0 => fun _ _ => False
  | n + 1 => RF1 (fun d => txD n d = true ∧ (pt d).length ≤ 100000) fun d => .str (S (pt d))
theorem moPt : ∀ n, MoR (RPt n)
  | 0 => fun _ _ _ _ h => h
  | _ + 1 => moF1
theorem S_app (a b : List Nat) : S a ++ S b = S (a ++ b) := TL.ext_tl (by rw [TL.tl_append]; rfl)
theorem S_of (s : String) : Str.ofString s = S (tl (Str.ofString s)) := (S_tl _).symm
theorem S_emp (x : Str) : Str.empty ++ x = x := TL.ext_tl (by rw [TL.tl_append]; rfl)
theorem join_S (sp : Str) (ps : List (List Nat)) : Txt.join sp (ps.map S) = S (TL.joinL (tl sp) ps) := by
  rw [TL.join_eq]
  refine TL.ext_tl ?_
  rw [TL.tl_join, List.map_map]
  have e : (TL.tl ∘ S) = id := rfl
  rw [e, List.map_id]
  rfl
/-- the texts of some things, as a comprehension -/
theorem lc_pt {j : Nat} {te : TD} {δ : DE} {R : List D → Prop} {ds : List D} (hz : ds.length ≤ 100000) (ht : ∀ d ∈ ds, ∀ R' : D → Prop, R' (.str (S (pt d))) → te (δ.set j (.d d)) R') (h : R (((ds.map pt).map S).map .str)) : lcW j dtYes te ds [] δ R := by
  refine lc_map (f := fun d => .str (S (pt d))) ds [] _ ht (by simpa using sz5 hz) ?_
  rw [List.nil_append]
  rw [List.map_map, List.map_map] at h
  exact h
theorem join_ok {ps : List (List Nat)} {sp : Str} (h : (TL.joinL (tl sp) ps).length ≤ 100000) (h2 : sp.length ≤ 10) : ((ps.map S).map (·.length)).sum + (ps.map S).length * sp.length ≤ 16777216 := by
  have h1 := joinL_sum (tl sp) ps
  have e : ((ps.map S).map (·.length)) = ps.map List.length := by
    rw [List.map_map]
    refine List.map_congr_left fun p _ => ?_
    exact len_S p
  rw [e, List.length_map, len_tl sp]
  rw [len_tl sp] at h2
  omega
section
variable {P : Program} {w : World} {K : PySem.W.Frag} {mg : Str → Option Value} {base : Heap}
theorem ok_plain_text (T : Tx K mg w) : ∀ n : Nat, FnOk P w K mg base CX0 n T.a_plain_text T.f_plain_text ["value"] (spD K bx0 (RPt n))
  | 0 => ok_never
  | n + 1 => by
    have G_plain_text := ok_plain_text T n
    refine okD T.F_plain_text sc_plain_text lenF1 (fun cdv A outer s H E e heb hr => ⟨_, (db_cons (ds_if (dt_cmp L_isN op_isN (de_var 0) de_non) (db_one (ds_ret de_str)) db_nil) (db_cons (ds_if (dt_val (de_callB L_isi call_isi T.n_isinstance (by decide +kernel) (da_cons (de_var 0) (da_cons (de_ty (T := "bool") T.n_bool (by decide +kernel)) da_nil)))) (db_one (ds_ret (de_ifExp (dt_val (de_var 0)) de_str de_str))) db_nil) (db_cons (ds_if (dt_val (de_callB L_isi call_isi T.n_isinstance (by decide +kernel) (da_cons (de_var 0) (da_cons (de_ty (T := "str") T.n_str (by decide +kernel)) da_nil)))) (db_one (ds_ret (de_j3 de_str (de_fmt (de_var 0)) de_str))) db_nil) (db_cons (ds_if (dt_val (de_callB L_isi call_isi T.n_isinstance (by decide +kernel) (da_cons (de_var 0) (da_cons (de_ty (T := "tuple") T.n_tuple (by decide +kernel)) da_nil)))) (db_one (ds_ret (de_op L_addS op_add_str (de_op L_addS op_add_str de_str (de_m1 L_join PySem.F.slot_str_join PySem.F.type_str_join mt_join de_str (DF_.de (df_lc (j := 1) rfl sc_plain_text.nd (di_tup (de_var 0)) (blkOk_by (N := ["value", "part"]) (sc := defScope s_plain_text) (own := [("part", 1)]) (by decide +kernel)) (fun _ _ _ _ _ => pg_name (i := 1) sc_plain_text.nd rfl (Or.inl rfl)) (fun _ _ _ _ _ => dts_nil) (fun _ _ _ _ _ => (de_call (.inl rfl) (moPt _) G_plain_text (Room.mono hr (by first | decide | omega)) T.g_plain_text T.F_plain_text.kp T.b_plain_text .nil (fun _ => .nil) pass0 (da_cons (de_var 1) da_nil))))))) de_str))) db_nil) (db_one (ds_ret (de_callTy L_strI call_str_int T.n_str (by decide +kernel) (da_cons (de_var 0) da_nil)))))))), fun ds Q h => ?_⟩)
    obtain ⟨d, rfl, ⟨h, hl⟩, q⟩ := h
    have q' : Q (.str (S (pt d))) := q
    cases d with
    | non => simp only [dSeq, dIfS, dRet, dRetN, dDrop, dAsg, dAsgF, dApp, dAug, dPar, dPar2, dFrz, dNext, dC, dOp, dTest, dChain, dUn, dtAnd, dtOr, dtNot, dAndV, dOrV, dNotV, dIf, dNil, dCons, dStar, dTup, dLst, dFz, dCall, dCB, dSl, dNoPart, dPart, dM1, dBM, dFmt, dJ3, dSq, dVar, startD,
    List.map_cons, List.map_nil, List.length_cons, List.length_nil, List.nil_append, List.cons_append, List.append_nil, List.replicate_succ, List.replicate_zero, List.getElem?_cons_zero, List.getElem?_cons_succ, List.set_cons_zero, List.set_cons_succ, Nat.reduceAdd, Nat.reduceSub,
    isi_non_int, isi_non_bool, isi_non_str, isi_non_tup, isi_bl_int, isi_bl_bool, isi_bl_str, isi_bl_tup, isi_int_int, isi_int_bool, isi_int_str, isi_int_tup, isi_str_int, isi_str_bool, isi_str_str, isi_str_tup, isi_lst_int, isi_lst_bool, isi_lst_str, isi_lst_tup, isi_tup_int, isi_tup_bool, isi_tup_str, isi_tup_tup,
    isN_non, noN_non, isN_bl, noN_bl, isN_int, noN_int, isN_str, noN_str, isN_lst, noN_lst, isN_tup, noN_tup,
    eq_ss, ne_ss, eq_ii, ne_ii, ne_si, len_str', len_tup', len_lst', add_ii, sub_ii, lt_ii, le_ii, gt_ii, ge_ii, ex_bl, ex_int, ex_str, ex_sv, ex_own, all_of, Bool.not_true, Bool.not_false, Bool.false_eq_true, reduceIte, ix_lst, ix_tup', ix_str', sign_of]; unfold pt at q'; exact q'
    | bl b => simp only [dSeq, dIfS, dRet, dRetN, dDrop, dAsg, dAsgF, dApp, dAug, dPar, dPar2, dFrz, dNext, dC, dOp, dTest, dChain, dUn, dtAnd, dtOr, dtNot, dAndV, dOrV, dNotV, dIf, dNil, dCons, dStar, dTup, dLst, dFz, dCall, dCB, dSl, dNoPart, dPart, dM1, dBM, dFmt, dJ3, dSq, dVar, startD,
    List.map_cons, List.map_nil, List.length_cons, List.length_nil, List.nil_append, List.cons_append, List.append_nil, List.replicate_succ, List.replicate_zero, List.getElem?_cons_zero, List.getElem?_cons_succ, List.set_cons_zero, List.set_cons_succ, Nat.reduceAdd, Nat.reduceSub,
    isi_non_int, isi_non_bool, isi_non_str, isi_non_tup, isi_bl_int, isi_bl_bool, isi_bl_str, isi_bl_tup, isi_int_int, isi_int_bool, isi_int_str, isi_int_tup, isi_str_int, isi_str_bool, isi_str_str, isi_str_tup, isi_lst_int, isi_lst_bool, isi_lst_str, isi_lst_tup, isi_tup_int, isi_tup_bool, isi_tup_str, isi_tup_tup,
    isN_non, noN_non, isN_bl, noN_bl, isN_int, noN_int, isN_str, noN_str, isN_lst, noN_lst, isN_tup, noN_tup,
    eq_ss, ne_ss, eq_ii, ne_ii, ne_si, len_str', len_tup', len_lst', add_ii, sub_ii, lt_ii, le_ii, gt_ii, ge_ii, ex_bl, ex_int, ex_str, ex_sv, ex_own, all_of, Bool.not_true, Bool.not_false, Bool.false_eq_true, reduceIte, ix_lst, ix_tup', ix_str', sign_of]; unfold pt at q'; cases b <;> exact q'
    | int i =>
      simp only [dSeq, dIfS, dRet, dRetN, dDrop, dAsg, dAsgF, dApp, dAug, dPar, dPar2, dFrz, dNext, dC, dOp, dTest, dChain, dUn, dtAnd, dtOr, dtNot, dAndV, dOrV, dNotV, dIf, dNil, dCons, dStar, dTup, dLst, dFz, dCall, dCB, dSl, dNoPart, dPart, dM1, dBM, dFmt, dJ3, dSq, dVar, startD,
    List.map_cons, List.map_nil, List.length_cons, List.length_nil, List.nil_append, List.cons_append, List.append_nil, List.replicate_succ, List.replicate_zero, List.getElem?_cons_zero, List.getElem?_cons_succ, List.set_cons_zero, List.set_cons_succ, Nat.reduceAdd, Nat.reduceSub,
    isi_non_int, isi_non_bool, isi_non_str, isi_non_tup, isi_bl_int, isi_bl_bool, isi_bl_str, isi_bl_tup, isi_int_int, isi_int_bool, isi_int_str, isi_int_tup, isi_str_int, isi_str_bool, isi_str_str, isi_str_tup, isi_lst_int, isi_lst_bool, isi_lst_str, isi_lst_tup, isi_tup_int, isi_tup_bool, isi_tup_str, isi_tup_tup,
    isN_non, noN_non, isN_bl, noN_bl, isN_int, noN_int, isN_str, noN_str, isN_lst, noN_lst, isN_tup, noN_tup,
    eq_ss, ne_ss, eq_ii, ne_ii, ne_si, len_str', len_tup', len_lst', add_ii, sub_ii, lt_ii, le_ii, gt_ii, ge_ii, ex_bl, ex_int, ex_str, ex_sv, ex_own, all_of, Bool.not_true, Bool.not_false, Bool.false_eq_true, reduceIte, ix_lst, ix_tup', ix_str', sign_of]
      unfold pt at q'
      rw [S_tl] at q'
      cases n <;> exact ⟨i, rfl, of_decide_eq_true h, q'⟩
    | str x =>
      unfold pt at hl q'
      have hx : x.length + 2 ≤ 100000 := by
        simp only [List.length_cons, List.length_append, List.length_nil] at hl
        rw [len_tl]
        omega
      simp only [dSeq, dIfS, dRet, dRetN, dDrop, dAsg, dAsgF, dApp, dAug, dPar, dPar2, dFrz, dNext, dC, dOp, dTest, dChain, dUn, dtAnd, dtOr, dtNot, dAndV, dOrV, dNotV, dIf, dNil, dCons, dStar, dTup, dLst, dFz, dCall, dCB, dSl, dNoPart, dPart, dM1, dBM, dFmt, dJ3, dSq, dVar, startD,
    List.map_cons, List.map_nil, List.length_cons, List.length_nil, List.nil_append, List.cons_append, List.append_nil, List.replicate_succ, List.replicate_zero, List.getElem?_cons_zero, List.getElem?_cons_succ, List.set_cons_zero, List.set_cons_succ, Nat.reduceAdd, Nat.reduceSub,
    isi_non_int, isi_non_bool, isi_non_str, isi_non_tup, isi_bl_int, isi_bl_bool, isi_bl_str, isi_bl_tup, isi_int_int, isi_int_bool, isi_int_str, isi_int_tup, isi_str_int, isi_str_bool, isi_str_str, isi_str_tup, isi_lst_int, isi_lst_bool, isi_lst_str, isi_lst_tup, isi_tup_int, isi_tup_bool, isi_tup_str, isi_tup_tup,
    isN_non, noN_non, isN_bl, noN_bl, isN_int, noN_int, isN_str, noN_str, isN_lst, noN_lst, isN_tup, noN_tup,
    eq_ss, ne_ss, eq_ii, ne_ii, ne_si, len_str', len_tup', len_lst', add_ii, sub_ii, lt_ii, le_ii, gt_ii, ge_ii, ex_bl, ex_int, ex_str, ex_sv, ex_own, all_of, Bool.not_true, Bool.not_false, Bool.false_eq_true, reduceIte, ix_lst, ix_tup', ix_str', sign_of]
      have z1 : (Str.empty ++ Str.ofString "\"").length ≤ sizeLine := by decide +kernel
      have e1 : Str.ofString "\"" ++ x ++ Str.ofString "\"" = S (34 :: (tl x ++ [34])) := by
        rw [S_of "\"", ← S_tl x, S_app, S_app]
        rfl
      refine ⟨z1, by have := sz5 (n := x.length) (by omega); exact this, ?_⟩
      rw [S_emp, e1]
      refine ⟨?_, ?_, q'⟩
      · rw [S_of "\"", ← S_tl x, S_app, len_S]
        refine sz5 ?_
        rw [len_tl] at hx
        have e3 : (tl (Str.ofString "\"")).length = 1 := rfl
        rw [List.length_append, e3]
        omega
      · rw [len_S]
        refine sz5 ?_
        rw [len_tl] at hx
        simp only [List.length_cons, List.length_append, List.length_nil]
        omega
    | tup ds =>
      cases n with
      | zero => cases h
      | succ n =>
        have h' : ds.all (txD n) = true := h
        unfold pt at hl q'
        rw [ptA_map] at hl q'
        have hj : (TL.joinL cm (ds.map pt)).length ≤ 100000 - 2 := by
          simp at hl ⊢
          omega
        have hmem : ∀ d ∈ ds, txD n d = true := fun d hd => List.all_eq_true.mp h' d hd
        have hds : ds.length ≤ 100000 := by
          have h1 := joinL_sum cm (ds.map pt)
          rw [List.length_map] at h1
          simp at h1
          omega
        simp only [dSeq, dIfS, dRet, dRetN, dDrop, dAsg, dAsgF, dApp, dAug, dPar, dPar2, dFrz, dNext, dC, dOp, dTest, dChain, dUn, dtAnd, dtOr, dtNot, dAndV, dOrV, dNotV, dIf, dNil, dCons, dStar, dTup, dLst, dFz, dCall, dCB, dSl, dNoPart, dPart, dM1, dBM, dFmt, dJ3, dSq, dVar, startD,
    List.map_cons, List.map_nil, List.length_cons, List.length_nil, List.nil_append, List.cons_append, List.append_nil, List.replicate_succ, List.replicate_zero, List.getElem?_cons_zero, List.getElem?_cons_succ, List.set_cons_zero, List.set_cons_succ, Nat.reduceAdd, Nat.reduceSub,
    isi_non_int, isi_non_bool, isi_non_str, isi_non_tup, isi_bl_int, isi_bl_bool, isi_bl_str, isi_bl_tup, isi_int_int, isi_int_bool, isi_int_str, isi_int_tup, isi_str_int, isi_str_bool, isi_str_str, isi_str_tup, isi_lst_int, isi_lst_bool, isi_lst_str, isi_lst_tup, isi_tup_int, isi_tup_bool, isi_tup_str, isi_tup_tup,
    isN_non, noN_non, isN_bl, noN_bl, isN_int, noN_int, isN_str, noN_str, isN_lst, noN_lst, isN_tup, noN_tup,
    eq_ss, ne_ss, eq_ii, ne_ii, ne_si, len_str', len_tup', len_lst', add_ii, sub_ii, lt_ii, le_ii, gt_ii, ge_ii, ex_bl, ex_int, ex_str, ex_sv, ex_own, all_of, Bool.not_true, Bool.not_false, Bool.false_eq_true, reduceIte, ix_lst, ix_tup', ix_str', sign_of, dLc, D.tupOf]
        refine ⟨ds, rfl, lc_pt hds (fun d hd R' hR => ?_) ?_⟩
        · simp only [dSeq, dIfS, dRet, dRetN, dDrop, dAsg, dAsgF, dApp, dAug, dPar, dPar2, dFrz, dNext, dC, dOp, dTest, dChain, dUn, dtAnd, dtOr, dtNot, dAndV, dOrV, dNotV, dIf, dNil, dCons, dStar, dTup, dLst, dFz, dCall, dCB, dSl, dNoPart, dPart, dM1, dBM, dFmt, dJ3, dSq, dVar, startD,
    List.map_cons, List.map_nil, List.length_cons, List.length_nil, List.nil_append, List.cons_append, List.append_nil, List.replicate_succ, List.replicate_zero, List.getElem?_cons_zero, List.getElem?_cons_succ, List.set_cons_zero, List.set_cons_succ, Nat.reduceAdd, Nat.reduceSub,
    isi_non_int, isi_non_bool, isi_non_str, isi_non_tup, isi_bl_int, isi_bl_bool, isi_bl_str, isi_bl_tup, isi_int_int, isi_int_bool, isi_int_str, isi_int_tup, isi_str_int, isi_str_bool, isi_str_str, isi_str_tup, isi_lst_int, isi_lst_bool, isi_lst_str, isi_lst_tup, isi_tup_int, isi_tup_bool, isi_tup_str, isi_tup_tup,
    isN_non, noN_non, isN_bl, noN_bl, isN_int, noN_int, isN_str, noN_str, isN_lst, noN_lst, isN_tup, noN_tup,
    eq_ss, ne_ss, eq_ii, ne_ii, ne_si, len_str', len_tup', len_lst', add_ii, sub_ii, lt_ii, le_ii, gt_ii, ge_ii, ex_bl, ex_int, ex_str, ex_sv, ex_own, all_of, Bool.not_true, Bool.not_false, Bool.false_eq_true, reduceIte, ix_lst, ix_tup', ix_str', sign_of]
          show RF1 _ _ [d] R'
          rw [rf1]
          refine ⟨⟨hmem d hd, ?_⟩, hR⟩
          have := joinL_mem cm (ds.map pt) (pt d) (List.mem_map.mpr ⟨d, hd, rfl⟩)
          omega
        · refine ⟨Str.ofString ", ", _, (ds.map pt).map S, rfl, rfl, rfl, join_ok (sp := Str.ofString ", ") (by show (TL.joinL cm (ds.map pt)).length ≤ 100000; omega) (by decide), ?_⟩
          rw [join_S]
          have e0 : tl (Str.ofString ", ") = cm := rfl
          rw [e0]
          refine ⟨_, _, rfl, rfl, ?_, ?_⟩
          · have e2 : (Str.ofString "(").length = 1 := rfl
            rw [len_S, e2]
            exact sz5 (by omega)
          · rw [S_of "(", S_app]
            refine ⟨_, _, rfl, rfl, ?_, ?_⟩
            · have e2 : (Str.ofString ")").length = 1 := rfl
              have e3 : (tl (Str.ofString "(")).length = 1 := rfl
              rw [len_S, e2, List.length_append, e3]
              exact sz5 (by omega)
            · rw [S_of ")", S_app]
              exact q'
    | lst ds => cases n <;> cases h
    | raw _ => cases n <;> cases h
/-- the things of a claim that are written without quotes -/
def many (d : D) : Nat := if inV d.v [.str (Str.ofString "story"), .str (Str.ofString "calm")] then 3 else 2
def RCt : RP := fun ds Q => ∃ (h0 : Str) (hs : List Str) (rs : List D), ds = [.tup (.str h0 :: (hs.map .str ++ rs))] ∧ hs.length + 1 = many (.str h0) ∧ (∀ d ∈ rs, txD 50 d = true) ∧ (TL.joinL [32] ((h0 :: hs).map tl ++ rs.map pt)).length ≤ 100000 ∧ Q (.str (S (TL.joinL [32] ((h0 :: hs).map tl ++ rs.map pt))))
theorem moCt : MoR RCt := fun ds Q Q' k ⟨a, b, c, h1, h2, h3, h4, q⟩ => ⟨a, b, c, h1, h2, h3, h4, k _ q⟩
theorem many_le (d : D) : 2 ≤ many d ∧ many d ≤ 3 := by
  unfold many
  split <;> omega
theorem ok_claim_text (T : Tx K mg w) : FnOk P w K mg base CX0 52 T.a_claim_text T.f_claim_text ["claim"] (spD K bx0 RCt) := by
  have G_bare_words := ok_bare_words (P := P) (base := base) T
  have G_plain_text := ok_plain_text (P := P) (base := base) T 51
  refine okD T.F_claim_text sc_claim_text (fun ds Q ⟨_, _, _, h, _⟩ => by rw [h]; rfl) (fun cdv A outer s H E e heb hr => ⟨_, (db_cons (ds_set 1 sc_claim_text.nd (de_call (.inl rfl) moF1 G_bare_words (Room.mono hr (by first | decide | omega)) T.g_bare_words T.F_bare_words.kp T.b_bare_words .nil (fun _ => .nil) pass0 (da_cons (de_ix L_ix ix_seq (de_var 0) de_int) da_nil))) (db_one (ds_ret (de_m1 L_join PySem.F.slot_str_join PySem.F.type_str_join mt_join de_str (DF_.de (df_lst (da_star (de_slice L_slT sl_tupA (de_var 0) do_none (do_some (de_var 1))) (da_star (DF_.de (df_lc (j := 2) rfl sc_claim_text.nd (di_tup (de_slice L_slT sl_tupA (de_var 0) (do_some (de_var 1)) do_none)) (blkOk_by (N := ["claim", "many", "part"]) (sc := defScope s_claim_text) (own := [("part", 2)]) (by decide +kernel)) (fun _ _ _ _ _ => pg_name (i := 2) sc_claim_text.nd rfl (Or.inl rfl)) (fun _ _ _ _ _ => dts_nil) (fun _ _ _ _ _ => (de_call (.inl rfl) (moPt _) G_plain_text (Room.mono hr (by first | decide | omega)) T.g_plain_text T.F_plain_text.kp T.b_plain_text .nil (fun _ => .nil) pass0 (da_cons (de_var 2) da_nil))))) da_nil)))))))), fun ds Q h => ?_⟩)
  obtain ⟨h0, hs, rs, rfl, hm, hrs, hl, q⟩ := h
  have hrl : rs.length ≤ 100000 := by
    have h1 := joinL_sum [32] ((h0 :: hs).map tl ++ rs.map pt)
    simp only [List.length_append, List.length_map, List.length_cons, List.length_nil] at h1
    omega
  simp only [dSeq, dIfS, dRet, dRetN, dDrop, dAsg, dAsgF, dApp, dAug, dPar, dPar2, dFrz, dNext, dC, dOp, dTest, dChain, dUn, dtAnd, dtOr, dtNot, dAndV, dOrV, dNotV, dIf, dNil, dCons, dStar, dTup, dLst, dFz, dCall, dCB, dSl, dNoPart, dPart, dM1, dBM, dFmt, dJ3, dSq, dVar, startD,
    List.map_cons, List.map_nil, List.length_cons, List.length_nil, List.nil_append, List.cons_append, List.append_nil, List.replicate_succ, List.replicate_zero, List.getElem?_cons_zero, List.getElem?_cons_succ, List.set_cons_zero, List.set_cons_succ, Nat.reduceAdd, Nat.reduceSub,
    isi_non_int, isi_non_bool, isi_non_str, isi_non_tup, isi_bl_int, isi_bl_bool, isi_bl_str, isi_bl_tup, isi_int_int, isi_int_bool, isi_int_str, isi_int_tup, isi_str_int, isi_str_bool, isi_str_str, isi_str_tup, isi_lst_int, isi_lst_bool, isi_lst_str, isi_lst_tup, isi_tup_int, isi_tup_bool, isi_tup_str, isi_tup_tup,
    isN_non, noN_non, isN_bl, noN_bl, isN_int, noN_int, isN_str, noN_str, isN_lst, noN_lst, isN_tup, noN_tup,
    eq_ss, ne_ss, eq_ii, ne_ii, ne_si, len_str', len_tup', len_lst', add_ii, sub_ii, lt_ii, le_ii, gt_ii, ge_ii, ex_bl, ex_int, ex_str, ex_sv, ex_own, all_of, Bool.not_true, Bool.not_false, Bool.false_eq_true, reduceIte, ix_lst, ix_tup', ix_str', sign_of, rf1]
  refine ⟨.str h0, atI_nat (j := 0) rfl, rfl, ?_⟩
  have e0 : (if inV (D.str h0).v [.str (Str.ofString "story"), .str (Str.ofString "calm")] then (3 : Int) else 2) = ((many (.str h0) : Nat) : Int) := by
    unfold many
    split <;> rfl
  rw [e0, ← hm]
  have hlen : (D.str h0 :: (hs.map D.str ++ rs)).length = hs.length + 1 + rs.length := by simp; omega
  have c1 : cutD (.str h0 :: (hs.map .str ++ rs)) none (some ((hs.length + 1 : Nat) : Int)) = (h0 :: hs).map .str := by
    unfold cutD
    rw [HT.sIx_none, HT.sIx_nat, hlen, List.drop_zero, Nat.sub_zero, Nat.min_eq_left (by omega)]
    show D.str h0 :: (List.take hs.length (hs.map D.str ++ rs)) = _
    rw [List.take_left' (by simp)]
    rfl
  have c2 : cutD (.str h0 :: (hs.map .str ++ rs)) (some ((hs.length + 1 : Nat) : Int)) none = rs := by
    unfold cutD
    rw [HT.sIx_none, HT.sIx_nat, hlen, Nat.min_eq_left (by omega)]
    show List.take _ (List.drop hs.length (hs.map D.str ++ rs)) = _
    rw [List.drop_left' (by simp), List.take_of_length_le (by omega)]
  refine ⟨_, rfl, ?_⟩
  rw [c1]
  refine ⟨_, rfl, ?_⟩
  simp only [dLc, dSeq, dIfS, dRet, dRetN, dDrop, dAsg, dAsgF, dApp, dAug, dPar, dPar2, dFrz, dNext, dC, dOp, dTest, dChain, dUn, dtAnd, dtOr, dtNot, dAndV, dOrV, dNotV, dIf, dNil, dCons, dStar, dTup, dLst, dFz, dCall, dCB, dSl, dNoPart, dPart, dM1, dBM, dFmt, dJ3, dSq, dVar, startD,
    List.map_cons, List.map_nil, List.length_cons, List.length_nil, List.nil_append, List.cons_append, List.append_nil, List.replicate_succ, List.replicate_zero, List.getElem?_cons_zero, List.getElem?_cons_succ, List.set_cons_zero, List.set_cons_succ, Nat.reduceAdd, Nat.reduceSub,
    isi_non_int, isi_non_bool, isi_non_str, isi_non_tup, isi_bl_int, isi_bl_bool, isi_bl_str, isi_bl_tup, isi_int_int, isi_int_bool, isi_int_str, isi_int_tup, isi_str_int, isi_str_bool, isi_str_str, isi_str_tup, isi_lst_int, isi_lst_bool, isi_lst_str, isi_lst_tup, isi_tup_int, isi_tup_bool, isi_tup_str, isi_tup_tup,
    isN_non, noN_non, isN_bl, noN_bl, isN_int, noN_int, isN_str, noN_str, isN_lst, noN_lst, isN_tup, noN_tup,
    eq_ss, ne_ss, eq_ii, ne_ii, ne_si, len_str', len_tup', len_lst', add_ii, sub_ii, lt_ii, le_ii, gt_ii, ge_ii, ex_bl, ex_int, ex_str, ex_sv, ex_own, all_of, Bool.not_true, Bool.not_false, Bool.false_eq_true, reduceIte, ix_lst, ix_tup', ix_str', sign_of]
  refine ⟨_, rfl, ?_⟩
  rw [c2]
  refine ⟨rs, rfl, lc_pt hrl (fun d hd R' hR => ?_) ?_⟩
  · simp only [dSeq, dIfS, dRet, dRetN, dDrop, dAsg, dAsgF, dApp, dAug, dPar, dPar2, dFrz, dNext, dC, dOp, dTest, dChain, dUn, dtAnd, dtOr, dtNot, dAndV, dOrV, dNotV, dIf, dNil, dCons, dStar, dTup, dLst, dFz, dCall, dCB, dSl, dNoPart, dPart, dM1, dBM, dFmt, dJ3, dSq, dVar, startD,
    List.map_cons, List.map_nil, List.length_cons, List.length_nil, List.nil_append, List.cons_append, List.append_nil, List.replicate_succ, List.replicate_zero, List.getElem?_cons_zero, List.getElem?_cons_succ, List.set_cons_zero, List.set_cons_succ, Nat.reduceAdd, Nat.reduceSub,
    isi_non_int, isi_non_bool, isi_non_str, isi_non_tup, isi_bl_int, isi_bl_bool, isi_bl_str, isi_bl_tup, isi_int_int, isi_int_bool, isi_int_str, isi_int_tup, isi_str_int, isi_str_bool, isi_str_str, isi_str_tup, isi_lst_int, isi_lst_bool, isi_lst_str, isi_lst_tup, isi_tup_int, isi_tup_bool, isi_tup_str, isi_tup_tup,
    isN_non, noN_non, isN_bl, noN_bl, isN_int, noN_int, isN_str, noN_str, isN_lst, noN_lst, isN_tup, noN_tup,
    eq_ss, ne_ss, eq_ii, ne_ii, ne_si, len_str', len_tup', len_lst', add_ii, sub_ii, lt_ii, le_ii, gt_ii, ge_ii, ex_bl, ex_int, ex_str, ex_sv, ex_own, all_of, Bool.not_true, Bool.not_false, Bool.false_eq_true, reduceIte, ix_lst, ix_tup', ix_str', sign_of]
    show RF1 _ _ [d] R'
    rw [rf1]
    refine ⟨⟨hrs d hd, ?_⟩, hR⟩
    have := joinL_mem [32] ((h0 :: hs).map tl ++ rs.map pt) (pt d) (List.mem_append_right _ (List.mem_map.mpr ⟨d, hd, rfl⟩))
    omega
  · refine ⟨_, rfl, ?_⟩
    have e5 : (h0 :: hs).map D.str ++ ((rs.map pt).map S).map D.str = ((((h0 :: hs).map tl ++ rs.map pt).map S).map D.str) := by
      rw [List.map_append, List.map_append]
      congr 1
      rw [List.map_map, List.map_map]
      refine List.map_congr_left fun x _ => ?_
      show D.str x = D.str (S (tl x))
      rw [S_tl]
    refine ⟨?_, Str.ofString " ", _, ((h0 :: hs).map tl ++ rs.map pt).map S, rfl, rfl, ?_, join_ok (sp := Str.ofString " ") hl (by decide), ?_⟩
    · have m2 := many_le (.str h0)
      have z3 : (100010 : Nat) ≤ sizeLine := by decide
      simp only [List.length_cons, List.length_append, List.length_map]
      omega
    · show some _ = some _
      exact congrArg some e5
    · rw [join_S]
      exact q
end
end K88
set_option maxHeartbeats 4000000
/-! reading plain things -/
namespace K88
open PySem L2 Dn
/-! ### the mirror -/
def fixedD : List (Str × D) := [(Str.ofString "yes", .bl true), (Str.ofString "no", .bl false), (Str.ofString "none", .non)]
def wordOf (l : List Nat) : List Nat := l.take (wordLen l)
def negW : List Nat → Bool
  | 45 :: r => dgs r && !decide (45 :: r = [45, 48])
  | _ => false
def numW (w : List Nat) : Bool := dgs w || negW w
def intOf : List Nat → Int
  | 45 :: r => -((NumText.digitsVal r : Nat) : Int)
  | w => ((NumText.digitsVal w : Nat) : Int)
def wordL (l : List Nat) : Option (D × Nat) :=
  match lookD (S (wordOf l)) fixedD with
  | some d => some (d, wordLen l)
  | none => if numW (wordOf l) then some (.int (intOf (wordOf l)), wordLen l) else none
def qLen (l : List Nat) : Nat := (l.takeWhile fun c => !decide (c = 34)).length
def strL (l : List Nat) : Option (D × Nat) :=
  if qLen l < l.length then (if decide (10 ∈ l.take (qLen l)) || decide (92 ∈ l.take (qLen l)) then none else some (.str (S (l.take (qLen l))), qLen l + 1)) else none
def more (j : Nat) (o : Option (D × Nat)) : Option (D × Nat) := o.map fun p => (p.1, p.2 + j)
def thing0 (t : List Nat → Option (D × Nat)) (l : List Nat) : Option (D × Nat) :=
  match l with
  | [] => wordL []
  | c :: r => if c = 40 then more 1 (t r) else if c = 34 then more 1 (strL r) else wordL (c :: r)
def loopL (p : List Nat → Option (D × Nat)) : Nat → List Nat → List D → Nat → Option (D × Nat)
  | 0, _, _, _ => none
  | f + 1, l, acc, c =>
    match p l with
    | none => none
    | some (d, k) => if (l.drop k).take 1 = [41] then some (.tup (acc ++ [d]), c + k + 1) else if (l.drop k).take 2 = [44, 32] then loopL p f (l.drop (k + 2)) (acc ++ [d]) (c + k + 2) else none
def tupL (p : List Nat → Option (D × Nat)) (r : List Nat) : Option (D × Nat) := if r.take 1 = [41] then some (.tup [], 1) else loopL p (r.length + 1) r [] 0
def thingL : Nat → List Nat → Option (D × Nat)
  | 0, l => thing0 (fun _ => none) l
  | n + 1, l => thing0 (tupL (thingL n)) l
/-- numbers in the text are of at most 500 signs -/
def Runs (l : List Nat) : Prop := ∀ n, numW (wordOf (l.drop n)) = true → (wordOf (l.drop n)).length ≤ 500
def resD (n : Nat) : Option (D × Nat) → D
  | none => .non
  | some (d, k) => .tup [d, .int ((n + k : Nat) : Int)]
def atP (a b : D) : Prop := ∃ (x : Str) (n : Nat), a = .str x ∧ b = .int n ∧ n ≤ x.length ∧ x.length ≤ 100000 ∧ Runs (tl x)
def withX (g : List Nat → Option (D × Nat)) (a b : D) : D := match a, b with | .str x, .int i => resD i.toNat (g ((tl x).drop i.toNat)) | _, _ => .non
def RWd : RP := RF2 atP (withX wordL)
def RTh : Nat → RP
  | 0 => fun _ _ => False
  | n + 1 => RF3 (fun a b c => atP a b ∧ ∃ m : Nat, c = .int m ∧ m ≤ n) fun a b c => match c with | .int m => withX (thingL m.toNat) a b | _ => .non
def RTu : Nat → RP
  | 0 => fun _ _ => False
  | n + 1 => RF3 (fun a b c => atP a b ∧ ∃ m : Nat, c = .int m ∧ m ≤ n) fun a b c => match c with | .int m => withX (tupL (thingL m.toNat)) a b | _ => .non
theorem moTh : ∀ n, MoR (RTh n)
  | 0 => fun _ _ _ _ h => h
  | _ + 1 => moF3
theorem moTu : ∀ n, MoR (RTu n)
  | 0 => fun _ _ _ _ h => h
  | _ + 1 => moF3
/-! ### cuts -/
theorem cut_nm (x : Str) {n m : Nat} (h : n ≤ m) (hn : n ≤ x.length) : cutS x (some (n : Int)) (some (m : Int)) = S (((tl x).drop n).take (m - n)) := by
  unfold cutS
  rw [HT.sIx_nat, HT.sIx_nat, Nat.min_eq_left hn]
  have e : List.take (min m x.length - n) (List.drop n x.cps.toList) = List.take (m - n) ((tl x).drop n) := by
    rcases Nat.le_total m x.length with z | z
    · rw [Nat.min_eq_left z]
    · rw [Nat.min_eq_right z]
      have l1 : ((tl x).drop n).length = x.length - n := by rw [List.length_drop, len_tl]
      rw [List.take_of_length_le (l := (tl x).drop n) (i := m - n) (by omega)]
      exact List.take_of_length_le (by rw [← l1]; exact Nat.le_refl _)
  rw [e]
  rfl
theorem S_inj {a b : List Nat} : S a = S b ↔ a = b := ⟨fun h => by rw [← tl_S a, h, tl_S], fun h => by rw [h]⟩
theorem S_lit {a : List Nat} (s : String) : S a = Str.ofString s ↔ a = tl (Str.ofString s) := by
  rw [S_of s]; exact S_inj
/-! ### lengths -/
theorem lookD_mem {z : Str} : ∀ {kvs : List (Str × D)} {d : D}, lookD z kvs = some d → ∃ p ∈ kvs, p.1 = z
  | (k, x) :: r, d, h => by
    unfold lookD at h
    by_cases e : k = z
    · exact ⟨_, List.mem_cons_self .., e⟩
    · rw [if_neg e] at h
      obtain ⟨p, h1, h2⟩ := lookD_mem h
      exact ⟨p, List.mem_cons_of_mem _ h1, h2⟩
theorem wordOf_len (l : List Nat) : (wordOf l).length = wordLen l := by
  unfold wordOf
  rw [List.length_take, Nat.min_eq_left (wordLen_le l)]
theorem wordL_pos {l : List Nat} {d : D} {k : Nat} (h : wordL l = some (d, k)) : 1 ≤ k ∧ k ≤ l.length := by
  have hw := wordOf_len l
  have hl := wordLen_le l
  have key : wordOf l ≠ [] → 1 ≤ wordLen l := fun z => by
    rw [← hw]
    exact List.length_pos_iff.mpr z
  unfold wordL at h
  cases e : lookD (S (wordOf l)) fixedD with
  | some f =>
    rw [e] at h
    cases h
    refine ⟨key fun z => ?_, hl⟩
    rw [z] at e
    cases e
  | none =>
    rw [e] at h
    by_cases hn : numW (wordOf l) = true
    · simp only [hn, if_true] at h
      cases h
      refine ⟨key fun z => ?_, hl⟩
      rw [z] at hn
      cases hn
    · simp only [hn] at h
      cases h
theorem qLen_le (l : List Nat) : qLen l ≤ l.length := (List.takeWhile_prefix _).length_le
theorem strL_le {l : List Nat} {d : D} {k : Nat} (h : strL l = some (d, k)) : k ≤ l.length := by
  unfold strL at h
  by_cases z : qLen l < l.length
  · rw [if_pos z] at h
    split at h
    · cases h
    · cases h; omega
  · rw [if_neg z] at h; cases h
theorem more_some {j : Nat} {o : Option (D × Nat)} {d : D} {k : Nat} (h : more j o = some (d, k)) : ∃ i, o = some (d, i) ∧ k = i + j := by
  unfold more at h
  cases o with
  | none => cases h
  | some p => cases h; exact ⟨p.2, rfl, rfl⟩
theorem thing0_pos {t : List Nat → Option (D × Nat)} (ht : ∀ l d k, t l = some (d, k) → k ≤ l.length) {l : List Nat} {d : D} {k : Nat} (h : thing0 t l = some (d, k)) : 1 ≤ k ∧ k ≤ l.length := by
  cases l with
  | nil => exact wordL_pos h
  | cons c r =>
    unfold thing0 at h
    by_cases z : c = 40
    · simp only [z, if_true] at h
      obtain ⟨i, h1, h2⟩ := more_some h
      have := ht r d i h1
      simp only [List.length_cons]
      omega
    · simp only [z, if_false] at h
      by_cases y : c = 34
      · simp only [y, if_true] at h
        obtain ⟨i, h1, h2⟩ := more_some h
        have := strL_le h1
        simp only [List.length_cons]
        omega
      · simp only [y, if_false] at h
        exact wordL_pos h
theorem loopL_le {p : List Nat → Option (D × Nat)} (hp : ∀ l d k, p l = some (d, k) → 1 ≤ k ∧ k ≤ l.length) : ∀ (f : Nat) (l : List Nat) (acc : List D) (c : Nat) (d : D) (k : Nat), loopL p f l acc c = some (d, k) → c ≤ k ∧ k ≤ c + l.length
  | 0, l, acc, c, d, k, h => by cases h
  | f + 1, l, acc, c, d, k, h => by
    unfold loopL at h
    cases e : p l with
    | none => rw [e] at h; cases h
    | some q =>
      obtain ⟨d1, k1⟩ := q
      obtain ⟨h1, h2⟩ := hp l d1 k1 e
      simp only [e] at h
      by_cases z : (l.drop k1).take 1 = [41]
      · rw [if_pos z] at h
        have l1 : 1 ≤ (l.drop k1).length := by
          have := congrArg List.length z
          rw [List.length_take] at this
          simp only [List.length_cons, List.length_nil] at this
          omega
        rw [List.length_drop] at l1
        cases h
        omega
      · rw [if_neg z] at h
        by_cases y : (l.drop k1).take 2 = [44, 32]
        · rw [if_pos y] at h
          have l1 : 2 ≤ (l.drop k1).length := by
            have := congrArg List.length y
            rw [List.length_take] at this
            simp only [List.length_cons, List.length_nil] at this
            omega
          rw [List.length_drop] at l1
          have ih := loopL_le hp f _ _ _ _ _ h
          rw [List.length_drop] at ih
          omega
        · rw [if_neg y] at h; cases h
theorem tupL_le {p : List Nat → Option (D × Nat)} (hp : ∀ l d k, p l = some (d, k) → 1 ≤ k ∧ k ≤ l.length) {l : List Nat} {d : D} {k : Nat} (h : tupL p l = some (d, k)) : k ≤ l.length := by
  unfold tupL at h
  by_cases z : l.take 1 = [41]
  · rw [if_pos z] at h
    cases h
    have := congrArg List.length z
    rw [List.length_take] at this
    simp only [List.length_cons, List.length_nil] at this
    omega
  · rw [if_neg z] at h
    have := loopL_le hp _ _ _ _ _ _ h
    omega
theorem thingL_pos : ∀ (n : Nat) (l : List Nat) (d : D) (k : Nat), thingL n l = some (d, k) → 1 ≤ k ∧ k ≤ l.length
  | 0, l, d, k, h => thing0_pos (fun _ _ _ z => by cases z) h
  | n + 1, l, d, k, h => thing0_pos (fun _ _ _ z => tupL_le (thingL_pos n) z) h
end K88
set_option maxHeartbeats 4000000
/-! reading plain things: the walks -/
namespace K88
open PySem L2 Dn
section
variable {P : Program} {w : World} {K : PySem.W.Frag} {mg : Str → Option Value} {base : Heap}
theorem cut_hi (x : Str) {m : Nat} : cutS x none (some (m : Int)) = S ((tl x).take m) := by
  unfold cutS
  rw [HT.sIx_none, HT.sIx_nat, List.drop_zero, Nat.sub_zero]
  refine congrArg S ?_
  rcases Nat.le_total m x.length with z | z
  · rw [Nat.min_eq_left z]
  · rw [Nat.min_eq_right z, List.take_of_length_le (i := m) (by rw [← len_tl]; exact z)]
    exact List.take_of_length_le (by rw [← len_tl]; exact Nat.le_refl _)
theorem cut_lo (x : Str) {n : Nat} (hn : n ≤ x.length) : cutS x (some (n : Int)) none = S ((tl x).drop n) := by
  unfold cutS
  rw [HT.sIx_none, HT.sIx_nat, Nat.min_eq_left hn]
  refine congrArg S ?_
  exact List.take_of_length_le (by rw [List.length_drop, ← len_tl]; exact Nat.le_refl _)
theorem slS {x : Str} {lo hi : Option Int} {Q : D → Prop} (hz : x.length ≤ sizeLine) : rdSlS (.str x) lo hi Q = Q (.str (cutS x lo hi)) := propext ⟨fun ⟨z, h1, _, q⟩ => by cases h1; exact q, fun q => ⟨x, rfl, hz, q⟩⟩
theorem negW_cons (c : Nat) (r : List Nat) : negW (c :: r) = (decide (c = 45) && (dgs r && !decide (c :: r = [45, 48]))) := by
  by_cases h : c = 45
  · subst h
    show (dgs r && !decide (45 :: r = [45, 48])) = _
    rw [decide_eq_true rfl, Bool.true_and]
  · rw [decide_eq_false h, Bool.false_and]
    unfold negW
    split
    · rename_i r' e
      injection e with e1
      exact absurd e1 h
    · rfl
theorem dgs_all {l : List Nat} (h : dgs l = true) : l.all isDig = true ∧ l ≠ [] := by
  cases l with
  | nil => cases h
  | cons c r =>
    rw [dgs_cons, Bool.and_eq_true] at h
    exact ⟨h.1, fun z => nomatch z⟩
theorem dig_45 : isDig 45 = false := by decide
/-- int() of a word that is a number -/
theorem int_word {l : List Nat} (h : numW l = true) (hl : l.length ≤ 640) : PySem.intText? (S l) = some (intOf l) := by
  have hl' : (S l).length ≤ 4300 := by rw [len_S]; omega
  unfold numW at h
  rw [Bool.or_eq_true] at h
  rcases h with h | h
  · obtain ⟨h1, h2⟩ := dgs_all h
    have e : intOf l = ((NumText.digitsVal l : Nat) : Int) := by
      unfold intOf
      split
      · rename_i r
        rw [List.all_cons, dig_45] at h1
        cases h1
      · rfl
    rw [e]
    exact PySem.intText_digits (x := S l) (allDig h1) h2 hl'
  · cases l with
    | nil => cases h
    | cons c r =>
      rw [negW_cons, Bool.and_eq_true, Bool.and_eq_true] at h
      have e0 : c = 45 := of_decide_eq_true h.1
      subst e0
      obtain ⟨h1, h2⟩ := dgs_all h.2.1
      exact PySem.intText_neg (x := S (45 :: r)) rfl (allDig h1) h2 hl'
theorem ok_word_at (T : Tx K mg w) : FnOk P w K mg base CX0 2 T.a_word_at T.f_word_at ["text", "at"] (spD K bx0 RWd) := by
  have G_word_end := ok_word_end (P := P) (base := base) T
  have G_is_digits := ok_is_digits (P := P) (base := base) T
  refine okD T.F_word_at sc_word_at lenF2 (fun cdv A outer s H E e heb hr => ⟨_, (db_cons (ds_set 2 sc_word_at.nd (de_call (.inl rfl) moF2 G_word_end (Room.mono hr (by first | decide | omega)) T.g_word_end T.F_word_end.kp T.b_word_end .nil (fun _ => .nil) pass0 (da_cons (de_var 0) (da_cons (de_var 1) da_nil)))) (db_cons (ds_set 3 sc_word_at.nd (de_slice L_slS sl_str (de_var 0) (do_some (de_var 1)) (do_some (de_var 2)))) (db_cons (ds_if (dt_inD T.d_FIXED (de_var 3)) (db_one (ds_ret (de_tup (da_cons (de_getD T.d_FIXED (de_var 3)) (da_cons (de_var 2) da_nil))))) db_nil) (db_cons (ds_if (DW_.t (dw_or (dt_val (de_call (.inl rfl) moF1 G_is_digits (Room.mono hr (by first | decide | omega)) T.g_is_digits T.F_is_digits.kp T.b_is_digits .nil (fun _ => .nil) pass0 (da_cons (de_var 3) da_nil))) (dw_or1 (DW_.t (dw_and (dt_cmp L_eqS op_eq (de_slice L_slS sl_str (de_var 3) do_none (do_some de_int)) de_str) (dw_and (dt_val (de_call (.inl rfl) moF1 G_is_digits (Room.mono hr (by first | decide | omega)) T.g_is_digits T.F_is_digits.kp T.b_is_digits .nil (fun _ => .nil) pass0 (da_cons (de_slice L_slS sl_str (de_var 3) (do_some de_int) do_none) da_nil))) (dw_and1 (dt_cmp L_neS op_ne (de_var 3) de_str)))))))) (db_one (ds_ret (de_tup (da_cons (de_callTy L_intS call_int_str T.n_int (by decide +kernel) (da_cons (de_var 3) da_nil)) (da_cons (de_var 2) da_nil))))) db_nil) (db_one (ds_ret de_non)))))), fun ds Q h => ?_⟩)
  obtain ⟨a, b, rfl, ⟨x, n, rfl, rfl, hn, hx, hR⟩, q⟩ := h
  have hz : x.length ≤ sizeLine := sz5 hx
  have q' : Q (resD ((n : Int)).toNat (wordL ((tl x).drop ((n : Int)).toNat))) := q
  rw [Int.toNat_natCast] at q'
  have hwl := wordLen_le ((tl x).drop n)
  rw [List.length_drop, ← len_tl] at hwl
  simp only [dSeq, dIfS, dRet, dRetN, dDrop, dAsg, dAsgF, dApp, dAug, dPar, dPar2, dFrz, dNext, dC, dOp, dTest, dChain, dUn, dtAnd, dtOr, dtNot, dAndV, dOrV, dNotV, dIf, dNil, dCons, dStar, dTup, dLst, dFz, dCall, dCB, dSl, dNoPart, dPart, dM1, dBM, dFmt, dJ3, dSq, dVar, startD,
    List.map_cons, List.map_nil, List.length_cons, List.length_nil, List.nil_append, List.cons_append, List.append_nil, List.replicate_succ, List.replicate_zero, List.getElem?_cons_zero, List.getElem?_cons_succ, List.set_cons_zero, List.set_cons_succ, Nat.reduceAdd, Nat.reduceSub,
    isi_non_int, isi_non_bool, isi_non_str, isi_non_tup, isi_bl_int, isi_bl_bool, isi_bl_str, isi_bl_tup, isi_int_int, isi_int_bool, isi_int_str, isi_int_tup, isi_str_int, isi_str_bool, isi_str_str, isi_str_tup, isi_lst_int, isi_lst_bool, isi_lst_str, isi_lst_tup, isi_tup_int, isi_tup_bool, isi_tup_str, isi_tup_tup,
    isN_non, noN_non, isN_bl, noN_bl, isN_int, noN_int, isN_str, noN_str, isN_lst, noN_lst, isN_tup, noN_tup,
    eq_ss, ne_ss, eq_ii, ne_ii, ne_si, len_str', len_tup', len_lst', add_ii, sub_ii, lt_ii, le_ii, gt_ii, ge_ii, ex_bl, ex_int, ex_str, ex_sv, ex_own, all_of, Bool.not_true, Bool.not_false, Bool.false_eq_true, reduceIte, ix_lst, ix_tup', ix_str', sign_of, rf1, rf2]
  refine ⟨⟨x, n, rfl, rfl, hn, hx⟩, ?_⟩
  have e1 : wordEnd (.str x) (.int (n : Int)) = .int ((n + wordLen ((tl x).drop n) : Nat) : Int) := by
    show D.int ((n : Int) + (wordLen ((tl x).drop ((n : Int)).toNat) : Nat)) = _
    rw [Int.toNat_natCast]
    congr 1
  rw [e1]
  refine ⟨_, rfl, ?_⟩
  rw [slS hz, cut_nm x (by omega) hn]
  have e2 : n + wordLen ((tl x).drop n) - n = wordLen ((tl x).drop n) := by omega
  rw [e2]
  show rdInD _ _ _ _ _
  have hRn := hR n
  have ew : List.take (wordLen ((tl x).drop n)) ((tl x).drop n) = wordOf ((tl x).drop n) := rfl
  rw [ew]
  unfold wordL at q'
  have hlen : (wordOf ((tl x).drop n)).length ≤ x.length := by
    rw [wordOf_len]; omega
  generalize wordOf ((tl x).drop n) = wd at q' hRn hlen ⊢
  generalize wordLen ((tl x).drop n) = k at q' ⊢
  have hwz : (S wd).length ≤ 100000 := by rw [len_S]; omega
  have hwz' : (S wd).length ≤ sizeLine := sz5 hwz
  refine ⟨.str (S wd), rfl, S wd, rfl, ?_⟩
  show (∃ c, D.bl (lookD (S wd) fixedD).isSome = .bl c ∧ _)
  refine ⟨_, rfl, ?_⟩
  cases ef : lookD (S wd) fixedD with
  | some d =>
    rw [ef] at q'
    rw [if_pos (show (some d).isSome = true from rfl)]
    refine ⟨.str (S wd), rfl, S wd, d, rfl, ef, ?_⟩
    simp only [dSeq, dIfS, dRet, dRetN, dDrop, dAsg, dAsgF, dApp, dAug, dPar, dPar2, dFrz, dNext, dC, dOp, dTest, dChain, dUn, dtAnd, dtOr, dtNot, dAndV, dOrV, dNotV, dIf, dNil, dCons, dStar, dTup, dLst, dFz, dCall, dCB, dSl, dNoPart, dPart, dM1, dBM, dFmt, dJ3, dSq, dVar, startD,
    List.map_cons, List.map_nil, List.length_cons, List.length_nil, List.nil_append, List.cons_append, List.append_nil, List.replicate_succ, List.replicate_zero, List.getElem?_cons_zero, List.getElem?_cons_succ, List.set_cons_zero, List.set_cons_succ, Nat.reduceAdd, Nat.reduceSub,
    isi_non_int, isi_non_bool, isi_non_str, isi_non_tup, isi_bl_int, isi_bl_bool, isi_bl_str, isi_bl_tup, isi_int_int, isi_int_bool, isi_int_str, isi_int_tup, isi_str_int, isi_str_bool, isi_str_str, isi_str_tup, isi_lst_int, isi_lst_bool, isi_lst_str, isi_lst_tup, isi_tup_int, isi_tup_bool, isi_tup_str, isi_tup_tup,
    isN_non, noN_non, isN_bl, noN_bl, isN_int, noN_int, isN_str, noN_str, isN_lst, noN_lst, isN_tup, noN_tup,
    eq_ss, ne_ss, eq_ii, ne_ii, ne_si, len_str', len_tup', len_lst', add_ii, sub_ii, lt_ii, le_ii, gt_ii, ge_ii, ex_bl, ex_int, ex_str, ex_sv, ex_own, all_of, Bool.not_true, Bool.not_false, Bool.false_eq_true, reduceIte, ix_lst, ix_tup', ix_str', sign_of]
    exact ⟨by decide, q'⟩
  | none =>
    rw [ef] at q'
    rw [if_neg (show ¬ (none : Option D).isSome = true by simp)]
    simp only [dSeq, dIfS, dRet, dRetN, dDrop, dAsg, dAsgF, dApp, dAug, dPar, dPar2, dFrz, dNext, dC, dOp, dTest, dChain, dUn, dtAnd, dtOr, dtNot, dAndV, dOrV, dNotV, dIf, dNil, dCons, dStar, dTup, dLst, dFz, dCall, dCB, dSl, dNoPart, dPart, dM1, dBM, dFmt, dJ3, dSq, dVar, startD,
    List.map_cons, List.map_nil, List.length_cons, List.length_nil, List.nil_append, List.cons_append, List.append_nil, List.replicate_succ, List.replicate_zero, List.getElem?_cons_zero, List.getElem?_cons_succ, List.set_cons_zero, List.set_cons_succ, Nat.reduceAdd, Nat.reduceSub,
    isi_non_int, isi_non_bool, isi_non_str, isi_non_tup, isi_bl_int, isi_bl_bool, isi_bl_str, isi_bl_tup, isi_int_int, isi_int_bool, isi_int_str, isi_int_tup, isi_str_int, isi_str_bool, isi_str_str, isi_str_tup, isi_lst_int, isi_lst_bool, isi_lst_str, isi_lst_tup, isi_tup_int, isi_tup_bool, isi_tup_str, isi_tup_tup,
    isN_non, noN_non, isN_bl, noN_bl, isN_int, noN_int, isN_str, noN_str, isN_lst, noN_lst, isN_tup, noN_tup,
    eq_ss, ne_ss, eq_ii, ne_ii, ne_si, len_str', len_tup', len_lst', add_ii, sub_ii, lt_ii, le_ii, gt_ii, ge_ii, ex_bl, ex_int, ex_str, ex_sv, ex_own, all_of, Bool.not_true, Bool.not_false, Bool.false_eq_true, reduceIte, ix_lst, ix_tup', ix_str', sign_of, rf1]
    refine ⟨hwz, ?_⟩
    have ed : isDigits (.str (S wd)) = dgs wd := rfl
    rw [ed]
    have fin : numW wd = true → rdIntS [.str (S wd)] fun z => 2 ≤ sizeLine ∧ Q (.tup [z, .int ((n + k : Nat) : Int)]) := fun hw => by
      have h6 : wd.length ≤ 640 := Nat.le_trans (hRn hw) (by decide)
      refine ⟨S wd, intOf wd, rfl, int_word hw h6, by rw [len_S]; exact h6, by decide, ?_⟩
      simp only [hw, if_true] at q'
      exact q'
    have fout : numW wd = false → Q .non := fun hw => by
      simp only [hw] at q'
      exact q'
    cases e3 : dgs wd with
    | true =>
      rw [if_pos rfl]
      exact fin (by unfold numW; rw [e3]; rfl)
    | false =>
      rw [if_neg (by simp)]
      have e4 : numW wd = negW wd := by unfold numW; rw [e3]; rfl
      rw [slS hwz']
      have c1 : cutS (S wd) none (some 1) = S (wd.take 1) := cut_hi (S wd) (m := 1)
      rw [c1]
      rw [eq_ss]
      refine ⟨_, rfl, ?_⟩
      cases wd with
      | nil =>
        rw [if_neg (by decide)]
        exact fout (by rw [e4]; rfl)
      | cons c r =>
        have c2 : cutS (S (c :: r)) (some 1) none = S r := cut_lo (S (c :: r)) (n := 1) (by rw [len_S]; simp)
        have e5 : decide (S ((c :: r).take 1) = Str.ofString "-") = decide (c = 45) := by
          refine decide_eq_decide.mpr ?_
          rw [S_lit]
          show [c] = [45] ↔ c = 45
          constructor
          · intro h; injection h
          · intro h; rw [h]
        rw [e5]
        rw [e4, negW_cons] at fin fout
        by_cases hc : c = 45
        · rw [if_pos (decide_eq_true hc)]
          rw [decide_eq_true hc, Bool.true_and] at fin fout
          rw [slS hwz', c2]
          refine ⟨⟨S r, rfl, ?_⟩, ?_⟩
          · rw [len_S] at hwz ⊢
            simp only [List.length_cons] at hwz
            omega
          · have ed2 : isDigits (.str (S r)) = dgs r := rfl
            rw [ed2]
            cases e6 : dgs r with
            | false =>
              rw [e6] at fout
              exact fout rfl
            | true =>
              rw [e6, Bool.true_and] at fin fout
              rw [if_pos rfl]
              have e7 : decide (S (c :: r) = Str.ofString "-0") = decide (c :: r = [45, 48]) := by
                refine decide_eq_decide.mpr ?_
                rw [S_lit]
                exact Iff.rfl
              rw [e7]
              cases e8 : decide (c :: r = [45, 48]) with
              | true =>
                rw [e8] at fout
                exact fout rfl
              | false =>
                rw [e8] at fin
                exact fin rfl
        · rw [if_neg (by simpa using hc)]
          rw [decide_eq_false hc] at fout
          exact fout rfl
end
end K88
set_option maxHeartbeats 4000000
/-! reading plain things: tuples, things, rows of things -/
namespace K88
open PySem L2 Dn
theorem resD_none (n : Nat) : resD n none = .non := rfl
theorem resD_some (n : Nat) (d : D) (k : Nat) : resD n (some (d, k)) = .tup [d, .int ((n + k : Nat) : Int)] := rfl
theorem i1 (n : Nat) : (n : Int) + 1 = ((n + 1 : Nat) : Int) := by omega
theorem i2 (n : Nat) : (n : Int) + 2 = ((n + 2 : Nat) : Int) := by omega
theorem cut_1 (x : Str) {n : Nat} (hn : n ≤ x.length) : cutS x (some (n : Int)) (some ((n : Int) + 1)) = S (((tl x).drop n).take 1) := by
  rw [i1, cut_nm x (by omega) hn]
  congr 2
  omega
theorem cut_2 (x : Str) {n : Nat} (hn : n ≤ x.length) : cutS x (some (n : Int)) (some ((n : Int) + 2)) = S (((tl x).drop n).take 2) := by
  rw [i2, cut_nm x (by omega) hn]
  congr 2
  omega
theorem dec_lit {l m : List Nat} (s : String) (h : tl (Str.ofString s) = m) : decide (S l = Str.ofString s) = decide (l = m) := by
  refine decide_eq_decide.mpr ?_
  rw [S_lit, h]
theorem rTh {n i m : Nat} {x : Str} {Q : D → Prop} (hi : i ≤ x.length) (hx : x.length ≤ 100000) (hR : Runs (tl x)) (hm : m ≤ n) (q : Q (resD i (thingL m ((tl x).drop i)))) : RTh (n + 1) [.str x, .int (i : Int), .int (m : Int)] Q := by
  refine ⟨_, _, _, rfl, ⟨⟨x, i, rfl, rfl, hi, hx, hR⟩, m, rfl, hm⟩, ?_⟩
  show Q (resD ((i : Int)).toNat (thingL ((m : Int)).toNat ((tl x).drop ((i : Int)).toNat)))
  rw [Int.toNat_natCast, Int.toNat_natCast]
  exact q
theorem rTu {n i m : Nat} {x : Str} {Q : D → Prop} (hi : i ≤ x.length) (hx : x.length ≤ 100000) (hR : Runs (tl x)) (hm : m ≤ n) (q : Q (resD i (tupL (thingL m) ((tl x).drop i)))) : RTu (n + 1) [.str x, .int (i : Int), .int (m : Int)] Q := by
  refine ⟨_, _, _, rfl, ⟨⟨x, i, rfl, rfl, hi, hx, hR⟩, m, rfl, hm⟩, ?_⟩
  show Q (resD ((i : Int)).toNat (tupL (thingL ((m : Int)).toNat) ((tl x).drop ((i : Int)).toNat)))
  rw [Int.toNat_natCast, Int.toNat_natCast]
  exact q
theorem rWd {i : Nat} {x : Str} {Q : D → Prop} (hi : i ≤ x.length) (hx : x.length ≤ 100000) (hR : Runs (tl x)) (q : Q (resD i (wordL ((tl x).drop i)))) : RWd [.str x, .int (i : Int)] Q := by
  refine ⟨_, _, rfl, ⟨x, i, rfl, rfl, hi, hx, hR⟩, ?_⟩
  show Q (resD ((i : Int)).toNat (wordL ((tl x).drop ((i : Int)).toNat)))
  rw [Int.toNat_natCast]
  exact q
/-! the loop of tuple_at -/
section
variable {P : Program} {w : World} {K : PySem.W.Frag} {mg : Str → Option Value} {base : Heap}
theorem ta_loop (n : Nat) {tb : TDS} (x : Str) (hx : x.length ≤ 100000) (m : Nat) (Z : DEnds)
    (hb : ∀ (Z : DEnds) (p : SV) (i : Nat) (acc : List D), i ≤ x.length → acc.length ≤ i →
      (match thingL m ((tl x).drop i) with
        | none => Z.rt .non
        | some (d, k) => if ((tl x).drop (i + k)).take 1 = [41] then Z.rt (.tup [.tup (acc ++ [d]), .int ((i + k + 1 : Nat) : Int)])
            else if ((tl x).drop (i + k)).take 2 = [44, 32] then Z.nx [.d (.str x), .d (.int ((i + k + 2 : Nat) : Int)), .d (.int (m : Int)), .own (acc ++ [d]), .d (.tup [d, .int ((i + k : Nat) : Int)])] else Z.rt .non) →
      tb Z [.d (.str x), .d (.int (i : Int)), .d (.int (m : Int)), .own acc, p]) :
    ∀ (f i : Nat) (acc : List D) (p : SV) (i0 : Nat), i ≤ x.length → acc.length ≤ i → x.length - i < f → i0 ≤ i → Z.rt (resD i0 (loopL (thingL m) f ((tl x).drop i) acc (i - i0))) → whileW (dTest (dC (.bl true))) tb f Z [.d (.str x), .d (.int (i : Int)), .d (.int (m : Int)), .own acc, p]
  | 0, i, acc, p, i0, _, _, h, _, _ => by omega
  | f + 1, i, acc, p, i0, hi, ha, hf, h0, q => by
    unfold whileW
    refine ⟨true, rfl, Eq.mpr (if_pos rfl) ?_⟩
    refine hb _ p i acc hi ha ?_
    unfold loopL at q
    cases e : thingL m ((tl x).drop i) with
    | none =>
      simp only [e] at q
      exact q
    | some dk =>
      obtain ⟨d, k⟩ := dk
      obtain ⟨k1, k2⟩ := thingL_pos m _ d k e
      rw [List.length_drop, ← len_tl] at k2
      simp only [e, List.drop_drop] at q
      show if _ then _ else _
      by_cases z : ((tl x).drop (i + k)).take 1 = [41]
      · rw [if_pos z] at q ⊢
        rw [resD_some] at q
        have e1 : i0 + (i - i0 + k + 1) = i + k + 1 := by omega
        rw [e1] at q
        exact q
      · rw [if_neg z] at q ⊢
        by_cases y : ((tl x).drop (i + k)).take 2 = [44, 32]
        · rw [if_pos y] at q ⊢
          have l2 : 2 ≤ ((tl x).drop (i + k)).length := by
            have := congrArg List.length y
            rw [List.length_take] at this
            simp only [List.length_cons, List.length_nil] at this
            omega
          rw [List.length_drop, ← len_tl] at l2
          refine ta_loop n x hx m Z hb f (i + k + 2) (acc ++ [d]) _ i0 (by omega) (by rw [List.length_append]; simp; omega) (by omega) (by omega) ?_
          have e1 : i + k + 2 - i0 = i - i0 + k + 2 := by omega
          have e2 : i + (k + 2) = i + k + 2 := by omega
          rw [e1]
          rw [e2] at q
          exact q
        · rw [if_neg y] at q ⊢
          exact q
theorem ok_tuple_at (T : Tx K mg w) (n : Nat) (lv : Nat) (G_thing_at : FnOk P w K mg base CX0 lv T.a_thing_at T.f_thing_at ["text", "at", "deep"] (spD K bx0 (RTh n))) :
    FnOk P w K mg base CX0 (lv + 1) T.a_tuple_at T.f_tuple_at ["text", "at", "deep"] (spD K bx0 (RTu n)) := by
  cases n with
  | zero => exact ok_never
  | succ n =>
    refine okD T.F_tuple_at sc_tuple_at lenF3 (fun cdv A outer s H E e heb hr => ⟨_, (db_cons (ds_setF 3 sc_tuple_at.nd (df_lst da_nil)) (db_cons (ds_if (dt_cmp L_eqS op_eq (de_slice L_slS sl_str (de_var 0) (do_some (de_var 1)) (do_some (de_op L_add op_add (de_var 1) de_int))) de_str) (db_one (ds_ret (de_tup (da_cons (de_tup da_nil) (da_cons (de_op L_add op_add (de_var 1) de_int) da_nil))))) db_nil) (db_one (ds_while PassesOwn.never (dt_val de_bl) (db_cons (ds_set 4 sc_tuple_at.nd (de_call (.inl rfl) (moTh _) G_thing_at (Room.mono hr (by first | decide | omega)) T.g_thing_at T.F_thing_at.kp T.b_thing_at .nil (fun _ => .nil) pass0 (da_cons (de_var 0) (da_cons (de_var 1) (da_cons (de_var 2) da_nil))))) (db_cons (ds_if (dt_cmp L_isN op_isN (de_var 4) de_non) (db_one (ds_ret de_non)) db_nil) (db_cons (ds_app 3 (de_ix L_ix ix_seq (de_var 4) de_int)) (db_cons (ds_set 1 sc_tuple_at.nd (de_ix L_ix ix_seq (de_var 4) de_int)) (db_cons (ds_if (dt_cmp L_eqS op_eq (de_slice L_slS sl_str (de_var 0) (do_some (de_var 1)) (do_some (de_op L_add op_add (de_var 1) de_int))) de_str) (db_one (ds_frz 3 (ds_ret (de_tup (da_cons (de_callTy L_tuple call_tuple_of T.n_tuple (by decide +kernel) (da_cons (de_var 3) da_nil)) (da_cons (de_op L_add op_add (de_var 1) de_int) da_nil)))))) db_nil) (db_cons (ds_if (dt_cmp L_neS op_ne (de_slice L_slS sl_str (de_var 0) (do_some (de_var 1)) (do_some (de_op L_add op_add (de_var 1) de_int))) de_str) (db_one (ds_ret de_non)) db_nil) (db_one (ds_aug 1 sc_tuple_at.nd ip_add de_int)))))))))))), fun ds Q h => ?_⟩)
    obtain ⟨a, b, c, rfl, ⟨⟨x, i, rfl, rfl, hi, hx, hR⟩, m, rfl, hm⟩, q⟩ := h
    have hz : x.length ≤ sizeLine := sz5 hx
    have q' : Q (resD ((i : Int)).toNat (tupL (thingL ((m : Int)).toNat) ((tl x).drop ((i : Int)).toNat))) := q
    rw [Int.toNat_natCast, Int.toNat_natCast] at q'
    simp only [dSeq, dIfS, dRet, dRetN, dDrop, dAsg, dAsgF, dApp, dAug, dPar, dPar2, dFrz, dNext, dC, dOp, dTest, dChain, dUn, dtAnd, dtOr, dtNot, dAndV, dOrV, dNotV, dIf, dNil, dCons, dStar, dTup, dLst, dFz, dCall, dCB, dSl, dNoPart, dPart, dM1, dBM, dFmt, dJ3, dSq, dVar, startD,
    List.map_cons, List.map_nil, List.length_cons, List.length_nil, List.nil_append, List.cons_append, List.append_nil, List.replicate_succ, List.replicate_zero, List.getElem?_cons_zero, List.getElem?_cons_succ, List.set_cons_zero, List.set_cons_succ, Nat.reduceAdd, Nat.reduceSub,
    isi_non_int, isi_non_bool, isi_non_str, isi_non_tup, isi_bl_int, isi_bl_bool, isi_bl_str, isi_bl_tup, isi_int_int, isi_int_bool, isi_int_str, isi_int_tup, isi_str_int, isi_str_bool, isi_str_str, isi_str_tup, isi_lst_int, isi_lst_bool, isi_lst_str, isi_lst_tup, isi_tup_int, isi_tup_bool, isi_tup_str, isi_tup_tup,
    isN_non, noN_non, isN_bl, noN_bl, isN_int, noN_int, isN_str, noN_str, isN_lst, noN_lst, isN_tup, noN_tup,
    eq_ss, ne_ss, eq_ii, ne_ii, ne_si, len_str', len_tup', len_lst', add_ii, sub_ii, lt_ii, le_ii, gt_ii, ge_ii, ex_bl, ex_int, ex_str, ex_sv, ex_own, all_of, Bool.not_true, Bool.not_false, Bool.false_eq_true, reduceIte, ix_lst, ix_tup', ix_str', sign_of, slS hz]
    refine ⟨by decide, ?_⟩
    rw [cut_1 x hi, dec_lit ")" (m := [41]) rfl]
    unfold tupL at q'
    by_cases z : ((tl x).drop i).take 1 = [41]
    · rw [if_pos z] at q'
      rw [if_pos (decide_eq_true z), i1]
      exact ⟨by decide, by decide, q'⟩
    · rw [if_neg z] at q'
      rw [if_neg (by simpa using z)]
      have hl : ((tl x).drop i).length + 1 = x.length - i + 1 := by rw [List.length_drop, ← len_tl]
      rw [hl] at q'
      refine ⟨x.length - i + 1, ta_loop n x hx m _ (fun Z p j acc hj ha hq => ?_) (x.length - i + 1) i [] .un i hi (Nat.zero_le _) (by omega) (Nat.le_refl _) (by rw [Nat.sub_self]; exact q')⟩
      simp only [dSeq, dIfS, dRet, dRetN, dDrop, dAsg, dAsgF, dApp, dAug, dPar, dPar2, dFrz, dNext, dC, dOp, dTest, dChain, dUn, dtAnd, dtOr, dtNot, dAndV, dOrV, dNotV, dIf, dNil, dCons, dStar, dTup, dLst, dFz, dCall, dCB, dSl, dNoPart, dPart, dM1, dBM, dFmt, dJ3, dSq, dVar, startD,
    List.map_cons, List.map_nil, List.length_cons, List.length_nil, List.nil_append, List.cons_append, List.append_nil, List.replicate_succ, List.replicate_zero, List.getElem?_cons_zero, List.getElem?_cons_succ, List.set_cons_zero, List.set_cons_succ, Nat.reduceAdd, Nat.reduceSub,
    isi_non_int, isi_non_bool, isi_non_str, isi_non_tup, isi_bl_int, isi_bl_bool, isi_bl_str, isi_bl_tup, isi_int_int, isi_int_bool, isi_int_str, isi_int_tup, isi_str_int, isi_str_bool, isi_str_str, isi_str_tup, isi_lst_int, isi_lst_bool, isi_lst_str, isi_lst_tup, isi_tup_int, isi_tup_bool, isi_tup_str, isi_tup_tup,
    isN_non, noN_non, isN_bl, noN_bl, isN_int, noN_int, isN_str, noN_str, isN_lst, noN_lst, isN_tup, noN_tup,
    eq_ss, ne_ss, eq_ii, ne_ii, ne_si, len_str', len_tup', len_lst', add_ii, sub_ii, lt_ii, le_ii, gt_ii, ge_ii, ex_bl, ex_int, ex_str, ex_sv, ex_own, all_of, Bool.not_true, Bool.not_false, Bool.false_eq_true, reduceIte, ix_lst, ix_tup', ix_str', sign_of, slS hz]
      refine rTh hj hx hR hm ?_
      cases et : thingL m ((tl x).drop j) with
      | none =>
        rw [et] at hq
        rw [resD_none, isN_non]
        refine ⟨_, rfl, ?_⟩
        rw [if_pos rfl]
        exact hq
      | some dk =>
        obtain ⟨d, k⟩ := dk
        obtain ⟨k1, k2⟩ := thingL_pos m _ d k et
        rw [List.length_drop, ← len_tl] at k2
        rw [et] at hq
        rw [resD_some, isN_tup]
        refine ⟨_, rfl, ?_⟩
        rw [if_neg Bool.false_ne_true]
        simp only [dSeq, dIfS, dRet, dRetN, dDrop, dAsg, dAsgF, dApp, dAug, dPar, dPar2, dFrz, dNext, dC, dOp, dTest, dChain, dUn, dtAnd, dtOr, dtNot, dAndV, dOrV, dNotV, dIf, dNil, dCons, dStar, dTup, dLst, dFz, dCall, dCB, dSl, dNoPart, dPart, dM1, dBM, dFmt, dJ3, dSq, dVar, startD,
    List.map_cons, List.map_nil, List.length_cons, List.length_nil, List.nil_append, List.cons_append, List.append_nil, List.replicate_succ, List.replicate_zero, List.getElem?_cons_zero, List.getElem?_cons_succ, List.set_cons_zero, List.set_cons_succ, Nat.reduceAdd, Nat.reduceSub,
    isi_non_int, isi_non_bool, isi_non_str, isi_non_tup, isi_bl_int, isi_bl_bool, isi_bl_str, isi_bl_tup, isi_int_int, isi_int_bool, isi_int_str, isi_int_tup, isi_str_int, isi_str_bool, isi_str_str, isi_str_tup, isi_lst_int, isi_lst_bool, isi_lst_str, isi_lst_tup, isi_tup_int, isi_tup_bool, isi_tup_str, isi_tup_tup,
    isN_non, noN_non, isN_bl, noN_bl, isN_int, noN_int, isN_str, noN_str, isN_lst, noN_lst, isN_tup, noN_tup,
    eq_ss, ne_ss, eq_ii, ne_ii, ne_si, len_str', len_tup', len_lst', add_ii, sub_ii, lt_ii, le_ii, gt_ii, ge_ii, ex_bl, ex_int, ex_str, ex_sv, ex_own, all_of, Bool.not_true, Bool.not_false, Bool.false_eq_true, reduceIte, ix_lst, ix_tup', ix_str', sign_of, slS hz]
        refine ⟨d, atI_nat (j := 0) rfl, by have := sz5 (n := acc.length + 1) (by omega); omega, .int ((j + k : Nat) : Int), atI_nat (j := 1) rfl, ?_⟩
        simp only [dSeq, dIfS, dRet, dRetN, dDrop, dAsg, dAsgF, dApp, dAug, dPar, dPar2, dFrz, dNext, dC, dOp, dTest, dChain, dUn, dtAnd, dtOr, dtNot, dAndV, dOrV, dNotV, dIf, dNil, dCons, dStar, dTup, dLst, dFz, dCall, dCB, dSl, dNoPart, dPart, dM1, dBM, dFmt, dJ3, dSq, dVar, startD,
    List.map_cons, List.map_nil, List.length_cons, List.length_nil, List.nil_append, List.cons_append, List.append_nil, List.replicate_succ, List.replicate_zero, List.getElem?_cons_zero, List.getElem?_cons_succ, List.set_cons_zero, List.set_cons_succ, Nat.reduceAdd, Nat.reduceSub,
    isi_non_int, isi_non_bool, isi_non_str, isi_non_tup, isi_bl_int, isi_bl_bool, isi_bl_str, isi_bl_tup, isi_int_int, isi_int_bool, isi_int_str, isi_int_tup, isi_str_int, isi_str_bool, isi_str_str, isi_str_tup, isi_lst_int, isi_lst_bool, isi_lst_str, isi_lst_tup, isi_tup_int, isi_tup_bool, isi_tup_str, isi_tup_tup,
    isN_non, noN_non, isN_bl, noN_bl, isN_int, noN_int, isN_str, noN_str, isN_lst, noN_lst, isN_tup, noN_tup,
    eq_ss, ne_ss, eq_ii, ne_ii, ne_si, len_str', len_tup', len_lst', add_ii, sub_ii, lt_ii, le_ii, gt_ii, ge_ii, ex_bl, ex_int, ex_str, ex_sv, ex_own, all_of, Bool.not_true, Bool.not_false, Bool.false_eq_true, reduceIte, ix_lst, ix_tup', ix_str', sign_of, slS hz]
        rw [cut_1 x (n := j + k) (by omega), dec_lit ")" (m := [41]) rfl]
        by_cases z1 : ((tl x).drop (j + k)).take 1 = [41]
        · rw [if_pos (decide_eq_true z1)]
          simp only [z1, if_true] at hq
          refine ⟨_, _, rfl, rfl, ?_⟩
          rw [i1]
          exact ⟨by decide, hq⟩
        · rw [if_neg (by simpa using z1)]
          simp only [z1, if_false] at hq
          rw [cut_2 x (n := j + k) (by omega), dec_lit ", " (m := [44, 32]) rfl]
          by_cases z2 : ((tl x).drop (j + k)).take 2 = [44, 32]
          · rw [if_neg (by simp [z2])]
            simp only [z2, if_true] at hq
            refine ⟨_, rfl, ?_⟩
            rw [i2]
            exact hq
          · rw [if_pos (by simp [z2])]
            simp only [z2, if_false] at hq
            exact hq

theorem qLen_get (l : List Nat) (h : qLen l < l.length) : l[qLen l] = 34 := by
  induction l with
  | nil => simp at h
  | cons c r ih =>
    by_cases z : c = 34
    · have e : qLen (c :: r) = 0 := by unfold qLen; rw [List.takeWhile_cons]; simp [z]
      simp only [e, List.getElem_cons_zero]
      exact z
    · have e : qLen (c :: r) = qLen r + 1 := by unfold qLen; rw [List.takeWhile_cons]; simp [z]
      simp only [e, List.getElem_cons_succ]
      exact ih (by rw [e] at h; simpa using h)
theorem qLen_not (l : List Nat) : ∀ v, v < qLen l → l[v]? ≠ some 34 := by
  induction l with
  | nil => intro v h; simp [qLen] at h
  | cons c r ih =>
    intro v h
    by_cases z : c = 34
    · have e : qLen (c :: r) = 0 := by unfold qLen; rw [List.takeWhile_cons]; simp [z]
      omega
    · have e : qLen (c :: r) = qLen r + 1 := by unfold qLen; rw [List.takeWhile_cons]; simp [z]
      cases v with
      | zero => simp [z]
      | succ v => simpa using ih v (by omega)
theorem getD_tl {x : Str} {v : Nat} (h : v < x.length) : x.cps.getD v 0 = (tl x).getD v 0 := by
  obtain ⟨a⟩ := x
  show a.getD v 0 = a.toList.getD v 0
  have h' : v < a.size := h
  simp [Array.getD, h']
theorem qLen_spec (x : Str) {n : Nat} (hn : n ≤ x.length) : Txt.find3 x (Str.ofString "\"") (n : Int) = if qLen ((tl x).drop n) < x.length - n then ((n + qLen ((tl x).drop n) : Nat) : Int) else -1 := by
  have e0 : Str.ofString "\"" = (⟨#[34]⟩ : Str) := rfl
  rw [e0]
  have ef : PySem.fromIndex x.length (n : Int) = n := by
    unfold PySem.fromIndex
    omega
  have hl : ((tl x).drop n).length = x.length - n := by rw [List.length_drop, ← len_tl]
  have hq := qLen_le ((tl x).drop n)
  have get : ∀ v, v < x.length → x.cps.getD v 0 = (tl x)[v]?.getD 0 := fun v h => by
    rw [getD_tl h]
    exact List.getD_eq_getElem?_getD ..
  have at_q : qLen ((tl x).drop n) < x.length - n → (tl x)[n + qLen ((tl x).drop n)]? = some 34 := fun h => by
    have h' : qLen ((tl x).drop n) < ((tl x).drop n).length := by rw [hl]; exact h
    have := qLen_get _ h'
    rw [← List.getElem?_drop, List.getElem?_eq_getElem h', this]
  rcases StrLaws.find3_spec x 34 (n : Int) with ⟨h1, h2⟩ | ⟨k, h1, h2, h3, h4, h5⟩
  · rw [h1, if_neg]
    intro z
    rw [ef] at h2
    refine h2 (n + qLen ((tl x).drop n)) (by omega) (by omega) ?_
    rw [get _ (by omega), at_q z]
    rfl
  · rw [ef] at h2 h5
    have hk : (tl x)[k]? = some 34 := by
      rw [get _ h3] at h4
      have : k < (tl x).length := by rw [← len_tl]; exact h3
      rw [List.getElem?_eq_getElem this] at h4 ⊢
      exact congrArg some h4
    have hge : qLen ((tl x).drop n) ≤ k - n := by
      rcases Nat.lt_or_ge (k - n) (qLen ((tl x).drop n)) with z | z
      · refine absurd ?_ (qLen_not ((tl x).drop n) (k - n) z)
        rw [List.getElem?_drop]
        have : n + (k - n) = k := by omega
        rw [this, hk]
      · exact z
    have hlt : qLen ((tl x).drop n) < x.length - n := by omega
    rw [h1, if_pos hlt]
    have heq : k = n + qLen ((tl x).drop n) := by
      rcases Nat.lt_or_ge (n + qLen ((tl x).drop n)) k with z | z
      · refine absurd ?_ (h5 (n + qLen ((tl x).drop n)) (by omega) z)
        rw [get _ (by omega), at_q hlt]
        rfl
      · omega
    rw [heq]
def tAt : Nat → List Nat → Option (D × Nat)
  | 0 => fun _ => none
  | k + 1 => tupL (thingL k)
theorem thingL_eq (m : Nat) (l : List Nat) : thingL m l = thing0 (tAt m) l := by cases m <;> rfl
theorem ok_thing_at (T : Tx K mg w) (n : Nat) (lv : Nat) (hlv : 2 ≤ lv) (G_tuple_at : FnOk P w K mg base CX0 lv T.a_tuple_at T.f_tuple_at ["text", "at", "deep"] (spD K bx0 (RTu n))) :
    FnOk P w K mg base CX0 (lv + 1) T.a_thing_at T.f_thing_at ["text", "at", "deep"] (spD K bx0 (RTh (n + 1))) := by
  have G_word_at := (ok_word_at (P := P) (base := base) T).mono hlv
  refine okD T.F_thing_at sc_thing_at lenF3 (fun cdv A outer s H E e heb hr => ⟨_, (db_cons (ds_set 3 sc_thing_at.nd (de_slice L_slS sl_str (de_var 0) (do_some (de_var 1)) (do_some (de_op L_add op_add (de_var 1) de_int)))) (db_cons (ds_if (dt_cmp L_eqS op_eq (de_var 3) de_str) (db_one (ds_ret (de_ifExp (dt_cmp L_gt op_gt (de_var 2) de_int) (de_call (.inl rfl) (moTu _) G_tuple_at (Room.mono hr (by first | decide | omega)) T.g_tuple_at T.F_tuple_at.kp T.b_tuple_at .nil (fun _ => .nil) pass0 (da_cons (de_var 0) (da_cons (de_op L_add op_add (de_var 1) de_int) (da_cons (de_op L_sub op_sub (de_var 2) de_int) da_nil)))) de_non))) db_nil) (db_cons (ds_if (dt_cmp L_neS op_ne (de_var 3) de_str) (db_one (ds_ret (de_call (.inl rfl) moF2 G_word_at (Room.mono hr (by first | decide | omega)) T.g_word_at T.F_word_at.kp T.b_word_at .nil (fun _ => .nil) pass0 (da_cons (de_var 0) (da_cons (de_var 1) da_nil))))) db_nil) (db_cons (ds_set 4 sc_thing_at.nd (de_bm L_find3 PySem.F.slot_str_find PySem.F.type_str_find mt_find3 (de_var 0) (da_cons de_str (da_cons (de_op L_add op_add (de_var 1) de_int) da_nil)))) (db_cons (ds_if (DW_.t (dw_or (dt_cmp L_lt op_lt (de_var 4) de_int) (dw_or1 (dt_val (de_callB L_any (cr_any rfl) T.n_any (by decide +kernel) (da_cons (DF_.de (df_lc (j := 5) rfl sc_thing_at.nd (di_tup (GC.de T.k_BARRED_plainthings)) (blkOk_by (N := ["text", "at", "deep", "sign", "end", "one"]) (sc := defScope s_thing_at) (own := [("one", 5)]) (by decide +kernel)) (fun _ _ _ _ _ => pg_name (i := 5) sc_thing_at.nd rfl (Or.inl rfl)) (fun _ _ _ _ _ => dts_nil) (fun _ _ _ _ _ => (de_cmp L_sign op_in_sign (de_var 5) (de_slice L_slS sl_str (de_var 0) (do_some (de_op L_add op_add (de_var 1) de_int)) (do_some (de_var 4))))))) da_nil)))))) (db_one (ds_ret de_non)) db_nil) (db_one (ds_ret (de_tup (da_cons (de_slice L_slS sl_str (de_var 0) (do_some (de_op L_add op_add (de_var 1) de_int)) (do_some (de_var 4))) (da_cons (de_op L_add op_add (de_var 4) de_int) da_nil)))))))))), fun ds Q h => ?_⟩)
  obtain ⟨a, b, c, rfl, ⟨⟨x, i, rfl, rfl, hi, hx, hR⟩, m, rfl, hm⟩, q⟩ := h
  have hz : x.length ≤ sizeLine := sz5 hx
  have q' : Q (resD ((i : Int)).toNat (thingL ((m : Int)).toNat ((tl x).drop ((i : Int)).toNat))) := q
  rw [Int.toNat_natCast, Int.toNat_natCast] at q'
  simp only [dSeq, dIfS, dRet, dRetN, dDrop, dAsg, dAsgF, dApp, dAug, dPar, dPar2, dFrz, dNext, dC, dOp, dTest, dChain, dUn, dtAnd, dtOr, dtNot, dAndV, dOrV, dNotV, dIf, dNil, dCons, dStar, dTup, dLst, dFz, dCall, dCB, dSl, dNoPart, dPart, dM1, dBM, dFmt, dJ3, dSq, dVar, startD,
    List.map_cons, List.map_nil, List.length_cons, List.length_nil, List.nil_append, List.cons_append, List.append_nil, List.replicate_succ, List.replicate_zero, List.getElem?_cons_zero, List.getElem?_cons_succ, List.set_cons_zero, List.set_cons_succ, Nat.reduceAdd, Nat.reduceSub,
    isi_non_int, isi_non_bool, isi_non_str, isi_non_tup, isi_bl_int, isi_bl_bool, isi_bl_str, isi_bl_tup, isi_int_int, isi_int_bool, isi_int_str, isi_int_tup, isi_str_int, isi_str_bool, isi_str_str, isi_str_tup, isi_lst_int, isi_lst_bool, isi_lst_str, isi_lst_tup, isi_tup_int, isi_tup_bool, isi_tup_str, isi_tup_tup,
    isN_non, noN_non, isN_bl, noN_bl, isN_int, noN_int, isN_str, noN_str, isN_lst, noN_lst, isN_tup, noN_tup,
    eq_ss, ne_ss, eq_ii, ne_ii, ne_si, len_str', len_tup', len_lst', add_ii, sub_ii, lt_ii, le_ii, gt_ii, ge_ii, ex_bl, ex_int, ex_str, ex_sv, ex_own, all_of, Bool.not_true, Bool.not_false, Bool.false_eq_true, reduceIte, ix_lst, ix_tup', ix_str', sign_of, slS hz]
  rw [cut_1 x hi, dec_lit "(" (m := [40]) rfl, dec_lit "\"" (m := [34]) rfl]
  rw [thingL_eq] at q'
  have hword : Q (resD i (wordL ((tl x).drop i))) → RWd [.str x, .int (i : Int)] Q := fun z => rWd hi hx hR z
  cases hl : (tl x).drop i with
  | nil =>
    rw [hl] at q' hword
    rw [if_neg (by simp), if_pos (by simp)]
    exact hword q'
  | cons ch r =>
    rw [hl] at q' hword
    have hlen : i < x.length := by
      have := congrArg List.length hl
      rw [List.length_drop, ← len_tl] at this
      simp only [List.length_cons] at this
      omega
    have er : (tl x).drop (i + 1) = r := by
      rw [← List.drop_drop, hl]; rfl
    have e1 : ∀ v : Nat, decide (List.take 1 (ch :: r) = [v]) = decide (ch = v) := fun v => by
      refine decide_eq_decide.mpr ⟨fun h => ?_, fun h => by rw [h]; rfl⟩
      injection h
    rw [e1, e1]
    unfold thing0 at q'
    by_cases z : ch = 40
    · rw [if_pos (decide_eq_true z)]
      simp only [z, if_true] at q'
      cases m with
      | zero =>
        rw [if_neg (by simp)]
        exact q'
      | succ m =>
        rw [if_pos (by simp)]
        have e2 : ((m + 1 : Nat) : Int) - 1 = (m : Int) := by omega
        rw [e2, i1]
        cases n with
        | zero => omega
        | succ n =>
          refine rTu (by omega) hx hR (by omega) ?_
          rw [er]
          have e3 : resD (i + 1) (tupL (thingL m) r) = resD i (more 1 (tupL (thingL m) r)) := by
            cases tupL (thingL m) r with
            | none => rfl
            | some p =>
              show D.tup [p.1, .int ((i + 1 + p.2 : Nat) : Int)] = D.tup [p.1, .int ((i + (p.2 + 1) : Nat) : Int)]
              have : i + 1 + p.2 = i + (p.2 + 1) := by omega
              rw [this]
          rw [e3]
          exact q'
    · rw [if_neg (by simpa using z)]
      simp only [z, if_false] at q'
      by_cases y : ch = 34
      · rw [if_neg (by simp [y])]
        simp only [y, if_true] at q'
        simp only [dSeq, dIfS, dRet, dRetN, dDrop, dAsg, dAsgF, dApp, dAug, dPar, dPar2, dFrz, dNext, dC, dOp, dTest, dChain, dUn, dtAnd, dtOr, dtNot, dAndV, dOrV, dNotV, dIf, dNil, dCons, dStar, dTup, dLst, dFz, dCall, dCB, dSl, dNoPart, dPart, dM1, dBM, dFmt, dJ3, dSq, dVar, startD,
    List.map_cons, List.map_nil, List.length_cons, List.length_nil, List.nil_append, List.cons_append, List.append_nil, List.replicate_succ, List.replicate_zero, List.getElem?_cons_zero, List.getElem?_cons_succ, List.set_cons_zero, List.set_cons_succ, Nat.reduceAdd, Nat.reduceSub,
    isi_non_int, isi_non_bool, isi_non_str, isi_non_tup, isi_bl_int, isi_bl_bool, isi_bl_str, isi_bl_tup, isi_int_int, isi_int_bool, isi_int_str, isi_int_tup, isi_str_int, isi_str_bool, isi_str_str, isi_str_tup, isi_lst_int, isi_lst_bool, isi_lst_str, isi_lst_tup, isi_tup_int, isi_tup_bool, isi_tup_str, isi_tup_tup,
    isN_non, noN_non, isN_bl, noN_bl, isN_int, noN_int, isN_str, noN_str, isN_lst, noN_lst, isN_tup, noN_tup,
    eq_ss, ne_ss, eq_ii, ne_ii, ne_si, len_str', len_tup', len_lst', add_ii, sub_ii, lt_ii, le_ii, gt_ii, ge_ii, ex_bl, ex_int, ex_str, ex_sv, ex_own, all_of, Bool.not_true, Bool.not_false, Bool.false_eq_true, reduceIte, ix_lst, ix_tup', ix_str', sign_of, slS hz, dLc, D.tupOf]
        refine ⟨x, Str.ofString "\"", (i : Int) + 1, rfl, rfl, ?_⟩
        rw [i1, qLen_spec x (by omega), er]
        have hrl : r.length = x.length - (i + 1) := by
          rw [← er, List.length_drop, ← len_tl]
        unfold strL at q'
        rw [hrl] at q'
        by_cases hq : qLen r < x.length - (i + 1)
        · rw [if_pos hq] at q' ⊢
          have e2 : decide (((i + 1 + qLen r : Nat) : Int) < 0) = false := decide_eq_false (by omega)
          simp only [dSeq, dIfS, dRet, dRetN, dDrop, dAsg, dAsgF, dApp, dAug, dPar, dPar2, dFrz, dNext, dC, dOp, dTest, dChain, dUn, dtAnd, dtOr, dtNot, dAndV, dOrV, dNotV, dIf, dNil, dCons, dStar, dTup, dLst, dFz, dCall, dCB, dSl, dNoPart, dPart, dM1, dBM, dFmt, dJ3, dSq, dVar, startD,
    List.map_cons, List.map_nil, List.length_cons, List.length_nil, List.nil_append, List.cons_append, List.append_nil, List.replicate_succ, List.replicate_zero, List.getElem?_cons_zero, List.getElem?_cons_succ, List.set_cons_zero, List.set_cons_succ, Nat.reduceAdd, Nat.reduceSub,
    isi_non_int, isi_non_bool, isi_non_str, isi_non_tup, isi_bl_int, isi_bl_bool, isi_bl_str, isi_bl_tup, isi_int_int, isi_int_bool, isi_int_str, isi_int_tup, isi_str_int, isi_str_bool, isi_str_str, isi_str_tup, isi_lst_int, isi_lst_bool, isi_lst_str, isi_lst_tup, isi_tup_int, isi_tup_bool, isi_tup_str, isi_tup_tup,
    isN_non, noN_non, isN_bl, noN_bl, isN_int, noN_int, isN_str, noN_str, isN_lst, noN_lst, isN_tup, noN_tup,
    eq_ss, ne_ss, eq_ii, ne_ii, ne_si, len_str', len_tup', len_lst', add_ii, sub_ii, lt_ii, le_ii, gt_ii, ge_ii, ex_bl, ex_int, ex_str, ex_sv, ex_own, all_of, Bool.not_true, Bool.not_false, Bool.false_eq_true, reduceIte, ix_lst, ix_tup', ix_str', sign_of, slS hz, dLc, D.tupOf, e2]
          have ec : cutS x (some ((i + 1 : Nat) : Int)) (some ((i + 1 + qLen r : Nat) : Int)) = S (r.take (qLen r)) := by
            rw [cut_nm x (by omega) (by omega), er]
            congr 2
            omega
          have ec1 : cutS x (some ((i : Int) + 1)) (some ((i + 1 + qLen r : Nat) : Int)) = S (r.take (qLen r)) := by rw [i1]; exact ec
          refine ⟨[.str (S [34]), .str (S [10]), .str (S [92])], rfl, ?_⟩
          have key : ∀ (c : Nat) (R' : D → Prop), R' (.bl (decide (c ∈ r.take (qLen r)))) → rdSign false (.str (S [c])) (.str (S (r.take (qLen r)))) R' := fun c R' h => ⟨c, _, rfl, rfl, h⟩
          simp only [lcW, dSeq, dIfS, dRet, dRetN, dDrop, dAsg, dAsgF, dApp, dAug, dPar, dPar2, dFrz, dNext, dC, dOp, dTest, dChain, dUn, dtAnd, dtOr, dtNot, dAndV, dOrV, dNotV, dIf, dNil, dCons, dStar, dTup, dLst, dFz, dCall, dCB, dSl, dNoPart, dPart, dM1, dBM, dFmt, dJ3, dSq, dVar, startD,
    List.map_cons, List.map_nil, List.length_cons, List.length_nil, List.nil_append, List.cons_append, List.append_nil, List.replicate_succ, List.replicate_zero, List.getElem?_cons_zero, List.getElem?_cons_succ, List.set_cons_zero, List.set_cons_succ, Nat.reduceAdd, Nat.reduceSub,
    isi_non_int, isi_non_bool, isi_non_str, isi_non_tup, isi_bl_int, isi_bl_bool, isi_bl_str, isi_bl_tup, isi_int_int, isi_int_bool, isi_int_str, isi_int_tup, isi_str_int, isi_str_bool, isi_str_str, isi_str_tup, isi_lst_int, isi_lst_bool, isi_lst_str, isi_lst_tup, isi_tup_int, isi_tup_bool, isi_tup_str, isi_tup_tup,
    isN_non, noN_non, isN_bl, noN_bl, isN_int, noN_int, isN_str, noN_str, isN_lst, noN_lst, isN_tup, noN_tup,
    eq_ss, ne_ss, eq_ii, ne_ii, ne_si, len_str', len_tup', len_lst', add_ii, sub_ii, lt_ii, le_ii, gt_ii, ge_ii, ex_bl, ex_int, ex_str, ex_sv, ex_own, all_of, Bool.not_true, Bool.not_false, Bool.false_eq_true, reduceIte, ix_lst, ix_tup', ix_str', sign_of, dtYes, slS hz, ec, ec1]
          refine key 34 _ ⟨by decide, key 10 _ ⟨by decide, key 92 _ ⟨by decide, ?_⟩⟩⟩
          show rdAll _ [.lst ([decide (34 ∈ r.take (qLen r)), decide (10 ∈ r.take (qLen r)), decide (92 ∈ r.take (qLen r))].map .bl)] _
          rw [all_of]
          refine ⟨_, rfl, ?_⟩
          have e34 : decide (34 ∈ r.take (qLen r)) = false := by
            refine decide_eq_false fun hm => ?_
            obtain ⟨v, hv⟩ := List.getElem?_of_mem hm
            have hvl : v < qLen r := by
              have := (List.getElem?_eq_some_iff.mp hv).1
              rw [List.length_take] at this
              omega
            rw [List.getElem?_take_of_lt hvl] at hv
            exact qLen_not r v hvl hv
          rw [e34]
          show if (decide (10 ∈ r.take (qLen r)) || (decide (92 ∈ r.take (qLen r)) || false)) = true then _ else _
          rw [Bool.or_false]
          by_cases hb : (decide (10 ∈ r.take (qLen r)) || decide (92 ∈ r.take (qLen r))) = true
          · rw [if_pos hb] at q' ⊢
            exact q'
          · rw [if_neg hb] at q' ⊢
            refine ⟨by decide, ?_⟩
            have q2 : Q (.tup [.str (S (r.take (qLen r))), .int ((i + (qLen r + 1 + 1) : Nat) : Int)]) := q'
            have e5 : ((i + 1 + qLen r : Nat) : Int) + 1 = ((i + (qLen r + 1 + 1) : Nat) : Int) := by omega
            rw [e5]
            exact q2
        · rw [if_neg hq] at q' ⊢
          simp only [dSeq, dIfS, dRet, dRetN, dDrop, dAsg, dAsgF, dApp, dAug, dPar, dPar2, dFrz, dNext, dC, dOp, dTest, dChain, dUn, dtAnd, dtOr, dtNot, dAndV, dOrV, dNotV, dIf, dNil, dCons, dStar, dTup, dLst, dFz, dCall, dCB, dSl, dNoPart, dPart, dM1, dBM, dFmt, dJ3, dSq, dVar, startD,
    List.map_cons, List.map_nil, List.length_cons, List.length_nil, List.nil_append, List.cons_append, List.append_nil, List.replicate_succ, List.replicate_zero, List.getElem?_cons_zero, List.getElem?_cons_succ, List.set_cons_zero, List.set_cons_succ, Nat.reduceAdd, Nat.reduceSub,
    isi_non_int, isi_non_bool, isi_non_str, isi_non_tup, isi_bl_int, isi_bl_bool, isi_bl_str, isi_bl_tup, isi_int_int, isi_int_bool, isi_int_str, isi_int_tup, isi_str_int, isi_str_bool, isi_str_str, isi_str_tup, isi_lst_int, isi_lst_bool, isi_lst_str, isi_lst_tup, isi_tup_int, isi_tup_bool, isi_tup_str, isi_tup_tup,
    isN_non, noN_non, isN_bl, noN_bl, isN_int, noN_int, isN_str, noN_str, isN_lst, noN_lst, isN_tup, noN_tup,
    eq_ss, ne_ss, eq_ii, ne_ii, ne_si, len_str', len_tup', len_lst', add_ii, sub_ii, lt_ii, le_ii, gt_ii, ge_ii, ex_bl, ex_int, ex_str, ex_sv, ex_own, all_of, Bool.not_true, Bool.not_false, Bool.false_eq_true, reduceIte, ix_lst, ix_tup', ix_str', sign_of]
          exact q'
      · rw [if_pos (by simp [y])]
        simp only [y, if_false] at q'
        exact hword q'
theorem ok_thing (T : Tx K mg w) : ∀ n : Nat, FnOk P w K mg base CX0 (2 * n + 2) T.a_thing_at T.f_thing_at ["text", "at", "deep"] (spD K bx0 (RTh n))
  | 0 => ok_never
  | n + 1 => by
    have h1 := ok_tuple_at (P := P) (base := base) T n _ (ok_thing T n)
    exact ok_thing_at T n _ (by omega) h1
end
end K88
set_option maxHeartbeats 4000000
/-! rows of things; what a claim is -/
namespace K88
open PySem L2 Dn
def rowL (p : List Nat → Option (D × Nat)) : Nat → List Nat → List D → Option (List D)
  | 0, _, _ => none
  | f + 1, l, acc =>
    match p l with
    | none => none
    | some (d, k) => if (l.drop k).length = 0 then some (acc ++ [d]) else if (l.drop k).take 1 = [32] then rowL p f (l.drop (k + 1)) (acc ++ [d]) else none
def thingsL (l : List Nat) : Option (List D) := rowL (thingL 40) (l.length + 1) l []
def resL : Option (List D) → D
  | none => .non
  | some ds => .lst ds
section
variable {Q : D → Prop} {a b c d e f : D} {r : List D}
theorem ix_at {ds : List D} {k : Nat} (h : ds[k]? = some a) : rdIx (.tup ds) (.int (k : Int)) Q = Q a := by
  rw [ix_tup']
  have e := atI_nat h
  exact propext ⟨fun ⟨_, h, q⟩ => by rw [e] at h; cases h; exact q, fun q => ⟨_, e, q⟩⟩
theorem ix0 : rdIx (.tup (a :: r)) (.int 0) Q = Q a := ix_at (k := 0) rfl
theorem ix1 : rdIx (.tup (a :: b :: r)) (.int 1) Q = Q b := ix_at (k := 1) rfl
theorem ix2 : rdIx (.tup (a :: b :: c :: r)) (.int 2) Q = Q c := ix_at (k := 2) rfl
theorem ix3 : rdIx (.tup (a :: b :: c :: d :: r)) (.int 3) Q = Q d := ix_at (k := 3) rfl
theorem ix4 : rdIx (.tup (a :: b :: c :: d :: e :: r)) (.int 4) Q = Q e := ix_at (k := 4) rfl
theorem ix5 : rdIx (.tup (a :: b :: c :: d :: e :: f :: r)) (.int 5) Q = Q f := ix_at (k := 5) rfl
end
def inH (d : D) (ws : List D) : Bool := match d with | .str x => inV (.str x) (ws.map D.v) | _ => false
def isPaper (d : D) : Bool := match d with | .tup _ => plainD 40 d | _ => false
def harmsD : List D := [.str (Str.ofString "again"), .str (Str.ofString "astray"), .str (Str.ofString "left"), .str (Str.ofString "loose"), .str (Str.ofString "noticed"), .str (Str.ofString "stale"), .str (Str.ofString "stuck"), .str (Str.ofString "unlike")]
def calmD : List D := [.str (Str.ofString "again"), .str (Str.ofString "unlike"), .str (Str.ofString "loose"), .str (Str.ofString "astray")]
def claimW (t : Str) (vs : List D) : Bool :=
  if t = Str.ofString "story" then (match vs with | [a, b, c, d] => inH a harmsD && (isStart b && (isNumber c && areEvents d)) | _ => false)
  else if t = Str.ofString "alike" then (match vs with | [a, b, c, d] => isStart a && (isNumber b && (areEvents c && areEvents d)) | _ => false)
  else if t = Str.ofString "clean" then (match vs with | [a, b, c] => isNumber a && (isNumber b && isPaper c) | _ => false)
  else if t = Str.ofString "calm" then (match vs with | [a, b] => inH a calmD && isPaper b | _ => false)
  else if t = Str.ofString "reads" then (match vs with | [a] => isPaper a | _ => false)
  else false
def isClaim : D → Bool
  | .tup (.str t :: nm :: vs) => isName nm && claimW t vs
  | _ => false
abbrev widthsD : List (Str × D) := [(Str.ofString "story", .int 6), (Str.ofString "alike", .int 6), (Str.ofString "clean", .int 5), (Str.ofString "reads", .int 3), (Str.ofString "calm", .int 4)]
theorem lk_story : lookD (Str.ofString "story") widthsD = some (.int 6) := rfl
theorem lk_alike : lookD (Str.ofString "alike") widthsD = some (.int 6) := rfl
theorem lk_clean : lookD (Str.ofString "clean") widthsD = some (.int 5) := rfl
theorem lk_calm : lookD (Str.ofString "calm") widthsD = some (.int 4) := rfl
theorem lk_reads : lookD (Str.ofString "reads") widthsD = some (.int 3) := rfl
theorem lk_no {t : Str} (h1 : ¬ t = Str.ofString "story") (h2 : ¬ t = Str.ofString "alike") (h3 : ¬ t = Str.ofString "clean") (h4 : ¬ t = Str.ofString "calm") (h5 : ¬ t = Str.ofString "reads") : lookD t widthsD = none := by
  simp only [lookD, if_neg (Ne.symm h1), if_neg (Ne.symm h2), if_neg (Ne.symm h3), if_neg (Ne.symm h4), if_neg (Ne.symm h5)]
theorem and_q {Q : D → Prop} {b c : Bool} : (if b = true then Q (.bl c) else Q (.bl false)) = Q (.bl (b && c)) := by cases b <;> rfl
theorem nd_q {Q : D → Prop} {b : Bool} {p : Prop} : (if (!b) = true then Q (.bl false) else p) = if b = true then p else Q (.bl false) := by cases b <;> simp
theorem wordOf_h (a : D) (ws : List D) : isWordOf a (.tup ws) = .bl (inH a ws) := by cases a <;> rfl
theorem paper_eq (d : D) : (match d with | .tup ds => plainD 40 d | x => false) = isPaper d := by cases d <;> rfl
theorem cw_story {a b c d : D} : claimW (Str.ofString "story") [a, b, c, d] = (inH a harmsD && (isStart b && (isNumber c && areEvents d))) := by
  unfold claimW
  rw [if_pos rfl]
theorem cx_story {vs : List D} (h : ¬ vs.length = 4) : claimW (Str.ofString "story") vs = false := by
  unfold claimW
  rw [if_pos rfl]
  rcases vs with _ | ⟨a, _ | ⟨b, _ | ⟨c, _ | ⟨d, _ | ⟨e, r⟩⟩⟩⟩⟩ <;> first | rfl | exact absurd rfl h
theorem cw_alike {a b c d : D} : claimW (Str.ofString "alike") [a, b, c, d] = (isStart a && (isNumber b && (areEvents c && areEvents d))) := by
  unfold claimW
  rw [if_neg (by decide), if_pos rfl]
theorem cx_alike {vs : List D} (h : ¬ vs.length = 4) : claimW (Str.ofString "alike") vs = false := by
  unfold claimW
  rw [if_neg (by decide), if_pos rfl]
  rcases vs with _ | ⟨a, _ | ⟨b, _ | ⟨c, _ | ⟨d, _ | ⟨e, r⟩⟩⟩⟩⟩ <;> first | rfl | exact absurd rfl h
theorem cw_clean {a b c : D} : claimW (Str.ofString "clean") [a, b, c] = (isNumber a && (isNumber b && isPaper c)) := by
  unfold claimW
  rw [if_neg (by decide), if_neg (by decide), if_pos rfl]
theorem cx_clean {vs : List D} (h : ¬ vs.length = 3) : claimW (Str.ofString "clean") vs = false := by
  unfold claimW
  rw [if_neg (by decide), if_neg (by decide), if_pos rfl]
  rcases vs with _ | ⟨a, _ | ⟨b, _ | ⟨c, _ | ⟨e, r⟩⟩⟩⟩ <;> first | rfl | exact absurd rfl h
theorem cw_calm {a b : D} : claimW (Str.ofString "calm") [a, b] = (inH a calmD && isPaper b) := by
  unfold claimW
  rw [if_neg (by decide), if_neg (by decide), if_neg (by decide), if_pos rfl]
theorem cx_calm {vs : List D} (h : ¬ vs.length = 2) : claimW (Str.ofString "calm") vs = false := by
  unfold claimW
  rw [if_neg (by decide), if_neg (by decide), if_neg (by decide), if_pos rfl]
  rcases vs with _ | ⟨a, _ | ⟨b, _ | ⟨e, r⟩⟩⟩ <;> first | rfl | exact absurd rfl h
theorem cw_reads {a : D} : claimW (Str.ofString "reads") [a] = (isPaper a) := by
  unfold claimW
  rw [if_neg (by decide), if_neg (by decide), if_neg (by decide), if_neg (by decide), if_pos rfl]
theorem cx_reads {vs : List D} (h : ¬ vs.length = 1) : claimW (Str.ofString "reads") vs = false := by
  unfold claimW
  rw [if_neg (by decide), if_neg (by decide), if_neg (by decide), if_neg (by decide), if_pos rfl]
  rcases vs with _ | ⟨a, _ | ⟨e, r⟩⟩ <;> first | rfl | exact absurd rfl h
section
variable {P : Program} {w : World} {K : PySem.W.Frag} {mg : Str → Option Value} {base : Heap}
theorem ti_loop {tb : TDS} (x : Str) (hx : x.length ≤ 100000) (Z : DEnds)
    (hb : ∀ (Z : DEnds) (p : SV) (i : Nat) (acc : List D), i ≤ x.length → acc.length ≤ i →
      (match thingL 40 ((tl x).drop i) with
        | none => Z.rt .non
        | some (d, k) => if i + k = x.length then Z.rt (.lst (acc ++ [d]))
            else if ((tl x).drop (i + k)).take 1 = [32] then Z.nx [.d (.str x), .own (acc ++ [d]), .d (.int ((i + k + 1 : Nat) : Int)), .d (.tup [d, .int ((i + k : Nat) : Int)])] else Z.rt .non) →
      tb Z [.d (.str x), .own acc, .d (.int (i : Int)), p]) :
    ∀ (f i : Nat) (acc : List D) (p : SV), i ≤ x.length → acc.length ≤ i → x.length - i < f → Z.rt (resL (rowL (thingL 40) f ((tl x).drop i) acc)) → whileW (dTest (dC (.bl true))) tb f Z [.d (.str x), .own acc, .d (.int (i : Int)), p]
  | 0, i, acc, p, _, _, h, _ => by omega
  | f + 1, i, acc, p, hi, ha, hf, q => by
    unfold whileW
    refine ⟨true, rfl, Eq.mpr (if_pos rfl) ?_⟩
    refine hb _ p i acc hi ha ?_
    unfold rowL at q
    cases e : thingL 40 ((tl x).drop i) with
    | none =>
      simp only [e] at q
      exact q
    | some dk =>
      obtain ⟨d, k⟩ := dk
      obtain ⟨k1, k2⟩ := thingL_pos 40 _ d k e
      rw [List.length_drop, ← len_tl] at k2
      simp only [e, List.drop_drop, List.length_drop, ← len_tl] at q
      show if _ then _ else _
      by_cases z : i + k = x.length
      · rw [if_pos (by omega)] at q
        rw [if_pos z]
        exact q
      · rw [if_neg (by omega)] at q
        rw [if_neg z]
        by_cases y : ((tl x).drop (i + k)).take 1 = [32]
        · rw [if_pos y] at q ⊢
          refine ti_loop x hx Z hb f (i + k + 1) (acc ++ [d]) _ (by omega) (by rw [List.length_append]; simp; omega) (by omega) ?_
          have e2 : i + (k + 1) = i + k + 1 := by omega
          rw [e2] at q
          exact q
        · rw [if_neg y] at q ⊢
          exact q
theorem ok_things_in (T : Tx K mg w) : FnOk P w K mg base CX0 90 T.a_things_in T.f_things_in ["text"] (spD K bx0 (RF1 (fun a => ∃ x : Str, a = .str x ∧ x.length ≤ 100000 ∧ Runs (tl x)) fun a => match a with | .str x => resL (thingsL (tl x)) | _ => .non)) := by
  have G_thing_at := ok_thing (P := P) (base := base) T 41
  refine okD T.F_things_in sc_things_in lenF1 (fun cdv A outer s H E e heb hr => ⟨_, (db_cons (ds_parF 1 2 rfl sc_things_in.nd (df_lst da_nil) de_int) (db_one (ds_while PassesOwn.never (dt_val de_bl) (db_cons (ds_set 3 sc_things_in.nd (de_call (.inl rfl) (moTh _) G_thing_at (Room.mono hr (by first | decide | omega)) T.g_thing_at T.F_thing_at.kp T.bd_thing_at T.v_thing_at T.r_thing_at pass0 (da_cons (de_var 0) (da_cons (de_var 2) da_nil)))) (db_cons (ds_if (dt_cmp L_isN op_isN (de_var 3) de_non) (db_one (ds_ret de_non)) db_nil) (db_cons (ds_app 1 (de_ix L_ix ix_seq (de_var 3) de_int)) (db_cons (ds_set 2 sc_things_in.nd (de_ix L_ix ix_seq (de_var 3) de_int)) (db_cons (ds_if (dt_cmp L_eqS op_eq (de_var 2) (de_callB L_len call_len T.n_len PySem.boot_len (da_cons (de_var 0) da_nil))) (db_one (ds_frz 1 (ds_ret (de_var 1)))) db_nil) (db_cons (ds_if (dt_cmp L_neS op_ne (de_ix L_ix ix_seq (de_var 0) (de_var 2)) de_str) (db_one (ds_ret de_non)) db_nil) (db_one (ds_aug 2 sc_things_in.nd ip_add de_int))))))))))), fun ds Q h => ?_⟩)
  obtain ⟨a, rfl, ⟨x, rfl, hx, hR⟩, q⟩ := h
  have hz : x.length ≤ sizeLine := sz5 hx
  simp only [dSeq, dIfS, dRet, dRetN, dDrop, dAsg, dAsgF, dApp, dAug, dPar, dPar2, dFrz, dNext, dC, dOp, dTest, dChain, dUn, dtAnd, dtOr, dtNot, dAndV, dOrV, dNotV, dIf, dNil, dCons, dStar, dTup, dLst, dFz, dCall, dCB, dSl, dNoPart, dPart, dM1, dBM, dFmt, dJ3, dSq, dVar, startD,
    List.map_cons, List.map_nil, List.length_cons, List.length_nil, List.nil_append, List.cons_append, List.append_nil, List.replicate_succ, List.replicate_zero, List.getElem?_cons_zero, List.getElem?_cons_succ, List.set_cons_zero, List.set_cons_succ, Nat.reduceAdd, Nat.reduceSub,
    isi_non_int, isi_non_bool, isi_non_str, isi_non_tup, isi_bl_int, isi_bl_bool, isi_bl_str, isi_bl_tup, isi_int_int, isi_int_bool, isi_int_str, isi_int_tup, isi_str_int, isi_str_bool, isi_str_str, isi_str_tup, isi_lst_int, isi_lst_bool, isi_lst_str, isi_lst_tup, isi_tup_int, isi_tup_bool, isi_tup_str, isi_tup_tup,
    isN_non, noN_non, isN_bl, noN_bl, isN_int, noN_int, isN_str, noN_str, isN_lst, noN_lst, isN_tup, noN_tup,
    eq_ss, ne_ss, eq_ii, ne_ii, ne_si, len_str', len_tup', len_lst', add_ii, sub_ii, lt_ii, le_ii, gt_ii, ge_ii, ex_bl, ex_int, ex_str, ex_sv, ex_own, all_of, Bool.not_true, Bool.not_false, Bool.false_eq_true, reduceIte, ix_lst, ix_tup', ix_str', sign_of, slS hz]
  have q' : Q (resL (rowL (thingL 40) (x.length - 0 + 1) ((tl x).drop 0) [])) := by
    have e : (tl x).length + 1 = x.length - 0 + 1 := by rw [← len_tl]; rfl
    have q0 : Q (resL (rowL (thingL 40) ((tl x).length + 1) (tl x) [])) := q
    rw [e] at q0
    exact q0
  refine ⟨by decide, x.length - 0 + 1, ti_loop x hx _ (fun Z p j acc hj ha hq => ?_) (x.length - 0 + 1) 0 [] .un (Nat.zero_le _) (Nat.le_refl _) (by omega) q'⟩
  simp only [dSeq, dIfS, dRet, dRetN, dDrop, dAsg, dAsgF, dApp, dAug, dPar, dPar2, dFrz, dNext, dC, dOp, dTest, dChain, dUn, dtAnd, dtOr, dtNot, dAndV, dOrV, dNotV, dIf, dNil, dCons, dStar, dTup, dLst, dFz, dCall, dCB, dSl, dNoPart, dPart, dM1, dBM, dFmt, dJ3, dSq, dVar, startD,
    List.map_cons, List.map_nil, List.length_cons, List.length_nil, List.nil_append, List.cons_append, List.append_nil, List.replicate_succ, List.replicate_zero, List.getElem?_cons_zero, List.getElem?_cons_succ, List.set_cons_zero, List.set_cons_succ, Nat.reduceAdd, Nat.reduceSub,
    isi_non_int, isi_non_bool, isi_non_str, isi_non_tup, isi_bl_int, isi_bl_bool, isi_bl_str, isi_bl_tup, isi_int_int, isi_int_bool, isi_int_str, isi_int_tup, isi_str_int, isi_str_bool, isi_str_str, isi_str_tup, isi_lst_int, isi_lst_bool, isi_lst_str, isi_lst_tup, isi_tup_int, isi_tup_bool, isi_tup_str, isi_tup_tup,
    isN_non, noN_non, isN_bl, noN_bl, isN_int, noN_int, isN_str, noN_str, isN_lst, noN_lst, isN_tup, noN_tup,
    eq_ss, ne_ss, eq_ii, ne_ii, ne_si, len_str', len_tup', len_lst', add_ii, sub_ii, lt_ii, le_ii, gt_ii, ge_ii, ex_bl, ex_int, ex_str, ex_sv, ex_own, all_of, Bool.not_true, Bool.not_false, Bool.false_eq_true, reduceIte, ix_lst, ix_tup', ix_str', sign_of, slS hz]
  refine rTh hj hx hR (Nat.le_refl 40) ?_
  cases et : thingL 40 ((tl x).drop j) with
  | none =>
    rw [et] at hq
    rw [resD_none, isN_non]
    refine ⟨_, rfl, ?_⟩
    rw [if_pos rfl]
    exact hq
  | some dk =>
    obtain ⟨d, k⟩ := dk
    obtain ⟨k1, k2⟩ := thingL_pos 40 _ d k et
    rw [List.length_drop, ← len_tl] at k2
    rw [et] at hq
    rw [resD_some, isN_tup]
    refine ⟨_, rfl, ?_⟩
    rw [if_neg Bool.false_ne_true]
    simp only [dSeq, dIfS, dRet, dRetN, dDrop, dAsg, dAsgF, dApp, dAug, dPar, dPar2, dFrz, dNext, dC, dOp, dTest, dChain, dUn, dtAnd, dtOr, dtNot, dAndV, dOrV, dNotV, dIf, dNil, dCons, dStar, dTup, dLst, dFz, dCall, dCB, dSl, dNoPart, dPart, dM1, dBM, dFmt, dJ3, dSq, dVar, startD,
    List.map_cons, List.map_nil, List.length_cons, List.length_nil, List.nil_append, List.cons_append, List.append_nil, List.replicate_succ, List.replicate_zero, List.getElem?_cons_zero, List.getElem?_cons_succ, List.set_cons_zero, List.set_cons_succ, Nat.reduceAdd, Nat.reduceSub,
    isi_non_int, isi_non_bool, isi_non_str, isi_non_tup, isi_bl_int, isi_bl_bool, isi_bl_str, isi_bl_tup, isi_int_int, isi_int_bool, isi_int_str, isi_int_tup, isi_str_int, isi_str_bool, isi_str_str, isi_str_tup, isi_lst_int, isi_lst_bool, isi_lst_str, isi_lst_tup, isi_tup_int, isi_tup_bool, isi_tup_str, isi_tup_tup,
    isN_non, noN_non, isN_bl, noN_bl, isN_int, noN_int, isN_str, noN_str, isN_lst, noN_lst, isN_tup, noN_tup,
    eq_ss, ne_ss, eq_ii, ne_ii, ne_si, len_str', len_tup', len_lst', add_ii, sub_ii, lt_ii, le_ii, gt_ii, ge_ii, ex_bl, ex_int, ex_str, ex_sv, ex_own, all_of, Bool.not_true, Bool.not_false, Bool.false_eq_true, reduceIte, ix_lst, ix_tup', ix_str', sign_of, slS hz]
    refine ⟨d, atI_nat (j := 0) rfl, by have := sz5 (n := acc.length + 1) (by omega); omega, .int ((j + k : Nat) : Int), atI_nat (j := 1) rfl, ?_⟩
    simp only [dSeq, dIfS, dRet, dRetN, dDrop, dAsg, dAsgF, dApp, dAug, dPar, dPar2, dFrz, dNext, dC, dOp, dTest, dChain, dUn, dtAnd, dtOr, dtNot, dAndV, dOrV, dNotV, dIf, dNil, dCons, dStar, dTup, dLst, dFz, dCall, dCB, dSl, dNoPart, dPart, dM1, dBM, dFmt, dJ3, dSq, dVar, startD,
    List.map_cons, List.map_nil, List.length_cons, List.length_nil, List.nil_append, List.cons_append, List.append_nil, List.replicate_succ, List.replicate_zero, List.getElem?_cons_zero, List.getElem?_cons_succ, List.set_cons_zero, List.set_cons_succ, Nat.reduceAdd, Nat.reduceSub,
    isi_non_int, isi_non_bool, isi_non_str, isi_non_tup, isi_bl_int, isi_bl_bool, isi_bl_str, isi_bl_tup, isi_int_int, isi_int_bool, isi_int_str, isi_int_tup, isi_str_int, isi_str_bool, isi_str_str, isi_str_tup, isi_lst_int, isi_lst_bool, isi_lst_str, isi_lst_tup, isi_tup_int, isi_tup_bool, isi_tup_str, isi_tup_tup,
    isN_non, noN_non, isN_bl, noN_bl, isN_int, noN_int, isN_str, noN_str, isN_lst, noN_lst, isN_tup, noN_tup,
    eq_ss, ne_ss, eq_ii, ne_ii, ne_si, len_str', len_tup', len_lst', add_ii, sub_ii, lt_ii, le_ii, gt_ii, ge_ii, ex_bl, ex_int, ex_str, ex_sv, ex_own, all_of, Bool.not_true, Bool.not_false, Bool.false_eq_true, reduceIte, ix_lst, ix_tup', ix_str', sign_of, slS hz]
    by_cases z1 : j + k = x.length
    · rw [if_pos (by rw [z1]; simp)]
      simp only [z1, if_true] at hq
      exact ⟨hz, hq⟩
    · rw [if_neg (by simp; omega)]
      simp only [z1, if_false] at hq
      have hlt : j + k < (tl x).length := by rw [← len_tl]; omega
      have hget : (tl x)[j + k]? = some (tl x)[j + k] := List.getElem?_eq_getElem hlt
      have htk : ((tl x).drop (j + k)).take 1 = [(tl x)[j + k]] := by
        rw [List.drop_eq_getElem_cons hlt]; rfl
      rw [htk] at hq
      refine ⟨hz, _, atI_nat (j := j + k) hget, hz, ?_⟩
      have e3 : decide ((⟨#[(tl x)[j + k]]⟩ : Str) = Str.ofString " ") = decide ([(tl x)[j + k]] = [32]) := dec_lit (l := [(tl x)[j + k]]) " " rfl
      rw [e3]
      by_cases z2 : [(tl x)[j + k]] = [32]
      · rw [decide_eq_true z2, if_neg (by decide)]
        rw [if_pos z2] at hq
        refine ⟨_, rfl, ?_⟩
        rw [i1]
        exact hq
      · rw [decide_eq_false z2, if_pos (by decide)]
        rw [if_neg z2] at hq
        exact hq
theorem ok_is_claim (T : Tx K mg w) : FnOk P w K mg base CX0 45 T.a_is_claim T.f_is_claim ["value"] (spD K bx0 (RF1 (fun a => okd a = true) fun a => .bl (isClaim a))) := by
  have G_is_name := ok_is_name (P := P) (base := base) T
  have G_is_word_of := ok_is_word_of (P := P) (base := base) T
  have G_is_start := ok_is_start (P := P) (base := base) T
  have G_is_number := ok_is_number (P := P) (base := base) T
  have G_are_events := ok_are_events (P := P) (base := base) T
  have G_is_paper := ok_is_paper (P := P) (base := base) T
  refine okD T.F_is_claim sc_is_claim lenF1 (fun cdv A outer s H E e heb hr => ⟨_, (db_cons (ds_if (DW_.t (dw_or (dt_not (dt_val (de_callB L_isi call_isi T.n_isinstance (by decide +kernel) (da_cons (de_var 0) (da_cons (de_ty (T := "tuple") T.n_tuple (by decide +kernel)) da_nil))))) (dw_or (dt_cmp L_lt op_lt (de_callB L_len call_len T.n_len PySem.boot_len (da_cons (de_var 0) da_nil)) de_int) (dw_or (dt_not (dt_val (de_callB L_isi call_isi T.n_isinstance (by decide +kernel) (da_cons (de_ix L_ix ix_seq (de_var 0) de_int) (da_cons (de_ty (T := "str") T.n_str (by decide +kernel)) da_nil))))) (dw_or1 (dt_ninD T.d_WIDTHS (de_ix L_ix ix_seq (de_var 0) de_int))))))) (db_one (ds_ret de_bl)) db_nil) (db_cons (ds_if (DW_.t (dw_or (dt_cmp L_neS op_ne (de_callB L_len call_len T.n_len PySem.boot_len (da_cons (de_var 0) da_nil)) (de_getD T.d_WIDTHS (de_ix L_ix ix_seq (de_var 0) de_int))) (dw_or1 (dt_not (dt_val (de_call (.inl rfl) moF1 G_is_name (Room.mono hr (by first | decide | omega)) T.g_is_name T.F_is_name.kp T.b_is_name .nil (fun _ => .nil) pass0 (da_cons (de_ix L_ix ix_seq (de_var 0) de_int) da_nil))))))) (db_one (ds_ret de_bl)) db_nil) (db_cons (ds_match (de_ix L_ix ix_seq (de_var 0) de_int) (dm_str (db_one (ds_ret (de_and (de_call (.inl rfl) moF2 G_is_word_of (Room.mono hr (by first | decide | omega)) T.g_is_word_of T.F_is_word_of.kp T.b_is_word_of .nil (fun _ => .nil) pass0 (da_cons (de_ix L_ix ix_seq (de_var 0) de_int) (da_cons (GC.de T.k_HARMS) da_nil))) (de_and (de_call (.inl rfl) moF1 G_is_start (Room.mono hr (by first | decide | omega)) T.g_is_start T.F_is_start.kp T.b_is_start .nil (fun _ => .nil) pass0 (da_cons (de_ix L_ix ix_seq (de_var 0) de_int) da_nil)) (de_and (de_call (.inl rfl) moF1 G_is_number (Room.mono hr (by first | decide | omega)) T.g_is_number T.F_is_number.kp T.b_is_number .nil (fun _ => .nil) pass0 (da_cons (de_ix L_ix ix_seq (de_var 0) de_int) da_nil)) (de_one (de_call (.inl rfl) moF1 G_are_events (Room.mono hr (by first | decide | omega)) T.g_are_events T.F_are_events.kp T.b_are_events .nil (fun _ => .nil) pass0 (da_cons (de_ix L_ix ix_seq (de_var 0) de_int) da_nil)))))))) (dm_str (db_one (ds_ret (de_and (de_call (.inl rfl) moF1 G_is_start (Room.mono hr (by first | decide | omega)) T.g_is_start T.F_is_start.kp T.b_is_start .nil (fun _ => .nil) pass0 (da_cons (de_ix L_ix ix_seq (de_var 0) de_int) da_nil)) (de_and (de_call (.inl rfl) moF1 G_is_number (Room.mono hr (by first | decide | omega)) T.g_is_number T.F_is_number.kp T.b_is_number .nil (fun _ => .nil) pass0 (da_cons (de_ix L_ix ix_seq (de_var 0) de_int) da_nil)) (de_and (de_call (.inl rfl) moF1 G_are_events (Room.mono hr (by first | decide | omega)) T.g_are_events T.F_are_events.kp T.b_are_events .nil (fun _ => .nil) pass0 (da_cons (de_ix L_ix ix_seq (de_var 0) de_int) da_nil)) (de_one (de_call (.inl rfl) moF1 G_are_events (Room.mono hr (by first | decide | omega)) T.g_are_events T.F_are_events.kp T.b_are_events .nil (fun _ => .nil) pass0 (da_cons (de_ix L_ix ix_seq (de_var 0) de_int) da_nil)))))))) (dm_str (db_one (ds_ret (de_and (de_call (.inl rfl) moF1 G_is_number (Room.mono hr (by first | decide | omega)) T.g_is_number T.F_is_number.kp T.b_is_number .nil (fun _ => .nil) pass0 (da_cons (de_ix L_ix ix_seq (de_var 0) de_int) da_nil)) (de_and (de_call (.inl rfl) moF1 G_is_number (Room.mono hr (by first | decide | omega)) T.g_is_number T.F_is_number.kp T.b_is_number .nil (fun _ => .nil) pass0 (da_cons (de_ix L_ix ix_seq (de_var 0) de_int) da_nil)) (de_one (de_call (.inl rfl) moF1 G_is_paper (Room.mono hr (by first | decide | omega)) T.g_is_paper T.F_is_paper.kp T.b_is_paper .nil (fun _ => .nil) pass0 (da_cons (de_ix L_ix ix_seq (de_var 0) de_int) da_nil))))))) (dm_str (db_one (ds_ret (de_and (de_call (.inl rfl) moF2 G_is_word_of (Room.mono hr (by first | decide | omega)) T.g_is_word_of T.F_is_word_of.kp T.b_is_word_of .nil (fun _ => .nil) pass0 (da_cons (de_ix L_ix ix_seq (de_var 0) de_int) (da_cons (GC.de T.k_CALM) da_nil))) (de_one (de_call (.inl rfl) moF1 G_is_paper (Room.mono hr (by first | decide | omega)) T.g_is_paper T.F_is_paper.kp T.b_is_paper .nil (fun _ => .nil) pass0 (da_cons (de_ix L_ix ix_seq (de_var 0) de_int) da_nil)))))) dm_nil))))) (db_one (ds_ret (de_call (.inl rfl) moF1 G_is_paper (Room.mono hr (by first | decide | omega)) T.g_is_paper T.F_is_paper.kp T.b_is_paper .nil (fun _ => .nil) pass0 (da_cons (de_ix L_ix ix_seq (de_var 0) de_int) da_nil))))))), fun ds Q h => ?_⟩)
  obtain ⟨a, rfl, h, q⟩ := h
  have q' : Q (.bl (isClaim a)) := q
  clear q
  cases a with
  | tup ds =>
    obtain ⟨hz, ho⟩ := okd_tup h
    cases ds with
    | nil => simp only [dSeq, dIfS, dRet, dRetN, dDrop, dAsg, dAsgF, dApp, dAug, dPar, dPar2, dFrz, dNext, dC, dOp, dTest, dChain, dUn, dtAnd, dtOr, dtNot, dAndV, dOrV, dNotV, dIf, dNil, dCons, dStar, dTup, dLst, dFz, dCall, dCB, dSl, dNoPart, dPart, dM1, dBM, dFmt, dJ3, dSq, dVar, startD,
    List.map_cons, List.map_nil, List.length_cons, List.length_nil, List.nil_append, List.cons_append, List.append_nil, List.replicate_succ, List.replicate_zero, List.getElem?_cons_zero, List.getElem?_cons_succ, List.set_cons_zero, List.set_cons_succ, Nat.reduceAdd, Nat.reduceSub,
    isi_non_int, isi_non_bool, isi_non_str, isi_non_tup, isi_bl_int, isi_bl_bool, isi_bl_str, isi_bl_tup, isi_int_int, isi_int_bool, isi_int_str, isi_int_tup, isi_str_int, isi_str_bool, isi_str_str, isi_str_tup, isi_lst_int, isi_lst_bool, isi_lst_str, isi_lst_tup, isi_tup_int, isi_tup_bool, isi_tup_str, isi_tup_tup,
    isN_non, noN_non, isN_bl, noN_bl, isN_int, noN_int, isN_str, noN_str, isN_lst, noN_lst, isN_tup, noN_tup,
    eq_ss, ne_ss, eq_ii, ne_ii, ne_si, len_str', len_tup', len_lst', add_ii, sub_ii, lt_ii, le_ii, gt_ii, ge_ii, ex_bl, ex_int, ex_str, ex_sv, ex_own, all_of, Bool.not_true, Bool.not_false, Bool.false_eq_true, reduceIte, ix_lst, ix_str', sign_of, ix0, ix1, ix2, ix3, ix4, ix5]; exact q'
    | cons t ds =>
    cases ds with
    | nil => simp only [dSeq, dIfS, dRet, dRetN, dDrop, dAsg, dAsgF, dApp, dAug, dPar, dPar2, dFrz, dNext, dC, dOp, dTest, dChain, dUn, dtAnd, dtOr, dtNot, dAndV, dOrV, dNotV, dIf, dNil, dCons, dStar, dTup, dLst, dFz, dCall, dCB, dSl, dNoPart, dPart, dM1, dBM, dFmt, dJ3, dSq, dVar, startD,
    List.map_cons, List.map_nil, List.length_cons, List.length_nil, List.nil_append, List.cons_append, List.append_nil, List.replicate_succ, List.replicate_zero, List.getElem?_cons_zero, List.getElem?_cons_succ, List.set_cons_zero, List.set_cons_succ, Nat.reduceAdd, Nat.reduceSub,
    isi_non_int, isi_non_bool, isi_non_str, isi_non_tup, isi_bl_int, isi_bl_bool, isi_bl_str, isi_bl_tup, isi_int_int, isi_int_bool, isi_int_str, isi_int_tup, isi_str_int, isi_str_bool, isi_str_str, isi_str_tup, isi_lst_int, isi_lst_bool, isi_lst_str, isi_lst_tup, isi_tup_int, isi_tup_bool, isi_tup_str, isi_tup_tup,
    isN_non, noN_non, isN_bl, noN_bl, isN_int, noN_int, isN_str, noN_str, isN_lst, noN_lst, isN_tup, noN_tup,
    eq_ss, ne_ss, eq_ii, ne_ii, ne_si, len_str', len_tup', len_lst', add_ii, sub_ii, lt_ii, le_ii, gt_ii, ge_ii, ex_bl, ex_int, ex_str, ex_sv, ex_own, all_of, Bool.not_true, Bool.not_false, Bool.false_eq_true, reduceIte, ix_lst, ix_str', sign_of, ix0, ix1, ix2, ix3, ix4, ix5]; cases t <;> exact q'
    | cons nm vs =>
      have ot := okA_mem ho (List.mem_cons_self ..)
      have on := okA_mem ho (List.mem_cons_of_mem _ (List.mem_cons_self ..))
      have ov : ∀ d ∈ vs, okd d = true := fun d hd => okA_mem ho (List.mem_cons_of_mem _ (List.mem_cons_of_mem _ hd))
      have e2 : decide (((vs.length + 1 + 1 : Nat) : Int) < 2) = false := decide_eq_false (by omega)
      cases t with
      | str t =>
        simp only [dSeq, dIfS, dRet, dRetN, dDrop, dAsg, dAsgF, dApp, dAug, dPar, dPar2, dFrz, dNext, dC, dOp, dTest, dChain, dUn, dtAnd, dtOr, dtNot, dAndV, dOrV, dNotV, dIf, dNil, dCons, dStar, dTup, dLst, dFz, dCall, dCB, dSl, dNoPart, dPart, dM1, dBM, dFmt, dJ3, dSq, dVar, startD,
    List.map_cons, List.map_nil, List.length_cons, List.length_nil, List.nil_append, List.cons_append, List.append_nil, List.replicate_succ, List.replicate_zero, List.getElem?_cons_zero, List.getElem?_cons_succ, List.set_cons_zero, List.set_cons_succ, Nat.reduceAdd, Nat.reduceSub,
    isi_non_int, isi_non_bool, isi_non_str, isi_non_tup, isi_bl_int, isi_bl_bool, isi_bl_str, isi_bl_tup, isi_int_int, isi_int_bool, isi_int_str, isi_int_tup, isi_str_int, isi_str_bool, isi_str_str, isi_str_tup, isi_lst_int, isi_lst_bool, isi_lst_str, isi_lst_tup, isi_tup_int, isi_tup_bool, isi_tup_str, isi_tup_tup,
    isN_non, noN_non, isN_bl, noN_bl, isN_int, noN_int, isN_str, noN_str, isN_lst, noN_lst, isN_tup, noN_tup,
    eq_ss, ne_ss, eq_ii, ne_ii, ne_si, len_str', len_tup', len_lst', add_ii, sub_ii, lt_ii, le_ii, gt_ii, ge_ii, ex_bl, ex_int, ex_str, ex_sv, ex_own, all_of, Bool.not_true, Bool.not_false, Bool.false_eq_true, reduceIte, ix_lst, ix_str', sign_of, ix0, ix1, ix2, ix3, ix4, ix5, rf1, e2]
        have q2 : Q (.bl (isName nm && claimW t vs)) := q'
        clear q' ho
        simp only [rdInD, rdGetD, dMatch, dCase]
        simp only [dSeq, dIfS, dRet, dRetN, dDrop, dAsg, dAsgF, dApp, dAug, dPar, dPar2, dFrz, dNext, dC, dOp, dTest, dChain, dUn, dtAnd, dtOr, dtNot, dAndV, dOrV, dNotV, dIf, dNil, dCons, dStar, dTup, dLst, dFz, dCall, dCB, dSl, dNoPart, dPart, dM1, dBM, dFmt, dJ3, dSq, dVar, startD,
    List.map_cons, List.map_nil, List.length_cons, List.length_nil, List.nil_append, List.cons_append, List.append_nil, List.replicate_succ, List.replicate_zero, List.getElem?_cons_zero, List.getElem?_cons_succ, List.set_cons_zero, List.set_cons_succ, Nat.reduceAdd, Nat.reduceSub,
    isi_non_int, isi_non_bool, isi_non_str, isi_non_tup, isi_bl_int, isi_bl_bool, isi_bl_str, isi_bl_tup, isi_int_int, isi_int_bool, isi_int_str, isi_int_tup, isi_str_int, isi_str_bool, isi_str_str, isi_str_tup, isi_lst_int, isi_lst_bool, isi_lst_str, isi_lst_tup, isi_tup_int, isi_tup_bool, isi_tup_str, isi_tup_tup,
    isN_non, noN_non, isN_bl, noN_bl, isN_int, noN_int, isN_str, noN_str, isN_lst, noN_lst, isN_tup, noN_tup,
    eq_ss, ne_ss, eq_ii, ne_ii, ne_si, len_str', len_tup', len_lst', add_ii, sub_ii, lt_ii, le_ii, gt_ii, ge_ii, ex_bl, ex_int, ex_str, ex_sv, ex_own, all_of, Bool.not_true, Bool.not_false, Bool.false_eq_true, reduceIte, ix_lst, ix_str', sign_of, ix0, ix1, ix2, ix3, ix4, ix5, rf1, paper_eq]
        by_cases z0 : t = Str.ofString "story"
        · subst z0
          rw [lk_story]
          rw [if_neg (by decide)]
          refine ⟨_, _, rfl, rfl, ?_⟩
          rw [ne_ii, ex_bl]
          by_cases hl : vs.length = 4
          · rcases vs with _ | ⟨a, _ | ⟨b, _ | ⟨c, _ | ⟨d, _ | ⟨e, r⟩⟩⟩⟩⟩ <;> try (exfalso; simp only [List.length_cons, List.length_nil] at hl; omega)
            have oa := ov a (by simp)
            have ob := ov b (by simp)
            have oc := ov c (by simp)
            have od := ov d (by simp)
            rw [if_neg (by simp)]
            refine ⟨okd_short on, ?_⟩
            rw [if_pos (rfl : Str.ofString "story" = Str.ofString "story")]
            rw [cw_story] at q2
            simp only [dSeq, dIfS, dRet, dRetN, dDrop, dAsg, dAsgF, dApp, dAug, dPar, dPar2, dFrz, dNext, dC, dOp, dTest, dChain, dUn, dtAnd, dtOr, dtNot, dAndV, dOrV, dNotV, dIf, dNil, dCons, dStar, dTup, dLst, dFz, dCall, dCB, dSl, dNoPart, dPart, dM1, dBM, dFmt, dJ3, dSq, dVar, startD,
    List.map_cons, List.map_nil, List.length_cons, List.length_nil, List.nil_append, List.cons_append, List.append_nil, List.replicate_succ, List.replicate_zero, List.getElem?_cons_zero, List.getElem?_cons_succ, List.set_cons_zero, List.set_cons_succ, Nat.reduceAdd, Nat.reduceSub,
    isi_non_int, isi_non_bool, isi_non_str, isi_non_tup, isi_bl_int, isi_bl_bool, isi_bl_str, isi_bl_tup, isi_int_int, isi_int_bool, isi_int_str, isi_int_tup, isi_str_int, isi_str_bool, isi_str_str, isi_str_tup, isi_lst_int, isi_lst_bool, isi_lst_str, isi_lst_tup, isi_tup_int, isi_tup_bool, isi_tup_str, isi_tup_tup,
    isN_non, noN_non, isN_bl, noN_bl, isN_int, noN_int, isN_str, noN_str, isN_lst, noN_lst, isN_tup, noN_tup,
    eq_ss, ne_ss, eq_ii, ne_ii, ne_si, len_str', len_tup', len_lst', add_ii, sub_ii, lt_ii, le_ii, gt_ii, ge_ii, ex_bl, ex_int, ex_str, ex_sv, ex_own, all_of, Bool.not_true, Bool.not_false, Bool.false_eq_true, reduceIte, ix_lst, ix_str', sign_of, ix0, ix1, ix2, ix3, ix4, ix5, dCase, rf1, rf2, paper_eq, oa, okd_raw oa, ob, okd_raw ob, oc, okd_raw oc, od, okd_raw od, true_and, and_q, nd_q, wordOf_h, and_self]
            first | exact q2 | (cases hnm : isName nm with | false => (rw [hnm] at q2; rw [if_neg Bool.false_ne_true]; exact q2) | true => (rw [hnm] at q2; rw [if_pos rfl]; exact ⟨⟨_, rfl, rfl⟩, q2⟩))
          · rw [if_pos (by simp; omega)]
            rw [cx_story hl, Bool.and_false] at q2
            exact q2
        by_cases z1 : t = Str.ofString "alike"
        · subst z1
          rw [lk_alike]
          rw [if_neg (by decide)]
          refine ⟨_, _, rfl, rfl, ?_⟩
          rw [ne_ii, ex_bl]
          by_cases hl : vs.length = 4
          · rcases vs with _ | ⟨a, _ | ⟨b, _ | ⟨c, _ | ⟨d, _ | ⟨e, r⟩⟩⟩⟩⟩ <;> try (exfalso; simp only [List.length_cons, List.length_nil] at hl; omega)
            have oa := ov a (by simp)
            have ob := ov b (by simp)
            have oc := ov c (by simp)
            have od := ov d (by simp)
            rw [if_neg (by simp)]
            refine ⟨okd_short on, ?_⟩
            rw [if_neg (by decide : ¬ Str.ofString "alike" = Str.ofString "story"), if_pos (rfl : Str.ofString "alike" = Str.ofString "alike")]
            rw [cw_alike] at q2
            simp only [dSeq, dIfS, dRet, dRetN, dDrop, dAsg, dAsgF, dApp, dAug, dPar, dPar2, dFrz, dNext, dC, dOp, dTest, dChain, dUn, dtAnd, dtOr, dtNot, dAndV, dOrV, dNotV, dIf, dNil, dCons, dStar, dTup, dLst, dFz, dCall, dCB, dSl, dNoPart, dPart, dM1, dBM, dFmt, dJ3, dSq, dVar, startD,
    List.map_cons, List.map_nil, List.length_cons, List.length_nil, List.nil_append, List.cons_append, List.append_nil, List.replicate_succ, List.replicate_zero, List.getElem?_cons_zero, List.getElem?_cons_succ, List.set_cons_zero, List.set_cons_succ, Nat.reduceAdd, Nat.reduceSub,
    isi_non_int, isi_non_bool, isi_non_str, isi_non_tup, isi_bl_int, isi_bl_bool, isi_bl_str, isi_bl_tup, isi_int_int, isi_int_bool, isi_int_str, isi_int_tup, isi_str_int, isi_str_bool, isi_str_str, isi_str_tup, isi_lst_int, isi_lst_bool, isi_lst_str, isi_lst_tup, isi_tup_int, isi_tup_bool, isi_tup_str, isi_tup_tup,
    isN_non, noN_non, isN_bl, noN_bl, isN_int, noN_int, isN_str, noN_str, isN_lst, noN_lst, isN_tup, noN_tup,
    eq_ss, ne_ss, eq_ii, ne_ii, ne_si, len_str', len_tup', len_lst', add_ii, sub_ii, lt_ii, le_ii, gt_ii, ge_ii, ex_bl, ex_int, ex_str, ex_sv, ex_own, all_of, Bool.not_true, Bool.not_false, Bool.false_eq_true, reduceIte, ix_lst, ix_str', sign_of, ix0, ix1, ix2, ix3, ix4, ix5, dCase, rf1, rf2, paper_eq, oa, okd_raw oa, ob, okd_raw ob, oc, okd_raw oc, od, okd_raw od, true_and, and_q, nd_q, wordOf_h, and_self]
            first | exact q2 | (cases hnm : isName nm with | false => (rw [hnm] at q2; rw [if_neg Bool.false_ne_true]; exact q2) | true => (rw [hnm] at q2; rw [if_pos rfl]; exact ⟨⟨_, rfl, rfl⟩, q2⟩))
          · rw [if_pos (by simp; omega)]
            rw [cx_alike hl, Bool.and_false] at q2
            exact q2
        by_cases z2 : t = Str.ofString "clean"
        · subst z2
          rw [lk_clean]
          rw [if_neg (by decide)]
          refine ⟨_, _, rfl, rfl, ?_⟩
          rw [ne_ii, ex_bl]
          by_cases hl : vs.length = 3
          · rcases vs with _ | ⟨a, _ | ⟨b, _ | ⟨c, _ | ⟨e, r⟩⟩⟩⟩ <;> try (exfalso; simp only [List.length_cons, List.length_nil] at hl; omega)
            have oa := ov a (by simp)
            have ob := ov b (by simp)
            have oc := ov c (by simp)
            rw [if_neg (by simp)]
            refine ⟨okd_short on, ?_⟩
            rw [if_neg (by decide : ¬ Str.ofString "clean" = Str.ofString "story"), if_neg (by decide : ¬ Str.ofString "clean" = Str.ofString "alike"), if_pos (rfl : Str.ofString "clean" = Str.ofString "clean")]
            rw [cw_clean] at q2
            simp only [dSeq, dIfS, dRet, dRetN, dDrop, dAsg, dAsgF, dApp, dAug, dPar, dPar2, dFrz, dNext, dC, dOp, dTest, dChain, dUn, dtAnd, dtOr, dtNot, dAndV, dOrV, dNotV, dIf, dNil, dCons, dStar, dTup, dLst, dFz, dCall, dCB, dSl, dNoPart, dPart, dM1, dBM, dFmt, dJ3, dSq, dVar, startD,
    List.map_cons, List.map_nil, List.length_cons, List.length_nil, List.nil_append, List.cons_append, List.append_nil, List.replicate_succ, List.replicate_zero, List.getElem?_cons_zero, List.getElem?_cons_succ, List.set_cons_zero, List.set_cons_succ, Nat.reduceAdd, Nat.reduceSub,
    isi_non_int, isi_non_bool, isi_non_str, isi_non_tup, isi_bl_int, isi_bl_bool, isi_bl_str, isi_bl_tup, isi_int_int, isi_int_bool, isi_int_str, isi_int_tup, isi_str_int, isi_str_bool, isi_str_str, isi_str_tup, isi_lst_int, isi_lst_bool, isi_lst_str, isi_lst_tup, isi_tup_int, isi_tup_bool, isi_tup_str, isi_tup_tup,
    isN_non, noN_non, isN_bl, noN_bl, isN_int, noN_int, isN_str, noN_str, isN_lst, noN_lst, isN_tup, noN_tup,
    eq_ss, ne_ss, eq_ii, ne_ii, ne_si, len_str', len_tup', len_lst', add_ii, sub_ii, lt_ii, le_ii, gt_ii, ge_ii, ex_bl, ex_int, ex_str, ex_sv, ex_own, all_of, Bool.not_true, Bool.not_false, Bool.false_eq_true, reduceIte, ix_lst, ix_str', sign_of, ix0, ix1, ix2, ix3, ix4, ix5, dCase, rf1, rf2, paper_eq, oa, okd_raw oa, ob, okd_raw ob, oc, okd_raw oc, true_and, and_q, nd_q, wordOf_h, and_self]
            first | exact q2 | (cases hnm : isName nm with | false => (rw [hnm] at q2; rw [if_neg Bool.false_ne_true]; exact q2) | true => (rw [hnm] at q2; rw [if_pos rfl]; exact ⟨⟨_, rfl, rfl⟩, q2⟩))
          · rw [if_pos (by simp; omega)]
            rw [cx_clean hl, Bool.and_false] at q2
            exact q2
        by_cases z3 : t = Str.ofString "calm"
        · subst z3
          rw [lk_calm]
          rw [if_neg (by decide)]
          refine ⟨_, _, rfl, rfl, ?_⟩
          rw [ne_ii, ex_bl]
          by_cases hl : vs.length = 2
          · rcases vs with _ | ⟨a, _ | ⟨b, _ | ⟨e, r⟩⟩⟩ <;> try (exfalso; simp only [List.length_cons, List.length_nil] at hl; omega)
            have oa := ov a (by simp)
            have ob := ov b (by simp)
            rw [if_neg (by simp)]
            refine ⟨okd_short on, ?_⟩
            rw [if_neg (by decide : ¬ Str.ofString "calm" = Str.ofString "story"), if_neg (by decide : ¬ Str.ofString "calm" = Str.ofString "alike"), if_neg (by decide : ¬ Str.ofString "calm" = Str.ofString "clean"), if_pos (rfl : Str.ofString "calm" = Str.ofString "calm")]
            rw [cw_calm] at q2
            simp only [dSeq, dIfS, dRet, dRetN, dDrop, dAsg, dAsgF, dApp, dAug, dPar, dPar2, dFrz, dNext, dC, dOp, dTest, dChain, dUn, dtAnd, dtOr, dtNot, dAndV, dOrV, dNotV, dIf, dNil, dCons, dStar, dTup, dLst, dFz, dCall, dCB, dSl, dNoPart, dPart, dM1, dBM, dFmt, dJ3, dSq, dVar, startD,
    List.map_cons, List.map_nil, List.length_cons, List.length_nil, List.nil_append, List.cons_append, List.append_nil, List.replicate_succ, List.replicate_zero, List.getElem?_cons_zero, List.getElem?_cons_succ, List.set_cons_zero, List.set_cons_succ, Nat.reduceAdd, Nat.reduceSub,
    isi_non_int, isi_non_bool, isi_non_str, isi_non_tup, isi_bl_int, isi_bl_bool, isi_bl_str, isi_bl_tup, isi_int_int, isi_int_bool, isi_int_str, isi_int_tup, isi_str_int, isi_str_bool, isi_str_str, isi_str_tup, isi_lst_int, isi_lst_bool, isi_lst_str, isi_lst_tup, isi_tup_int, isi_tup_bool, isi_tup_str, isi_tup_tup,
    isN_non, noN_non, isN_bl, noN_bl, isN_int, noN_int, isN_str, noN_str, isN_lst, noN_lst, isN_tup, noN_tup,
    eq_ss, ne_ss, eq_ii, ne_ii, ne_si, len_str', len_tup', len_lst', add_ii, sub_ii, lt_ii, le_ii, gt_ii, ge_ii, ex_bl, ex_int, ex_str, ex_sv, ex_own, all_of, Bool.not_true, Bool.not_false, Bool.false_eq_true, reduceIte, ix_lst, ix_str', sign_of, ix0, ix1, ix2, ix3, ix4, ix5, dCase, rf1, rf2, paper_eq, oa, okd_raw oa, ob, okd_raw ob, true_and, and_q, nd_q, wordOf_h, and_self]
            first | exact q2 | (cases hnm : isName nm with | false => (rw [hnm] at q2; rw [if_neg Bool.false_ne_true]; exact q2) | true => (rw [hnm] at q2; rw [if_pos rfl]; exact ⟨⟨_, rfl, rfl⟩, q2⟩))
          · rw [if_pos (by simp; omega)]
            rw [cx_calm hl, Bool.and_false] at q2
            exact q2
        by_cases z4 : t = Str.ofString "reads"
        · subst z4
          rw [lk_reads]
          rw [if_neg (by decide)]
          refine ⟨_, _, rfl, rfl, ?_⟩
          rw [ne_ii, ex_bl]
          by_cases hl : vs.length = 1
          · rcases vs with _ | ⟨a, _ | ⟨e, r⟩⟩ <;> try (exfalso; simp only [List.length_cons, List.length_nil] at hl; omega)
            have oa := ov a (by simp)
            rw [if_neg (by simp)]
            refine ⟨okd_short on, ?_⟩
            rw [if_neg (by decide : ¬ Str.ofString "reads" = Str.ofString "story"), if_neg (by decide : ¬ Str.ofString "reads" = Str.ofString "alike"), if_neg (by decide : ¬ Str.ofString "reads" = Str.ofString "clean"), if_neg (by decide : ¬ Str.ofString "reads" = Str.ofString "calm")]
            rw [cw_reads] at q2
            simp only [dSeq, dIfS, dRet, dRetN, dDrop, dAsg, dAsgF, dApp, dAug, dPar, dPar2, dFrz, dNext, dC, dOp, dTest, dChain, dUn, dtAnd, dtOr, dtNot, dAndV, dOrV, dNotV, dIf, dNil, dCons, dStar, dTup, dLst, dFz, dCall, dCB, dSl, dNoPart, dPart, dM1, dBM, dFmt, dJ3, dSq, dVar, startD,
    List.map_cons, List.map_nil, List.length_cons, List.length_nil, List.nil_append, List.cons_append, List.append_nil, List.replicate_succ, List.replicate_zero, List.getElem?_cons_zero, List.getElem?_cons_succ, List.set_cons_zero, List.set_cons_succ, Nat.reduceAdd, Nat.reduceSub,
    isi_non_int, isi_non_bool, isi_non_str, isi_non_tup, isi_bl_int, isi_bl_bool, isi_bl_str, isi_bl_tup, isi_int_int, isi_int_bool, isi_int_str, isi_int_tup, isi_str_int, isi_str_bool, isi_str_str, isi_str_tup, isi_lst_int, isi_lst_bool, isi_lst_str, isi_lst_tup, isi_tup_int, isi_tup_bool, isi_tup_str, isi_tup_tup,
    isN_non, noN_non, isN_bl, noN_bl, isN_int, noN_int, isN_str, noN_str, isN_lst, noN_lst, isN_tup, noN_tup,
    eq_ss, ne_ss, eq_ii, ne_ii, ne_si, len_str', len_tup', len_lst', add_ii, sub_ii, lt_ii, le_ii, gt_ii, ge_ii, ex_bl, ex_int, ex_str, ex_sv, ex_own, all_of, Bool.not_true, Bool.not_false, Bool.false_eq_true, reduceIte, ix_lst, ix_str', sign_of, ix0, ix1, ix2, ix3, ix4, ix5, dCase, rf1, rf2, paper_eq, oa, okd_raw oa, true_and, and_q, nd_q, wordOf_h, and_self]
            first | exact q2 | (cases hnm : isName nm with | false => (rw [hnm] at q2; rw [if_neg Bool.false_ne_true]; exact q2) | true => (rw [hnm] at q2; rw [if_pos rfl]; exact ⟨⟨_, rfl, rfl⟩, q2⟩))
          · rw [if_pos (by simp; omega)]
            rw [cx_reads hl, Bool.and_false] at q2
            exact q2
        rw [lk_no z0 z1 z2 z3 z4]
        have e9 : claimW t vs = false := by
          unfold claimW
          rw [if_neg z0, if_neg z1, if_neg z2, if_neg z3, if_neg z4]
        rw [e9, Bool.and_false] at q2
        exact q2
      | raw _ => unfold okd at ot; cases ot
      | _ => simp only [dSeq, dIfS, dRet, dRetN, dDrop, dAsg, dAsgF, dApp, dAug, dPar, dPar2, dFrz, dNext, dC, dOp, dTest, dChain, dUn, dtAnd, dtOr, dtNot, dAndV, dOrV, dNotV, dIf, dNil, dCons, dStar, dTup, dLst, dFz, dCall, dCB, dSl, dNoPart, dPart, dM1, dBM, dFmt, dJ3, dSq, dVar, startD,
    List.map_cons, List.map_nil, List.length_cons, List.length_nil, List.nil_append, List.cons_append, List.append_nil, List.replicate_succ, List.replicate_zero, List.getElem?_cons_zero, List.getElem?_cons_succ, List.set_cons_zero, List.set_cons_succ, Nat.reduceAdd, Nat.reduceSub,
    isi_non_int, isi_non_bool, isi_non_str, isi_non_tup, isi_bl_int, isi_bl_bool, isi_bl_str, isi_bl_tup, isi_int_int, isi_int_bool, isi_int_str, isi_int_tup, isi_str_int, isi_str_bool, isi_str_str, isi_str_tup, isi_lst_int, isi_lst_bool, isi_lst_str, isi_lst_tup, isi_tup_int, isi_tup_bool, isi_tup_str, isi_tup_tup,
    isN_non, noN_non, isN_bl, noN_bl, isN_int, noN_int, isN_str, noN_str, isN_lst, noN_lst, isN_tup, noN_tup,
    eq_ss, ne_ss, eq_ii, ne_ii, ne_si, len_str', len_tup', len_lst', add_ii, sub_ii, lt_ii, le_ii, gt_ii, ge_ii, ex_bl, ex_int, ex_str, ex_sv, ex_own, all_of, Bool.not_true, Bool.not_false, Bool.false_eq_true, reduceIte, ix_lst, ix_str', sign_of, ix0, ix1, ix2, ix3, ix4, ix5, e2]; exact q'
  | raw _ => unfold okd at h; cases h
  | _ => simp only [dSeq, dIfS, dRet, dRetN, dDrop, dAsg, dAsgF, dApp, dAug, dPar, dPar2, dFrz, dNext, dC, dOp, dTest, dChain, dUn, dtAnd, dtOr, dtNot, dAndV, dOrV, dNotV, dIf, dNil, dCons, dStar, dTup, dLst, dFz, dCall, dCB, dSl, dNoPart, dPart, dM1, dBM, dFmt, dJ3, dSq, dVar, startD,
    List.map_cons, List.map_nil, List.length_cons, List.length_nil, List.nil_append, List.cons_append, List.append_nil, List.replicate_succ, List.replicate_zero, List.getElem?_cons_zero, List.getElem?_cons_succ, List.set_cons_zero, List.set_cons_succ, Nat.reduceAdd, Nat.reduceSub,
    isi_non_int, isi_non_bool, isi_non_str, isi_non_tup, isi_bl_int, isi_bl_bool, isi_bl_str, isi_bl_tup, isi_int_int, isi_int_bool, isi_int_str, isi_int_tup, isi_str_int, isi_str_bool, isi_str_str, isi_str_tup, isi_lst_int, isi_lst_bool, isi_lst_str, isi_lst_tup, isi_tup_int, isi_tup_bool, isi_tup_str, isi_tup_tup,
    isN_non, noN_non, isN_bl, noN_bl, isN_int, noN_int, isN_str, noN_str, isN_lst, noN_lst, isN_tup, noN_tup,
    eq_ss, ne_ss, eq_ii, ne_ii, ne_si, len_str', len_tup', len_lst', add_ii, sub_ii, lt_ii, le_ii, gt_ii, ge_ii, ex_bl, ex_int, ex_str, ex_sv, ex_own, all_of, Bool.not_true, Bool.not_false, Bool.false_eq_true, reduceIte, ix_lst, ix_str', sign_of, ix0, ix1, ix2, ix3, ix4, ix5]; exact q'
end
end K88
set_option maxHeartbeats 4000000
/-! reading plain things and claims; refusing -/
namespace K88
open PySem L2 Dn
/-! ### what is read is of bounded size -/
theorem okA_app : ∀ {a b : List D}, okA (a ++ b) = (okA a && okA b)
  | [], b => rfl
  | d :: a, b => by
    show (okd d && okA (a ++ b)) = ((okd d && okA a) && okA b)
    rw [okA_app, Bool.and_assoc]
theorem wordL_okd {l : List Nat} {d : D} {k : Nat} (h : wordL l = some (d, k)) : okd d = true := by
  unfold wordL at h
  cases e : lookD (S (wordOf l)) fixedD with
  | some f =>
    rw [e] at h
    cases h
    unfold fixedD lookD at e
    repeat (split at e; · cases e; rfl) <;> rename_i e
    unfold lookD at e
    repeat (first | (split at e; · cases e; rfl) | unfold lookD at e)
    cases e
  | none =>
    rw [e] at h
    simp only at h
    split at h
    · cases h; rfl
    · cases h
theorem strL_okd {l : List Nat} {d : D} {k : Nat} (hl : l.length ≤ 100000) (h : strL l = some (d, k)) : okd d = true := by
  unfold strL at h
  split at h
  · split at h
    · cases h
    · cases h
      show decide ((S (l.take (qLen l))).length ≤ 100000) = true
      refine decide_eq_true ?_
      rw [len_S, List.length_take]
      omega
  · cases h
theorem thing0_okd {t : List Nat → Option (D × Nat)} (ht : ∀ l d k, l.length ≤ 100000 → t l = some (d, k) → okd d = true) {l : List Nat} {d : D} {k : Nat} (hl : l.length ≤ 100000) (h : thing0 t l = some (d, k)) : okd d = true := by
  cases l with
  | nil => exact wordL_okd (l := []) h
  | cons c r =>
    have hr : r.length ≤ 100000 := by simp only [List.length_cons] at hl; omega
    unfold thing0 at h
    by_cases z : c = 40
    · simp only [z, if_true] at h
      obtain ⟨i, h1, h2⟩ := more_some h
      exact ht r d i hr h1
    · simp only [z, if_false] at h
      by_cases y : c = 34
      · simp only [y, if_true] at h
        obtain ⟨i, h1, h2⟩ := more_some h
        exact strL_okd hr h1
      · simp only [y, if_false] at h
        exact wordL_okd h
theorem loopL_okd {p : List Nat → Option (D × Nat)} (hp : ∀ l d k, l.length ≤ 100000 → p l = some (d, k) → okd d = true) (hq : ∀ l d k, p l = some (d, k) → 1 ≤ k ∧ k ≤ l.length) : ∀ (f : Nat) (l : List Nat) (acc : List D) (c : Nat) (d : D) (k : Nat), acc.length + l.length ≤ 100000 → okA acc = true → loopL p f l acc c = some (d, k) → okd d = true
  | 0, l, acc, c, d, k, _, _, h => by cases h
  | f + 1, l, acc, c, d, k, hl, ha, h => by
    unfold loopL at h
    cases e : p l with
    | none => rw [e] at h; cases h
    | some q =>
      obtain ⟨d1, k1⟩ := q
      obtain ⟨q1, q2⟩ := hq l d1 k1 e
      have o1 := hp l d1 k1 (by omega) e
      have o2 : okA (acc ++ [d1]) = true := by rw [okA_app, ha]; show (true && (okd d1 && true)) = true; rw [o1]; rfl
      simp only [e] at h
      by_cases z : (l.drop k1).take 1 = [41]
      · rw [if_pos z] at h
        cases h
        show (decide ((acc ++ [d1]).length ≤ 100000) && okA (acc ++ [d1])) = true
        rw [o2, Bool.and_true]
        refine decide_eq_true ?_
        rw [List.length_append, List.length_singleton]
        omega
      · rw [if_neg z] at h
        by_cases y : (l.drop k1).take 2 = [44, 32]
        · rw [if_pos y] at h
          refine loopL_okd hp hq f _ _ _ d k ?_ o2 h
          rw [List.length_append, List.length_singleton, List.length_drop]
          omega
        · rw [if_neg y] at h; cases h
theorem thingL_okd : ∀ (n : Nat) (l : List Nat) (d : D) (k : Nat), l.length ≤ 100000 → thingL n l = some (d, k) → okd d = true
  | 0, l, d, k, hl, h => thing0_okd (fun _ _ _ _ z => by cases z) hl h
  | n + 1, l, d, k, hl, h => thing0_okd (fun l d k hl z => by
      unfold tupL at z
      by_cases y : l.take 1 = [41]
      · rw [if_pos y] at z; cases z; rfl
      · rw [if_neg y] at z
        exact loopL_okd (thingL_okd n) (thingL_pos n) _ _ _ _ _ _ (by simpa using hl) rfl z) hl h
theorem rowL_okd : ∀ (f : Nat) (l : List Nat) (acc : List D) (rs : List D), acc.length + l.length ≤ 100000 → okA acc = true → rowL (thingL 40) f l acc = some rs → okA rs = true ∧ rs.length ≤ acc.length + l.length
  | 0, l, acc, rs, _, _, h => by cases h
  | f + 1, l, acc, rs, hl, ha, h => by
    unfold rowL at h
    cases e : thingL 40 l with
    | none => rw [e] at h; cases h
    | some q =>
      obtain ⟨d1, k1⟩ := q
      obtain ⟨q1, q2⟩ := thingL_pos 40 l d1 k1 e
      have o1 := thingL_okd 40 l d1 k1 (by omega) e
      have o2 : okA (acc ++ [d1]) = true := by rw [okA_app, ha]; show (true && (okd d1 && true)) = true; rw [o1]; rfl
      simp only [e] at h
      by_cases z : (l.drop k1).length = 0
      · rw [if_pos z] at h
        cases h
        refine ⟨o2, ?_⟩
        rw [List.length_append, List.length_singleton]
        omega
      · rw [if_neg z] at h
        by_cases y : (l.drop k1).take 1 = [32]
        · rw [if_pos y] at h
          have := rowL_okd f _ _ rs (by rw [List.length_append, List.length_singleton, List.length_drop]; omega) o2 h
          refine ⟨this.1, Nat.le_trans this.2 ?_⟩
          rw [List.length_append, List.length_singleton, List.length_drop]
          omega
        · rw [if_neg y] at h; cases h
/-! ### the mirror -/
def readPlain (d : D) : Option D := match d with
  | .str x => (match thingL 40 (tl x) with | some (v, k) => if k = x.length then some v else none | none => none)
  | _ => none
def cwL (l : List Nat) : List (List Nat) := TL.spl [32] 0 [] l
def headW (ws : List (List Nat)) : Nat := many (.str (S (ws.headD [])))
def claimOf (ws : List (List Nat)) (rs : List D) : D := .tup ((ws.take (headW ws)).map (fun w => .str (S w)) ++ rs)
def readClaimL (l : List Nat) : Option D :=
  if headW (cwL l) < (cwL l).length then (match thingsL (TL.joinL [32] ((cwL l).drop (headW (cwL l)))) with
    | some rs => if isClaim (claimOf (cwL l) rs) then some (claimOf (cwL l) rs) else none
    | none => none) else none
def readClaim (d : D) : Option D := match d with | .str x => readClaimL (tl x) | _ => none
/-- a thing that may be asked: a text that is not too long, or no text -/
def askOk (d : D) : Prop := notRaw d ∧ ∀ x, d = .str x → x.length ≤ 100000 ∧ Runs (tl x)
def RXf (g : D → Option D) : RX := fun ds Q p => ∃ d, ds = [d] ∧ askOk d ∧ (match g d with | some v => Q v | none => p)
theorem mox_f {g : D → Option D} : MoX (RXf g) := fun ds Q Q' p p' k kp ⟨d, h1, h2, h⟩ => ⟨d, h1, h2, by
  cases e : g d with
  | some v => simp only [e] at h ⊢; exact k _ h
  | none => simp only [e] at h ⊢; exact kp h⟩
/-- the written part's facts of the exception -/
def sInit : Stmt := match topS 2 with
  | .ClassDef _ _ _ b _ _ _ _ _ _ _ => b.getD 0 (.Pass ⟨0, 0, 0, 0⟩)
  | _ => .Pass ⟨0, 0, 0, 0⟩
structure TxE (P : Program) (K : PySem.W.Frag) (mg : Str → Option Value) where
  C : Addr
  W : Addr
  fI : Addr
  cc : Addr
  fdI : FuncData
  mC : mg "InvalidText" = some (.ref C)
  mW : mg "WorkError" = some (.ref W)
  S : SupI P K mg C fI cc "InvalidText.__init__" (defArgs sInit) (defBody sInit) (defScope sInit) fdI
  iC : PySem.W.findIn K (.ref C) "__init__" = some (some (.ref fI))
  tI : PySem.W.typeIn K (.ref fI) = some (.type "function")
  bI : Binds K fdI ["self", "at"] []
  T : ExcC K C
  TX : XfC K C
  exm : PySem.W.exmOne K (.ref C) (.ref C) = some true
  kit : PySem.W.kitOne K (.ref C) (.ref W) = some true
section
variable {P : Program} {w : World} {K : PySem.W.Frag} {mg : Str → Option Value} {base : Heap}
theorem ok_init (TE : TxE P K mg) : FnOk P w K mg base CX0 1 TE.fI TE.fdI ["self", "at"] (spI K TE.C) :=
  TE.S.ok rfl rfl rfl (by decide +kernel) (by decide +kernel) (by decide +kernel) (by decide +kernel) (fun L cda => ⟨_, rfl⟩) (fun _ _ => rfl) (fun _ _ => rfl) (fun _ _ => rfl) rfl rfl rfl (by decide +kernel)
theorem ok_read_plain (T : Tx K mg w) (TE : TxE P K mg) : FnOk P w K mg base (L2.CX P w) 90 T.a_read_plain T.f_read_plain ["text"] (spX K TE.C bx0 (RXf readPlain)) := by
  have G_thing_at := ok_thing (P := P) (base := base) T 41
  have G_init := ok_init (w := w) (base := base) TE
  refine okX T.F_read_plain sc_read_plain (fun ds Q p ⟨d, h, _⟩ => by rw [h]; rfl) (fun cdv A outer s H E e W φ heb hr tk ho => ⟨_, (db_cons (ds_set 1 sc_read_plain.nd (de_ifExp (dt_val (de_callB L_isi call_isi T.n_isinstance (by decide +kernel) (da_cons (de_var 0) (da_cons (de_ty (T := "str") T.n_str (by decide +kernel)) da_nil)))) (de_call (.inl rfl) (moTh _) G_thing_at (Room.mono hr (by first | decide | omega)) T.g_thing_at T.F_thing_at.kp T.bd_thing_at T.v_thing_at T.r_thing_at pass0 (da_cons (de_var 0) (da_cons de_int da_nil))) de_non)) (db_cons (ds_if (DW_.t (dw_or (dt_cmp L_isN op_isN (de_var 1) de_non) (dw_or1 (dt_cmp L_neS op_ne (de_ix L_ix ix_seq (de_var 1) de_int) (de_callB L_len call_len T.n_len PySem.boot_len (da_cons (de_var 0) da_nil)))))) (db_one (ds_raise rfl tk ho TE.S.T TE.iC TE.tI G_init (Room.mono hr (by first | decide | omega)) TE.bI pass0 TE.mC)) db_nil) (db_one (ds_ret (de_ix L_ix ix_seq (de_var 1) de_int))))), fun ds Q p h hp => ?_⟩)
  obtain ⟨d, rfl, ⟨hn, hx⟩, h⟩ := h
  cases d with
  | str x =>
    obtain ⟨hl, hR⟩ := hx x rfl
    have hz : x.length ≤ sizeLine := sz5 hl
    simp only [dSeq, dIfS, dRet, dRetN, dDrop, dAsg, dAsgF, dApp, dAug, dPar, dPar2, dFrz, dNext, dC, dOp, dTest, dChain, dUn, dtAnd, dtOr, dtNot, dAndV, dOrV, dNotV, dIf, dNil, dCons, dStar, dTup, dLst, dFz, dCall, dCB, dSl, dNoPart, dPart, dM1, dBM, dFmt, dJ3, dSq, dVar, startD,
    List.map_cons, List.map_nil, List.length_cons, List.length_nil, List.nil_append, List.cons_append, List.append_nil, List.replicate_succ, List.replicate_zero, List.getElem?_cons_zero, List.getElem?_cons_succ, List.set_cons_zero, List.set_cons_succ, Nat.reduceAdd, Nat.reduceSub,
    isi_non_int, isi_non_bool, isi_non_str, isi_non_tup, isi_bl_int, isi_bl_bool, isi_bl_str, isi_bl_tup, isi_int_int, isi_int_bool, isi_int_str, isi_int_tup, isi_str_int, isi_str_bool, isi_str_str, isi_str_tup, isi_lst_int, isi_lst_bool, isi_lst_str, isi_lst_tup, isi_tup_int, isi_tup_bool, isi_tup_str, isi_tup_tup,
    isN_non, noN_non, isN_bl, noN_bl, isN_int, noN_int, isN_str, noN_str, isN_lst, noN_lst, isN_tup, noN_tup,
    eq_ss, ne_ss, eq_ii, ne_ii, ne_si, len_str', len_tup', len_lst', add_ii, sub_ii, lt_ii, le_ii, gt_ii, ge_ii, ex_bl, ex_int, ex_str, ex_sv, ex_own, all_of, Bool.not_true, Bool.not_false, Bool.false_eq_true, reduceIte, ix_lst, ix_str', sign_of, ix0, ix1, ix2, ix3, ix4, ix5, dRaise]
    refine rTh (i := 0) (m := 40) (Nat.zero_le _) hl hR (Nat.le_refl 40) ?_
    have e0 : (tl x).drop 0 = tl x := rfl
    rw [e0]
    unfold readPlain at h
    cases et : thingL 40 (tl x) with
    | none =>
      simp only [et] at h
      rw [resD_none, isN_non]
      refine ⟨_, rfl, ?_⟩
      rw [if_pos rfl]
      exact hp h _
    | some q =>
      obtain ⟨v, k⟩ := q
      simp only [et] at h
      rw [resD_some, isN_tup, Nat.zero_add]
      refine ⟨_, rfl, ?_⟩
      rw [if_neg Bool.false_ne_true]
      simp only [dSeq, dIfS, dRet, dRetN, dDrop, dAsg, dAsgF, dApp, dAug, dPar, dPar2, dFrz, dNext, dC, dOp, dTest, dChain, dUn, dtAnd, dtOr, dtNot, dAndV, dOrV, dNotV, dIf, dNil, dCons, dStar, dTup, dLst, dFz, dCall, dCB, dSl, dNoPart, dPart, dM1, dBM, dFmt, dJ3, dSq, dVar, startD,
    List.map_cons, List.map_nil, List.length_cons, List.length_nil, List.nil_append, List.cons_append, List.append_nil, List.replicate_succ, List.replicate_zero, List.getElem?_cons_zero, List.getElem?_cons_succ, List.set_cons_zero, List.set_cons_succ, Nat.reduceAdd, Nat.reduceSub,
    isi_non_int, isi_non_bool, isi_non_str, isi_non_tup, isi_bl_int, isi_bl_bool, isi_bl_str, isi_bl_tup, isi_int_int, isi_int_bool, isi_int_str, isi_int_tup, isi_str_int, isi_str_bool, isi_str_str, isi_str_tup, isi_lst_int, isi_lst_bool, isi_lst_str, isi_lst_tup, isi_tup_int, isi_tup_bool, isi_tup_str, isi_tup_tup,
    isN_non, noN_non, isN_bl, noN_bl, isN_int, noN_int, isN_str, noN_str, isN_lst, noN_lst, isN_tup, noN_tup,
    eq_ss, ne_ss, eq_ii, ne_ii, ne_si, len_str', len_tup', len_lst', add_ii, sub_ii, lt_ii, le_ii, gt_ii, ge_ii, ex_bl, ex_int, ex_str, ex_sv, ex_own, all_of, Bool.not_true, Bool.not_false, Bool.false_eq_true, reduceIte, ix_lst, ix_str', sign_of, ix0, ix1, ix2, ix3, ix4, ix5, dRaise]
      refine ⟨hz, ?_⟩
      by_cases hk : k = x.length
      · rw [if_pos hk] at h
        rw [if_neg (by simp [hk])]
        exact h
      · rw [if_neg hk] at h
        rw [if_pos (by simp; omega)]
        exact hp h _
  | raw _ => simp [notRaw, D.isRaw] at hn
  | _ =>
    simp only [dSeq, dIfS, dRet, dRetN, dDrop, dAsg, dAsgF, dApp, dAug, dPar, dPar2, dFrz, dNext, dC, dOp, dTest, dChain, dUn, dtAnd, dtOr, dtNot, dAndV, dOrV, dNotV, dIf, dNil, dCons, dStar, dTup, dLst, dFz, dCall, dCB, dSl, dNoPart, dPart, dM1, dBM, dFmt, dJ3, dSq, dVar, startD,
    List.map_cons, List.map_nil, List.length_cons, List.length_nil, List.nil_append, List.cons_append, List.append_nil, List.replicate_succ, List.replicate_zero, List.getElem?_cons_zero, List.getElem?_cons_succ, List.set_cons_zero, List.set_cons_succ, Nat.reduceAdd, Nat.reduceSub,
    isi_non_int, isi_non_bool, isi_non_str, isi_non_tup, isi_bl_int, isi_bl_bool, isi_bl_str, isi_bl_tup, isi_int_int, isi_int_bool, isi_int_str, isi_int_tup, isi_str_int, isi_str_bool, isi_str_str, isi_str_tup, isi_lst_int, isi_lst_bool, isi_lst_str, isi_lst_tup, isi_tup_int, isi_tup_bool, isi_tup_str, isi_tup_tup,
    isN_non, noN_non, isN_bl, noN_bl, isN_int, noN_int, isN_str, noN_str, isN_lst, noN_lst, isN_tup, noN_tup,
    eq_ss, ne_ss, eq_ii, ne_ii, ne_si, len_str', len_tup', len_lst', add_ii, sub_ii, lt_ii, le_ii, gt_ii, ge_ii, ex_bl, ex_int, ex_str, ex_sv, ex_own, all_of, Bool.not_true, Bool.not_false, Bool.false_eq_true, reduceIte, ix_lst, ix_str', sign_of, ix0, ix1, ix2, ix3, ix4, ix5, dRaise]
    exact hp h _
end
end K88
set_option maxHeartbeats 4000000
/-! reading claims; the reader that catches -/
namespace K88
open PySem L2 Dn
theorem spl_joinL : ∀ (l acc : List Nat), TL.joinL [32] (TL.spl [32] 0 acc l) = acc ++ l
  | [], acc => by rw [TL.spl_nil, List.append_nil]; rfl
  | c :: r, acc => by
    unfold TL.spl
    by_cases z : TL.pre [32] (c :: r) = true
    · rw [if_pos z]
      have ec : c = 32 := by
        have z' : ([c] == [32]) = true := z
        simpa using z'
      have ih := spl_joinL r []
      have ne := spl_ne [32] r 0 []
      show TL.joinL [32] (acc :: TL.spl [32] 0 [] r) = _
      cases h : TL.spl [32] 0 [] r with
      | nil => exact absurd h ne
      | cons p ps =>
        rw [h] at ih
        show acc ++ ([32] ++ TL.joinL [32] (p :: ps)) = _
        rw [ih, ec]
        rfl
    · rw [if_neg z, spl_joinL r (acc ++ [c]), List.append_assoc]
      rfl
theorem joinL_drop (Sp : List Nat) : ∀ (ps : List (List Nat)) (m : Nat), m < ps.length → ∃ k, m * Sp.length ≤ k ∧ TL.joinL Sp (ps.drop m) = (TL.joinL Sp ps).drop k
  | [], m, h => by cases h
  | p :: ps, 0, _ => ⟨0, by omega, rfl⟩
  | [p], m + 1, h => by simp at h
  | p :: q :: ps, m + 1, h => by
    obtain ⟨k, hk0, hk⟩ := joinL_drop Sp (q :: ps) m (by simpa using h)
    refine ⟨p.length + Sp.length + k, by rw [Nat.succ_mul]; omega, ?_⟩
    show TL.joinL Sp ((q :: ps).drop m) = (p ++ (Sp ++ TL.joinL Sp (q :: ps))).drop _
    rw [hk, ← List.append_assoc, ← List.length_append, ← List.drop_drop, List.drop_left]
theorem Runs_drop {l : List Nat} (h : Runs l) (k : Nat) : Runs (l.drop k) := fun n => by
  rw [List.drop_drop]
  exact h (k + n)
theorem split_cw (x : Str) : Txt.split x sp1 = (cwL (tl x)).map S := by
  have h := split_tl x
  have h2 := congrArg (List.map S) h
  rw [List.map_map] at h2
  have e : (S ∘ tl) = id := funext fun y => S_tl y
  rw [e, List.map_id] at h2
  exact h2
theorem cw_ne (l : List Nat) : cwL l ≠ [] := spl_ne [32] l 0 []
theorem cw_join (l : List Nat) : TL.joinL [32] (cwL l) = l := spl_joinL l []
theorem cw_len (l : List Nat) : (cwL l).length ≤ l.length + 1 := by
  have h := joinL_sum [32] (cwL l)
  rw [cw_join] at h
  simp only [List.length_cons, List.length_nil] at h
  omega
theorem cw_mem (l w : List Nat) (h : w ∈ cwL l) : w.length ≤ l.length := by
  have := joinL_mem [32] (cwL l) w h
  rw [cw_join] at this
  exact this
section
variable {P : Program} {w : World} {K : PySem.W.Frag} {mg : Str → Option Value} {base : Heap}
theorem ok_read_claim (T : Tx K mg w) (TE : TxE P K mg) : FnOk P w K mg base (L2.CX P w) 95 T.a_read_claim T.f_read_claim ["text"] (spX K TE.C bx0 (RXf readClaim)) := by
  have G_things_in := ok_things_in (P := P) (base := base) T
  have G_is_claim := ok_is_claim (P := P) (base := base) T
  have G_bare_words := ok_bare_words (P := P) (base := base) T
  have G_init := ok_init (w := w) (base := base) TE
  refine okX T.F_read_claim sc_read_claim (fun ds Q p ⟨d, h, _⟩ => by rw [h]; rfl) (fun cdv A outer s H E e W φ heb hr tk ho => ⟨_, (db_cons (ds_set 1 sc_read_claim.nd (de_ifExp (dt_val (de_callB L_isi call_isi T.n_isinstance (by decide +kernel) (da_cons (de_var 0) (da_cons (de_ty (T := "str") T.n_str (by decide +kernel)) da_nil)))) (de_m1 L_split PySem.F.slot_str_split PySem.F.type_str_split mt_split (de_var 0) de_str) (DF_.de (df_lst (da_cons de_str da_nil))))) (db_cons (ds_set 2 sc_read_claim.nd (de_call (.inl rfl) moF1 G_bare_words (Room.mono hr (by first | decide | omega)) T.g_bare_words T.F_bare_words.kp T.b_bare_words .nil (fun _ => .nil) pass0 (da_cons (de_ix L_ix ix_seq (de_var 1) de_int) da_nil))) (db_cons (ds_set 3 sc_read_claim.nd (de_ifExp (dt_cmp L_gt op_gt (de_callB L_len call_len T.n_len PySem.boot_len (da_cons (de_var 1) da_nil)) (de_var 2)) (de_call (.inl rfl) moF1 G_things_in (Room.mono hr (by first | decide | omega)) T.g_things_in T.F_things_in.kp T.b_things_in .nil (fun _ => .nil) pass0 (da_cons (de_m1 L_join PySem.F.slot_str_join PySem.F.type_str_join mt_join de_str (de_slice L_slL sl_list (de_var 1) (do_some (de_var 2)) do_none)) da_nil)) de_non)) (db_cons (ds_set 4 sc_read_claim.nd (de_ifExp (dt_cmp L_notN op_notN (de_var 3) de_non) (de_tup (da_star (de_slice L_slL sl_list (de_var 1) do_none (do_some (de_var 2))) (da_star (de_var 3) da_nil))) de_non)) (db_cons (ds_if (dt_not (dt_val (de_call (.inl rfl) moF1 G_is_claim (Room.mono hr (by first | decide | omega)) T.g_is_claim T.F_is_claim.kp T.b_is_claim .nil (fun _ => .nil) pass0 (da_cons (de_var 4) da_nil)))) (db_one (ds_raise rfl tk ho TE.S.T TE.iC TE.tI G_init (Room.mono hr (by first | decide | omega)) TE.bI pass0 TE.mC)) db_nil) (db_one (ds_ret (de_var 4)))))))), fun ds Q p h hp => ?_⟩)
  obtain ⟨d, rfl, ⟨hn, hx⟩, h⟩ := h
  cases d with
  | str x =>
    obtain ⟨hl, hR⟩ := hx x rfl
    have hz : x.length ≤ sizeLine := sz5 hl
    simp only [dSeq, dIfS, dRet, dRetN, dDrop, dAsg, dAsgF, dApp, dAug, dPar, dPar2, dFrz, dNext, dC, dOp, dTest, dChain, dUn, dtAnd, dtOr, dtNot, dAndV, dOrV, dNotV, dIf, dNil, dCons, dStar, dTup, dLst, dFz, dCall, dCB, dSl, dNoPart, dPart, dM1, dBM, dFmt, dJ3, dSq, dVar, startD,
    List.map_cons, List.map_nil, List.length_cons, List.length_nil, List.nil_append, List.cons_append, List.append_nil, List.replicate_succ, List.replicate_zero, List.getElem?_cons_zero, List.getElem?_cons_succ, List.set_cons_zero, List.set_cons_succ, Nat.reduceAdd, Nat.reduceSub,
    isi_non_int, isi_non_bool, isi_non_str, isi_non_tup, isi_bl_int, isi_bl_bool, isi_bl_str, isi_bl_tup, isi_int_int, isi_int_bool, isi_int_str, isi_int_tup, isi_str_int, isi_str_bool, isi_str_str, isi_str_tup, isi_lst_int, isi_lst_bool, isi_lst_str, isi_lst_tup, isi_tup_int, isi_tup_bool, isi_tup_str, isi_tup_tup,
    isN_non, noN_non, isN_bl, noN_bl, isN_int, noN_int, isN_str, noN_str, isN_lst, noN_lst, isN_tup, noN_tup,
    eq_ss, ne_ss, eq_ii, ne_ii, ne_si, len_str', len_tup', len_lst', add_ii, sub_ii, lt_ii, le_ii, gt_ii, ge_ii, ex_bl, ex_int, ex_str, ex_sv, ex_own, all_of, Bool.not_true, Bool.not_false, Bool.false_eq_true, reduceIte, ix_lst, ix_str', sign_of, ix0, ix1, ix2, ix3, ix4, ix5, dRaise, rf1]
    refine ⟨x, Str.ofString " ", rfl, rfl, by decide, by have := sz5 (n := x.length + 2 - 2) hl; exact Nat.le_trans (Nat.add_le_add_right hl 2) (by decide), ?_⟩
    have es : Txt.split x (Str.ofString " ") = (cwL (tl x)).map S := split_cw x
    rw [es]
    have h' : (match readClaimL (tl x) with | some v => Q v | none => p) := h
    unfold readClaimL at h'
    have hne := cw_ne (tl x)
    have hmem := cw_mem (tl x)
    have hlen := cw_len (tl x)
    have hjoin := cw_join (tl x)
    generalize hw : cwL (tl x) = wl at *
    have e0 : (if inV (D.str (S (wl.headD []))).v [.str (Str.ofString "story"), .str (Str.ofString "calm")] = true then (3 : Int) else 2) = ((headW wl : Nat) : Int) := by
      unfold headW many
      split <;> rfl
    refine ⟨0, .str (S (wl.headD [])), rfl, ?_, trivial, rfl, ?_⟩
    · cases wl with
      | nil => exact absurd rfl hne
      | cons a b => exact atI_nat (j := 0) rfl
    rw [e0]
    generalize hm : headW wl = m at *
    have hm3 : m ≤ 3 := by
      rw [← hm]; exact (many_le _).2
    have hll : ((wl.map S).map D.str).length = wl.length := by rw [List.length_map, List.length_map]
    simp only [dSeq, dIfS, dRet, dRetN, dDrop, dAsg, dAsgF, dApp, dAug, dPar, dPar2, dFrz, dNext, dC, dOp, dTest, dChain, dUn, dtAnd, dtOr, dtNot, dAndV, dOrV, dNotV, dIf, dNil, dCons, dStar, dTup, dLst, dFz, dCall, dCB, dSl, dNoPart, dPart, dM1, dBM, dFmt, dJ3, dSq, dVar, startD,
    List.map_cons, List.map_nil, List.length_cons, List.length_nil, List.nil_append, List.cons_append, List.append_nil, List.replicate_succ, List.replicate_zero, List.getElem?_cons_zero, List.getElem?_cons_succ, List.set_cons_zero, List.set_cons_succ, Nat.reduceAdd, Nat.reduceSub,
    isi_non_int, isi_non_bool, isi_non_str, isi_non_tup, isi_bl_int, isi_bl_bool, isi_bl_str, isi_bl_tup, isi_int_int, isi_int_bool, isi_int_str, isi_int_tup, isi_str_int, isi_str_bool, isi_str_str, isi_str_tup, isi_lst_int, isi_lst_bool, isi_lst_str, isi_lst_tup, isi_tup_int, isi_tup_bool, isi_tup_str, isi_tup_tup,
    isN_non, noN_non, isN_bl, noN_bl, isN_int, noN_int, isN_str, noN_str, isN_lst, noN_lst, isN_tup, noN_tup,
    eq_ss, ne_ss, eq_ii, ne_ii, ne_si, len_str', len_tup', len_lst', add_ii, sub_ii, lt_ii, le_ii, gt_ii, ge_ii, ex_bl, ex_int, ex_str, ex_sv, ex_own, all_of, Bool.not_true, Bool.not_false, Bool.false_eq_true, reduceIte, ix_lst, ix_str', sign_of, ix0, ix1, ix2, ix3, ix4, ix5, dRaise, rf1, hll]
    have no : isClaim .non = false := rfl
    by_cases hc : m < wl.length
    · rw [if_pos (by simpa using hc)]
      rw [if_pos hc] at h'
      refine ⟨_, rfl, ?_⟩
      have c2 : cutD ((wl.map S).map D.str) (some (m : Int)) none = ((wl.drop m).map S).map D.str := by
        unfold cutD
        rw [HT.sIx_none, HT.sIx_nat, hll, Nat.min_eq_left (by omega), List.map_drop, List.map_drop, List.take_of_length_le (by rw [List.length_drop, hll]; omega)]
      have c1 : cutD ((wl.map S).map D.str) none (some (m : Int)) = (wl.take m).map fun z => D.str (S z) := by
        unfold cutD
        rw [HT.sIx_none, HT.sIx_nat, hll, Nat.min_eq_left (by omega), List.drop_zero, Nat.sub_zero, List.map_map, ← List.map_take]
        rfl
      rw [c2]
      obtain ⟨k, hk0, hk⟩ := joinL_drop [32] wl m hc
      rw [hjoin] at hk
      have hjl : (TL.joinL [32] (wl.drop m)).length ≤ 100000 := by
        rw [hk, List.length_drop, ← len_tl]; omega
      refine ⟨Str.ofString " ", _, (wl.drop m).map S, rfl, rfl, rfl, join_ok (sp := Str.ofString " ") hjl (by decide), ?_⟩
      rw [join_S]
      have ej : tl (Str.ofString " ") = [32] := rfl
      rw [ej]
      generalize hJ : TL.joinL [32] (wl.drop m) = J at *
      refine ⟨⟨_, rfl, by rw [len_S]; exact hjl, by rw [tl_S, hk]; exact Runs_drop hR k⟩, ?_⟩
      show rdIsN true (resL (thingsL (tl (S J)))) .non _
      rw [tl_S]
      cases ht : thingsL J with
      | none =>
        simp only [ht] at h'
        show rdIsN true .non .non _
        rw [noN_non]
        refine ⟨_, rfl, ?_⟩
        rw [if_neg Bool.false_ne_true]
        refine ⟨rfl, ?_⟩
        rw [no, if_pos (by decide)]
        exact hp h' _
      | some rs =>
        simp only [ht] at h'
        obtain ⟨o1, o2⟩ := rowL_okd _ _ _ _ (by simpa using hjl) rfl ht
        show rdIsN true (.lst rs) .non _
        rw [noN_lst]
        refine ⟨_, rfl, ?_⟩
        rw [if_pos rfl]
        simp only [dSeq, dIfS, dRet, dRetN, dDrop, dAsg, dAsgF, dApp, dAug, dPar, dPar2, dFrz, dNext, dC, dOp, dTest, dChain, dUn, dtAnd, dtOr, dtNot, dAndV, dOrV, dNotV, dIf, dNil, dCons, dStar, dTup, dLst, dFz, dCall, dCB, dSl, dNoPart, dPart, dM1, dBM, dFmt, dJ3, dSq, dVar, startD,
    List.map_cons, List.map_nil, List.length_cons, List.length_nil, List.nil_append, List.cons_append, List.append_nil, List.replicate_succ, List.replicate_zero, List.getElem?_cons_zero, List.getElem?_cons_succ, List.set_cons_zero, List.set_cons_succ, Nat.reduceAdd, Nat.reduceSub,
    isi_non_int, isi_non_bool, isi_non_str, isi_non_tup, isi_bl_int, isi_bl_bool, isi_bl_str, isi_bl_tup, isi_int_int, isi_int_bool, isi_int_str, isi_int_tup, isi_str_int, isi_str_bool, isi_str_str, isi_str_tup, isi_lst_int, isi_lst_bool, isi_lst_str, isi_lst_tup, isi_tup_int, isi_tup_bool, isi_tup_str, isi_tup_tup,
    isN_non, noN_non, isN_bl, noN_bl, isN_int, noN_int, isN_str, noN_str, isN_lst, noN_lst, isN_tup, noN_tup,
    eq_ss, ne_ss, eq_ii, ne_ii, ne_si, len_str', len_tup', len_lst', add_ii, sub_ii, lt_ii, le_ii, gt_ii, ge_ii, ex_bl, ex_int, ex_str, ex_sv, ex_own, all_of, Bool.not_true, Bool.not_false, Bool.false_eq_true, reduceIte, ix_lst, ix_str', sign_of, ix0, ix1, ix2, ix3, ix4, ix5, dRaise, rf1, c1]
        have ecl : claimOf wl rs = .tup ((wl.take m).map (fun z => D.str (S z)) ++ rs) := by
          unfold claimOf
          rw [hm]
        rw [ecl] at h'
        have hk0' : m ≤ k := by simpa using hk0
        have hrs : rs.length ≤ 100000 - m := by
          have h2 : rs.length ≤ J.length := by simpa using o2
          have h3 : J.length = x.length - k := by rw [hk, List.length_drop, ← len_tl]
          omega
        have otk : ∀ l : List (List Nat), (∀ z ∈ l, z.length ≤ 100000) → okA (l.map fun z => D.str (S z)) = true := by
          intro l
          induction l with
          | nil => intro _; rfl
          | cons a l ih =>
            intro hz
            show (decide ((S a).length ≤ 100000) && okA (l.map fun z => D.str (S z))) = true
            rw [ih fun z h => hz z (List.mem_cons_of_mem _ h), Bool.and_true]
            exact decide_eq_true (by rw [len_S]; exact hz a (List.mem_cons_self ..))
        have oA : okA ((wl.take m).map (fun z => D.str (S z)) ++ rs) = true := by
          rw [okA_app, o1, Bool.and_true]
          exact otk _ fun z hz => by
            have := hmem z (List.mem_of_mem_take hz)
            rw [← len_tl] at this
            omega
        have hlen2 : ((wl.take m).map (fun z => D.str (S z)) ++ rs).length ≤ 100000 := by
          rw [List.length_append, List.length_map, List.length_take]
          omega
        refine ⟨_, rfl, ?_⟩
        rw [c1]
        refine ⟨_, rfl, rs, (by show (resL (thingsL (tl (S J)))).seq = _; rw [tl_S, ht]; rfl), sz5 hlen2, ?_, ?_⟩
        · show (decide _ && okA _) = true
          rw [oA, Bool.and_true]
          exact decide_eq_true hlen2
        · by_cases hcl : isClaim (.tup ((wl.take m).map (fun z => D.str (S z)) ++ rs)) = true
          · rw [hcl, if_pos rfl] at h'
            rw [hcl, if_neg (by decide)]
            exact h'
          · rw [if_neg hcl] at h'
            rw [if_pos (by simpa using hcl)]
            exact hp h' _
    · rw [if_neg (by simpa using hc)]
      rw [if_neg hc] at h'
      refine ⟨rfl, ?_⟩
      rw [no, if_pos (by decide)]
      exact hp h' _
  | raw _ => simp [notRaw, D.isRaw] at hn
  | _ =>
    simp only [dSeq, dIfS, dRet, dRetN, dDrop, dAsg, dAsgF, dApp, dAug, dPar, dPar2, dFrz, dNext, dC, dOp, dTest, dChain, dUn, dtAnd, dtOr, dtNot, dAndV, dOrV, dNotV, dIf, dNil, dCons, dStar, dTup, dLst, dFz, dCall, dCB, dSl, dNoPart, dPart, dM1, dBM, dFmt, dJ3, dSq, dVar, startD,
    List.map_cons, List.map_nil, List.length_cons, List.length_nil, List.nil_append, List.cons_append, List.append_nil, List.replicate_succ, List.replicate_zero, List.getElem?_cons_zero, List.getElem?_cons_succ, List.set_cons_zero, List.set_cons_succ, Nat.reduceAdd, Nat.reduceSub,
    isi_non_int, isi_non_bool, isi_non_str, isi_non_tup, isi_bl_int, isi_bl_bool, isi_bl_str, isi_bl_tup, isi_int_int, isi_int_bool, isi_int_str, isi_int_tup, isi_str_int, isi_str_bool, isi_str_str, isi_str_tup, isi_lst_int, isi_lst_bool, isi_lst_str, isi_lst_tup, isi_tup_int, isi_tup_bool, isi_tup_str, isi_tup_tup,
    isN_non, noN_non, isN_bl, noN_bl, isN_int, noN_int, isN_str, noN_str, isN_lst, noN_lst, isN_tup, noN_tup,
    eq_ss, ne_ss, eq_ii, ne_ii, ne_si, len_str', len_tup', len_lst', add_ii, sub_ii, lt_ii, le_ii, gt_ii, ge_ii, ex_bl, ex_int, ex_str, ex_sv, ex_own, all_of, Bool.not_true, Bool.not_false, Bool.false_eq_true, reduceIte, ix_lst, ix_str', sign_of, ix0, ix1, ix2, ix3, ix4, ix5, dRaise, rf1]
    refine ⟨by decide, .str (Str.ofString ""), atI_nat (j := 0) rfl, rfl, ?_⟩
    have no : isClaim .non = false := rfl
    have e1 : (if inV (D.str (Str.ofString "")).v [V.str (Str.ofString "story"), V.str (Str.ofString "calm")] = true then (3 : Int) else 2) = 2 := by decide +kernel
    rw [e1]
    rw [if_neg (by decide)]
    refine ⟨rfl, ?_⟩
    rw [no, if_pos (by decide)]
    exact hp h _
end
end K88
set_option maxHeartbeats 4000000
/-! what is read is printed again as it was -/
namespace K88
open PySem L2 Dn
theorem dig_char {c : Nat} (h1 : 48 ≤ c) (h2 : c ≤ 57) : (Char.ofNat c).toNat = c := by
  have : c = 48 ∨ c = 49 ∨ c = 50 ∨ c = 51 ∨ c = 52 ∨ c = 53 ∨ c = 54 ∨ c = 55 ∨ c = 56 ∨ c = 57 := by omega
  rcases this with h | h | h | h | h | h | h | h | h | h <;> subst h <;> rfl
theorem digs_back : ∀ {l : List Nat}, NumText.AllDigits l → (l.map Char.ofNat).map Char.toNat = l
  | [], _ => rfl
  | c :: r, h => by
    rw [List.map_cons, List.map_cons, digs_back fun d hd => h d (List.mem_cons_of_mem _ hd), dig_char (h c (List.mem_cons_self ..)).1 (h c (List.mem_cons_self ..)).2]
theorem dgs_head {c : Nat} {r : List Nat} (h : dgs (c :: r) = true) : r = [] ∨ 49 ≤ c := by
  have h1 := allDig (dgs_all h).1 c (List.mem_cons_self ..)
  unfold dgs at h
  rw [Bool.and_eq_true, Bool.or_eq_true, Bool.and_eq_true] at h
  rcases h.2 with z | z
  · left
    cases r with
    | nil => rfl
    | cons _ _ => simp at z
  · right
    have : c ≠ 48 := by simpa using z
    omega
theorem dgs_num {l : List Nat} (h : dgs l = true) : TL.numL (NumText.digitsVal l) = l := by
  obtain ⟨h1, h2⟩ := dgs_all h
  have ha := allDig h1
  cases l with
  | nil => exact absurd rfl h2
  | cons c r =>
    have e := NumText.toDigits_digitsVal r.length (c :: r) rfl ha (by
      rcases dgs_head h with z | z
      · left; rw [z]; rfl
      · exact .inr ⟨c, r, rfl, z⟩)
    unfold TL.numL
    rw [e]
    exact digs_back ha
theorem dgs_pos {l : List Nat} (h : dgs l = true) (h0 : l ≠ [48]) : 0 < NumText.digitsVal l := by
  cases l with
  | nil => cases h
  | cons c r =>
    rcases dgs_head h with z | z
    · subst z
      have h1 := allDig (dgs_all h).1 c (List.mem_cons_self ..)
      show 0 < 0 * 10 + (c - 48)
      have : c ≠ 48 := fun e => h0 (by rw [e])
      omega
    · exact NumText.digitsVal_pos z
theorem digitsVal_lt : ∀ (l : List Nat), NumText.AllDigits l → ∀ acc : Nat, l.foldl (fun acc c => acc * 10 + (c - 48)) acc < (acc + 1) * 10 ^ l.length
  | [], _, acc => by simp
  | c :: r, h, acc => by
    have hc := h c (List.mem_cons_self ..)
    have ih := digitsVal_lt r (fun d hd => h d (List.mem_cons_of_mem _ hd)) (acc * 10 + (c - 48))
    rw [List.foldl_cons, List.length_cons, Nat.pow_succ]
    refine Nat.lt_of_lt_of_le ih ?_
    have : acc * 10 + (c - 48) + 1 ≤ (acc + 1) * 10 := by omega
    calc (acc * 10 + (c - 48) + 1) * 10 ^ r.length ≤ ((acc + 1) * 10) * 10 ^ r.length := Nat.mul_le_mul_right _ this
      _ = (acc + 1) * (10 ^ r.length * 10) := by rw [Nat.mul_assoc, Nat.mul_comm 10]
theorem log_ok {l : List Nat} (h : NumText.AllDigits l) (hl : l.length ≤ 500) : (NumText.digitsVal l).log2 < 1920 := by
  have h1 := digitsVal_lt l h 0
  have h2 : NumText.digitsVal l < 2 ^ 1920 := by
    refine Nat.lt_of_lt_of_le h1 ?_
    have h3 : (0 + 1) * 10 ^ l.length ≤ 10 ^ 500 := by
      rw [Nat.zero_add, Nat.one_mul]
      exact Nat.pow_le_pow_right (by decide) hl
    exact Nat.le_trans h3 (by decide +kernel)
  by_cases z : NumText.digitsVal l = 0
  · rw [z]; decide
  · exact (Nat.log2_lt z).mpr h2
theorem pt_nat (n : Nat) : pt (.int (n : Int)) = TL.numL n := by
  unfold pt
  exact TL.tl_num n
theorem pt_neg (n : Nat) (h : 0 < n) : pt (.int (-(n : Int))) = 45 :: TL.numL n := by
  unfold pt
  obtain ⟨m, rfl⟩ : ∃ m, n = m + 1 := ⟨n - 1, by omega⟩
  have e1 : toString (-((m + 1 : Nat) : Int)) = "-" ++ Nat.repr (m + 1) := rfl
  have e2 : toString (((m + 1 : Nat) : Int)) = Nat.repr (m + 1) := rfl
  have t1 : tl (Str.ofString ("-" ++ Nat.repr (m + 1))) = 45 :: tl (Str.ofString (Nat.repr (m + 1))) := by
    show TL.tl _ = 45 :: TL.tl _
    rw [TL.tl_ofString, TL.tl_ofString, String.toList_append, List.map_append]
    rfl
  rw [e1, t1, ← e2]
  exact congrArg (45 :: ·) (TL.tl_num (m + 1))
theorem pt_word {w : List Nat} (h : numW w = true) : pt (.int (intOf w)) = w ∧ (w.length ≤ 500 → (intOf w).natAbs.log2 < 1920) := by
  unfold numW at h
  rw [Bool.or_eq_true] at h
  by_cases hd : dgs w = true
  · have e : intOf w = ((NumText.digitsVal w : Nat) : Int) := by
      unfold intOf
      split
      · rename_i r
        have := (dgs_all hd).1
        rw [List.all_cons, dig_45] at this
        cases this
      · rfl
    rw [e, pt_nat, dgs_num hd]
    refine ⟨rfl, fun hl => ?_⟩
    rw [Int.natAbs_natCast]
    exact log_ok (allDig (dgs_all hd).1) hl
  · rcases h with h | h
    · exact absurd h hd
    · cases w with
      | nil => cases h
      | cons c r =>
        rw [negW_cons, Bool.and_eq_true, Bool.and_eq_true] at h
        obtain ⟨hc, hr, h0⟩ := h
        have ec : c = 45 := of_decide_eq_true hc
        subst ec
        have hr0 : r ≠ [48] := fun z => by rw [z] at h0; simp at h0
        have e : intOf (45 :: r) = -((NumText.digitsVal r : Nat) : Int) := rfl
        rw [e, pt_neg _ (dgs_pos hr hr0), dgs_num hr]
        refine ⟨rfl, fun hl => ?_⟩
        rw [Int.natAbs_neg, Int.natAbs_natCast]
        exact log_ok (allDig (dgs_all hr).1) (by simp at hl; omega)
def Back (n : Nat) (p : List Nat → Option (D × Nat)) : Prop := ∀ l d k, p l = some (d, k) → pt d = l.take k ∧ (Runs l → txD n d = true)
theorem wordL_back (n : Nat) : Back n wordL := fun l d k h => by
  unfold wordL at h
  cases e : lookD (S (wordOf l)) fixedD with
  | some f =>
    rw [e] at h
    cases h
    have key : ∀ (s : String) (v : D), pt v = tl (Str.ofString s) → txD n v = true → Str.ofString s = S (wordOf l) → pt v = l.take (wordLen l) ∧ (Runs l → txD n v = true) := fun s v hp ht hs => by
      refine ⟨?_, fun _ => ht⟩
      rw [hp, hs]
      rfl
    unfold fixedD at e
    simp only [lookD] at e
    by_cases h1 : Str.ofString "yes" = S (wordOf l)
    · rw [if_pos h1] at e
      cases e
      exact key "yes" _ (by unfold pt; rfl) (by cases n <;> rfl) h1
    · rw [if_neg h1] at e
      by_cases h2 : Str.ofString "no" = S (wordOf l)
      · rw [if_pos h2] at e
        cases e
        exact key "no" _ (by unfold pt; rfl) (by cases n <;> rfl) h2
      · rw [if_neg h2] at e
        by_cases h3 : Str.ofString "none" = S (wordOf l)
        · rw [if_pos h3] at e
          cases e
          exact key "none" _ (by unfold pt; rfl) (by cases n <;> rfl) h3
        · rw [if_neg h3] at e
          cases e
  | none =>
    rw [e] at h
    by_cases hn : numW (wordOf l) = true
    · simp only [hn, if_true] at h
      cases h
      obtain ⟨p1, p2⟩ := pt_word hn
      refine ⟨p1, fun hR => ?_⟩
      have hl : (wordOf l).length ≤ 500 := hR 0 hn
      have := p2 hl
      cases n <;> exact decide_eq_true this
    · simp only [hn] at h
      cases h
theorem strL_back (n : Nat) {l : List Nat} {d : D} {k : Nat} (h : strL l = some (d, k)) : pt d = 34 :: l.take k ∧ txD n d = true := by
  unfold strL at h
  by_cases z : qLen l < l.length
  · rw [if_pos z] at h
    split at h
    · cases h
    · cases h
      refine ⟨?_, by cases n <;> rfl⟩
      unfold pt
      rw [tl_S]
      have := qLen_get l z
      rw [List.take_succ_eq_append_getElem z, this]
  · rw [if_neg z] at h; cases h
theorem thing0_back {n : Nat} {t : List Nat → Option (D × Nat)} (ht : ∀ l d k, t l = some (d, k) → pt d = 40 :: l.take k ∧ (Runs l → txD n d = true)) : Back n (thing0 t) := fun l d k h => by
  cases l with
  | nil => exact wordL_back n [] d k h
  | cons c r =>
    unfold thing0 at h
    by_cases z : c = 40
    · simp only [z, if_true] at h
      obtain ⟨i, h1, h2⟩ := more_some h
      obtain ⟨p1, p2⟩ := ht r d i h1
      subst h2
      refine ⟨by rw [p1, z]; rfl, fun hR => p2 ?_⟩
      exact Runs_drop (l := c :: r) hR 1
    · simp only [z, if_false] at h
      by_cases y : c = 34
      · simp only [y, if_true] at h
        obtain ⟨i, h1, h2⟩ := more_some h
        obtain ⟨p1, p2⟩ := strL_back n h1
        subst h2
        exact ⟨by rw [p1, y]; rfl, fun _ => p2⟩
      · simp only [y, if_false] at h
        exact wordL_back n (c :: r) d k h
theorem joinL_cons (Sp a : List Nat) {ps : List (List Nat)} (h : ps ≠ []) : TL.joinL Sp (a :: ps) = a ++ (Sp ++ TL.joinL Sp ps) := by
  cases ps with
  | nil => exact absurd rfl h
  | cons p ps => rfl
theorem take_two {l : List Nat} {k : Nat} {Sp : List Nat} (h : (l.drop k).take Sp.length = Sp) (j : Nat) : l.take (k + (Sp.length + j)) = l.take k ++ (Sp ++ (l.drop (k + Sp.length)).take j) := by
  rw [List.take_add, List.take_add, h, List.drop_drop]
theorem loopL_back {n : Nat} {p : List Nat → Option (D × Nat)} (hp : Back n p) : ∀ (f : Nat) (l : List Nat) (acc : List D) (c : Nat) (d : D) (k : Nat), loopL p f l acc c = some (d, k) →
    ∃ ds k0, d = .tup (acc ++ ds) ∧ ds ≠ [] ∧ k = c + k0 ∧ l.take k0 = TL.joinL cm (ds.map pt) ++ [41] ∧ (Runs l → ∀ d ∈ ds, txD n d = true)
  | 0, l, acc, c, d, k, h => by cases h
  | f + 1, l, acc, c, d, k, h => by
    unfold loopL at h
    cases e : p l with
    | none => rw [e] at h; cases h
    | some q =>
      obtain ⟨d1, k1⟩ := q
      obtain ⟨q1, q2⟩ := hp l d1 k1 e
      simp only [e] at h
      by_cases z : (l.drop k1).take 1 = [41]
      · rw [if_pos z] at h
        cases h
        refine ⟨[d1], k1 + 1, rfl, by simp, by omega, ?_, fun hR d hd => by rw [List.mem_singleton.mp hd]; exact q2 hR⟩
        rw [List.take_add, z, ← q1]
        rfl
      · rw [if_neg z] at h
        by_cases y : (l.drop k1).take 2 = [44, 32]
        · rw [if_pos y] at h
          obtain ⟨ds, k0, h1, h2, h3, h4, h5⟩ := loopL_back hp f _ _ _ _ _ h
          refine ⟨d1 :: ds, k1 + (2 + k0), by rw [h1, List.append_assoc]; rfl, by simp, by omega, ?_, fun hR d hd => ?_⟩
          · have e1 := take_two (l := l) (k := k1) (Sp := [44, 32]) y k0
            have e2 : k1 + ([44, 32].length + k0) = k1 + (2 + k0) := rfl
            rw [e2] at e1
            rw [e1, ← q1, List.map_cons, joinL_cons cm _ (by simpa using h2)]
            have e3 : (l.drop (k1 + [44, 32].length)).take k0 = TL.joinL cm (ds.map pt) ++ [41] := h4
            rw [e3, List.append_assoc, List.append_assoc]
          · rcases List.mem_cons.mp hd with hd | hd
            · rw [hd]; exact q2 hR
            · exact h5 (Runs_drop hR _) d hd
        · rw [if_neg y] at h; cases h
theorem tupL_back {n : Nat} {p : List Nat → Option (D × Nat)} (hp : Back n p) (l : List Nat) (d : D) (k : Nat) (h : tupL p l = some (d, k)) : pt d = 40 :: l.take k ∧ (Runs l → txD (n + 1) d = true) := by
  unfold tupL at h
  by_cases z : l.take 1 = [41]
  · rw [if_pos z] at h
    cases h
    rw [z]
    exact ⟨by unfold pt; rfl, fun _ => rfl⟩
  · rw [if_neg z] at h
    obtain ⟨ds, k0, h1, h2, h3, h4, h5⟩ := loopL_back hp _ _ _ _ _ _ h
    rw [List.nil_append] at h1
    rw [Nat.zero_add] at h3
    subst h1 h3
    refine ⟨?_, fun hR => ?_⟩
    · unfold pt
      rw [ptA_map, h4]
    · show ds.all (txD n) = true
      exact List.all_eq_true.mpr (h5 hR)
theorem thingL_back : ∀ n : Nat, Back n (thingL n)
  | 0 => fun l d k h => thing0_back (n := 0) (t := fun _ => none) (fun _ _ _ z => by cases z) l d k h
  | n + 1 => fun l d k h => thing0_back (n := n + 1) (t := tupL (thingL n)) (tupL_back (thingL_back n)) l d k h
theorem rowL_back : ∀ (f : Nat) (l : List Nat) (acc rs : List D), rowL (thingL 40) f l acc = some rs → ∃ ds, rs = acc ++ ds ∧ ds ≠ [] ∧ TL.joinL [32] (ds.map pt) = l ∧ (Runs l → ∀ d ∈ ds, txD 40 d = true)
  | 0, l, acc, rs, h => by cases h
  | f + 1, l, acc, rs, h => by
    unfold rowL at h
    cases e : thingL 40 l with
    | none => rw [e] at h; cases h
    | some q =>
      obtain ⟨d1, k1⟩ := q
      obtain ⟨q1, q2⟩ := thingL_back 40 l d1 k1 e
      simp only [e] at h
      by_cases z : (l.drop k1).length = 0
      · rw [if_pos z] at h
        cases h
        refine ⟨[d1], rfl, by simp, ?_, fun hR d hd => by rw [List.mem_singleton.mp hd]; exact q2 hR⟩
        show pt d1 = l
        rw [q1, List.take_of_length_le]
        rw [List.length_drop] at z
        omega
      · rw [if_neg z] at h
        by_cases y : (l.drop k1).take 1 = [32]
        · rw [if_pos y] at h
          obtain ⟨ds, h1, h2, h3, h4⟩ := rowL_back f _ _ _ h
          refine ⟨d1 :: ds, by rw [h1, List.append_assoc]; rfl, by simp, ?_, fun hR d hd => ?_⟩
          · rw [List.map_cons, joinL_cons [32] _ (by simpa using h2), h3, q1]
            have e3 : (l.drop k1).take 1 ++ (l.drop k1).drop 1 = l.drop k1 := List.take_append_drop ..
            rw [y, List.drop_drop] at e3
            rw [e3]
            exact List.take_append_drop ..
          · rcases List.mem_cons.mp hd with hd | hd
            · rw [hd]; exact q2 hR
            · exact h4 (Runs_drop hR _) d hd
        · rw [if_neg y] at h; cases h
theorem txD_mono : ∀ (n m : Nat) (d : D), n ≤ m → txD n d = true → txD m d = true
  | _, m, .non, _, _ => by cases m <;> rfl
  | _, m, .bl _, _, _ => by cases m <;> rfl
  | _, m, .str _, _, _ => by cases m <;> rfl
  | n, m, .int i, _, h => by cases n <;> cases m <;> exact h
  | 0, _, .tup _, _, h => by cases h
  | n + 1, 0, .tup _, h, _ => by omega
  | n + 1, m + 1, .tup ds, h, hd => by
    have h' : ds.all (txD n) = true := hd
    show ds.all (txD m) = true
    exact List.all_eq_true.mpr fun d hm => txD_mono n m d (by omega) (List.all_eq_true.mp h' d hm)
  | n, _, .lst _, _, h => by cases n <;> cases h
  | n, _, .raw _, _, h => by cases n <;> cases h
theorem readPlain_back {d v : D} (h : readPlain d = some v) : ∃ x, d = .str x ∧ pt v = tl x ∧ (Runs (tl x) → txD 40 v = true) := by
  unfold readPlain at h
  cases d with
  | str x =>
    cases e : thingL 40 (tl x) with
    | none => simp only [e] at h; cases h
    | some q =>
      obtain ⟨v', k⟩ := q
      simp only [e] at h
      by_cases hk : k = x.length
      · rw [if_pos hk] at h
        cases h
        obtain ⟨q1, q2⟩ := thingL_back 40 _ _ _ e
        refine ⟨x, rfl, ?_, q2⟩
        rw [q1, hk, len_tl, List.take_length]
      · rw [if_neg hk] at h; cases h
  | _ => cases h
theorem joinL_app (Sp : List Nat) : ∀ (a b : List (List Nat)), b ≠ [] → TL.joinL Sp (a ++ b) = TL.joinL Sp (a ++ [TL.joinL Sp b])
  | [], b, h => rfl
  | p :: a, b, h => by
    rw [List.cons_append, List.cons_append, joinL_cons Sp p (by simp [h]), joinL_cons Sp p (by simp), joinL_app Sp a b h]
theorem readClaim_back {l : List Nat} {c : D} (h : readClaimL l = some c) : ∃ (h0 : Str) (hs : List Str) (rs : List D), c = .tup (.str h0 :: (hs.map .str ++ rs)) ∧ hs.length + 1 = many (.str h0) ∧ (Runs l → ∀ d ∈ rs, txD 40 d = true) ∧ TL.joinL [32] ((h0 :: hs).map tl ++ rs.map pt) = l := by
  unfold readClaimL at h
  by_cases hc : headW (cwL l) < (cwL l).length
  · rw [if_pos hc] at h
    cases e : thingsL (TL.joinL [32] ((cwL l).drop (headW (cwL l)))) with
    | none => simp only [e] at h; cases h
    | some rs =>
      simp only [e] at h
      split at h
      · cases h
        obtain ⟨ds, h1, h2, h3, h4⟩ := rowL_back _ _ _ _ e
        rw [List.nil_append] at h1
        subst h1
        have hj := cw_join l
        have hm2 := (many_le (.str (S ((cwL l).headD [])))).1
        unfold claimOf
        cases hw : cwL l with
        | nil => exact absurd hw (cw_ne l)
        | cons a wr =>
          rw [hw] at hc hj h3 h4 hm2
          have eh : headW (a :: wr) = many (.str (S a)) := rfl
          rw [eh] at hc h3 h4 ⊢
          obtain ⟨m, hm⟩ : ∃ m, many (.str (S a)) = m + 1 := ⟨many (.str (S a)) - 1, by
            have : 2 ≤ many (.str (S a)) := hm2
            omega⟩
          rw [hm] at hc h3 h4 ⊢
          refine ⟨S a, (wr.take m).map S, rs, ?_, ?_, fun hR => h4 ?_, ?_⟩
          · rw [List.take_succ_cons, List.map_cons, List.map_map, List.cons_append]
            rfl
          · rw [hm, List.length_map, List.length_take]
            simp only [List.length_cons] at hc
            omega
          · obtain ⟨k, _, hk⟩ := joinL_drop [32] (a :: wr) (m + 1) hc
            rw [hk, hj]
            exact Runs_drop hR k
          · have et : (S a :: (wr.take m).map S).map tl = (a :: wr).take (m + 1) := by
              rw [List.take_succ_cons, List.map_cons, List.map_map, tl_S]
              have : (tl ∘ S) = id := rfl
              rw [this, List.map_id]
            rw [et, joinL_app [32] _ _ (by simpa using h2), h3, ← joinL_app [32] _ _ (by
              intro z
              have := congrArg List.length z
              rw [List.length_drop] at this
              simp only [List.length_nil] at this
              omega), List.take_append_drop, hj]
      · cases h
  · rw [if_neg hc] at h; cases h
end K88
set_option maxHeartbeats 4000000
/-! the law's reader -/
namespace K88
open PySem L2 Dn
def lrT (φ : DE → Prop) : TDS := dAsg 2 (dIf (dTest (dVar 1)) (dCall RCt [] (dCons (dCallX (RXf readClaim) φ (dCons (dVar 0) dNil)) dNil)) (dCall (RPt 51) [] (dCons (dCallX (RXf readPlain) φ (dCons (dVar 0) dNil)) dNil)))
theorem lrT_mono : ∀ φ φ' A B δ, (∀ δ, φ δ → φ' δ) → A.Le B → lrT φ A δ → lrT φ' B δ := by
  intro φ φ' A B δ h1 h2 h
  unfold lrT at h ⊢
  simp only [dAsg, dIf, dTest, dCall, dCallX, dCons, dNil, dVar] at h ⊢
  obtain ⟨d1, e1, k, e2, h⟩ := h
  refine ⟨d1, e1, k, e2, ?_⟩
  cases k with
  | true =>
    simp only [if_true] at h ⊢
    obtain ⟨d0, e0, h⟩ := h
    exact ⟨d0, e0, mox_f _ _ _ _ _ (fun v z => moCt _ _ _ (fun _ y => h2.nx _ y) z) (fun z => h1 _ z) h⟩
  | false =>
    simp only [Bool.false_eq_true, if_false] at h ⊢
    obtain ⟨d0, e0, h⟩ := h
    exact ⟨d0, e0, mox_f _ _ _ _ _ (fun v z => moPt 51 _ _ _ (fun _ y => h2.nx _ y) z) (fun z => h1 _ z) h⟩
/-- what the law's reader answers -/
def lawRead (d : D) (b : Bool) : D := if (if b then readClaim d else readPlain d).isSome then d else .int 0
def RLr : RP := fun ds Q => ∃ d b, ds = [d, .bl b] ∧ askOk d ∧ Q (lawRead d b)
theorem moLr : MoR RLr := fun ds Q Q' k ⟨d, b, h1, h2, h⟩ => ⟨d, b, h1, h2, k _ h⟩
section
variable {P : Program} {w : World} {K : PySem.W.Frag} {mg : Str → Option Value} {base : Heap}
theorem ok_law_read (T : Tx K mg w) (TE : TxE P K mg) : FnOk P w K mg base CX0 97 T.a__law_read T.f__law_read ["_law_text", "_law_is_for_claim"] (spD K bx0 RLr) := by
  have G_read_claim := ok_read_claim (base := base) T TE
  have G_read_plain := ok_read_plain (base := base) T TE
  have G_claim_text := ok_claim_text (P := P) (base := base) T
  have G_plain_text := ok_plain_text (P := P) (base := base) T 51
  have mb := lrT_mono
  have mox_read_claim := mox_f (g := readClaim)
  have mox_read_plain := mox_f (g := readPlain)
  refine okD T.F__law_read sc__law_read (fun ds Q ⟨d, b, h, _⟩ => by rw [h]; rfl) (fun cdv A outer s H E e heb hr => ⟨_, (db_cons (ds_set 2 sc__law_read.nd de_non) (db_cons (ds_try (i := 3) (j := 2) rfl rfl sc__law_read.nd TE.mC T.n_isinstance TE.mW TE.T TE.TX TE.S.noat TE.exm TE.kit mb (fun W pn xe e2 φ eb tk ps ho => (db_one (ds_set 2 sc__law_read.nd (de_ifExp (dt_val (de_var 1)) (de_call (.inl rfl) moCt G_claim_text (Room.mono hr (by first | decide | omega)) T.g_claim_text T.F_claim_text.kp T.b_claim_text .nil (fun _ => .nil) pass0 (da_cons (de_callX mox_read_claim tk ho G_read_claim (Room.mono hr (by first | decide | omega)) T.g_read_claim T.F_read_claim.kp T.b_read_claim (da_cons (de_var 0) da_nil)) da_nil)) (de_call (.inl rfl) (moPt _) G_plain_text (Room.mono hr (by first | decide | omega)) T.g_plain_text T.F_plain_text.kp T.b_plain_text .nil (fun _ => .nil) pass0 (da_cons (de_callX mox_read_plain tk ho G_read_plain (Room.mono hr (by first | decide | omega)) T.g_read_plain T.F_read_plain.kp T.b_read_plain (da_cons (de_var 0) da_nil)) da_nil))))))) (db_one (ds_ret (de_var 2))))), fun ds Q h => ?_⟩)
  obtain ⟨d, b, rfl, ⟨hn, hx⟩, q⟩ := h
  have hno : noOwn [SV.d d, SV.d (.bl b), SV.d .non, SV.un] := fun i ds h => by
    match i, h with
    | 0, h => cases h
    | 1, h => cases h
    | 2, h => cases h
    | 3, h => cases h
    | i + 4, h => cases h
  have fin : ∀ {y : D} {u : SV}, Q y → ∃ z, [SV.d d, SV.d (.bl b), SV.d y, u][2]? = some (.d z) ∧ Q z := fun {y u} h => ⟨y, rfl, h⟩
  refine ⟨hno, ?_⟩
  unfold lawRead at q
  refine ⟨.bl b, rfl, b, rfl, ?_⟩
  cases b with
  | true =>
    refine (if_pos rfl).mpr ?_
    refine ⟨d, rfl, d, rfl, ⟨hn, hx⟩, ?_⟩
    cases e1 : readClaim d with
    | none =>
      simp only [e1, if_true, Option.isSome_none] at q
      exact ⟨rfl, by decide, fin q⟩
    | some c =>
      simp only [e1, if_true, Option.isSome_some] at q
      cases d with
      | str x =>
        obtain ⟨hl, hR⟩ := hx x rfl
        obtain ⟨h0, hs, rs, h1, h2, h3, h4⟩ := readClaim_back (l := tl x) e1
        subst h1
        have e2 := h4
        refine ⟨h0, hs, rs, rfl, h2, fun d hd => txD_mono 40 50 d (by decide) (h3 hR d hd), by rw [h4, ← len_tl]; exact hl, ?_⟩
        refine fin ?_
        rw [h4, S_tl]
        exact q
      | _ => cases e1
  | false =>
    refine (if_neg Bool.false_ne_true).mpr ?_
    refine ⟨d, rfl, d, rfl, ⟨hn, hx⟩, ?_⟩
    cases e1 : readPlain d with
    | none =>
      simp only [e1, Bool.false_eq_true, if_false, Option.isSome_none] at q
      exact ⟨rfl, by decide, fin q⟩
    | some c =>
      simp only [e1, Bool.false_eq_true, if_false, Option.isSome_some, if_true] at q
      obtain ⟨x, h1, h2, h3⟩ := readPlain_back e1
      subst h1
      obtain ⟨hl, hR⟩ := hx x rfl
      refine ⟨c, rfl, ⟨txD_mono 40 50 c (by decide) (h3 hR), by rw [h2, ← len_tl]; exact hl⟩, ?_⟩
      refine fin ?_
      show Q (.str (S (pt c)))
      rw [h2, S_tl]
      exact q
end
end K88
set_option maxHeartbeats 4000000
/-! the law's choices -/
namespace K88
open PySem L2 Dn
/-- some number below n -/
def RCh (p : Addr) : RP := fun ds Q => ∃ n : Int, ds = [.raw (.ref p), .int n] ∧ 0 < n ∧ n ≤ 100001 ∧ ∀ r : Int, 0 ≤ r → r < n → Q (.int r)
theorem moCh (p : Addr) : MoR (RCh p) := fun ds Q Q' k ⟨n, h1, h2, h3, h⟩ => ⟨n, h1, h2, h3, fun r a b => k _ (h r a b)⟩
/-- one of a list's things -/
def ROne (p : Addr) : RP := fun ds Q => ∃ xs : List D, ds = [.raw (.ref p), .lst xs] ∧ xs ≠ [] ∧ xs.length ≤ 1000 ∧ ∀ d ∈ xs, Q d
theorem moOne (p : Addr) : MoR (ROne p) := fun ds Q Q' k ⟨n, h1, h2, h3, h⟩ => ⟨n, h1, h2, h3, fun d hd => k _ (h d hd)⟩
theorem divW {i j : Int} (h : 0 < j) (h2 : j < 2 ^ 64) : CDivW i j := wide_div (b := 64) h (by omega) (by decide) (by decide)
theorem mulW {i j : Int} (h1 : 0 ≤ i) (h2 : i < 2 ^ 64) (h3 : 0 ≤ j) (h4 : j < 2 ^ 64) : CMulW i j := wide_mul (a := 64) (b := 64) (by omega) (by omega) (by decide) (by decide) (by decide)
theorem rdC1_i {C : Int → Prop} {g : Int → D} {i : Int} {Q : D → Prop} : rdC1 C g [.int i] Q = (C i ∧ Q (g i)) := propext ⟨fun ⟨_, h1, h2, q⟩ => by cases h1; exact ⟨h2, q⟩, fun ⟨h2, q⟩ => ⟨i, rfl, h2, q⟩⟩
theorem ch_i {p : Addr} {n : Int} {Q : D → Prop} : RCh p [.raw (.ref p), .int n] Q = (0 < n ∧ n ≤ 100001 ∧ ∀ r : Int, 0 ≤ r → r < n → Q (.int r)) := propext ⟨fun ⟨_, h1, h2, h3, q⟩ => by cases h1; exact ⟨h2, h3, q⟩, fun ⟨h2, h3, q⟩ => ⟨n, rfl, h2, h3, q⟩⟩
theorem one_i {p : Addr} {xs : List D} {Q : D → Prop} : ROne p [.raw (.ref p), .lst xs] Q = (xs ≠ [] ∧ xs.length ≤ 1000 ∧ ∀ d ∈ xs, Q d) := propext ⟨fun ⟨_, h1, h2, h3, q⟩ => by cases h1; exact ⟨h2, h3, q⟩, fun ⟨h2, h3, q⟩ => ⟨xs, rfl, h2, h3, q⟩⟩
section
variable {P : Program} {w : World} {K : PySem.W.Frag} {mg : Str → Option Value} {base : Heap}
theorem ok_law_choose (T : Tx K mg w) (p : Addr) : FnOk P w K mg base CX0 1 T.a__law_choose T.f__law_choose ["_law_box", "_law_bound"] (spD K (bxp p) (RCh p)) := by
  refine okD T.F__law_choose sc__law_choose (fun ds Q ⟨n, h, _⟩ => by rw [h]; rfl) (fun cdv A outer s H E e heb hr => ⟨_, (db_cons (ds_if (dt_cmp L_gt op_gt (de_ix (L_bx heb) ix_list (de_var 0) de_int) de_int) (db_cons (ds_set 2 sc__law_choose.nd (de_op L_rI op_mod (de_callTy L_int call_int1 T.n_int (by decide +kernel) (da_cons (de_ix (L_bx heb) ix_list (de_var 0) de_int) da_nil)) (de_var 1))) (db_cons (ds_bst 0 heb (by decide) (de_op L_rI op_fdivW (de_ix (L_bx heb) ix_list (de_var 0) de_int) (de_var 1))) (db_one (ds_ret (de_var 2))))) db_nil) (db_cons (ds_set 3 sc__law_choose.nd (de_op L_rI op_mod (de_callTy L_int call_int1 T.n_int (by decide +kernel) (da_cons (de_op L_add op_add (de_op L_rI op_mulW (de_ix (L_bx heb) ix_list (de_var 0) de_int) de_int) de_int) da_nil)) de_int)) (db_cons (ds_bst 0 heb (by decide) (de_op L_add op_add (de_op L_rI op_mod (de_callTy L_int call_int1 T.n_int (by decide +kernel) (da_cons (de_op L_add op_add (de_op L_rI op_mulW (de_var 3) de_int) de_int) da_nil)) de_int) de_int)) (db_one (ds_ret (de_op L_rI op_mod (de_callTy L_int call_int1 T.n_int (by decide +kernel) (da_cons (de_op L_rI op_fdivW (de_op L_add op_add (de_op L_rI op_mulW (de_var 3) de_int) (de_ix (L_bx heb) ix_list (de_var 0) de_int)) de_int) da_nil)) (de_var 1))))))), fun ds Q h => ?_⟩)
  obtain ⟨n, rfl, h0, h1, q⟩ := h
  simp only [dSeq, dIfS, dRet, dRetN, dDrop, dAsg, dAsgF, dApp, dAug, dPar, dPar2, dFrz, dNext, dC, dOp, dTest, dChain, dUn, dtAnd, dtOr, dtNot, dAndV, dOrV, dNotV, dIf, dNil, dCons, dStar, dTup, dLst, dFz, dCall, dCB, dSl, dNoPart, dPart, dM1, dBM, dFmt, dJ3, dSq, dVar, startD,
    List.map_cons, List.map_nil, List.length_cons, List.length_nil, List.nil_append, List.cons_append, List.append_nil, List.replicate_succ, List.replicate_zero, List.getElem?_cons_zero, List.getElem?_cons_succ, List.set_cons_zero, List.set_cons_succ, Nat.reduceAdd, Nat.reduceSub,
    isi_non_int, isi_non_bool, isi_non_str, isi_non_tup, isi_bl_int, isi_bl_bool, isi_bl_str, isi_bl_tup, isi_int_int, isi_int_bool, isi_int_str, isi_int_tup, isi_str_int, isi_str_bool, isi_str_str, isi_str_tup, isi_lst_int, isi_lst_bool, isi_lst_str, isi_lst_tup, isi_tup_int, isi_tup_bool, isi_tup_str, isi_tup_tup,
    isN_non, noN_non, isN_bl, noN_bl, isN_int, noN_int, isN_str, noN_str, isN_lst, noN_lst, isN_tup, noN_tup,
    eq_ss, ne_ss, eq_ii, ne_ii, ne_si, len_str', len_tup', len_lst', add_ii, sub_ii, lt_ii, le_ii, gt_ii, ge_ii, ex_bl, ex_int, ex_str, ex_sv, ex_own, all_of, Bool.not_true, Bool.not_false, Bool.false_eq_true, reduceIte, ix_lst, ix_tup', ix_str', sign_of, rI_ii, rdC1_i, bx_0, bx_1, dBst]
  have top : bxTop = 2147483629 := rfl
  have md : ∀ x : Int, 0 ≤ x % n ∧ x % n < n := fun x => ⟨Int.emod_nonneg _ (by omega), Int.emod_lt_of_pos _ h0⟩
  intro m hm
  split
  · intro m2 hm2
    refine ⟨trivial, h0, fun m3 hm3 => ⟨divW h0 (by omega), trivial, ?_, q _ (md m2).1 (md m2).2⟩⟩
    exact Int.ediv_nonneg hm3 (by omega)
  · intro m ⟨hm1, hm2⟩
    have a1 : 0 ≤ (m * 40014 + 89) % 2147483563 ∧ (m * 40014 + 89) % 2147483563 < 2147483563 := ⟨Int.emod_nonneg _ (by decide), Int.emod_lt_of_pos _ (by decide)⟩
    generalize (m * 40014 + 89) % 2147483563 = y at a1 ⊢
    have a2 : 0 ≤ (y * 40692 + 5011) % 2147483629 ∧ (y * 40692 + 5011) % 2147483629 < 2147483629 := ⟨Int.emod_nonneg _ (by decide), Int.emod_lt_of_pos _ (by decide)⟩
    generalize (y * 40692 + 5011) % 2147483629 = z at a2 ⊢
    refine ⟨mulW (by omega) (by omega) (by decide) (by decide), trivial, by decide, mulW a1.1 (by omega) (by decide) (by decide), trivial, by decide, trivial, ?_, mulW a1.1 (by omega) (by decide) (by decide), fun m3 ⟨h3, h4⟩ => ⟨divW (by decide) (by decide), trivial, h0, q _ (md _).1 (md _).2⟩⟩
    show 1 ≤ z + 1 ∧ z + 1 ≤ bxTop
    omega
theorem ok_law_one_of (T : Tx K mg w) (p : Addr) : FnOk P w K mg base CX0 2 T.a__law_one_of T.f__law_one_of ["_law_box", "_law_some"] (spD K (bxp p) (ROne p)) := by
  have G__law_choose := ok_law_choose (P := P) (base := base) T p
  refine okD T.F__law_one_of sc__law_one_of (fun ds Q ⟨n, h, _⟩ => by rw [h]; rfl) (fun cdv A outer s H E e heb hr => ⟨_, (db_one (ds_ret (de_ix L_ix ix_seq (de_var 1) (de_call (.inr heb.symm) (moCh _) G__law_choose (Room.mono hr (by first | decide | omega)) T.g__law_choose T.F__law_choose.kp T.b__law_choose .nil (fun _ => .nil) pass0 (da_cons (de_var 0) (da_cons (de_callB L_len call_len T.n_len PySem.boot_len (da_cons (de_var 1) da_nil)) da_nil)))))), fun ds Q h => ?_⟩)
  obtain ⟨xs, rfl, h0, h1, q⟩ := h
  have hl : 0 < xs.length := List.length_pos_iff.mpr h0
  simp only [dSeq, dIfS, dRet, dRetN, dDrop, dAsg, dAsgF, dApp, dAug, dPar, dPar2, dFrz, dNext, dC, dOp, dTest, dChain, dUn, dtAnd, dtOr, dtNot, dAndV, dOrV, dNotV, dIf, dNil, dCons, dStar, dTup, dLst, dFz, dCall, dCB, dSl, dNoPart, dPart, dM1, dBM, dFmt, dJ3, dSq, dVar, startD,
    List.map_cons, List.map_nil, List.length_cons, List.length_nil, List.nil_append, List.cons_append, List.append_nil, List.replicate_succ, List.replicate_zero, List.getElem?_cons_zero, List.getElem?_cons_succ, List.set_cons_zero, List.set_cons_succ, Nat.reduceAdd, Nat.reduceSub,
    isi_non_int, isi_non_bool, isi_non_str, isi_non_tup, isi_bl_int, isi_bl_bool, isi_bl_str, isi_bl_tup, isi_int_int, isi_int_bool, isi_int_str, isi_int_tup, isi_str_int, isi_str_bool, isi_str_str, isi_str_tup, isi_lst_int, isi_lst_bool, isi_lst_str, isi_lst_tup, isi_tup_int, isi_tup_bool, isi_tup_str, isi_tup_tup,
    isN_non, noN_non, isN_bl, noN_bl, isN_int, noN_int, isN_str, noN_str, isN_lst, noN_lst, isN_tup, noN_tup,
    eq_ss, ne_ss, eq_ii, ne_ii, ne_si, len_str', len_tup', len_lst', add_ii, sub_ii, lt_ii, le_ii, gt_ii, ge_ii, ex_bl, ex_int, ex_str, ex_sv, ex_own, all_of, Bool.not_true, Bool.not_false, Bool.false_eq_true, reduceIte, ix_lst, ix_tup', ix_str', sign_of, ch_i]
  refine ⟨by omega, by omega, fun r hr0 hr1 => ?_⟩
  obtain ⟨k, rfl⟩ : ∃ k : Nat, r = (k : Int) := ⟨r.toNat, by omega⟩
  have hk : k < xs.length := by omega
  exact ⟨xs[k], atI_nat (List.getElem?_eq_getElem hk), q _ (List.getElem_mem hk)⟩
/-! the law's own printing -/
theorem ok_law_plain_text (T : Tx K mg w) : ∀ n : Nat, FnOk P w K mg base CX0 n T.a__law_plain_text T.f__law_plain_text ["_law_value"] (spD K bx0 (RPt n))
  | 0 => ok_never
  | n + 1 => by
    have G__law_plain_text := ok_law_plain_text T n
    refine okD T.F__law_plain_text sc__law_plain_text lenF1 (fun cdv A outer s H E e heb hr => ⟨_, (db_cons (ds_if (dt_cmp L_isN op_isN (de_var 0) de_non) (db_one (ds_ret de_str)) db_nil) (db_cons (ds_if (dt_val (de_callB L_isi call_isi T.n_isinstance (by decide +kernel) (da_cons (de_var 0) (da_cons (de_ty (T := "bool") T.n_bool (by decide +kernel)) da_nil)))) (db_one (ds_ret (de_ifExp (dt_val (de_var 0)) de_str de_str))) db_nil) (db_cons (ds_if (dt_val (de_callB L_isi call_isi T.n_isinstance (by decide +kernel) (da_cons (de_var 0) (da_cons (de_ty (T := "str") T.n_str (by decide +kernel)) da_nil)))) (db_one (ds_ret (de_op L_addS op_add_str (de_op L_addS op_add_str de_str (de_var 0)) de_str))) db_nil) (db_cons (ds_if (dt_val (de_callB L_isi call_isi T.n_isinstance (by decide +kernel) (da_cons (de_var 0) (da_cons (de_ty (T := "tuple") T.n_tuple (by decide +kernel)) da_nil)))) (db_one (ds_ret (de_op L_addS op_add_str (de_op L_addS op_add_str de_str (de_m1 L_join PySem.F.slot_str_join PySem.F.type_str_join mt_join de_str (DF_.de (df_lc (j := 1) rfl sc__law_plain_text.nd (di_tup (de_var 0)) (blkOk_by (N := ["_law_value", "_law_part"]) (sc := defScope s__law_plain_text) (own := [("_law_part", 1)]) (by decide +kernel)) (fun _ _ _ _ _ => pg_name (i := 1) sc__law_plain_text.nd rfl (Or.inl rfl)) (fun _ _ _ _ _ => dts_nil) (fun _ _ _ _ _ => (de_call (.inl rfl) (moPt _) G__law_plain_text (Room.mono hr (by first | decide | omega)) T.g__law_plain_text T.F__law_plain_text.kp T.b__law_plain_text .nil (fun _ => .nil) pass0 (da_cons (de_var 1) da_nil))))))) de_str))) db_nil) (db_one (ds_ret (de_callTy L_strI call_str_int T.n_str (by decide +kernel) (da_cons (de_var 0) da_nil)))))))), fun ds Q h => ?_⟩)
    obtain ⟨d, rfl, ⟨h, hl⟩, q⟩ := h
    have q' : Q (.str (S (pt d))) := q
    cases d with
    | non => simp only [dSeq, dIfS, dRet, dRetN, dDrop, dAsg, dAsgF, dApp, dAug, dPar, dPar2, dFrz, dNext, dC, dOp, dTest, dChain, dUn, dtAnd, dtOr, dtNot, dAndV, dOrV, dNotV, dIf, dNil, dCons, dStar, dTup, dLst, dFz, dCall, dCB, dSl, dNoPart, dPart, dM1, dBM, dFmt, dJ3, dSq, dVar, startD,
    List.map_cons, List.map_nil, List.length_cons, List.length_nil, List.nil_append, List.cons_append, List.append_nil, List.replicate_succ, List.replicate_zero, List.getElem?_cons_zero, List.getElem?_cons_succ, List.set_cons_zero, List.set_cons_succ, Nat.reduceAdd, Nat.reduceSub,
    isi_non_int, isi_non_bool, isi_non_str, isi_non_tup, isi_bl_int, isi_bl_bool, isi_bl_str, isi_bl_tup, isi_int_int, isi_int_bool, isi_int_str, isi_int_tup, isi_str_int, isi_str_bool, isi_str_str, isi_str_tup, isi_lst_int, isi_lst_bool, isi_lst_str, isi_lst_tup, isi_tup_int, isi_tup_bool, isi_tup_str, isi_tup_tup,
    isN_non, noN_non, isN_bl, noN_bl, isN_int, noN_int, isN_str, noN_str, isN_lst, noN_lst, isN_tup, noN_tup,
    eq_ss, ne_ss, eq_ii, ne_ii, ne_si, len_str', len_tup', len_lst', add_ii, sub_ii, lt_ii, le_ii, gt_ii, ge_ii, ex_bl, ex_int, ex_str, ex_sv, ex_own, all_of, Bool.not_true, Bool.not_false, Bool.false_eq_true, reduceIte, ix_lst, ix_tup', ix_str', sign_of]; unfold pt at q'; exact q'
    | bl b => simp only [dSeq, dIfS, dRet, dRetN, dDrop, dAsg, dAsgF, dApp, dAug, dPar, dPar2, dFrz, dNext, dC, dOp, dTest, dChain, dUn, dtAnd, dtOr, dtNot, dAndV, dOrV, dNotV, dIf, dNil, dCons, dStar, dTup, dLst, dFz, dCall, dCB, dSl, dNoPart, dPart, dM1, dBM, dFmt, dJ3, dSq, dVar, startD,
    List.map_cons, List.map_nil, List.length_cons, List.length_nil, List.nil_append, List.cons_append, List.append_nil, List.replicate_succ, List.replicate_zero, List.getElem?_cons_zero, List.getElem?_cons_succ, List.set_cons_zero, List.set_cons_succ, Nat.reduceAdd, Nat.reduceSub,
    isi_non_int, isi_non_bool, isi_non_str, isi_non_tup, isi_bl_int, isi_bl_bool, isi_bl_str, isi_bl_tup, isi_int_int, isi_int_bool, isi_int_str, isi_int_tup, isi_str_int, isi_str_bool, isi_str_str, isi_str_tup, isi_lst_int, isi_lst_bool, isi_lst_str, isi_lst_tup, isi_tup_int, isi_tup_bool, isi_tup_str, isi_tup_tup,
    isN_non, noN_non, isN_bl, noN_bl, isN_int, noN_int, isN_str, noN_str, isN_lst, noN_lst, isN_tup, noN_tup,
    eq_ss, ne_ss, eq_ii, ne_ii, ne_si, len_str', len_tup', len_lst', add_ii, sub_ii, lt_ii, le_ii, gt_ii, ge_ii, ex_bl, ex_int, ex_str, ex_sv, ex_own, all_of, Bool.not_true, Bool.not_false, Bool.false_eq_true, reduceIte, ix_lst, ix_tup', ix_str', sign_of]; unfold pt at q'; cases b <;> exact q'
    | int i =>
      simp only [dSeq, dIfS, dRet, dRetN, dDrop, dAsg, dAsgF, dApp, dAug, dPar, dPar2, dFrz, dNext, dC, dOp, dTest, dChain, dUn, dtAnd, dtOr, dtNot, dAndV, dOrV, dNotV, dIf, dNil, dCons, dStar, dTup, dLst, dFz, dCall, dCB, dSl, dNoPart, dPart, dM1, dBM, dFmt, dJ3, dSq, dVar, startD,
    List.map_cons, List.map_nil, List.length_cons, List.length_nil, List.nil_append, List.cons_append, List.append_nil, List.replicate_succ, List.replicate_zero, List.getElem?_cons_zero, List.getElem?_cons_succ, List.set_cons_zero, List.set_cons_succ, Nat.reduceAdd, Nat.reduceSub,
    isi_non_int, isi_non_bool, isi_non_str, isi_non_tup, isi_bl_int, isi_bl_bool, isi_bl_str, isi_bl_tup, isi_int_int, isi_int_bool, isi_int_str, isi_int_tup, isi_str_int, isi_str_bool, isi_str_str, isi_str_tup, isi_lst_int, isi_lst_bool, isi_lst_str, isi_lst_tup, isi_tup_int, isi_tup_bool, isi_tup_str, isi_tup_tup,
    isN_non, noN_non, isN_bl, noN_bl, isN_int, noN_int, isN_str, noN_str, isN_lst, noN_lst, isN_tup, noN_tup,
    eq_ss, ne_ss, eq_ii, ne_ii, ne_si, len_str', len_tup', len_lst', add_ii, sub_ii, lt_ii, le_ii, gt_ii, ge_ii, ex_bl, ex_int, ex_str, ex_sv, ex_own, all_of, Bool.not_true, Bool.not_false, Bool.false_eq_true, reduceIte, ix_lst, ix_tup', ix_str', sign_of]
      unfold pt at q'
      rw [S_tl] at q'
      cases n <;> exact ⟨i, rfl, of_decide_eq_true h, q'⟩
    | str x =>
      unfold pt at hl q'
      have hx : x.length + 2 ≤ 100000 := by
        simp only [List.length_cons, List.length_append, List.length_nil] at hl
        rw [len_tl]
        omega
      simp only [dSeq, dIfS, dRet, dRetN, dDrop, dAsg, dAsgF, dApp, dAug, dPar, dPar2, dFrz, dNext, dC, dOp, dTest, dChain, dUn, dtAnd, dtOr, dtNot, dAndV, dOrV, dNotV, dIf, dNil, dCons, dStar, dTup, dLst, dFz, dCall, dCB, dSl, dNoPart, dPart, dM1, dBM, dFmt, dJ3, dSq, dVar, startD,
    List.map_cons, List.map_nil, List.length_cons, List.length_nil, List.nil_append, List.cons_append, List.append_nil, List.replicate_succ, List.replicate_zero, List.getElem?_cons_zero, List.getElem?_cons_succ, List.set_cons_zero, List.set_cons_succ, Nat.reduceAdd, Nat.reduceSub,
    isi_non_int, isi_non_bool, isi_non_str, isi_non_tup, isi_bl_int, isi_bl_bool, isi_bl_str, isi_bl_tup, isi_int_int, isi_int_bool, isi_int_str, isi_int_tup, isi_str_int, isi_str_bool, isi_str_str, isi_str_tup, isi_lst_int, isi_lst_bool, isi_lst_str, isi_lst_tup, isi_tup_int, isi_tup_bool, isi_tup_str, isi_tup_tup,
    isN_non, noN_non, isN_bl, noN_bl, isN_int, noN_int, isN_str, noN_str, isN_lst, noN_lst, isN_tup, noN_tup,
    eq_ss, ne_ss, eq_ii, ne_ii, ne_si, len_str', len_tup', len_lst', add_ii, sub_ii, lt_ii, le_ii, gt_ii, ge_ii, ex_bl, ex_int, ex_str, ex_sv, ex_own, all_of, Bool.not_true, Bool.not_false, Bool.false_eq_true, reduceIte, ix_lst, ix_tup', ix_str', sign_of]
      have e1 : Str.ofString "\"" ++ x ++ Str.ofString "\"" = S (34 :: (tl x ++ [34])) := by
        rw [S_of "\"", ← S_tl x, S_app, S_app]
        rfl
      have e2 : (Str.ofString "\"").length = 1 := rfl
      have e3 : (Str.ofString "\"" ++ x).length = x.length + 1 := by
        have a1 : (S (tl (Str.ofString "\"") ++ tl x)).length = (tl x).length + 1 := by
          rw [len_S, List.length_append]
          show 1 + _ = _
          omega
        rw [← S_app, S_tl, S_tl, ← len_tl] at a1
        exact a1
      refine ⟨_, _, rfl, rfl, by rw [e2]; exact sz5 (by omega), _, _, rfl, rfl, by rw [e3, e2]; exact sz5 (by omega), ?_⟩
      rw [e1]
      exact q'
    | tup ds =>
      cases n with
      | zero => cases h
      | succ n =>
        have h' : ds.all (txD n) = true := h
        unfold pt at hl q'
        rw [ptA_map] at hl q'
        have hj : (TL.joinL cm (ds.map pt)).length ≤ 100000 - 2 := by
          simp at hl ⊢
          omega
        have hmem : ∀ d ∈ ds, txD n d = true := fun d hd => List.all_eq_true.mp h' d hd
        have hds : ds.length ≤ 100000 := by
          have h1 := joinL_sum cm (ds.map pt)
          rw [List.length_map] at h1
          simp at h1
          omega
        simp only [dSeq, dIfS, dRet, dRetN, dDrop, dAsg, dAsgF, dApp, dAug, dPar, dPar2, dFrz, dNext, dC, dOp, dTest, dChain, dUn, dtAnd, dtOr, dtNot, dAndV, dOrV, dNotV, dIf, dNil, dCons, dStar, dTup, dLst, dFz, dCall, dCB, dSl, dNoPart, dPart, dM1, dBM, dFmt, dJ3, dSq, dVar, startD,
    List.map_cons, List.map_nil, List.length_cons, List.length_nil, List.nil_append, List.cons_append, List.append_nil, List.replicate_succ, List.replicate_zero, List.getElem?_cons_zero, List.getElem?_cons_succ, List.set_cons_zero, List.set_cons_succ, Nat.reduceAdd, Nat.reduceSub,
    isi_non_int, isi_non_bool, isi_non_str, isi_non_tup, isi_bl_int, isi_bl_bool, isi_bl_str, isi_bl_tup, isi_int_int, isi_int_bool, isi_int_str, isi_int_tup, isi_str_int, isi_str_bool, isi_str_str, isi_str_tup, isi_lst_int, isi_lst_bool, isi_lst_str, isi_lst_tup, isi_tup_int, isi_tup_bool, isi_tup_str, isi_tup_tup,
    isN_non, noN_non, isN_bl, noN_bl, isN_int, noN_int, isN_str, noN_str, isN_lst, noN_lst, isN_tup, noN_tup,
    eq_ss, ne_ss, eq_ii, ne_ii, ne_si, len_str', len_tup', len_lst', add_ii, sub_ii, lt_ii, le_ii, gt_ii, ge_ii, ex_bl, ex_int, ex_str, ex_sv, ex_own, all_of, Bool.not_true, Bool.not_false, Bool.false_eq_true, reduceIte, ix_lst, ix_tup', ix_str', sign_of, dLc, D.tupOf]
        refine ⟨ds, rfl, lc_pt hds (fun d hd R' hR => ?_) ?_⟩
        · simp only [dSeq, dIfS, dRet, dRetN, dDrop, dAsg, dAsgF, dApp, dAug, dPar, dPar2, dFrz, dNext, dC, dOp, dTest, dChain, dUn, dtAnd, dtOr, dtNot, dAndV, dOrV, dNotV, dIf, dNil, dCons, dStar, dTup, dLst, dFz, dCall, dCB, dSl, dNoPart, dPart, dM1, dBM, dFmt, dJ3, dSq, dVar, startD,
    List.map_cons, List.map_nil, List.length_cons, List.length_nil, List.nil_append, List.cons_append, List.append_nil, List.replicate_succ, List.replicate_zero, List.getElem?_cons_zero, List.getElem?_cons_succ, List.set_cons_zero, List.set_cons_succ, Nat.reduceAdd, Nat.reduceSub,
    isi_non_int, isi_non_bool, isi_non_str, isi_non_tup, isi_bl_int, isi_bl_bool, isi_bl_str, isi_bl_tup, isi_int_int, isi_int_bool, isi_int_str, isi_int_tup, isi_str_int, isi_str_bool, isi_str_str, isi_str_tup, isi_lst_int, isi_lst_bool, isi_lst_str, isi_lst_tup, isi_tup_int, isi_tup_bool, isi_tup_str, isi_tup_tup,
    isN_non, noN_non, isN_bl, noN_bl, isN_int, noN_int, isN_str, noN_str, isN_lst, noN_lst, isN_tup, noN_tup,
    eq_ss, ne_ss, eq_ii, ne_ii, ne_si, len_str', len_tup', len_lst', add_ii, sub_ii, lt_ii, le_ii, gt_ii, ge_ii, ex_bl, ex_int, ex_str, ex_sv, ex_own, all_of, Bool.not_true, Bool.not_false, Bool.false_eq_true, reduceIte, ix_lst, ix_tup', ix_str', sign_of]
          show RF1 _ _ [d] R'
          rw [rf1]
          refine ⟨⟨hmem d hd, ?_⟩, hR⟩
          have := joinL_mem cm (ds.map pt) (pt d) (List.mem_map.mpr ⟨d, hd, rfl⟩)
          omega
        · refine ⟨Str.ofString ", ", _, (ds.map pt).map S, rfl, rfl, rfl, join_ok (sp := Str.ofString ", ") (by show (TL.joinL cm (ds.map pt)).length ≤ 100000; omega) (by decide), ?_⟩
          rw [join_S]
          have e0 : tl (Str.ofString ", ") = cm := rfl
          rw [e0]
          refine ⟨_, _, rfl, rfl, ?_, ?_⟩
          · have e2 : (Str.ofString "(").length = 1 := rfl
            rw [len_S, e2]
            exact sz5 (by omega)
          · rw [S_of "(", S_app]
            refine ⟨_, _, rfl, rfl, ?_, ?_⟩
            · have e2 : (Str.ofString ")").length = 1 := rfl
              have e3 : (tl (Str.ofString "(")).length = 1 := rfl
              rw [len_S, e2, List.length_append, e3]
              exact sz5 (by omega)
            · rw [S_of ")", S_app]
              exact q'
    | lst ds => cases n <;> cases h
    | raw _ => cases n <;> cases h
theorem ok_law_claim_text (T : Tx K mg w) : FnOk P w K mg base CX0 52 T.a__law_claim_text T.f__law_claim_text ["_law_claim_here"] (spD K bx0 RCt) := by
  have G__law_plain_text := ok_law_plain_text (P := P) (base := base) T 51
  refine okD T.F__law_claim_text sc__law_claim_text (fun ds Q ⟨_, _, _, h, _⟩ => by rw [h]; rfl) (fun cdv A outer s H E e heb hr => ⟨_, (db_cons (ds_set 1 sc__law_claim_text.nd (de_ifExp (dt_cmp (L_in false) op_in_seq (de_ix L_ix ix_seq (de_var 0) de_int) (de_tup (da_cons de_str (da_cons de_str da_nil)))) de_int de_int)) (db_one (ds_ret (de_m1 L_join PySem.F.slot_str_join PySem.F.type_str_join mt_join de_str (de_op L_catL op_cat (de_callTy L_list call_list_of T.n_list (by decide +kernel) (da_cons (de_slice L_slT sl_tupA (de_var 0) do_none (do_some (de_var 1))) da_nil)) (DF_.de (df_lc (j := 2) rfl sc__law_claim_text.nd (di_tup (de_slice L_slT sl_tupA (de_var 0) (do_some (de_var 1)) do_none)) (blkOk_by (N := ["_law_claim_here", "_law_bare", "_law_part"]) (sc := defScope s__law_claim_text) (own := [("_law_part", 2)]) (by decide +kernel)) (fun _ _ _ _ _ => pg_name (i := 2) sc__law_claim_text.nd rfl (Or.inl rfl)) (fun _ _ _ _ _ => dts_nil) (fun _ _ _ _ _ => (de_call (.inl rfl) (moPt _) G__law_plain_text (Room.mono hr (by first | decide | omega)) T.g__law_plain_text T.F__law_plain_text.kp T.b__law_plain_text .nil (fun _ => .nil) pass0 (da_cons (de_var 2) da_nil)))))))))), fun ds Q h => ?_⟩)
  obtain ⟨h0, hs, rs, rfl, hm, hrs, hl, q⟩ := h
  have hrl : rs.length ≤ 100000 := by
    have h1 := joinL_sum [32] ((h0 :: hs).map tl ++ rs.map pt)
    simp only [List.length_append, List.length_map, List.length_cons, List.length_nil] at h1
    omega
  simp only [dSeq, dIfS, dRet, dRetN, dDrop, dAsg, dAsgF, dApp, dAug, dPar, dPar2, dFrz, dNext, dC, dOp, dTest, dChain, dUn, dtAnd, dtOr, dtNot, dAndV, dOrV, dNotV, dIf, dNil, dCons, dStar, dTup, dLst, dFz, dCall, dCB, dSl, dNoPart, dPart, dM1, dBM, dFmt, dJ3, dSq, dVar, startD,
    List.map_cons, List.map_nil, List.length_cons, List.length_nil, List.nil_append, List.cons_append, List.append_nil, List.replicate_succ, List.replicate_zero, List.getElem?_cons_zero, List.getElem?_cons_succ, List.set_cons_zero, List.set_cons_succ, Nat.reduceAdd, Nat.reduceSub,
    isi_non_int, isi_non_bool, isi_non_str, isi_non_tup, isi_bl_int, isi_bl_bool, isi_bl_str, isi_bl_tup, isi_int_int, isi_int_bool, isi_int_str, isi_int_tup, isi_str_int, isi_str_bool, isi_str_str, isi_str_tup, isi_lst_int, isi_lst_bool, isi_lst_str, isi_lst_tup, isi_tup_int, isi_tup_bool, isi_tup_str, isi_tup_tup,
    isN_non, noN_non, isN_bl, noN_bl, isN_int, noN_int, isN_str, noN_str, isN_lst, noN_lst, isN_tup, noN_tup,
    eq_ss, ne_ss, eq_ii, ne_ii, ne_si, len_str', len_tup', len_lst', add_ii, sub_ii, lt_ii, le_ii, gt_ii, ge_ii, ex_bl, ex_int, ex_str, ex_sv, ex_own, all_of, Bool.not_true, Bool.not_false, Bool.false_eq_true, reduceIte, ix_lst, ix_str', sign_of, ix0, ix1, ix2, ix3, ix4, ix5, rf1]
  rw [in_fs (ds := [.str (Str.ofString "story"), .str (Str.ofString "calm")]) rfl]
  refine ⟨by decide, _, rfl, ?_⟩
  have hlen : (D.str h0 :: (hs.map D.str ++ rs)).length = hs.length + 1 + rs.length := by simp; omega
  have key : ∀ b : Int, b = ((hs.length + 1 : Nat) : Int) → rdSlT (.tup (.str h0 :: (hs.map .str ++ rs))) none (some b) fun x => rdList [x] fun x =>
      dLc (dSq D.tupOf (dSl rdSlT (dVar 0) (dPart (dVar 1)) dNoPart)) 2 dtYes (dCall (RPt 51) [] (dCons (dVar 2) dNil)) [.d (.tup (.str h0 :: (hs.map .str ++ rs))), .d (.int b), .un] fun xs =>
      rdCatL x (.lst xs) fun y => rdJoin (.str (Str.ofString " ")) [y] Q := fun b hb => by
    subst hb
    have c1 : cutD (.str h0 :: (hs.map .str ++ rs)) none (some ((hs.length + 1 : Nat) : Int)) = (h0 :: hs).map .str := by
      unfold cutD
      rw [HT.sIx_none, HT.sIx_nat, hlen, List.drop_zero, Nat.sub_zero, Nat.min_eq_left (by omega)]
      show D.str h0 :: (List.take hs.length (hs.map D.str ++ rs)) = _
      rw [List.take_left' (by simp)]
      rfl
    have c2 : cutD (.str h0 :: (hs.map .str ++ rs)) (some ((hs.length + 1 : Nat) : Int)) none = rs := by
      unfold cutD
      rw [HT.sIx_none, HT.sIx_nat, hlen, Nat.min_eq_left (by omega)]
      show List.take _ (List.drop hs.length (hs.map D.str ++ rs)) = _
      rw [List.drop_left' (by simp), List.take_of_length_le (by omega)]
    have m2 := many_le (.str h0)
    have z3 : (100010 : Nat) ≤ sizeLine := by decide
    refine ⟨_, rfl, ?_⟩
    rw [c1]
    refine ⟨_, _, rfl, rfl, ?_⟩
    simp only [dLc, dSeq, dIfS, dRet, dRetN, dDrop, dAsg, dAsgF, dApp, dAug, dPar, dPar2, dFrz, dNext, dC, dOp, dTest, dChain, dUn, dtAnd, dtOr, dtNot, dAndV, dOrV, dNotV, dIf, dNil, dCons, dStar, dTup, dLst, dFz, dCall, dCB, dSl, dNoPart, dPart, dM1, dBM, dFmt, dJ3, dSq, dVar, startD,
    List.map_cons, List.map_nil, List.length_cons, List.length_nil, List.nil_append, List.cons_append, List.append_nil, List.replicate_succ, List.replicate_zero, List.getElem?_cons_zero, List.getElem?_cons_succ, List.set_cons_zero, List.set_cons_succ, Nat.reduceAdd, Nat.reduceSub,
    isi_non_int, isi_non_bool, isi_non_str, isi_non_tup, isi_bl_int, isi_bl_bool, isi_bl_str, isi_bl_tup, isi_int_int, isi_int_bool, isi_int_str, isi_int_tup, isi_str_int, isi_str_bool, isi_str_str, isi_str_tup, isi_lst_int, isi_lst_bool, isi_lst_str, isi_lst_tup, isi_tup_int, isi_tup_bool, isi_tup_str, isi_tup_tup,
    isN_non, noN_non, isN_bl, noN_bl, isN_int, noN_int, isN_str, noN_str, isN_lst, noN_lst, isN_tup, noN_tup,
    eq_ss, ne_ss, eq_ii, ne_ii, ne_si, len_str', len_tup', len_lst', add_ii, sub_ii, lt_ii, le_ii, gt_ii, ge_ii, ex_bl, ex_int, ex_str, ex_sv, ex_own, all_of, Bool.not_true, Bool.not_false, Bool.false_eq_true, reduceIte, ix_lst, ix_tup', ix_str', sign_of]
    refine ⟨_, rfl, ?_⟩
    rw [c2]
    refine ⟨rs, rfl, lc_pt hrl (fun d hd R' hR => ?_) ?_⟩
    · simp only [dSeq, dIfS, dRet, dRetN, dDrop, dAsg, dAsgF, dApp, dAug, dPar, dPar2, dFrz, dNext, dC, dOp, dTest, dChain, dUn, dtAnd, dtOr, dtNot, dAndV, dOrV, dNotV, dIf, dNil, dCons, dStar, dTup, dLst, dFz, dCall, dCB, dSl, dNoPart, dPart, dM1, dBM, dFmt, dJ3, dSq, dVar, startD,
    List.map_cons, List.map_nil, List.length_cons, List.length_nil, List.nil_append, List.cons_append, List.append_nil, List.replicate_succ, List.replicate_zero, List.getElem?_cons_zero, List.getElem?_cons_succ, List.set_cons_zero, List.set_cons_succ, Nat.reduceAdd, Nat.reduceSub,
    isi_non_int, isi_non_bool, isi_non_str, isi_non_tup, isi_bl_int, isi_bl_bool, isi_bl_str, isi_bl_tup, isi_int_int, isi_int_bool, isi_int_str, isi_int_tup, isi_str_int, isi_str_bool, isi_str_str, isi_str_tup, isi_lst_int, isi_lst_bool, isi_lst_str, isi_lst_tup, isi_tup_int, isi_tup_bool, isi_tup_str, isi_tup_tup,
    isN_non, noN_non, isN_bl, noN_bl, isN_int, noN_int, isN_str, noN_str, isN_lst, noN_lst, isN_tup, noN_tup,
    eq_ss, ne_ss, eq_ii, ne_ii, ne_si, len_str', len_tup', len_lst', add_ii, sub_ii, lt_ii, le_ii, gt_ii, ge_ii, ex_bl, ex_int, ex_str, ex_sv, ex_own, all_of, Bool.not_true, Bool.not_false, Bool.false_eq_true, reduceIte, ix_lst, ix_tup', ix_str', sign_of]
      show RF1 _ _ [d] R'
      rw [rf1]
      refine ⟨⟨hrs d hd, ?_⟩, hR⟩
      have := joinL_mem [32] ((h0 :: hs).map tl ++ rs.map pt) (pt d) (List.mem_append_right _ (List.mem_map.mpr ⟨d, hd, rfl⟩))
      omega
    · have e5 : (h0 :: hs).map D.str ++ ((rs.map pt).map S).map D.str = ((((h0 :: hs).map tl ++ rs.map pt).map S).map D.str) := by
        rw [List.map_append, List.map_append]
        congr 1
        rw [List.map_map, List.map_map]
        refine List.map_congr_left fun x _ => ?_
        show D.str x = D.str (S (tl x))
        rw [S_tl]
      refine ⟨_, _, rfl, rfl, ?_, Str.ofString " ", _, ((h0 :: hs).map tl ++ rs.map pt).map S, rfl, rfl, ?_, join_ok (sp := Str.ofString " ") hl (by decide), ?_⟩
      · simp only [List.length_cons, List.length_map]
        omega
      · show some _ = some _
        exact congrArg some e5
      · rw [join_S]
        exact q
  have hm' : hs.length + 1 = if inV (D.str h0).v [.str (Str.ofString "story"), .str (Str.ofString "calm")] then 3 else 2 := hm
  show if inV (D.str h0).v [.str (Str.ofString "story"), .str (Str.ofString "calm")] = true then _ else _
  by_cases a : inV (D.str h0).v [.str (Str.ofString "story"), .str (Str.ofString "calm")] = true
  · rw [if_pos a] at hm' ⊢
    exact key 3 (by rw [hm']; rfl)
  · rw [if_neg a] at hm' ⊢
    exact key 2 (by rw [hm']; rfl)
end
end K88
set_option maxHeartbeats 4000000
/-! the law's things -/
namespace K88
open PySem L2 Dn
def atomsD : List D := [.int 0, .int 1, .int 7, .int (-1), .int (-40), .int 1000000000000, .non, .bl true, .bl false, .str (Str.ofString ""), .str (Str.ofString "ok"), .str (Str.ofString "ok 1 2"), .str (Str.ofString "undo free no"), .str (Str.ofString "("), .str (Str.ofString ")"), .str (Str.ofString ", "), .str (Str.ofString "no")]
def lawP : Nat → D → Prop
  | 0, d => d ∈ atomsD
  | n + 1, d => d ∈ atomsD ∨ ∃ ds, d = .tup ds ∧ ds.length ≤ 3 ∧ ∀ x ∈ ds, lawP n x
theorem lawP_atom {n : Nat} {d : D} (h : d ∈ atomsD) : lawP n d := by
  cases n with
  | zero => exact h
  | succ n => exact .inl h
def RLP (p : Addr) : Nat → RP
  | 0 => fun _ _ => False
  | n + 1 => fun ds Q => ds = [.raw (.ref p), .int n] ∧ ∀ d, lawP n d → Q d
theorem moLP (p : Addr) : ∀ n : Nat, MoR (RLP p n)
  | 0 => fun _ _ _ _ h => h
  | n + 1 => fun ds Q Q' k ⟨h1, h⟩ => ⟨h1, fun d hd => k _ (h d hd)⟩
/-- a comprehension whose elements are any of a kind -/
theorem lc_dem {j : Nat} {te : TD} {δ : DE} {A : D → Prop} : ∀ (ds acc : List D) (R : List D → Prop), (∀ d ∈ ds, ∀ R' : D → Prop, (∀ y, A y → R' y) → te (δ.set j (.d d)) R') → acc.length + ds.length ≤ sizeLine → (∀ ys : List D, ys.length = ds.length → (∀ y ∈ ys, A y) → R (acc ++ ys)) → lcW j dtYes te ds acc δ R
  | [], acc, R, _, _, h => by
    have := h [] rfl (fun _ z => nomatch z)
    rw [List.append_nil] at this
    exact this
  | x :: xs, acc, R, ht, hz, h => by
    have e : lcW j dtYes te (x :: xs) acc δ R = te (δ.set j (.d x)) fun y => acc.length < sizeLine ∧ lcW j dtYes te xs (acc ++ [y]) δ R := by
      simp [lcW, dtYes]
    rw [e]
    refine ht x (List.mem_cons_self ..) _ fun y hy => ⟨by rw [List.length_cons] at hz; omega, ?_⟩
    refine lc_dem xs _ R (fun d hd => ht d (List.mem_cons_of_mem _ hd)) (by rw [List.length_append]; rw [List.length_cons] at hz; show acc.length + 1 + xs.length ≤ _; omega) fun ys hl hA => ?_
    rw [List.append_assoc]
    exact h (y :: ys) (by simp [hl]) fun z hz => by
      rcases List.mem_cons.mp hz with hz | hz
      · rw [hz]; exact hy
      · exact hA z hz
section
variable {P : Program} {w : World} {K : PySem.W.Frag} {mg : Str → Option Value} {base : Heap}
theorem ok_law_plain (T : Tx K mg w) (p : Addr) : ∀ n : Nat, FnOk P w K mg base CX0 (n + 3) T.a__law_plain T.f__law_plain ["_law_box", "_law_deep"] (spD K (bxp p) (RLP p n))
  | 0 => ok_never
  | n + 1 => by
    have G__law_choose := ok_law_choose (P := P) (base := base) T p
    have G__law_one_of := ok_law_one_of (P := P) (base := base) T p
    have G__law_plain := ok_law_plain T p n
    refine okD T.F__law_plain sc__law_plain (fun ds Q ⟨h, _⟩ => by rw [h]; rfl) (fun cdv A outer s H E e heb hr => ⟨_, (db_cons (ds_set 2 sc__law_plain.nd (de_call (.inr heb.symm) (moCh _) G__law_choose (Room.mono hr (by first | decide | omega)) T.g__law_choose T.F__law_choose.kp T.b__law_choose .nil (fun _ => .nil) pass0 (da_cons (de_var 0) (da_cons de_int da_nil)))) (db_cons (ds_if (DW_.t (dw_and (dt_cmp L_gt op_gt (de_var 1) de_int) (dw_and1 (dt_cmp L_lt op_lt (de_var 2) de_int)))) (db_one (ds_ret (de_callTy L_tuple call_tuple_of T.n_tuple (by decide +kernel) (da_cons (DF_.de (df_lc (j := 4) rfl sc__law_plain.nd (di_range T.n_range (de_call (.inr heb.symm) (moCh _) G__law_choose (Room.mono hr (by first | decide | omega)) T.g__law_choose T.F__law_choose.kp T.b__law_choose .nil (fun _ => .nil) pass0 (da_cons (de_var 0) (da_cons de_int da_nil)))) (blkOk_by (N := ["_law_box", "_law_deep", "_law_form", "_law_some", "_law_turn"]) (sc := defScope s__law_plain) (own := [("_law_turn", 4)]) (by decide +kernel)) (fun _ _ _ _ _ => pg_name (i := 4) sc__law_plain.nd rfl (Or.inl rfl)) (fun _ _ _ _ _ => dts_nil) (fun _ _ _ _ _ => (de_call (.inr heb.symm) (moLP _ _) G__law_plain (Room.mono hr (by first | decide | omega)) T.g__law_plain T.F__law_plain.kp T.b__law_plain .nil (fun _ => .nil) pass0 (da_cons (de_var 0) (da_cons (de_op L_sub op_sub (de_var 1) de_int) da_nil)))))) da_nil)))) db_nil) (db_cons (ds_set 3 sc__law_plain.nd (DF_.de (df_lst (da_cons de_int (da_cons de_int (da_cons de_int (da_cons (de_op L_sub op_sub de_int de_int) (da_cons (de_op L_sub op_sub de_int de_int) (da_cons (de_op L_rI op_pow de_int de_int) (da_cons de_non (da_cons de_bl (da_cons de_bl (da_cons de_str (da_cons de_str (da_cons de_str (da_cons de_str (da_cons de_str da_nil))))))))))))))))) (db_one (ds_ret (de_call (.inr heb.symm) (moOne _) G__law_one_of (Room.mono hr (by first | decide | omega)) T.g__law_one_of T.F__law_one_of.kp T.b__law_one_of .nil (fun _ => .nil) pass0 (da_cons (de_var 0) (da_cons (de_op L_catL op_cat (de_var 3) (DF_.de (df_lst (da_cons de_str (da_cons de_str (da_cons de_str da_nil)))))) da_nil)))))))), fun ds Q h => ?_⟩)
    obtain ⟨rfl, q⟩ := h
    simp only [dSeq, dIfS, dRet, dRetN, dDrop, dAsg, dAsgF, dApp, dAug, dPar, dPar2, dFrz, dNext, dC, dOp, dTest, dChain, dUn, dtAnd, dtOr, dtNot, dAndV, dOrV, dNotV, dIf, dNil, dCons, dStar, dTup, dLst, dFz, dCall, dCB, dSl, dNoPart, dPart, dM1, dBM, dFmt, dJ3, dSq, dVar, startD,
    List.map_cons, List.map_nil, List.length_cons, List.length_nil, List.nil_append, List.cons_append, List.append_nil, List.replicate_succ, List.replicate_zero, List.getElem?_cons_zero, List.getElem?_cons_succ, List.set_cons_zero, List.set_cons_succ, Nat.reduceAdd, Nat.reduceSub,
    isi_non_int, isi_non_bool, isi_non_str, isi_non_tup, isi_bl_int, isi_bl_bool, isi_bl_str, isi_bl_tup, isi_int_int, isi_int_bool, isi_int_str, isi_int_tup, isi_str_int, isi_str_bool, isi_str_str, isi_str_tup, isi_lst_int, isi_lst_bool, isi_lst_str, isi_lst_tup, isi_tup_int, isi_tup_bool, isi_tup_str, isi_tup_tup,
    isN_non, noN_non, isN_bl, noN_bl, isN_int, noN_int, isN_str, noN_str, isN_lst, noN_lst, isN_tup, noN_tup,
    eq_ss, ne_ss, eq_ii, ne_ii, ne_si, len_str', len_tup', len_lst', add_ii, sub_ii, lt_ii, le_ii, gt_ii, ge_ii, ex_bl, ex_int, ex_str, ex_sv, ex_own, all_of, Bool.not_true, Bool.not_false, Bool.false_eq_true, reduceIte, ix_lst, ix_str', sign_of, ix0, ix1, ix2, ix3, ix4, ix5, ch_i, one_i, rI_ii, rdC1_i, dLc]
    have atom : ∀ d ∈ atomsD, Q d := fun d hd => q d (lawP_atom hd)
    have fin : CPow 10 12 ∧ 14 ≤ sizeLine ∧ 3 ≤ sizeLine ∧ rdCatL (.lst [.int 0, .int 1, .int 7, .int (0 - 1), .int (0 - 40), .int (10 ^ Int.toNat 12), .non, .bl true, .bl false, .str (Str.ofString ""), .str (Str.ofString "ok"), .str (Str.ofString "ok 1 2"), .str (Str.ofString "undo free no"), .str (Str.ofString "(")])
        (.lst [.str (Str.ofString ")"), .str (Str.ofString ", "), .str (Str.ofString "no")]) fun x => ROne p [.raw (.ref p), x] Q := by
      refine ⟨⟨by decide, by decide, by decide⟩, by decide, by decide, _, _, rfl, rfl, by decide, ?_⟩
      show ROne p [.raw (.ref p), .lst _] Q
      rw [one_i]
      exact ⟨by simp, by decide, atom⟩
    refine ⟨by decide, by decide, fun r h0 h1 => ?_⟩
    cases n with
    | zero =>
      rw [if_neg (by decide)]
      exact fin
    | succ n =>
      rw [if_pos (by simp)]
      split
      · simp only [dRng, dSeq, dIfS, dRet, dRetN, dDrop, dAsg, dAsgF, dApp, dAug, dPar, dPar2, dFrz, dNext, dC, dOp, dTest, dChain, dUn, dtAnd, dtOr, dtNot, dAndV, dOrV, dNotV, dIf, dNil, dCons, dStar, dTup, dLst, dFz, dCall, dCB, dSl, dNoPart, dPart, dM1, dBM, dFmt, dJ3, dSq, dVar, startD,
    List.map_cons, List.map_nil, List.length_cons, List.length_nil, List.nil_append, List.cons_append, List.append_nil, List.replicate_succ, List.replicate_zero, List.getElem?_cons_zero, List.getElem?_cons_succ, List.set_cons_zero, List.set_cons_succ, Nat.reduceAdd, Nat.reduceSub,
    isi_non_int, isi_non_bool, isi_non_str, isi_non_tup, isi_bl_int, isi_bl_bool, isi_bl_str, isi_bl_tup, isi_int_int, isi_int_bool, isi_int_str, isi_int_tup, isi_str_int, isi_str_bool, isi_str_str, isi_str_tup, isi_lst_int, isi_lst_bool, isi_lst_str, isi_lst_tup, isi_tup_int, isi_tup_bool, isi_tup_str, isi_tup_tup,
    isN_non, noN_non, isN_bl, noN_bl, isN_int, noN_int, isN_str, noN_str, isN_lst, noN_lst, isN_tup, noN_tup,
    eq_ss, ne_ss, eq_ii, ne_ii, ne_si, len_str', len_tup', len_lst', add_ii, sub_ii, lt_ii, le_ii, gt_ii, ge_ii, ex_bl, ex_int, ex_str, ex_sv, ex_own, all_of, Bool.not_true, Bool.not_false, Bool.false_eq_true, reduceIte, ix_lst, ix_str', sign_of, ix0, ix1, ix2, ix3, ix4, ix5, ch_i]
        refine ⟨by decide, by decide, fun k k0 k1 => ⟨by omega, by omega, ?_⟩⟩
        have hk : (rngD k.toNat).length = k.toNat := by unfold rngD; rw [List.length_map, List.length_range]
        refine lc_dem (A := lawP n) _ _ _ (fun d hd R' hR => ?_) (by rw [hk]; have := sz5 (n := k.toNat) (by omega); simpa using this) fun ys hl hA => ?_
        · simp only [dSeq, dIfS, dRet, dRetN, dDrop, dAsg, dAsgF, dApp, dAug, dPar, dPar2, dFrz, dNext, dC, dOp, dTest, dChain, dUn, dtAnd, dtOr, dtNot, dAndV, dOrV, dNotV, dIf, dNil, dCons, dStar, dTup, dLst, dFz, dCall, dCB, dSl, dNoPart, dPart, dM1, dBM, dFmt, dJ3, dSq, dVar, startD,
    List.map_cons, List.map_nil, List.length_cons, List.length_nil, List.nil_append, List.cons_append, List.append_nil, List.replicate_succ, List.replicate_zero, List.getElem?_cons_zero, List.getElem?_cons_succ, List.set_cons_zero, List.set_cons_succ, Nat.reduceAdd, Nat.reduceSub,
    isi_non_int, isi_non_bool, isi_non_str, isi_non_tup, isi_bl_int, isi_bl_bool, isi_bl_str, isi_bl_tup, isi_int_int, isi_int_bool, isi_int_str, isi_int_tup, isi_str_int, isi_str_bool, isi_str_str, isi_str_tup, isi_lst_int, isi_lst_bool, isi_lst_str, isi_lst_tup, isi_tup_int, isi_tup_bool, isi_tup_str, isi_tup_tup,
    isN_non, noN_non, isN_bl, noN_bl, isN_int, noN_int, isN_str, noN_str, isN_lst, noN_lst, isN_tup, noN_tup,
    eq_ss, ne_ss, eq_ii, ne_ii, ne_si, len_str', len_tup', len_lst', add_ii, sub_ii, lt_ii, le_ii, gt_ii, ge_ii, ex_bl, ex_int, ex_str, ex_sv, ex_own, all_of, Bool.not_true, Bool.not_false, Bool.false_eq_true, reduceIte, ix_lst, ix_str', sign_of, ix0, ix1, ix2, ix3, ix4, ix5]
          have e1 : ((n + 1 : Nat) : Int) - 1 = (n : Int) := by omega
          rw [e1]
          exact ⟨rfl, hR⟩
        · rw [List.nil_append]
          refine ⟨_, _, rfl, rfl, q _ (.inr ⟨ys, rfl, by rw [hl, hk]; omega, hA⟩)⟩
      · exact fin
/-! events -/
def evsD : List D := [.str (Str.ofString "next"), .str (Str.ofString "write"), .str (Str.ofString "over 0"), .str (Str.ofString "over 1"), .str (Str.ofString "late 0"), .str (Str.ofString "late 12"), .str (Str.ofString "street free"), .str (Str.ofString "street zz")]
def evP (d : D) : Prop := ∃ ds, d = .tup ds ∧ ds.length ≤ 3 ∧ ∀ x ∈ ds, x ∈ evsD
def REv (p : Addr) : RP := fun ds Q => ds = [.raw (.ref p)] ∧ ∀ d, evP d → Q d
theorem moEv (p : Addr) : MoR (REv p) := fun ds Q Q' k ⟨h1, h⟩ => ⟨h1, fun d hd => k _ (h d hd)⟩
theorem ok_law_some_events (T : Tx K mg w) (p : Addr) : FnOk P w K mg base CX0 3 T.a__law_some_events T.f__law_some_events ["_law_box"] (spD K (bxp p) (REv p)) := by
  have G__law_choose := ok_law_choose (P := P) (base := base) T p
  have G__law_one_of := ok_law_one_of (P := P) (base := base) T p
  refine okD T.F__law_some_events sc__law_some_events (fun ds Q ⟨h, _⟩ => by rw [h]; rfl) (fun cdv A outer s H E e heb hr => ⟨_, (db_cons (ds_set 1 sc__law_some_events.nd (DF_.de (df_lst (da_cons de_str (da_cons de_str (da_cons de_str (da_cons de_str (da_cons de_str (da_cons de_str (da_cons de_str (da_cons de_str da_nil))))))))))) (db_one (ds_ret (de_callTy L_tuple call_tuple_of T.n_tuple (by decide +kernel) (da_cons (DF_.de (df_lc (j := 2) rfl sc__law_some_events.nd (di_range T.n_range (de_call (.inr heb.symm) (moCh _) G__law_choose (Room.mono hr (by first | decide | omega)) T.g__law_choose T.F__law_choose.kp T.b__law_choose .nil (fun _ => .nil) pass0 (da_cons (de_var 0) (da_cons de_int da_nil)))) (blkOk_by (N := ["_law_box", "_law_some", "_law_turn"]) (sc := defScope s__law_some_events) (own := [("_law_turn", 2)]) (by decide +kernel)) (fun _ _ _ _ _ => pg_name (i := 2) sc__law_some_events.nd rfl (Or.inl rfl)) (fun _ _ _ _ _ => dts_nil) (fun _ _ _ _ _ => (de_call (.inr heb.symm) (moOne _) G__law_one_of (Room.mono hr (by first | decide | omega)) T.g__law_one_of T.F__law_one_of.kp T.b__law_one_of .nil (fun _ => .nil) pass0 (da_cons (de_var 0) (da_cons (de_var 1) da_nil)))))) da_nil))))), fun ds Q h => ?_⟩)
  obtain ⟨rfl, q⟩ := h
  simp only [dRng, dSeq, dIfS, dRet, dRetN, dDrop, dAsg, dAsgF, dApp, dAug, dPar, dPar2, dFrz, dNext, dC, dOp, dTest, dChain, dUn, dtAnd, dtOr, dtNot, dAndV, dOrV, dNotV, dIf, dNil, dCons, dStar, dTup, dLst, dFz, dCall, dCB, dSl, dNoPart, dPart, dM1, dBM, dFmt, dJ3, dSq, dVar, startD,
    List.map_cons, List.map_nil, List.length_cons, List.length_nil, List.nil_append, List.cons_append, List.append_nil, List.replicate_succ, List.replicate_zero, List.getElem?_cons_zero, List.getElem?_cons_succ, List.set_cons_zero, List.set_cons_succ, Nat.reduceAdd, Nat.reduceSub,
    isi_non_int, isi_non_bool, isi_non_str, isi_non_tup, isi_bl_int, isi_bl_bool, isi_bl_str, isi_bl_tup, isi_int_int, isi_int_bool, isi_int_str, isi_int_tup, isi_str_int, isi_str_bool, isi_str_str, isi_str_tup, isi_lst_int, isi_lst_bool, isi_lst_str, isi_lst_tup, isi_tup_int, isi_tup_bool, isi_tup_str, isi_tup_tup,
    isN_non, noN_non, isN_bl, noN_bl, isN_int, noN_int, isN_str, noN_str, isN_lst, noN_lst, isN_tup, noN_tup,
    eq_ss, ne_ss, eq_ii, ne_ii, ne_si, len_str', len_tup', len_lst', add_ii, sub_ii, lt_ii, le_ii, gt_ii, ge_ii, ex_bl, ex_int, ex_str, ex_sv, ex_own, all_of, Bool.not_true, Bool.not_false, Bool.false_eq_true, reduceIte, ix_lst, ix_str', sign_of, ix0, ix1, ix2, ix3, ix4, ix5, ch_i, one_i, rI_ii, rdC1_i, dLc]
  refine ⟨by decide, by decide, by decide, fun k k0 k1 => ⟨by omega, by omega, ?_⟩⟩
  have hk : (rngD k.toNat).length = k.toNat := by unfold rngD; rw [List.length_map, List.length_range]
  refine lc_dem (A := fun x => x ∈ evsD) _ _ _ (fun d hd R' hR => ?_) (by rw [hk]; have := sz5 (n := k.toNat) (by omega); simpa using this) fun ys hl hA => ?_
  · simp only [dSeq, dIfS, dRet, dRetN, dDrop, dAsg, dAsgF, dApp, dAug, dPar, dPar2, dFrz, dNext, dC, dOp, dTest, dChain, dUn, dtAnd, dtOr, dtNot, dAndV, dOrV, dNotV, dIf, dNil, dCons, dStar, dTup, dLst, dFz, dCall, dCB, dSl, dNoPart, dPart, dM1, dBM, dFmt, dJ3, dSq, dVar, startD,
    List.map_cons, List.map_nil, List.length_cons, List.length_nil, List.nil_append, List.cons_append, List.append_nil, List.replicate_succ, List.replicate_zero, List.getElem?_cons_zero, List.getElem?_cons_succ, List.set_cons_zero, List.set_cons_succ, Nat.reduceAdd, Nat.reduceSub,
    isi_non_int, isi_non_bool, isi_non_str, isi_non_tup, isi_bl_int, isi_bl_bool, isi_bl_str, isi_bl_tup, isi_int_int, isi_int_bool, isi_int_str, isi_int_tup, isi_str_int, isi_str_bool, isi_str_str, isi_str_tup, isi_lst_int, isi_lst_bool, isi_lst_str, isi_lst_tup, isi_tup_int, isi_tup_bool, isi_tup_str, isi_tup_tup,
    isN_non, noN_non, isN_bl, noN_bl, isN_int, noN_int, isN_str, noN_str, isN_lst, noN_lst, isN_tup, noN_tup,
    eq_ss, ne_ss, eq_ii, ne_ii, ne_si, len_str', len_tup', len_lst', add_ii, sub_ii, lt_ii, le_ii, gt_ii, ge_ii, ex_bl, ex_int, ex_str, ex_sv, ex_own, all_of, Bool.not_true, Bool.not_false, Bool.false_eq_true, reduceIte, ix_lst, ix_str', sign_of, ix0, ix1, ix2, ix3, ix4, ix5, one_i]
    exact ⟨by simp, by decide, hR⟩
  · rw [List.nil_append]
    refine ⟨_, _, rfl, rfl, q _ ⟨ys, rfl, by rw [hl, hk]; omega, hA⟩⟩
/-! texts bent -/
theorem cut_lo2 (x : Str) {n : Nat} : cutS x (some (n : Int)) none = S ((tl x).drop n) := by
  rcases Nat.le_total n x.length with z | z
  · exact cut_lo x z
  · unfold cutS
    rw [HT.sIx_none, HT.sIx_nat, Nat.min_eq_right z]
    refine congrArg S ?_
    rw [Nat.sub_self, List.take_zero, List.drop_eq_nil_of_le (by rw [← len_tl]; exact z)]
def signsT : List (List Nat) := [[], [32], [44], [44, 32], [40], [41], [34], [48], [45], [120]]
def bentP (l m : List Nat) : Prop := ∃ (i j : Nat) (s : List Nat), i ≤ l.length ∧ i ≤ j ∧ s ∈ signsT ∧ m = l.take i ++ s ++ l.drop j
def RBent (p : Addr) : RP := fun ds Q => ∃ x : Str, ds = [.raw (.ref p), .str x] ∧ x.length ≤ 90000 ∧ ∀ m, bentP (tl x) m → Q (.str (S m))
theorem moBent (p : Addr) : MoR (RBent p) := fun ds Q Q' k ⟨x, h1, h2, h⟩ => ⟨x, h1, h2, fun d hd => k _ (h d hd)⟩
theorem ok_law_bent (T : Tx K mg w) (p : Addr) : FnOk P w K mg base CX0 3 T.a__law_bent T.f__law_bent ["_law_box", "_law_text"] (spD K (bxp p) (RBent p)) := by
  have G__law_choose := ok_law_choose (P := P) (base := base) T p
  have G__law_one_of := ok_law_one_of (P := P) (base := base) T p
  refine okD T.F__law_bent sc__law_bent (fun ds Q ⟨x, h, _⟩ => by rw [h]; rfl) (fun cdv A outer s H E e heb hr => ⟨_, (db_cons (ds_par 2 3 rfl sc__law_bent.nd (de_call (.inr heb.symm) (moCh _) G__law_choose (Room.mono hr (by first | decide | omega)) T.g__law_choose T.F__law_choose.kp T.b__law_choose .nil (fun _ => .nil) pass0 (da_cons (de_var 0) (da_cons (de_op L_add op_add (de_callB L_len call_len T.n_len PySem.boot_len (da_cons (de_var 1) da_nil)) de_int) da_nil))) (de_call (.inr heb.symm) (moOne _) G__law_one_of (Room.mono hr (by first | decide | omega)) T.g__law_one_of T.F__law_one_of.kp T.b__law_one_of .nil (fun _ => .nil) pass0 (da_cons (de_var 0) (da_cons (DF_.de (df_lst (da_cons de_str (da_cons de_str (da_cons de_str (da_cons de_str (da_cons de_str (da_cons de_str (da_cons de_str (da_cons de_str (da_cons de_str (da_cons de_str (da_cons de_str da_nil))))))))))))) da_nil)))) (db_one (ds_ret (de_op L_addS op_add_str (de_op L_addS op_add_str (de_slice L_slS sl_str (de_var 1) do_none (do_some (de_var 2))) (de_var 3)) (de_slice L_slS sl_str (de_var 1) (do_some (de_op L_add op_add (de_var 2) (de_call (.inr heb.symm) (moCh _) G__law_choose (Room.mono hr (by first | decide | omega)) T.g__law_choose T.F__law_choose.kp T.b__law_choose .nil (fun _ => .nil) pass0 (da_cons (de_var 0) (da_cons de_int da_nil))))) do_none))))), fun ds Q h => ?_⟩)
  obtain ⟨x, rfl, hx, q⟩ := h
  have hz : x.length ≤ sizeLine := sz5 (by omega)
  simp only [dRng, dSeq, dIfS, dRet, dRetN, dDrop, dAsg, dAsgF, dApp, dAug, dPar, dPar2, dFrz, dNext, dC, dOp, dTest, dChain, dUn, dtAnd, dtOr, dtNot, dAndV, dOrV, dNotV, dIf, dNil, dCons, dStar, dTup, dLst, dFz, dCall, dCB, dSl, dNoPart, dPart, dM1, dBM, dFmt, dJ3, dSq, dVar, startD,
    List.map_cons, List.map_nil, List.length_cons, List.length_nil, List.nil_append, List.cons_append, List.append_nil, List.replicate_succ, List.replicate_zero, List.getElem?_cons_zero, List.getElem?_cons_succ, List.set_cons_zero, List.set_cons_succ, Nat.reduceAdd, Nat.reduceSub,
    isi_non_int, isi_non_bool, isi_non_str, isi_non_tup, isi_bl_int, isi_bl_bool, isi_bl_str, isi_bl_tup, isi_int_int, isi_int_bool, isi_int_str, isi_int_tup, isi_str_int, isi_str_bool, isi_str_str, isi_str_tup, isi_lst_int, isi_lst_bool, isi_lst_str, isi_lst_tup, isi_tup_int, isi_tup_bool, isi_tup_str, isi_tup_tup,
    isN_non, noN_non, isN_bl, noN_bl, isN_int, noN_int, isN_str, noN_str, isN_lst, noN_lst, isN_tup, noN_tup,
    eq_ss, ne_ss, eq_ii, ne_ii, ne_si, len_str', len_tup', len_lst', add_ii, sub_ii, lt_ii, le_ii, gt_ii, ge_ii, ex_bl, ex_int, ex_str, ex_sv, ex_own, all_of, Bool.not_true, Bool.not_false, Bool.false_eq_true, reduceIte, ix_lst, ix_str', sign_of, ix0, ix1, ix2, ix3, ix4, ix5, ch_i, one_i, rI_ii, rdC1_i, dLc, slS hz]
  have hx0 : (0 : Int) ≤ (x.length : Int) := by omega
  refine ⟨hz, by omega, by omega, fun r r0 r1 => ⟨by decide, by simp, by decide, fun d hd => ?_⟩⟩
  obtain ⟨i, rfl⟩ : ∃ i : Nat, r = (i : Int) := ⟨r.toNat, by omega⟩
  have hi : i ≤ (tl x).length := by rw [← len_tl]; omega
  obtain ⟨sg, hs, rfl⟩ : ∃ sg ∈ signsT, d = .str (S sg) := by
    simp only [List.mem_cons, List.not_mem_nil, or_false] at hd
    rcases hd with rfl | rfl | rfl | rfl | rfl | rfl | rfl | rfl | rfl | rfl | rfl
    · exact ⟨[], by decide, rfl⟩
    · exact ⟨[], by decide, rfl⟩
    · exact ⟨[32], by decide, rfl⟩
    · exact ⟨[44], by decide, rfl⟩
    · exact ⟨[44, 32], by decide, rfl⟩
    · exact ⟨[40], by decide, rfl⟩
    · exact ⟨[41], by decide, rfl⟩
    · exact ⟨[34], by decide, rfl⟩
    · exact ⟨[48], by decide, rfl⟩
    · exact ⟨[45], by decide, rfl⟩
    · exact ⟨[120], by decide, rfl⟩
  have hsl : sg.length ≤ 2 := by
    have : ∀ z ∈ signsT, z.length ≤ 2 := by decide
    exact this sg hs
  rw [cut_hi]
  refine ⟨_, _, rfl, rfl, by rw [len_S, len_S, List.length_take]; exact sz5 (by omega), by decide, by decide, fun r2 h0 h1 => ?_⟩
  obtain ⟨j, hj⟩ : ∃ j : Nat, (i : Int) + r2 = (j : Int) := ⟨i + r2.toNat, by omega⟩
  rw [hj, S_app, cut_lo2]
  refine ⟨_, _, rfl, rfl, ?_, ?_⟩
  · rw [len_S, len_S, List.length_append, List.length_take, List.length_drop]
    rw [← len_tl]
    exact sz5 (by omega)
  · rw [S_app]
    exact q _ ⟨i, j, sg, hi, by omega, hs, rfl⟩
end
end K88
set_option maxHeartbeats 4000000
/-! the law's claims -/
namespace K88
open PySem L2 Dn
def namesD : List D := [.str (Str.ofString "m"), .str (Str.ofString "k"), .str (Str.ofString "abcd")]
def harms8 : List D := [.str (Str.ofString "again"), .str (Str.ofString "unlike"), .str (Str.ofString "loose"), .str (Str.ofString "astray"), .str (Str.ofString "stale"), .str (Str.ofString "stuck"), .str (Str.ofString "left"), .str (Str.ofString "noticed")]
def startP (d : D) : Prop := ∃ s : Int, 0 ≤ s ∧ s < 2 ∧ d = .tup [.int s, .int 0]
def edP (d : D) : Prop := ∃ s : Int, 0 ≤ s ∧ s < 3 ∧ d = .int s
def papP (d : D) : Prop := ∃ ds, d = .tup ds ∧ ds.length ≤ 3 ∧ ∀ x ∈ ds, lawP 3 x
inductive LC : D → Prop
  | story {n h st e ev : D} : n ∈ namesD → h ∈ harms8 → startP st → edP e → evP ev → LC (.tup [.str (Str.ofString "story"), n, h, st, e, ev])
  | alike {n st e ev ev2 : D} : n ∈ namesD → startP st → edP e → evP ev → evP ev2 → LC (.tup [.str (Str.ofString "alike"), n, st, e, ev, ev2])
  | clean {n e e2 pp : D} : n ∈ namesD → edP e → edP e2 → papP pp → LC (.tup [.str (Str.ofString "clean"), n, e, e2, pp])
  | reads {n pp : D} : n ∈ namesD → papP pp → LC (.tup [.str (Str.ofString "reads"), n, pp])
  | calm {n h pp : D} : n ∈ namesD → h ∈ calmD → papP pp → LC (.tup [.str (Str.ofString "calm"), n, h, pp])
def RLC (p : Addr) : RP := fun ds Q => ds = [.raw (.ref p), .lst namesD] ∧ ∀ c, LC c → Q c
theorem moLC (p : Addr) : MoR (RLC p) := fun ds Q Q' k ⟨h1, h⟩ => ⟨h1, fun d hd => k _ (h d hd)⟩
section
variable {P : Program} {w : World} {K : PySem.W.Frag} {mg : Str → Option Value} {base : Heap}
theorem ok_law_claim (T : Tx K mg w) (p : Addr) : FnOk P w K mg base CX0 8 T.a__law_claim T.f__law_claim ["_law_box", "_law_names"] (spD K (bxp p) (RLC p)) := by
  have G__law_choose := ok_law_choose (P := P) (base := base) T p
  have G__law_one_of := ok_law_one_of (P := P) (base := base) T p
  have G__law_some_events := ok_law_some_events (P := P) (base := base) T p
  have G__law_plain := ok_law_plain (P := P) (base := base) T p 4
  refine okD T.F__law_claim sc__law_claim (fun ds Q ⟨h, _⟩ => by rw [h]; rfl) (fun cdv A outer s H E e heb hr => ⟨_, (db_cons (ds_par 2 3 rfl sc__law_claim.nd (de_call (.inr heb.symm) (moOne _) G__law_one_of (Room.mono hr (by first | decide | omega)) T.g__law_one_of T.F__law_one_of.kp T.b__law_one_of .nil (fun _ => .nil) pass0 (da_cons (de_var 0) (da_cons (de_var 1) da_nil))) (de_tup (da_cons (de_call (.inr heb.symm) (moCh _) G__law_choose (Room.mono hr (by first | decide | omega)) T.g__law_choose T.F__law_choose.kp T.b__law_choose .nil (fun _ => .nil) pass0 (da_cons (de_var 0) (da_cons de_int da_nil))) (da_cons de_int da_nil)))) (db_cons (ds_par 4 5 rfl sc__law_claim.nd (de_call (.inr heb.symm) (moCh _) G__law_choose (Room.mono hr (by first | decide | omega)) T.g__law_choose T.F__law_choose.kp T.b__law_choose .nil (fun _ => .nil) pass0 (da_cons (de_var 0) (da_cons de_int da_nil))) (de_call (.inr heb.symm) (moCh _) G__law_choose (Room.mono hr (by first | decide | omega)) T.g__law_choose T.F__law_choose.kp T.b__law_choose .nil (fun _ => .nil) pass0 (da_cons (de_var 0) (da_cons de_int da_nil)))) (db_cons (ds_if (dt_cmp L_eqS op_eq (de_var 4) de_int) (db_cons (ds_set 6 sc__law_claim.nd (de_call (.inr heb.symm) (moOne _) G__law_one_of (Room.mono hr (by first | decide | omega)) T.g__law_one_of T.F__law_one_of.kp T.b__law_one_of .nil (fun _ => .nil) pass0 (da_cons (de_var 0) (da_cons (DF_.de (df_lst (da_cons de_str (da_cons de_str (da_cons de_str (da_cons de_str (da_cons de_str (da_cons de_str (da_cons de_str (da_cons de_str da_nil)))))))))) da_nil)))) (db_one (ds_ret (de_tup (da_cons de_str (da_cons (de_var 2) (da_cons (de_var 6) (da_cons (de_var 3) (da_cons (de_var 5) (da_cons (de_call (.inr heb.symm) (moEv _) G__law_some_events (Room.mono hr (by first | decide | omega)) T.g__law_some_events T.F__law_some_events.kp T.b__law_some_events .nil (fun _ => .nil) pass0 (da_cons (de_var 0) da_nil)) da_nil)))))))))) db_nil) (db_cons (ds_if (dt_cmp L_eqS op_eq (de_var 4) de_int) (db_one (ds_ret (de_tup (da_cons de_str (da_cons (de_var 2) (da_cons (de_var 3) (da_cons (de_var 5) (da_cons (de_call (.inr heb.symm) (moEv _) G__law_some_events (Room.mono hr (by first | decide | omega)) T.g__law_some_events T.F__law_some_events.kp T.b__law_some_events .nil (fun _ => .nil) pass0 (da_cons (de_var 0) da_nil)) (da_cons (de_call (.inr heb.symm) (moEv _) G__law_some_events (Room.mono hr (by first | decide | omega)) T.g__law_some_events T.F__law_some_events.kp T.b__law_some_events .nil (fun _ => .nil) pass0 (da_cons (de_var 0) da_nil)) da_nil))))))))) db_nil) (db_cons (ds_set 7 sc__law_claim.nd (de_callTy L_tuple call_tuple_of T.n_tuple (by decide +kernel) (da_cons (DF_.de (df_lc (j := 8) rfl sc__law_claim.nd (di_range T.n_range (de_call (.inr heb.symm) (moCh _) G__law_choose (Room.mono hr (by first | decide | omega)) T.g__law_choose T.F__law_choose.kp T.b__law_choose .nil (fun _ => .nil) pass0 (da_cons (de_var 0) (da_cons de_int da_nil)))) (blkOk_by (N := ["_law_box", "_law_names", "_law_name", "_law_start", "_law_form", "_law_edition", "_law_harm", "_law_paper", "_law_turn"]) (sc := defScope s__law_claim) (own := [("_law_turn", 8)]) (by decide +kernel)) (fun _ _ _ _ _ => pg_name (i := 8) sc__law_claim.nd rfl (Or.inl rfl)) (fun _ _ _ _ _ => dts_nil) (fun _ _ _ _ _ => (de_call (.inr heb.symm) (moLP _ _) G__law_plain (Room.mono hr (by first | decide | omega)) T.g__law_plain T.F__law_plain.kp T.b__law_plain .nil (fun _ => .nil) pass0 (da_cons (de_var 0) (da_cons de_int da_nil)))))) da_nil))) (db_cons (ds_if (dt_cmp L_eqS op_eq (de_var 4) de_int) (db_one (ds_ret (de_tup (da_cons de_str (da_cons (de_var 2) (da_cons (de_var 5) (da_cons (de_call (.inr heb.symm) (moCh _) G__law_choose (Room.mono hr (by first | decide | omega)) T.g__law_choose T.F__law_choose.kp T.b__law_choose .nil (fun _ => .nil) pass0 (da_cons (de_var 0) (da_cons de_int da_nil))) (da_cons (de_var 7) da_nil)))))))) db_nil) (db_cons (ds_if (dt_cmp L_eqS op_eq (de_var 4) de_int) (db_one (ds_ret (de_tup (da_cons de_str (da_cons (de_var 2) (da_cons (de_var 7) da_nil)))))) db_nil) (db_one (ds_ret (de_tup (da_cons de_str (da_cons (de_var 2) (da_cons (de_call (.inr heb.symm) (moOne _) G__law_one_of (Room.mono hr (by first | decide | omega)) T.g__law_one_of T.F__law_one_of.kp T.b__law_one_of .nil (fun _ => .nil) pass0 (da_cons (de_var 0) (da_cons (DF_.de (df_lst (da_cons de_str (da_cons de_str (da_cons de_str (da_cons de_str da_nil)))))) da_nil))) (da_cons (de_var 7) da_nil)))))))))))))), fun ds Q h => ?_⟩)
  obtain ⟨rfl, q⟩ := h
  simp only [dRng, dSeq, dIfS, dRet, dRetN, dDrop, dAsg, dAsgF, dApp, dAug, dPar, dPar2, dFrz, dNext, dC, dOp, dTest, dChain, dUn, dtAnd, dtOr, dtNot, dAndV, dOrV, dNotV, dIf, dNil, dCons, dStar, dTup, dLst, dFz, dCall, dCB, dSl, dNoPart, dPart, dM1, dBM, dFmt, dJ3, dSq, dVar, startD,
    List.map_cons, List.map_nil, List.length_cons, List.length_nil, List.nil_append, List.cons_append, List.append_nil, List.replicate_succ, List.replicate_zero, List.getElem?_cons_zero, List.getElem?_cons_succ, List.set_cons_zero, List.set_cons_succ, Nat.reduceAdd, Nat.reduceSub,
    isi_non_int, isi_non_bool, isi_non_str, isi_non_tup, isi_bl_int, isi_bl_bool, isi_bl_str, isi_bl_tup, isi_int_int, isi_int_bool, isi_int_str, isi_int_tup, isi_str_int, isi_str_bool, isi_str_str, isi_str_tup, isi_lst_int, isi_lst_bool, isi_lst_str, isi_lst_tup, isi_tup_int, isi_tup_bool, isi_tup_str, isi_tup_tup,
    isN_non, noN_non, isN_bl, noN_bl, isN_int, noN_int, isN_str, noN_str, isN_lst, noN_lst, isN_tup, noN_tup,
    eq_ss, ne_ss, eq_ii, ne_ii, ne_si, len_str', len_tup', len_lst', add_ii, sub_ii, lt_ii, le_ii, gt_ii, ge_ii, ex_bl, ex_int, ex_str, ex_sv, ex_own, all_of, Bool.not_true, Bool.not_false, Bool.false_eq_true, reduceIte, ix_lst, ix_str', sign_of, ix0, ix1, ix2, ix3, ix4, ix5, ch_i, one_i, rI_ii, rdC1_i, dLc]
  have nm0 : namesD ≠ [] := by simp [namesD]
  refine ⟨nm0, by decide, fun d hd => ⟨by decide, by decide, fun r r0 r1 => ⟨by decide, by decide, by decide, fun f f0 f1 => ⟨by decide, by decide, fun ed e0 e1 => ?_⟩⟩⟩⟩
  have hst : startP (.tup [.int r, .int 0]) := ⟨r, r0, r1, rfl⟩
  have hed : edP (.int ed) := ⟨ed, e0, e1, rfl⟩
  by_cases h0 : f = 0
  · rw [if_pos (decide_eq_true h0)]
    exact ⟨by decide, by simp, by decide, fun h hh => ⟨rfl, fun ev hev => ⟨by decide, q _ (.story hd hh hst hed hev)⟩⟩⟩
  rw [if_neg (by simpa using h0)]
  by_cases h1 : f = 1
  · rw [if_pos (decide_eq_true h1)]
    exact ⟨rfl, fun ev hev => ⟨rfl, fun ev2 hev2 => ⟨by decide, q _ (.alike hd hst hed hev hev2)⟩⟩⟩
  rw [if_neg (by simpa using h1)]
  refine ⟨by decide, by decide, fun k k0 k1 => ⟨by omega, by omega, ?_⟩⟩
  have hk : (rngD k.toNat).length = k.toNat := by unfold rngD; rw [List.length_map, List.length_range]
  refine lc_dem (A := lawP 3) _ _ _ (fun d hd R' hR => ?_) (by rw [hk]; have := sz5 (n := k.toNat) (by omega); simpa using this) fun ys hl hA => ?_
  · simp only [dSeq, dIfS, dRet, dRetN, dDrop, dAsg, dAsgF, dApp, dAug, dPar, dPar2, dFrz, dNext, dC, dOp, dTest, dChain, dUn, dtAnd, dtOr, dtNot, dAndV, dOrV, dNotV, dIf, dNil, dCons, dStar, dTup, dLst, dFz, dCall, dCB, dSl, dNoPart, dPart, dM1, dBM, dFmt, dJ3, dSq, dVar, startD,
    List.map_cons, List.map_nil, List.length_cons, List.length_nil, List.nil_append, List.cons_append, List.append_nil, List.replicate_succ, List.replicate_zero, List.getElem?_cons_zero, List.getElem?_cons_succ, List.set_cons_zero, List.set_cons_succ, Nat.reduceAdd, Nat.reduceSub,
    isi_non_int, isi_non_bool, isi_non_str, isi_non_tup, isi_bl_int, isi_bl_bool, isi_bl_str, isi_bl_tup, isi_int_int, isi_int_bool, isi_int_str, isi_int_tup, isi_str_int, isi_str_bool, isi_str_str, isi_str_tup, isi_lst_int, isi_lst_bool, isi_lst_str, isi_lst_tup, isi_tup_int, isi_tup_bool, isi_tup_str, isi_tup_tup,
    isN_non, noN_non, isN_bl, noN_bl, isN_int, noN_int, isN_str, noN_str, isN_lst, noN_lst, isN_tup, noN_tup,
    eq_ss, ne_ss, eq_ii, ne_ii, ne_si, len_str', len_tup', len_lst', add_ii, sub_ii, lt_ii, le_ii, gt_ii, ge_ii, ex_bl, ex_int, ex_str, ex_sv, ex_own, all_of, Bool.not_true, Bool.not_false, Bool.false_eq_true, reduceIte, ix_lst, ix_str', sign_of, ix0, ix1, ix2, ix3, ix4, ix5]
    exact ⟨rfl, hR⟩
  rw [List.nil_append]
  refine ⟨_, _, rfl, rfl, ?_⟩
  have hpp : papP (.tup ys) := ⟨ys, rfl, by rw [hl, hk]; omega, hA⟩
  show if decide (f = 2) = true then _ else _
  by_cases h2 : f = 2
  · rw [if_pos (decide_eq_true h2)]
    exact ⟨by decide, by decide, fun e2 e20 e21 => ⟨by decide, q _ (.clean hd hed ⟨e2, e20, e21, rfl⟩ hpp)⟩⟩
  rw [if_neg (by simpa using h2)]
  by_cases h3 : f = 3
  · rw [if_pos (decide_eq_true h3)]
    exact ⟨by decide, q _ (.reads hd hpp)⟩
  rw [if_neg (by simpa using h3)]
  exact ⟨by decide, by simp, by decide, fun h hh => ⟨by decide, q _ (.calm hd hh hpp)⟩⟩
/-! things that are no claims -/
theorem cutD_hi {vs : List D} {n : Nat} (h : n ≤ vs.length) : cutD vs none (some (n : Int)) = vs.take n := by
  unfold cutD
  rw [HT.sIx_none, HT.sIx_nat, Nat.min_eq_left h, List.drop_zero, Nat.sub_zero]
theorem cutD_lo {vs : List D} {n : Nat} (h : n ≤ vs.length) : cutD vs (some (n : Int)) none = vs.drop n := by
  unfold cutD
  rw [HT.sIx_none, HT.sIx_nat, Nat.min_eq_left h, List.take_of_length_le (by rw [List.length_drop]; omega)]
theorem cutD_neg {vs : List D} (h : 0 < vs.length) : cutD vs none (some (-1)) = vs.take (vs.length - 1) := by
  unfold cutD
  have e : HT.sIx vs.length vs.length (some (-1)) = vs.length - 1 := by
    show (if (-1 : Int) < 0 then ((-1 : Int) + (vs.length : Int)).toNat else min (-1 : Int).toNat vs.length) = _
    rw [if_pos (by decide)]
    omega
  rw [HT.sIx_none, e, List.drop_zero, Nat.sub_zero]
def oddsD : List D := [.non, .bl true, .lst [], .str (Str.ofString "zz zz"), .int (-1), .tup [.str (Str.ofString "x"), .lst [.int 1]], .tup [.str (Str.ofString "\"")]]
inductive oddOf (vs : List D) : D → Prop
  | rep {i : Nat} {y : D} : i < vs.length → y ∈ oddsD → oddOf vs (.tup (vs.take i ++ [y] ++ vs.drop (i + 1)))
  | more {y : D} : y ∈ oddsD → oddOf vs (.tup (vs ++ [y]))
  | less : oddOf vs (.tup (vs.take (vs.length - 1)))
  | lst : oddOf vs (.lst vs)
  | one : oddOf vs (.tup (vs.take 1))
  | tale : oddOf vs (.tup (.str (Str.ofString "tale") :: vs.drop 1))
def ROdd (p : Addr) : RP := fun ds Q => ∃ vs : List D, ds = [.raw (.ref p), .tup vs] ∧ 0 < vs.length ∧ vs.length ≤ 10 ∧ ∀ o, oddOf vs o → Q o
theorem moOdd (p : Addr) : MoR (ROdd p) := fun ds Q Q' k ⟨x, h1, h2, h3, h⟩ => ⟨x, h1, h2, h3, fun d hd => k _ (h d hd)⟩
theorem ok_law_odd (T : Tx K mg w) (p : Addr) : FnOk P w K mg base CX0 8 T.a__law_odd T.f__law_odd ["_law_box", "_law_claim_here"] (spD K (bxp p) (ROdd p)) := by
  have G__law_choose := ok_law_choose (P := P) (base := base) T p
  have G__law_one_of := ok_law_one_of (P := P) (base := base) T p
  refine okD T.F__law_odd sc__law_odd (fun ds Q ⟨x, h, _⟩ => by rw [h]; rfl) (fun cdv A outer s H E e heb hr => ⟨_, (db_cons (ds_par 2 3 rfl sc__law_odd.nd (de_call (.inr heb.symm) (moCh _) G__law_choose (Room.mono hr (by first | decide | omega)) T.g__law_choose T.F__law_choose.kp T.b__law_choose .nil (fun _ => .nil) pass0 (da_cons (de_var 0) (da_cons (de_callB L_len call_len T.n_len PySem.boot_len (da_cons (de_var 1) da_nil)) da_nil))) (de_call (.inr heb.symm) (moOne _) G__law_one_of (Room.mono hr (by first | decide | omega)) T.g__law_one_of T.F__law_one_of.kp T.b__law_one_of .nil (fun _ => .nil) pass0 (da_cons (de_var 0) (da_cons (DF_.de (df_lst (da_cons de_non (da_cons de_bl (da_cons (DF_.de (df_lst da_nil)) (da_cons de_str (da_cons (de_op L_sub op_sub de_int de_int) (da_cons (de_tup (da_cons de_str (da_cons (DF_.de (df_lst (da_cons de_int da_nil))) da_nil))) (da_cons (de_tup (da_cons de_str da_nil)) da_nil))))))))) da_nil)))) (db_cons (ds_set 4 sc__law_odd.nd (DF_.de (df_lst (da_cons (de_op L_catT op_catA (de_op L_catT op_catA (de_slice L_slT sl_tupA (de_var 1) do_none (do_some (de_var 2))) (de_tup (da_cons (de_var 3) da_nil))) (de_slice L_slT sl_tupA (de_var 1) (do_some (de_op L_add op_add (de_var 2) de_int)) do_none)) (da_cons (de_op L_catT op_catA (de_var 1) (de_tup (da_cons (de_var 3) da_nil))) (da_cons (de_slice L_slT sl_tupA (de_var 1) do_none (do_some (de_un L_neg un_neg de_int))) (da_cons (de_callTy L_list call_list_of T.n_list (by decide +kernel) (da_cons (de_var 1) da_nil)) (da_cons (de_slice L_slT sl_tupA (de_var 1) do_none (do_some de_int)) da_nil)))))))) (db_one (ds_ret (de_call (.inr heb.symm) (moOne _) G__law_one_of (Room.mono hr (by first | decide | omega)) T.g__law_one_of T.F__law_one_of.kp T.b__law_one_of .nil (fun _ => .nil) pass0 (da_cons (de_var 0) (da_cons (de_op L_catL op_cat (de_var 4) (DF_.de (df_lst (da_cons (de_op L_catT op_catA (de_tup (da_cons de_str da_nil)) (de_slice L_slT sl_tupA (de_var 1) (do_some de_int) do_none)) da_nil)))) da_nil))))))), fun ds Q h => ?_⟩)
  obtain ⟨vs, rfl, hl0, hl, q⟩ := h
  simp only [dRng, dSeq, dIfS, dRet, dRetN, dDrop, dAsg, dAsgF, dApp, dAug, dPar, dPar2, dFrz, dNext, dC, dOp, dTest, dChain, dUn, dtAnd, dtOr, dtNot, dAndV, dOrV, dNotV, dIf, dNil, dCons, dStar, dTup, dLst, dFz, dCall, dCB, dSl, dNoPart, dPart, dM1, dBM, dFmt, dJ3, dSq, dVar, startD,
    List.map_cons, List.map_nil, List.length_cons, List.length_nil, List.nil_append, List.cons_append, List.append_nil, List.replicate_succ, List.replicate_zero, List.getElem?_cons_zero, List.getElem?_cons_succ, List.set_cons_zero, List.set_cons_succ, Nat.reduceAdd, Nat.reduceSub,
    isi_non_int, isi_non_bool, isi_non_str, isi_non_tup, isi_bl_int, isi_bl_bool, isi_bl_str, isi_bl_tup, isi_int_int, isi_int_bool, isi_int_str, isi_int_tup, isi_str_int, isi_str_bool, isi_str_str, isi_str_tup, isi_lst_int, isi_lst_bool, isi_lst_str, isi_lst_tup, isi_tup_int, isi_tup_bool, isi_tup_str, isi_tup_tup,
    isN_non, noN_non, isN_bl, noN_bl, isN_int, noN_int, isN_str, noN_str, isN_lst, noN_lst, isN_tup, noN_tup,
    eq_ss, ne_ss, eq_ii, ne_ii, ne_si, len_str', len_tup', len_lst', add_ii, sub_ii, lt_ii, le_ii, gt_ii, ge_ii, ex_bl, ex_int, ex_str, ex_sv, ex_own, all_of, Bool.not_true, Bool.not_false, Bool.false_eq_true, reduceIte, ix_lst, ix_str', sign_of, ix0, ix1, ix2, ix3, ix4, ix5, ch_i, one_i, rI_ii, rdC1_i, dLc]
  refine ⟨by omega, by omega, fun r r0 r1 => ⟨by decide, by decide, by decide, by decide, by decide, by simp, by decide, fun y hy => ?_⟩⟩
  have hy' : y ∈ oddsD := hy
  obtain ⟨i, rfl⟩ : ∃ i : Nat, r = (i : Int) := ⟨r.toNat, by omega⟩
  have hi : i < vs.length := by omega
  have sz : ∀ n : Nat, n ≤ 100 → n ≤ sizeLine := fun n h => sz5 (by omega)
  have c1 : cutD vs none (some (i : Int)) = vs.take i := cutD_hi (by omega)
  have c2 : cutD vs (some ((i : Int) + 1)) none = vs.drop (i + 1) := cutD_lo (n := i + 1) (by omega)
  have c3 : cutD vs none (some (-1)) = vs.take (vs.length - 1) := cutD_neg hl0
  have c4 : cutD vs none (some 1) = vs.take 1 := cutD_hi (n := 1) hl0
  have c5 : cutD vs (some 1) none = vs.drop 1 := cutD_lo (n := 1) hl0
  refine ⟨_, rfl, by decide, ?_⟩
  rw [c1]
  refine ⟨_, _, rfl, rfl, sz _ (by simp; omega), _, rfl, ?_⟩
  rw [c2]
  refine ⟨_, _, rfl, rfl, sz _ (by simp; omega), by decide, _, _, rfl, rfl, sz _ (by simp; omega), _, rfl, _, rfl, _, rfl, ?_⟩
  rw [c3]
  refine ⟨_, _, rfl, rfl, _, rfl, ?_⟩
  rw [c4]
  refine ⟨by decide, by decide, _, rfl, ?_⟩
  rw [c5]
  refine ⟨_, _, rfl, rfl, sz _ (by simp; omega), by decide, _, _, rfl, rfl, sz _ (by simp), ?_⟩
  show ROne p [.raw (.ref p), .lst _] Q
  rw [one_i]
  refine ⟨by simp, by simp, fun o ho => q o ?_⟩
  simp only [List.mem_append, List.mem_cons, List.not_mem_nil, or_false] at ho
  rcases ho with (rfl | rfl | rfl | rfl | rfl) | rfl
  · exact .rep hi hy'
  · exact .more hy'
  · exact .less
  · exact .lst
  · exact .one
  · exact .tale
end
end K88
set_option maxHeartbeats 4000000
/-! what is printed is read again -/
namespace K88
open PySem L2 Dn
def endsOk (r : List Nat) : Prop := r = [] ∨ ∃ c r', r = c :: r' ∧ isDel c = true
theorem tw_app {p : Nat → Bool} : ∀ {w r : List Nat}, (∀ c ∈ w, p c = true) → (r = [] ∨ ∃ c r', r = c :: r' ∧ p c = false) → (w ++ r).takeWhile p = w
  | [], r, _, h => by
    rcases h with h | ⟨c, r', h, hc⟩
    · subst h; rfl
    · subst h
      rw [List.nil_append, List.takeWhile_cons, hc]
      rfl
  | c :: w, r, hw, h => by
    rw [List.cons_append, List.takeWhile_cons, hw c (List.mem_cons_self ..)]
    simp only [if_true]
    rw [tw_app (fun d hd => hw d (List.mem_cons_of_mem _ hd)) h]
/-- d is read from its text, m deep -/
def Rd (m : Nat) (d : D) : Prop := (∀ r, endsOk r → thingL m (pt d ++ r) = some (d, (pt d).length)) ∧ ∃ c r, pt d = c :: r ∧ c ≠ 41
theorem word_of_app {w r : List Nat} (hw : ∀ c ∈ w, isDel c = false) (hr : endsOk r) : wordLen (w ++ r) = w.length ∧ wordOf (w ++ r) = w := by
  have e : wordLen (w ++ r) = w.length := by
    unfold wordLen
    rw [tw_app (fun c hc => by rw [hw c hc]; rfl)]
    rcases hr with h | ⟨c, r', h, hc⟩
    · exact .inl h
    · exact .inr ⟨c, r', h, by rw [hc]; rfl⟩
  refine ⟨e, ?_⟩
  unfold wordOf
  rw [e, List.take_left]
theorem wordL_app {w r : List Nat} (hw : ∀ c ∈ w, isDel c = false) (hr : endsOk r) : wordL (w ++ r) = wordL w := by
  obtain ⟨h1, h2⟩ := word_of_app hw hr
  obtain ⟨h3, h4⟩ := word_of_app (r := []) hw (.inl rfl)
  rw [List.append_nil] at h3 h4
  unfold wordL
  rw [h1, h2, h3, h4]
theorem rd_word {m : Nat} {d : D} (h1 : wordL (pt d) = some (d, (pt d).length)) (h2 : (pt d).all (fun c => !isDel c) = true) (h3 : ∃ c r, pt d = c :: r ∧ c ≠ 40 ∧ c ≠ 34 ∧ c ≠ 41) : Rd m d := by
  obtain ⟨c, r, e, c1, c2, c3⟩ := h3
  refine ⟨fun t ht => ?_, c, r, e, c3⟩
  have hw : ∀ c ∈ pt d, isDel c = false := fun c hc => by
    have := List.all_eq_true.mp h2 c hc
    simpa using this
  rw [← wordL_app hw ht] at h1
  rw [thingL_eq]
  rw [e] at h1 ⊢
  unfold thing0
  rw [List.cons_append] at h1 ⊢
  simp only [c1, c2, if_false]
  exact h1
theorem qLen_app {w r : List Nat} (h : 34 ∉ w) : qLen (w ++ 34 :: r) = w.length := by
  unfold qLen
  rw [tw_app (fun c hc => by
    have : c ≠ 34 := fun z => h (z ▸ hc)
    simpa using this) (.inr ⟨34, r, rfl, by decide⟩)]
theorem rd_str {m : Nat} {x : Str} (h1 : 34 ∉ tl x) (h2 : 10 ∉ tl x) (h3 : 92 ∉ tl x) : Rd m (.str x) := by
  have e : pt (.str x) = 34 :: (tl x ++ [34]) := by unfold pt; rfl
  refine ⟨fun t ht => ?_, 34, _, e, by decide⟩
  rw [e, thingL_eq]
  unfold thing0
  rw [List.cons_append, List.append_assoc]
  show (if (34 : Nat) = 40 then _ else if (34 : Nat) = 34 then more 1 (strL (tl x ++ 34 :: t)) else _) = _
  rw [if_neg (by decide), if_pos rfl]
  have q := qLen_app (r := t) h1
  unfold strL
  rw [q, if_pos (by rw [List.length_append, List.length_cons]; omega), List.take_left, if_neg (by simp [h2, h3])]
  unfold more
  rw [S_tl]
  simp
theorem rd_mono_head {m : Nat} {d : D} (h : Rd m d) : (pt d).length ≠ 0 := by
  obtain ⟨c, r, e, _⟩ := h.2
  rw [e]
  simp
theorem loop_read {m : Nat} : ∀ (ds : List D) (f : Nat) (r : List Nat) (acc : List D) (c : Nat), ds ≠ [] → (∀ d ∈ ds, Rd m d) → ds.length ≤ f → loopL (thingL m) f (TL.joinL cm (ds.map pt) ++ 41 :: r) acc c = some (.tup (acc ++ ds), c + (TL.joinL cm (ds.map pt)).length + 1)
  | [], _, _, _, _, h, _, _ => absurd rfl h
  | _, 0, _, _, _, h, _, hf => by
    rename_i ds _ _ _ _
    cases ds with
    | nil => exact absurd rfl h
    | cons _ _ => simp at hf
  | [d], f + 1, r, acc, c, _, hd, _ => by
    have h1 := (hd d (List.mem_singleton.mpr rfl)).1 (41 :: r) (.inr ⟨41, r, rfl, by decide⟩)
    unfold loopL
    show (match thingL m (pt d ++ 41 :: r) with | none => none | some (d, k) => _) = _
    rw [h1]
    have e : (pt d ++ 41 :: r).drop (pt d).length = 41 :: r := List.drop_left
    have ej1 : TL.joinL cm ([d].map pt) = pt d := rfl
    simp only [ej1, e]
    rw [if_pos (show List.take 1 (41 :: r) = [41] from rfl)]
  | d :: d2 :: ds, f + 1, r, acc, c, _, hd, hf => by
    have ej : TL.joinL cm ((d :: d2 :: ds).map pt) = pt d ++ (44 :: 32 :: TL.joinL cm ((d2 :: ds).map pt)) := rfl
    have h1 := (hd d (List.mem_cons_self ..)).1 (44 :: 32 :: TL.joinL cm ((d2 :: ds).map pt) ++ 41 :: r) (.inr ⟨44, _, rfl, by decide⟩)
    rw [← List.append_assoc, ← ej] at h1
    unfold loopL
    rw [h1]
    have e : (TL.joinL cm ((d :: d2 :: ds).map pt) ++ 41 :: r).drop (pt d).length = 44 :: 32 :: (TL.joinL cm ((d2 :: ds).map pt) ++ 41 :: r) := by
      rw [ej, List.append_assoc, List.drop_left]
      rfl
    have e2 : (TL.joinL cm ((d :: d2 :: ds).map pt) ++ 41 :: r).drop ((pt d).length + 2) = TL.joinL cm ((d2 :: ds).map pt) ++ 41 :: r := by
      rw [← List.drop_drop, e]
      rfl
    simp only [e, e2]
    rw [if_neg (by simp), if_pos (show List.take 2 (44 :: 32 :: (TL.joinL cm ((d2 :: ds).map pt) ++ 41 :: r)) = [44, 32] from rfl), loop_read (d2 :: ds) f r _ _ (by simp) (fun x hx => hd x (List.mem_cons_of_mem _ hx)) (by simp at hf ⊢; omega)]
    rw [ej, List.append_assoc, List.length_append, List.length_cons, List.length_cons]
    have e3 : c + (pt d).length + 2 + (TL.joinL cm ((d2 :: ds).map pt)).length + 1 = c + ((pt d).length + ((TL.joinL cm ((d2 :: ds).map pt)).length + 1 + 1)) + 1 := by omega
    rw [e3]
    rfl
theorem rd_tup {m : Nat} {ds : List D} (h : ∀ d ∈ ds, Rd m d) : Rd (m + 1) (.tup ds) := by
  have e : pt (.tup ds) = 40 :: (TL.joinL cm (ds.map pt) ++ [41]) := by unfold pt; rw [ptA_map]
  refine ⟨fun t ht => ?_, 40, _, e, by decide⟩
  rw [e]
  show thing0 (tupL (thingL m)) _ = _
  unfold thing0
  rw [List.cons_append, List.append_assoc]
  show (if (40 : Nat) = 40 then more 1 (tupL (thingL m) (TL.joinL cm (ds.map pt) ++ 41 :: t)) else _) = _
  rw [if_pos rfl]
  unfold tupL
  cases ds with
  | nil => rfl
  | cons d ds =>
    have hne : ¬ (TL.joinL cm ((d :: ds).map pt) ++ 41 :: t).take 1 = [41] := by
      obtain ⟨c, r, ec, hc⟩ := (h d (List.mem_cons_self ..)).2
      have e1 : ∃ r', TL.joinL cm ((d :: ds).map pt) = c :: r' := by
        cases ds with
        | nil => exact ⟨r, ec⟩
        | cons d2 ds => exact ⟨r ++ (cm ++ TL.joinL cm ((d2 :: ds).map pt)), by show pt d ++ _ = _; rw [ec]; rfl⟩
      obtain ⟨r', e1⟩ := e1
      rw [e1]
      intro z
      injection z with z
      exact hc z
    rw [if_neg hne, loop_read (d :: ds) _ t [] 0 (by simp) h (by
      have h1 := joinL_sum cm ((d :: ds).map pt)
      rw [List.length_map] at h1
      have h2 : cm.length = 2 := rfl
      rw [h2] at h1
      rw [List.length_append, List.length_cons (as := t)]
      have h3 : (d :: ds).length = ds.length + 1 := rfl
      omega)]
    unfold more
    simp only [Option.map_some, List.nil_append, Nat.zero_add, List.length_cons, List.length_append, List.length_nil]
/-! the law's things -/
theorem rd_atom {m : Nat} {d : D} (h : d ∈ atomsD) : Rd m d := by
  unfold atomsD at h
  simp only [List.mem_cons, List.not_mem_nil, or_false] at h
  have i0 : ∀ (i : Int) (w : List Nat), pt (.int i) = w → wordL w = some (.int i, w.length) → w.all (fun c => !isDel c) = true → (∃ c r, w = c :: r ∧ c ≠ 40 ∧ c ≠ 34 ∧ c ≠ 41) → Rd m (.int i) := fun i w e1 e2 e3 e4 => by
    subst e1
    exact rd_word e2 e3 e4
  rcases h with rfl | rfl | rfl | rfl | rfl | rfl | rfl | rfl | rfl | rfl | rfl | rfl | rfl | rfl | rfl | rfl | rfl
  · exact i0 0 [48] (by unfold pt; rfl) rfl (by decide) ⟨_, _, rfl, by decide, by decide, by decide⟩
  · exact i0 1 [49] (by unfold pt; rfl) rfl (by decide) ⟨_, _, rfl, by decide, by decide, by decide⟩
  · exact i0 7 [55] (by unfold pt; rfl) rfl (by decide) ⟨_, _, rfl, by decide, by decide, by decide⟩
  · exact i0 (-1) [45, 49] (by unfold pt; rfl) rfl (by decide) ⟨_, _, rfl, by decide, by decide, by decide⟩
  · exact i0 (-40) [45, 52, 48] (by unfold pt; rfl) rfl (by decide) ⟨_, _, rfl, by decide, by decide, by decide⟩
  · exact i0 1000000000000 [49, 48, 48, 48, 48, 48, 48, 48, 48, 48, 48, 48, 48] (by unfold pt; decide +kernel) rfl (by decide) ⟨_, _, rfl, by decide, by decide, by decide⟩
  · exact rd_word (by unfold pt; rfl) (by unfold pt; decide) ⟨110, [111, 110, 101], by unfold pt; rfl, by decide, by decide, by decide⟩
  · exact rd_word (by unfold pt; rfl) (by unfold pt; decide) ⟨121, [101, 115], by unfold pt; rfl, by decide, by decide, by decide⟩
  · exact rd_word (by unfold pt; rfl) (by unfold pt; decide) ⟨110, [111], by unfold pt; rfl, by decide, by decide, by decide⟩
  all_goals exact rd_str (by decide) (by decide) (by decide)
theorem rd_law : ∀ (n m : Nat) (d : D), n ≤ m → lawP n d → Rd m d
  | 0, m, d, _, h => rd_atom h
  | n + 1, 0, d, h, _ => by omega
  | n + 1, m + 1, d, h, hd => by
    rcases hd with hd | ⟨ds, rfl, _, hds⟩
    · exact rd_atom hd
    · exact rd_tup fun x hx => rd_law n m x (by omega) (hds x hx)
theorem rd_read {x : D} (h : Rd 40 x) : readPlain (.str (S (pt x))) = some x := by
  unfold readPlain
  have h1 := h.1 [] (.inl rfl)
  rw [List.append_nil] at h1
  show (match thingL 40 (tl (S (pt x))) with | some (v, k) => if k = (S (pt x)).length then some v else none | none => none) = _
  rw [tl_S, h1]
  simp only
  rw [if_pos (len_S _).symm]
end K88
set_option maxHeartbeats 4000000
/-! the law's claims are read again; they are claims; bounds -/
namespace K88
open PySem L2 Dn
theorem rowL_read : ∀ (rs : List D) (f : Nat) (acc : List D), rs ≠ [] → (∀ d ∈ rs, Rd 40 d) → rs.length ≤ f → rowL (thingL 40) f (TL.joinL [32] (rs.map pt)) acc = some (acc ++ rs)
  | [], _, _, h, _, _ => absurd rfl h
  | d :: rs, 0, _, _, _, hf => by simp at hf
  | [d], f + 1, acc, _, hd, _ => by
    have h1 := (hd d (List.mem_singleton.mpr rfl)).1 [] (.inl rfl)
    rw [List.append_nil] at h1
    have ej : TL.joinL [32] ([d].map pt) = pt d := rfl
    rw [ej]
    unfold rowL
    rw [h1]
    simp only [List.drop_length]
    rw [if_pos (show ([] : List Nat).length = 0 from rfl)]
  | d :: d2 :: rs, f + 1, acc, _, hd, hf => by
    have ej : TL.joinL [32] ((d :: d2 :: rs).map pt) = pt d ++ (32 :: TL.joinL [32] ((d2 :: rs).map pt)) := rfl
    have h1 := (hd d (List.mem_cons_self ..)).1 (32 :: TL.joinL [32] ((d2 :: rs).map pt)) (.inr ⟨32, _, rfl, by decide⟩)
    rw [ej]
    unfold rowL
    rw [h1]
    have e : (pt d ++ (32 :: TL.joinL [32] ((d2 :: rs).map pt))).drop (pt d).length = 32 :: TL.joinL [32] ((d2 :: rs).map pt) := List.drop_left
    have e2 : (pt d ++ (32 :: TL.joinL [32] ((d2 :: rs).map pt))).drop ((pt d).length + 1) = TL.joinL [32] ((d2 :: rs).map pt) := by
      rw [← List.drop_drop, e]
      rfl
    simp only [e, e2]
    rw [if_neg (by simp), if_pos (show List.take 1 (32 :: TL.joinL [32] ((d2 :: rs).map pt)) = [32] from rfl), rowL_read (d2 :: rs) f _ (by simp) (fun x hx => hd x (List.mem_cons_of_mem _ hx)) (by simp at hf ⊢; omega), List.append_assoc]
    rfl
theorem things_read {rs : List D} (h0 : rs ≠ []) (h : ∀ d ∈ rs, Rd 40 d) : thingsL (TL.joinL [32] (rs.map pt)) = some rs := by
  unfold thingsL
  rw [rowL_read rs _ [] h0 h (by
    have h1 := joinL_sum [32] (rs.map pt)
    rw [List.length_map] at h1
    have h2 : ([32] : List Nat).length = 1 := rfl
    rw [h2] at h1
    omega)]
  rfl
theorem cw_heads : ∀ (hs X : List (List Nat)), (∀ h ∈ hs, 32 ∉ h) → X ≠ [] → cwL (TL.joinL [32] (hs ++ X)) = hs ++ cwL (TL.joinL [32] X)
  | [], X, _, _ => rfl
  | h :: hs, X, hh, hX => by
    rw [List.cons_append, joinL_cons [32] h (by simp [hX])]
    unfold cwL
    rw [TL.spl_part1 (hh h (List.mem_cons_self ..)), List.nil_append]
    have ih := cw_heads hs X (fun x hx => hh x (List.mem_cons_of_mem _ hx)) hX
    unfold cwL at ih
    rw [ih]
    rfl
/-- how a claim of the law is made -/
structure Sh (c : D) (h0 : Str) (hs : List Str) (rs : List D) : Prop where
  eq : c = .tup (.str h0 :: (hs.map .str ++ rs))
  len : hs.length + 1 = many (.str h0)
  sp : ∀ h ∈ h0 :: hs, 32 ∉ tl h
  ne : rs ≠ []
  rd : ∀ d ∈ rs, Rd 40 d
def lineOf (h0 : Str) (hs : List Str) (rs : List D) : List Nat := TL.joinL [32] ((h0 :: hs).map tl ++ rs.map pt)
theorem Sh.read {c : D} {h0 : Str} {hs : List Str} {rs : List D} (s : Sh c h0 hs rs) (hc : isClaim c = true) : readClaimL (lineOf h0 hs rs) = some c := by
  have hX : rs.map pt ≠ [] := by simpa using s.ne
  have e1 : cwL (lineOf h0 hs rs) = (h0 :: hs).map tl ++ cwL (TL.joinL [32] (rs.map pt)) := cw_heads _ _ (fun h hh => by
    obtain ⟨x, hx, rfl⟩ := List.mem_map.mp hh
    exact s.sp x hx) hX
  have hl : ((h0 :: hs).map tl).length = many (.str h0) := by rw [List.length_map]; exact s.len
  have eh : headW (cwL (lineOf h0 hs rs)) = ((h0 :: hs).map tl).length := by
    rw [e1, hl]
    show many (.str (S (tl h0))) = _
    rw [S_tl]
  have hne := cw_ne (TL.joinL [32] (rs.map pt))
  unfold readClaimL
  rw [if_pos (by rw [eh, e1, List.length_append]; have := List.length_pos_iff.mpr hne; omega)]
  have e2 : (cwL (lineOf h0 hs rs)).drop (headW (cwL (lineOf h0 hs rs))) = cwL (TL.joinL [32] (rs.map pt)) := by
    rw [eh, e1, List.drop_left]
  rw [e2, cw_join, things_read s.ne s.rd]
  have e3 : claimOf (cwL (lineOf h0 hs rs)) rs = c := by
    unfold claimOf
    rw [eh, e1, List.take_left, s.eq, List.map_map]
    have : (fun z => D.str (S z)) ∘ tl = D.str := funext fun y => congrArg D.str (S_tl y)
    rw [this, List.map_cons]
    rfl
  simp only [e3, hc, if_true]
/-! runs of numbers -/
def numC (c : Nat) : Bool := isDig c || decide (c = 45)
def NR (k : Nat) (l : List Nat) : Prop := ∀ n, ((l.drop n).takeWhile numC).length ≤ k
theorem tw_sep {p : Nat → Bool} {s : Nat} (hs : p s = false) : ∀ (a b : List Nat), ((a ++ s :: b).takeWhile p) = a.takeWhile p
  | [], b => by rw [List.nil_append, List.takeWhile_cons, hs]; rfl
  | c :: a, b => by
    rw [List.cons_append, List.takeWhile_cons, List.takeWhile_cons, tw_sep hs a b]
theorem tw_app_le {p : Nat → Bool} : ∀ (a b : List Nat), ((a ++ b).takeWhile p).length ≤ (a.takeWhile p).length + (b.takeWhile p).length
  | [], b => by simp
  | c :: a, b => by
    rw [List.cons_append, List.takeWhile_cons, List.takeWhile_cons]
    have := tw_app_le (p := p) a b
    cases p c <;> simp <;> omega
theorem tw_take_le {p : Nat → Bool} : ∀ (a : List Nat) (i : Nat), ((a.take i).takeWhile p).length ≤ (a.takeWhile p).length
  | [], i => by simp
  | c :: a, 0 => by simp
  | c :: a, i + 1 => by
    rw [List.take_succ_cons, List.takeWhile_cons, List.takeWhile_cons]
    have := tw_take_le (p := p) a i
    cases p c <;> simp <;> omega
theorem tw_ge {p : Nat → Bool} : ∀ (a b : List Nat), (∀ c ∈ a, p c = true) → a.length ≤ ((a ++ b).takeWhile p).length
  | [], b, _ => Nat.zero_le _
  | c :: a, b, h => by
    rw [List.cons_append, List.takeWhile_cons, h c (List.mem_cons_self ..)]
    have := tw_ge a b fun d hd => h d (List.mem_cons_of_mem _ hd)
    simp
    exact this
theorem NR_sep {k s : Nat} {a b : List Nat} (hs : numC s = false) (ha : NR k a) (hb : NR k b) : NR k (a ++ s :: b) := fun n => by
  rcases Nat.lt_or_ge a.length n with h | h
  · rw [List.drop_append, List.drop_eq_nil_of_le (by omega), List.nil_append]
    obtain ⟨m, hm⟩ : ∃ m, n - a.length = m + 1 := ⟨n - a.length - 1, by omega⟩
    rw [hm, List.drop_succ_cons]
    exact hb m
  · rw [List.drop_append_of_le_length h, tw_sep hs]
    exact ha n
theorem NR_app {j k : Nat} {a b : List Nat} (ha : NR j a) (hb : NR k b) : NR (j + k) (a ++ b) := fun n => by
  rw [List.drop_append]
  exact Nat.le_trans (tw_app_le _ _) (Nat.add_le_add (ha n) (hb _))
theorem NR_take {k : Nat} {a : List Nat} (h : NR k a) (i : Nat) : NR k (a.take i) := fun n => by
  rw [List.drop_take]
  exact Nat.le_trans (tw_take_le _ _) (h n)
theorem NR_drop {k : Nat} {a : List Nat} (h : NR k a) (i : Nat) : NR k (a.drop i) := fun n => by
  rw [List.drop_drop]
  exact h _
theorem NR_len {k : Nat} {a : List Nat} (h : a.length ≤ k) : NR k a := fun n => by
  have h1 := (List.takeWhile_prefix (p := numC) (l := a.drop n)).length_le
  rw [List.length_drop] at h1
  omega
theorem NR_mono {j k : Nat} {a : List Nat} (h : j ≤ k) (x : NR j a) : NR k a := fun n => Nat.le_trans (x n) h
theorem dig_num {c : Nat} (h : isDig c = true) : numC c = true := by unfold numC; rw [h]; rfl
theorem numW_num {w : List Nat} (h : numW w = true) : ∀ c ∈ w, numC c = true := by
  have key : ∀ l, dgs l = true → ∀ c ∈ l, numC c = true := fun l hl c hc => dig_num (List.all_eq_true.mp (dgs_all hl).1 c hc)
  unfold numW at h
  rw [Bool.or_eq_true] at h
  rcases h with h | h
  · exact key w h
  · cases w with
    | nil => cases h
    | cons c r =>
      rw [negW_cons, Bool.and_eq_true, Bool.and_eq_true] at h
      obtain ⟨hc, hr, _⟩ := h
      intro d hd
      rcases List.mem_cons.mp hd with e | hd
      · rw [e, of_decide_eq_true hc]; decide
      · exact key r hr d hd
theorem Runs_of {k : Nat} {l : List Nat} (h : NR k l) (hk : k ≤ 500) : Runs l := fun n hn => by
  have e : l.drop n = wordOf (l.drop n) ++ (l.drop n).drop (wordLen (l.drop n)) := by
    unfold wordOf
    exact (List.take_append_drop ..).symm
  have h1 := tw_ge (wordOf (l.drop n)) ((l.drop n).drop (wordLen (l.drop n))) (numW_num hn)
  rw [← e] at h1
  exact Nat.le_trans h1 (Nat.le_trans (h n) hk)
theorem NR_join {k : Nat} : ∀ (ps : List (List Nat)), (∀ p ∈ ps, NR k p) → NR k (TL.joinL cm ps)
  | [], _ => NR_len (Nat.zero_le _)
  | [p], h => h p (List.mem_singleton.mpr rfl)
  | p :: q :: ps, h => by
    show NR k (p ++ 44 :: ([] ++ 32 :: TL.joinL cm (q :: ps)))
    exact NR_sep (by decide) (h p (List.mem_cons_self ..)) (NR_sep (by decide) (NR_len (Nat.zero_le _)) (NR_join (q :: ps) fun x hx => h x (List.mem_cons_of_mem _ hx)))
theorem NR_line {k : Nat} : ∀ (ps : List (List Nat)), (∀ p ∈ ps, NR k p) → NR k (TL.joinL [32] ps)
  | [], _ => NR_len (Nat.zero_le _)
  | [p], h => h p (List.mem_singleton.mpr rfl)
  | p :: q :: ps, h => by
    show NR k (p ++ 32 :: TL.joinL [32] (q :: ps))
    exact NR_sep (by decide) (h p (List.mem_cons_self ..)) (NR_line (q :: ps) fun x hx => h x (List.mem_cons_of_mem _ hx))
theorem NR_bent {k : Nat} {l m : List Nat} (h : NR k l) (b : bentP l m) : NR (k + 2 + k) m := by
  obtain ⟨i, j, s, _, _, hs, rfl⟩ := b
  have hsl : s.length ≤ 2 := by
    have : ∀ z ∈ signsT, z.length ≤ 2 := by decide
    exact this s hs
  exact NR_app (NR_app (NR_take h i) (NR_len hsl)) (NR_drop h j)
theorem len_bent {l m : List Nat} (b : bentP l m) : m.length ≤ l.length + 2 := by
  obtain ⟨i, j, s, _, _, hs, rfl⟩ := b
  have hsl : s.length ≤ 2 := by
    have : ∀ z ∈ signsT, z.length ≤ 2 := by decide
    exact this s hs
  rw [List.length_append, List.length_append, List.length_take, List.length_drop]
  omega
/-! what is told of each of the law's things -/
structure Gd (B : Nat) (d : D) : Prop where
  rd : Rd 40 d
  tx : txD 50 d = true
  ok : okd d = true
  len : (pt d).length ≤ B
  nr : NR 20 (pt d)
theorem okA_of : ∀ {ds : List D}, (∀ d ∈ ds, okd d = true) → okA ds = true
  | [], _ => rfl
  | d :: ds, h => by
    show (okd d && okA ds) = true
    rw [h d (List.mem_cons_self ..), okA_of fun x hx => h x (List.mem_cons_of_mem _ hx)]
    rfl
theorem okd_of {ds : List D} (hl : ds.length ≤ 100000) (h : ∀ d ∈ ds, okd d = true) : okd (.tup ds) = true := by
  show (decide (ds.length ≤ 100000) && okA ds) = true
  rw [okA_of h, decide_eq_true hl]
  rfl
theorem joinL_le {B : Nat} (Sp : List Nat) : ∀ (ps : List (List Nat)), (∀ p ∈ ps, p.length ≤ B) → (TL.joinL Sp ps).length ≤ ps.length * (B + Sp.length)
  | [], _ => Nat.zero_le _
  | [p], h => by
    have := h p (List.mem_singleton.mpr rfl)
    show p.length ≤ 1 * (B + Sp.length)
    omega
  | p :: q :: ps, h => by
    have h1 := h p (List.mem_cons_self ..)
    have ih := joinL_le Sp (q :: ps) fun x hx => h x (List.mem_cons_of_mem _ hx)
    have e : TL.joinL Sp (p :: q :: ps) = p ++ (Sp ++ TL.joinL Sp (q :: ps)) := rfl
    rw [e, List.length_append, List.length_append, List.length_cons, Nat.succ_mul]
    omega
theorem pt_tup (ds : List D) : pt (.tup ds) = 40 :: (TL.joinL cm (ds.map pt) ++ [41]) := by unfold pt; rw [ptA_map]
theorem len_tup {B : Nat} {ds : List D} (h : ∀ d ∈ ds, (pt d).length ≤ B) : (pt (.tup ds)).length ≤ ds.length * (B + 2) + 2 := by
  have h1 := joinL_le cm (ds.map pt) (B := B) fun p hp => by
    obtain ⟨d, hd, rfl⟩ := List.mem_map.mp hp
    exact h d hd
  rw [List.length_map] at h1
  have h2 : cm.length = 2 := rfl
  rw [h2] at h1
  rw [pt_tup, List.length_cons, List.length_append, List.length_singleton]
  omega
theorem nr_tup {ds : List D} (h : ∀ d ∈ ds, NR 20 (pt d)) : NR 20 (pt (.tup ds)) := by
  rw [pt_tup]
  show NR 20 ([] ++ 40 :: (TL.joinL cm (ds.map pt) ++ 41 :: []))
  refine NR_sep (by decide) (NR_len (Nat.zero_le _)) (NR_sep (by decide) (NR_join _ fun p hp => ?_) (NR_len (Nat.zero_le _)))
  obtain ⟨d, hd, rfl⟩ := List.mem_map.mp hp
  exact h d hd
def LB : Nat → Nat
  | 0 => 14
  | n + 1 => 3 * (LB n + 2) + 2
theorem LB_14 : ∀ n, 14 ≤ LB n
  | 0 => Nat.le_refl _
  | n + 1 => by
    have := LB_14 n
    show 14 ≤ 3 * (LB n + 2) + 2
    omega
theorem atom_ok {d : D} (h : d ∈ atomsD) : (∀ n, txD n d = true) ∧ okd d = true ∧ (pt d).length ≤ 14 ∧ ∀ n, plainD n d = true := by
  unfold atomsD at h
  simp only [List.mem_cons, List.not_mem_nil, or_false] at h
  have i0 : ∀ (i : Int) (w : List Nat), pt (.int i) = w → decide (i.natAbs.log2 < 1920) = true → w.length ≤ 14 → (∀ n, txD n (.int i) = true) ∧ okd (.int i) = true ∧ (pt (.int i)).length ≤ 14 ∧ ∀ n, plainD n (.int i) = true := fun i w e1 e2 e3 =>
    ⟨fun n => by cases n <;> exact e2, rfl, by rw [e1]; exact e3, fun n => by cases n <;> rfl⟩
  have s0 : ∀ x : Str, (tl x).length ≤ 12 → (!((tl x).any fun c => decide (c ∈ [34, 10, 92]))) = true → (∀ n, txD n (.str x) = true) ∧ okd (.str x) = true ∧ (pt (.str x)).length ≤ 14 ∧ ∀ n, plainD n (.str x) = true := fun x e1 e2 =>
    ⟨fun n => by cases n <;> rfl, decide_eq_true (by rw [len_tl]; omega), by unfold pt; simp; omega, fun n => by cases n <;> exact e2⟩
  rcases h with rfl | rfl | rfl | rfl | rfl | rfl | rfl | rfl | rfl | rfl | rfl | rfl | rfl | rfl | rfl | rfl | rfl
  · exact i0 0 [48] (by unfold pt; rfl) (by decide) (by decide)
  · exact i0 1 [49] (by unfold pt; rfl) (by decide) (by decide)
  · exact i0 7 [55] (by unfold pt; rfl) (by decide) (by decide)
  · exact i0 (-1) [45, 49] (by unfold pt; rfl) (by decide) (by decide)
  · exact i0 (-40) [45, 52, 48] (by unfold pt; rfl) (by decide) (by decide)
  · exact i0 1000000000000 [49, 48, 48, 48, 48, 48, 48, 48, 48, 48, 48, 48, 48] (by unfold pt; decide +kernel) (by decide) (by decide)
  · exact ⟨fun n => by cases n <;> rfl, rfl, by unfold pt; decide, fun n => by cases n <;> rfl⟩
  · exact ⟨fun n => by cases n <;> rfl, rfl, by unfold pt; decide, fun n => by cases n <;> rfl⟩
  · exact ⟨fun n => by cases n <;> rfl, rfl, by unfold pt; decide, fun n => by cases n <;> rfl⟩
  all_goals exact s0 _ (by decide) (by decide)
theorem law_ok : ∀ (n : Nat) (d : D), lawP n d → txD n d = true ∧ okd d = true ∧ (pt d).length ≤ LB n ∧ NR 20 (pt d)
  | 0, d, h => by
    obtain ⟨h1, h2, h3, _⟩ := atom_ok h
    exact ⟨h1 0, h2, h3, NR_len (by omega)⟩
  | n + 1, d, h => by
    rcases h with h | ⟨ds, rfl, hl, hds⟩
    · obtain ⟨h1, h2, h3, _⟩ := atom_ok h
      exact ⟨h1 _, h2, Nat.le_trans h3 (LB_14 _), NR_len (by omega)⟩
    · refine ⟨List.all_eq_true.mpr fun x hx => (law_ok n x (hds x hx)).1, okd_of (by omega) fun x hx => (law_ok n x (hds x hx)).2.1, ?_, nr_tup fun x hx => (law_ok n x (hds x hx)).2.2.2⟩
      have := len_tup fun x hx => (law_ok n x (hds x hx)).2.2.1
      refine Nat.le_trans this ?_
      show ds.length * (LB n + 2) + 2 ≤ 3 * (LB n + 2) + 2
      have := Nat.mul_le_mul_right (LB n + 2) hl
      omega
theorem law_plain : ∀ (n m : Nat) (d : D), n ≤ m → lawP n d → plainD m d = true
  | 0, m, d, _, h => (atom_ok h).2.2.2 m
  | n + 1, 0, d, h, _ => by omega
  | n + 1, m + 1, d, h, hd => by
    rcases hd with hd | ⟨ds, rfl, _, hds⟩
    · exact (atom_ok hd).2.2.2 _
    · show ds.all (plainD m) = true
      exact List.all_eq_true.mpr fun x hx => law_plain n m x (by omega) (hds x hx)
theorem gd_law {n : Nat} {d : D} (hn : n ≤ 40) (h : lawP n d) : Gd (LB n) d := by
  obtain ⟨h1, h2, h3, h4⟩ := law_ok n d h
  exact ⟨rd_law n 40 d hn h, txD_mono n 50 d (by omega) h1, h2, h3, h4⟩
end K88
set_option maxHeartbeats 4000000
/-! the law's claims: their shape; what is no claim -/
namespace K88
open PySem L2 Dn
theorem ev_cw (x : Str) : isEv (.str x) = evW ((cwL (tl x)).map S) := by
  show evW (Txt.split x sp1) = _
  rw [split_cw]
theorem evs_ok {d : D} (h : d ∈ evsD) : isEv d = true ∧ ∃ x, d = .str x ∧ (tl x).length ≤ 12 ∧ 34 ∉ tl x ∧ 10 ∉ tl x ∧ 92 ∉ tl x := by
  unfold evsD at h
  simp only [List.mem_cons, List.not_mem_nil, or_false] at h
  rcases h with rfl | rfl | rfl | rfl | rfl | rfl | rfl | rfl
  all_goals exact ⟨by rw [ev_cw]; decide +kernel, _, rfl, by decide, by decide, by decide, by decide⟩
theorem gd_strA {x : Str} (h1 : (tl x).length ≤ 12) (h2 : 34 ∉ tl x) (h3 : 10 ∉ tl x) (h4 : 92 ∉ tl x) : (∀ m, Rd m (.str x)) ∧ (∀ n, txD n (.str x) = true) ∧ okd (.str x) = true ∧ (pt (.str x)).length ≤ 14 := by
  refine ⟨fun m => rd_str h2 h3 h4, fun n => by cases n <;> rfl, decide_eq_true (by rw [len_tl]; omega), ?_⟩
  unfold pt
  simp
  omega
theorem gd_intA {i : Int} (h0 : 0 ≤ i) (h1 : i < 3) : (∀ m, Rd m (.int i)) ∧ (∀ n, txD n (.int i) = true) ∧ okd (.int i) = true ∧ (pt (.int i)).length ≤ 14 := by
  have i0 : ∀ (i : Int) (w : List Nat), pt (.int i) = w → wordL w = some (.int i, w.length) → w.all (fun c => !isDel c) = true → (∃ c r, w = c :: r ∧ c ≠ 40 ∧ c ≠ 34 ∧ c ≠ 41) → decide (i.natAbs.log2 < 1920) = true → w.length ≤ 14 → (∀ m, Rd m (.int i)) ∧ (∀ n, txD n (.int i) = true) ∧ okd (.int i) = true ∧ (pt (.int i)).length ≤ 14 := fun i w e1 e2 e3 e4 e5 e6 => by
    refine ⟨fun m => ?_, fun n => by cases n <;> exact e5, rfl, by rw [e1]; exact e6⟩
    subst e1
    exact rd_word e2 e3 e4
  have : i = 0 ∨ i = 1 ∨ i = 2 := by omega
  rcases this with rfl | rfl | rfl
  · exact i0 0 [48] (by unfold pt; rfl) rfl (by decide) ⟨_, _, rfl, by decide, by decide, by decide⟩ (by decide) (by decide)
  · exact i0 1 [49] (by unfold pt; rfl) rfl (by decide) ⟨_, _, rfl, by decide, by decide, by decide⟩ (by decide) (by decide)
  · exact i0 2 [50] (by unfold pt; rfl) rfl (by decide) ⟨_, _, rfl, by decide, by decide, by decide⟩ (by decide) (by decide)
theorem gd_flat {d : D} (h : (∀ m, Rd m d) ∧ (∀ n, txD n d = true) ∧ okd d = true ∧ (pt d).length ≤ 14) : Gd 1454 d := ⟨h.1 40, h.2.1 50, h.2.2.1, Nat.le_trans h.2.2.2 (by decide), NR_len (by omega)⟩
theorem gd_row {ds : List D} (hl : ds.length ≤ 3) (h : ∀ d ∈ ds, (∀ m, Rd m d) ∧ (∀ n, txD n d = true) ∧ okd d = true ∧ (pt d).length ≤ 14) : Gd 1454 (.tup ds) := by
  refine ⟨rd_tup fun d hd => (h d hd).1 39, List.all_eq_true.mpr fun d hd => (h d hd).2.1 49, okd_of (by omega) fun d hd => (h d hd).2.2.1, ?_, nr_tup fun d hd => NR_len (by have := (h d hd).2.2.2; omega)⟩
  refine Nat.le_trans (len_tup fun d hd => (h d hd).2.2.2) ?_
  have := Nat.mul_le_mul_right (14 + 2) hl
  omega
theorem all2 {P : Str → Prop} {a b : Str} (ha : P a) (hb : P b) : ∀ h ∈ [a, b], P h := fun h hh => by
  rcases List.mem_cons.mp hh with rfl | hh
  · exact ha
  · rw [List.mem_singleton.mp hh]; exact hb
theorem all3 {P : Str → Prop} {a b c : Str} (ha : P a) (hb : P b) (hc : P c) : ∀ h ∈ [a, b, c], P h := fun h hh => by
  rcases List.mem_cons.mp hh with rfl | hh
  · exact ha
  · exact all2 hb hc h hh
theorem st_ok {d : D} (h : startP d) : Gd 1454 d ∧ isStart d = true := by
  obtain ⟨s, h0, h1, rfl⟩ := h
  refine ⟨gd_row (by simp) fun d hd => ?_, ?_⟩
  · rcases List.mem_cons.mp hd with rfl | hd
    · exact gd_intA h0 (by omega)
    · rw [List.mem_singleton.mp hd]
      exact gd_intA (by decide) (by decide)
  · show (decide (0 ≤ s) && (true && true)) = true
    rw [decide_eq_true h0]
    rfl
theorem ed_ok {d : D} (h : edP d) : Gd 1454 d ∧ isNumber d = true := by
  obtain ⟨s, h0, h1, rfl⟩ := h
  exact ⟨gd_flat (gd_intA h0 h1), decide_eq_true h0⟩
theorem ev_ok {d : D} (h : evP d) : Gd 1454 d ∧ areEvents d = true := by
  obtain ⟨ds, rfl, hl, hd⟩ := h
  refine ⟨gd_row hl fun d h => ?_, List.all_eq_true.mpr fun d h => (evs_ok (hd d h)).1⟩
  obtain ⟨_, x, rfl, h1, h2, h3, h4⟩ := evs_ok (hd d h)
  exact gd_strA h1 h2 h3 h4
theorem pap_ok {d : D} (h : papP d) : Gd 1454 d ∧ isPaper d = true := by
  have h4 : lawP 4 d := .inr h
  refine ⟨gd_law (n := 4) (by decide) h4, ?_⟩
  obtain ⟨ds, rfl, _, _⟩ := h
  exact law_plain 4 40 _ (by decide) h4
theorem nm_ok {d : D} (h : d ∈ namesD) : isName d = true ∧ ∃ x, d = .str x ∧ (tl x).length ≤ 8 ∧ 32 ∉ tl x := by
  unfold namesD at h
  simp only [List.mem_cons, List.not_mem_nil, or_false] at h
  rcases h with rfl | rfl | rfl
  all_goals exact ⟨by decide +kernel, _, rfl, by decide, by decide⟩
theorem h8_ok {d : D} (h : d ∈ harms8) : inH d harmsD = true ∧ ∃ x, d = .str x ∧ (tl x).length ≤ 8 ∧ 32 ∉ tl x := by
  unfold harms8 at h
  simp only [List.mem_cons, List.not_mem_nil, or_false] at h
  rcases h with rfl | rfl | rfl | rfl | rfl | rfl | rfl | rfl
  all_goals exact ⟨by decide +kernel, _, rfl, by decide, by decide⟩
theorem h4_ok {d : D} (h : d ∈ calmD) : inH d calmD = true ∧ ∃ x, d = .str x ∧ (tl x).length ≤ 8 ∧ 32 ∉ tl x := by
  unfold calmD at h
  simp only [List.mem_cons, List.not_mem_nil, or_false] at h
  rcases h with rfl | rfl | rfl | rfl
  all_goals exact ⟨by decide +kernel, _, rfl, by decide, by decide⟩
/-- a claim of the law: its head, its words, its things -/
structure ShC (c : D) (h0 : Str) (hs : List Str) (rs : List D) : Prop extends Sh c h0 hs rs where
  cl : isClaim c = true
  gd : ∀ d ∈ rs, Gd 1454 d
  few : hs.length + rs.length ≤ 5
  short : ∀ h ∈ h0 :: hs, (tl h).length ≤ 8
theorem ShC.line_le {c : D} {h0 : Str} {hs : List Str} {rs : List D} (s : ShC c h0 hs rs) : (lineOf h0 hs rs).length ≤ 9000 ∧ NR 20 (lineOf h0 hs rs) := by
  refine ⟨?_, NR_line _ fun p hp => ?_⟩
  · have h1 := joinL_le (B := 1454) [32] ((h0 :: hs).map tl ++ rs.map pt) fun p hp => by
      rcases List.mem_append.mp hp with hp | hp
      · obtain ⟨x, hx, rfl⟩ := List.mem_map.mp hp
        have := s.short x hx
        omega
      · obtain ⟨x, hx, rfl⟩ := List.mem_map.mp hp
        exact (s.gd x hx).len
    have h2 : ((h0 :: hs).map tl ++ rs.map pt).length ≤ 6 := by
      rw [List.length_append, List.length_map, List.length_map, List.length_cons]
      have := s.few
      omega
    have h3 := Nat.mul_le_mul_right (1454 + ([32] : List Nat).length) h2
    exact Nat.le_trans h1 (Nat.le_trans h3 (by decide))
  · rcases List.mem_append.mp hp with hp | hp
    · obtain ⟨x, hx, rfl⟩ := List.mem_map.mp hp
      exact NR_len (by have := s.short x hx; omega)
    · obtain ⟨x, hx, rfl⟩ := List.mem_map.mp hp
      exact (s.gd x hx).nr
theorem shape {c : D} (h : LC c) : ∃ h0 hs rs, ShC c h0 hs rs := by
  cases h with
  | @story n h st e ev hn hh hst he hev =>
    obtain ⟨n1, x, rfl, n2, n3⟩ := nm_ok hn
    obtain ⟨p1, y, rfl, p2, p3⟩ := h8_ok hh
    obtain ⟨g1, q1⟩ := st_ok hst
    obtain ⟨g2, q2⟩ := ed_ok he
    obtain ⟨g3, q3⟩ := ev_ok hev
    have gd : ∀ d ∈ [st, e, ev], Gd 1454 d := by simp [g1, g2, g3]
    refine ⟨Str.ofString "story", [x, y], [st, e, ev], ⟨⟨rfl, rfl, ?_, by simp, fun d hd => (gd d hd).rd⟩, ?_, gd, by simp, ?_⟩⟩
    · exact all3 (P := fun h => 32 ∉ tl h) (by decide) n3 p3
    · show (isName _ && claimW _ _) = true
      rw [n1, cw_story, p1, q1, q2, q3]; rfl
    · exact all3 (P := fun h => (tl h).length ≤ 8) (by decide) n2 p2
  | @alike n st e ev ev2 hn hst he hev hev2 =>
    obtain ⟨n1, x, rfl, n2, n3⟩ := nm_ok hn
    obtain ⟨g1, q1⟩ := st_ok hst
    obtain ⟨g2, q2⟩ := ed_ok he
    obtain ⟨g3, q3⟩ := ev_ok hev
    obtain ⟨g4, q4⟩ := ev_ok hev2
    have gd : ∀ d ∈ [st, e, ev, ev2], Gd 1454 d := by simp [g1, g2, g3, g4]
    refine ⟨Str.ofString "alike", [x], [st, e, ev, ev2], ⟨⟨rfl, rfl, ?_, by simp, fun d hd => (gd d hd).rd⟩, ?_, gd, by simp, ?_⟩⟩
    · exact all2 (P := fun h => 32 ∉ tl h) (by decide) n3
    · show (isName _ && claimW _ _) = true
      rw [n1, cw_alike, q1, q2, q3, q4]; rfl
    · exact all2 (P := fun h => (tl h).length ≤ 8) (by decide) n2
  | @clean n e e2 pp hn he he2 hp =>
    obtain ⟨n1, x, rfl, n2, n3⟩ := nm_ok hn
    obtain ⟨g1, q1⟩ := ed_ok he
    obtain ⟨g2, q2⟩ := ed_ok he2
    obtain ⟨g3, q3⟩ := pap_ok hp
    have gd : ∀ d ∈ [e, e2, pp], Gd 1454 d := by simp [g1, g2, g3]
    refine ⟨Str.ofString "clean", [x], [e, e2, pp], ⟨⟨rfl, rfl, ?_, by simp, fun d hd => (gd d hd).rd⟩, ?_, gd, by simp, ?_⟩⟩
    · exact all2 (P := fun h => 32 ∉ tl h) (by decide) n3
    · show (isName _ && claimW _ _) = true
      rw [n1, cw_clean, q1, q2, q3]; rfl
    · exact all2 (P := fun h => (tl h).length ≤ 8) (by decide) n2
  | @reads n pp hn hp =>
    obtain ⟨n1, x, rfl, n2, n3⟩ := nm_ok hn
    obtain ⟨g3, q3⟩ := pap_ok hp
    have gd : ∀ d ∈ [pp], Gd 1454 d := by simp [g3]
    refine ⟨Str.ofString "reads", [x], [pp], ⟨⟨rfl, rfl, ?_, by simp, fun d hd => (gd d hd).rd⟩, ?_, gd, by simp, ?_⟩⟩
    · exact all2 (P := fun h => 32 ∉ tl h) (by decide) n3
    · show (isName _ && claimW _ _) = true
      rw [n1, cw_reads, q3]; rfl
    · exact all2 (P := fun h => (tl h).length ≤ 8) (by decide) n2
  | @calm n h pp hn hh hp =>
    obtain ⟨n1, x, rfl, n2, n3⟩ := nm_ok hn
    obtain ⟨p1, y, rfl, p2, p3⟩ := h4_ok hh
    obtain ⟨g3, q3⟩ := pap_ok hp
    have gd : ∀ d ∈ [pp], Gd 1454 d := by simp [g3]
    refine ⟨Str.ofString "calm", [x, y], [pp], ⟨⟨rfl, rfl, ?_, by simp, fun d hd => (gd d hd).rd⟩, ?_, gd, by simp, ?_⟩⟩
    · exact all3 (P := fun h => 32 ∉ tl h) (by decide) n3 p3
    · show (isName _ && claimW _ _) = true
      rw [n1, cw_calm, p1, q3]; rfl
    · exact all3 (P := fun h => (tl h).length ≤ 8) (by decide) n2 p2
end K88
set_option maxHeartbeats 4000000
/-! what the law makes of a claim is no claim -/
namespace K88
open PySem L2 Dn
structure OddY (y : D) : Prop where
  nm : isName y = false
  h8 : inH y harmsD = false
  h4 : inH y calmD = false
  st : isStart y = false
  no : isNumber y = false
  ev : areEvents y = false
  pp : isPaper y = false
  ok : okd y = true
  hd : ∀ r, isClaim (.tup (y :: r)) = false
theorem cw_unknown {t : Str} (h : decide (t = Str.ofString "story") = false ∧ decide (t = Str.ofString "alike") = false ∧ decide (t = Str.ofString "clean") = false ∧ decide (t = Str.ofString "calm") = false ∧ decide (t = Str.ofString "reads") = false) (vs : List D) : claimW t vs = false := by
  obtain ⟨h1, h2, h3, h4, h5⟩ := h
  unfold claimW
  rw [if_neg (of_decide_eq_false h1), if_neg (of_decide_eq_false h2), if_neg (of_decide_eq_false h3), if_neg (of_decide_eq_false h4), if_neg (of_decide_eq_false h5)]
theorem hd_unknown {t : Str} (h : ∀ vs, claimW t vs = false) (r : List D) : isClaim (.tup (.str t :: r)) = false := by
  cases r with
  | nil => rfl
  | cons n r =>
    show (isName n && claimW t r) = false
    rw [h, Bool.and_false]
theorem odd_y {y : D} (h : y ∈ oddsD) : OddY y := by
  unfold oddsD at h
  simp only [List.mem_cons, List.not_mem_nil, or_false] at h
  rcases h with rfl | rfl | rfl | rfl | rfl | rfl | rfl
  · exact ⟨rfl, rfl, rfl, rfl, rfl, rfl, rfl, rfl, fun r => by cases r <;> rfl⟩
  · exact ⟨rfl, rfl, rfl, rfl, rfl, rfl, rfl, rfl, fun r => by cases r <;> rfl⟩
  · exact ⟨rfl, rfl, rfl, rfl, rfl, rfl, rfl, rfl, fun r => by cases r <;> rfl⟩
  · exact ⟨by decide +kernel, by decide +kernel, by decide +kernel, rfl, rfl, rfl, rfl, by decide, hd_unknown (cw_unknown (by decide))⟩
  · exact ⟨rfl, rfl, rfl, rfl, by decide, rfl, rfl, rfl, fun r => by cases r <;> rfl⟩
  · exact ⟨rfl, rfl, rfl, rfl, rfl, by show (isEv (.str (Str.ofString "x")) && _) = false; rw [ev_cw]; rfl, rfl, by decide, fun r => by cases r <;> rfl⟩
  · exact ⟨rfl, rfl, rfl, rfl, rfl, by show (isEv (.str (Str.ofString "\"")) && _) = false; rw [ev_cw]; rfl, by decide, by decide, fun r => by cases r <;> rfl⟩
theorem at1 {t : Str} {y : D} {r : List D} (h : isName y = false) : isClaim (.tup (.str t :: y :: r)) = false := by
  show (isName y && _) = false
  rw [h]; rfl
theorem cl_tail {t : Str} {n : D} {r : List D} (h : claimW t r = false) : isClaim (.tup (.str t :: n :: r)) = false := by
  show (isName n && claimW t r) = false
  rw [h, Bool.and_false]
theorem odd_cl {vs : List D} (h : LC (.tup vs)) {o : D} (ho : oddOf vs o) : isClaim o = false := by
  cases h with
  | story =>
    cases ho with
    | @rep i y hi hy =>
      have Y := odd_y hy
      have hi' : i = 0 ∨ i = 1 ∨ i = 2 ∨ i = 3 ∨ i = 4 ∨ i = 5 := by simp at hi; omega
      rcases hi' with rfl | rfl | rfl | rfl | rfl | rfl
      · exact Y.hd _
      · exact at1 Y.nm
      · exact cl_tail (by show claimW _ [_, _, _, _] = false; rw [cw_story, Y.h8]; try simp)
      · exact cl_tail (by show claimW _ [_, _, _, _] = false; rw [cw_story, Y.st]; try simp)
      · exact cl_tail (by show claimW _ [_, _, _, _] = false; rw [cw_story, Y.no]; try simp)
      · exact cl_tail (by show claimW _ [_, _, _, _] = false; rw [cw_story, Y.ev]; try simp)
    | more hy => exact cl_tail (cx_story (by simp))
    | less => exact cl_tail (cx_story (by simp))
    | lst => rfl
    | one => rfl
    | tale => exact hd_unknown (cw_unknown (by decide)) _
  | alike =>
    cases ho with
    | @rep i y hi hy =>
      have Y := odd_y hy
      have hi' : i = 0 ∨ i = 1 ∨ i = 2 ∨ i = 3 ∨ i = 4 ∨ i = 5 := by simp at hi; omega
      rcases hi' with rfl | rfl | rfl | rfl | rfl | rfl
      · exact Y.hd _
      · exact at1 Y.nm
      · exact cl_tail (by show claimW _ [_, _, _, _] = false; rw [cw_alike, Y.st]; try simp)
      · exact cl_tail (by show claimW _ [_, _, _, _] = false; rw [cw_alike, Y.no]; try simp)
      · exact cl_tail (by show claimW _ [_, _, _, _] = false; rw [cw_alike, Y.ev]; try simp)
      · exact cl_tail (by show claimW _ [_, _, _, _] = false; rw [cw_alike, Y.ev]; try simp)
    | more hy => exact cl_tail (cx_alike (by simp))
    | less => exact cl_tail (cx_alike (by simp))
    | lst => rfl
    | one => rfl
    | tale => exact hd_unknown (cw_unknown (by decide)) _
  | clean =>
    cases ho with
    | @rep i y hi hy =>
      have Y := odd_y hy
      have hi' : i = 0 ∨ i = 1 ∨ i = 2 ∨ i = 3 ∨ i = 4 := by simp at hi; omega
      rcases hi' with rfl | rfl | rfl | rfl | rfl
      · exact Y.hd _
      · exact at1 Y.nm
      · exact cl_tail (by show claimW _ [_, _, _] = false; rw [cw_clean, Y.no]; try simp)
      · exact cl_tail (by show claimW _ [_, _, _] = false; rw [cw_clean, Y.no]; try simp)
      · exact cl_tail (by show claimW _ [_, _, _] = false; rw [cw_clean, Y.pp]; try simp)
    | more hy => exact cl_tail (cx_clean (by simp))
    | less => exact cl_tail (cx_clean (by simp))
    | lst => rfl
    | one => rfl
    | tale => exact hd_unknown (cw_unknown (by decide)) _
  | reads =>
    cases ho with
    | @rep i y hi hy =>
      have Y := odd_y hy
      have hi' : i = 0 ∨ i = 1 ∨ i = 2 := by simp at hi; omega
      rcases hi' with rfl | rfl | rfl
      · exact Y.hd _
      · exact at1 Y.nm
      · exact cl_tail (by show claimW _ [_] = false; rw [cw_reads, Y.pp]; try simp)
    | more hy => exact cl_tail (cx_reads (by simp))
    | less => exact cl_tail (cx_reads (by simp))
    | lst => rfl
    | one => rfl
    | tale => exact hd_unknown (cw_unknown (by decide)) _
  | calm =>
    cases ho with
    | @rep i y hi hy =>
      have Y := odd_y hy
      have hi' : i = 0 ∨ i = 1 ∨ i = 2 ∨ i = 3 := by simp at hi; omega
      rcases hi' with rfl | rfl | rfl | rfl
      · exact Y.hd _
      · exact at1 Y.nm
      · exact cl_tail (by show claimW _ [_, _] = false; rw [cw_calm, Y.h4]; try simp)
      · exact cl_tail (by show claimW _ [_, _] = false; rw [cw_calm, Y.pp]; try simp)
    | more hy => exact cl_tail (cx_calm (by simp))
    | less => exact cl_tail (cx_calm (by simp))
    | lst => rfl
    | one => rfl
    | tale => exact hd_unknown (cw_unknown (by decide)) _
theorem odd_ok {vs : List D} (hv : ∀ d ∈ vs, okd d = true) (hl : vs.length ≤ 10) {o : D} (ho : oddOf vs o) : okd o = true := by
  cases ho with
  | @rep i y hi hy =>
    refine okd_of ?_ fun d hd => ?_
    · rw [List.length_append, List.length_append, List.length_take, List.length_drop, List.length_singleton]
      omega
    · rcases List.mem_append.mp hd with hd | hd
      · rcases List.mem_append.mp hd with hd | hd
        · exact hv d (List.mem_of_mem_take hd)
        · rw [List.mem_singleton.mp hd]; exact (odd_y hy).ok
      · exact hv d (List.mem_of_mem_drop hd)
  | more hy =>
    refine okd_of (by rw [List.length_append, List.length_singleton]; omega) fun d hd => ?_
    rcases List.mem_append.mp hd with hd | hd
    · exact hv d hd
    · rw [List.mem_singleton.mp hd]; exact (odd_y hy).ok
  | less => exact okd_of (by rw [List.length_take]; omega) fun d hd => hv d (List.mem_of_mem_take hd)
  | lst =>
    show (decide (vs.length ≤ 100000) && okA vs) = true
    rw [okA_of hv, decide_eq_true (by omega)]; rfl
  | one => exact okd_of (by rw [List.length_take]; omega) fun d hd => hv d (List.mem_of_mem_take hd)
  | tale =>
    refine okd_of (by rw [List.length_cons, List.length_drop]; omega) fun d hd => ?_
    rcases List.mem_cons.mp hd with rfl | hd
    · decide
    · exact hv d (List.mem_of_mem_drop hd)
theorem ShC.parts {c : D} {h0 : Str} {hs : List Str} {rs : List D} (s : ShC c h0 hs rs) : ∀ d ∈ (D.str h0 :: (hs.map .str ++ rs)), okd d = true := fun d hd => by
  have key : ∀ x ∈ h0 :: hs, okd (.str x) = true := fun x hx => decide_eq_true (by rw [len_tl]; have := s.short x hx; omega)
  rcases List.mem_cons.mp hd with rfl | hd
  · exact key h0 (List.mem_cons_self ..)
  · rcases List.mem_append.mp hd with hd | hd
    · obtain ⟨x, hx, rfl⟩ := List.mem_map.mp hd
      exact key x (List.mem_cons_of_mem _ hx)
    · exact (s.gd d hd).ok
/-! texts that are not read -/
theorem bad_plain : ∀ l ∈ ["", "x", "01", "-0", "- 1", "(1,2)", "(1, )", "(1", "1)", "Yes", "\"a", "()x", "( )", "(1, 2))", "--1", "no "], (readPlain (.str (Str.ofString l))).isSome = false := by
  intro l h
  simp only [List.mem_cons, List.not_mem_nil, or_false] at h
  rcases h with rfl | rfl | rfl | rfl | rfl | rfl | rfl | rfl | rfl | rfl | rfl | rfl | rfl | rfl | rfl | rfl
  all_goals decide +kernel
theorem bad_claim : ∀ l ∈ ["story m again (0, 0) 0", "reads m ()  ", "reads  m ()", "calm m left ()", "clean m 0 -1 ()", "alike m (0) 0 (\"x\") ()"], (readClaim (.str (Str.ofString l))).isSome = false := by
  intro l h
  simp only [List.mem_cons, List.not_mem_nil, or_false] at h
  rcases h with rfl | rfl | rfl | rfl | rfl | rfl
  all_goals decide +kernel
end K88
set_option maxHeartbeats 4000000
/-! the same by repr; the seed -/
namespace K88
open PySem L2 Dn
theorem lenR_i {sc : Addr} {ns : List Int} {Q : D → Prop} : rdLenR sc ns [.raw (.ref sc)] Q = Q (.int ns.length) := propext ⟨fun ⟨_, q⟩ => q, fun q => ⟨rfl, q⟩⟩
theorem ixR_i {sc : Addr} {ns : List Int} {k : Int} {Q : D → Prop} : rdIxR sc ns (.raw (.ref sc)) (.int k) Q = ∃ m, atI ns k = some m ∧ Q (.int m) := propext ⟨fun ⟨_, _, m, h1, h2, q⟩ => by cases h1; exact ⟨m, h2, q⟩, fun ⟨m, h2, q⟩ => ⟨rfl, k, m, rfl, h2, q⟩⟩
def sdT2 (sc : Addr) (ns : List Int) : TDS := dIfS (dTest (dOp dLt (dVar 1) (dCB (rdLenR sc ns) (dCons (dVar 0) dNil))))
  (dAsg 2 (dCB (rdC1 (fun x => True) fun i => D.int (if i < 0 then -i else i)) (dCons (dOp (rdIxR sc ns) (dVar 0) (dVar 1)) dNil)))
  (dIfS (dTest (dOp dGt (dCB (rdLenR sc ns) (dCons (dVar 0) dNil)) (dC (D.int 0))))
    (dAsg 2 (dOp dAdd (dVar 2) (dOp (rdIC CMulW fun i j => D.int (i * j)) (dOp (rdIC (fun x j => 0 < j) fun i j => D.int (i % j)) (dCB (rdC1 (fun x => True) fun i => D.int i) (dCons
      (dCB (rdC1 (fun x => True) fun i => D.int (if i < 0 then -i else i)) (dCons (dOp (rdIxR sc ns) (dVar 0) (dOp (rdIC (fun x j => 0 < j) fun i j => D.int (i % j)) (dCB (rdC1 (fun x => True) fun i => D.int i) (dCons (dVar 1) dNil)) (dCB (rdLenR sc ns) (dCons (dVar 0) dNil)))) dNil)) dNil)) (dC (D.int 2147483629))) (dC (D.int 40093))))) dNext)
section
variable {P : Program} {w : World} {K : PySem.W.Frag} {mg : Str → Option Value} {base : Heap}
theorem ok_law_is_same (T : Tx K mg w) : FnG P w K mg base 2 T.a__law_is_same T.f__law_is_same ["_law_one", "_law_other"] (spD K bx0 (RF2 (fun a b => repOk a ∧ repOk b) fun a b => .bl (decide (shD a = shD b)))) := by
  refine okGD T.F__law_is_same sc__law_is_same lenF2 (fun cdv A outer s H E e heb hgd hr => ⟨_, (db_one (ds_ret (de_cmp L_eqS op_eq (de_callB L_repr (call_repr hgd hr) T.n_repr (by decide +kernel) (da_cons (de_var 0) da_nil)) (de_callB L_repr (call_repr hgd hr) T.n_repr (by decide +kernel) (da_cons (de_var 1) da_nil))))), fun ds Q h => ?_⟩)
  obtain ⟨a, b, rfl, ⟨h1, h2⟩, q⟩ := h
  simp only [dSeq, dIfS, dRet, dRetN, dDrop, dAsg, dAsgF, dApp, dAug, dPar, dPar2, dFrz, dNext, dC, dOp, dTest, dChain, dUn, dtAnd, dtOr, dtNot, dAndV, dOrV, dNotV, dIf, dNil, dCons, dStar, dTup, dLst, dFz, dCall, dCB, dSl, dNoPart, dPart, dM1, dBM, dFmt, dJ3, dSq, dVar, startD,
    List.map_cons, List.map_nil, List.length_cons, List.length_nil, List.nil_append, List.cons_append, List.append_nil, List.replicate_succ, List.replicate_zero, List.getElem?_cons_zero, List.getElem?_cons_succ, List.set_cons_zero, List.set_cons_succ, Nat.reduceAdd, Nat.reduceSub,
    isi_non_int, isi_non_bool, isi_non_str, isi_non_tup, isi_bl_int, isi_bl_bool, isi_bl_str, isi_bl_tup, isi_int_int, isi_int_bool, isi_int_str, isi_int_tup, isi_str_int, isi_str_bool, isi_str_str, isi_str_tup, isi_lst_int, isi_lst_bool, isi_lst_str, isi_lst_tup, isi_tup_int, isi_tup_bool, isi_tup_str, isi_tup_tup,
    isN_non, noN_non, isN_bl, noN_bl, isN_int, noN_int, isN_str, noN_str, isN_lst, noN_lst, isN_tup, noN_tup,
    eq_ss, ne_ss, eq_ii, ne_ii, ne_si, len_str', len_tup', len_lst', add_ii, sub_ii, lt_ii, le_ii, gt_ii, ge_ii, ex_bl, ex_int, ex_str, ex_sv, ex_own, all_of, Bool.not_true, Bool.not_false, Bool.false_eq_true, reduceIte, ix_lst, ix_str', sign_of, ix0, ix1, ix2, ix3, ix4, ix5, rdRepr]
  exact ⟨a, rfl, h1, b, rfl, h2, q⟩
theorem ok_law_seed (T : Tx K mg w) : FnOk P w K mg base CX0 2 T.a__law_seed T.f__law_seed ["_law_script", "_law_k"] (spBox K) := by
  refine T.F__law_seed.ok sc__law_seed (fun vs H Q E ⟨a, ns, k, h, _⟩ => by rw [h]; rfl) (fun cdv A outer s H vs Q E hr ⟨sc, ns, k, hv, ⟨hk0, hk1⟩, hsq, q⟩ => ?_)
  subst hv
  have hb0 : (Bs.mk bx0 H fun _ => none).b = bx0 := rfl
  have hs : SqL K (Bs.mk bx0 H fun _ => none).H0 sc (ns.map V.int) := hsq
  have hbs : ¬ (Bs.mk bx0 H fun _ => none).b.B sc := fun z => z
  refine ⟨_, pss_cons (DS_.run (e := Bs.mk bx0 H fun _ => none) (ds_set 2 sc__law_seed.nd (de_op L_add op_add (de_op L_rI op_mulW de_int (de_var 1)) de_int))) (pss_cons (DS_.run (e := Bs.mk bx0 H fun _ => none) (ds_if (dt_cmp L_lt op_lt (de_var 1) (de_callB (L_lenR hbs hs) call_len_seq T.n_len PySem.boot_len (da_cons (de_var 0) da_nil))) (db_one (ds_set 2 sc__law_seed.nd (de_callB L_abs call_abs T.n_abs (by decide +kernel) (da_cons (de_ix (L_ixR hbs hs) ix_list (de_var 0) (de_var 1)) da_nil)))) (db_one (ds_if (dt_cmp L_gt op_gt (de_callB (L_lenR hbs hs) call_len_seq T.n_len PySem.boot_len (da_cons (de_var 0) da_nil)) de_int) (db_one (ds_set 2 sc__law_seed.nd (de_op L_add op_add (de_var 2) (de_op L_rI op_mulW (de_op L_rI op_mod (de_callTy L_int call_int1 T.n_int (by decide +kernel) (da_cons (de_callB L_abs call_abs T.n_abs (by decide +kernel) (da_cons (de_ix (L_ixR hbs hs) ix_list (de_var 0) (de_op L_rI op_mod (de_callTy L_int call_int1 T.n_int (by decide +kernel) (da_cons (de_var 1) da_nil)) (de_callB (L_lenR hbs hs) call_len_seq T.n_len PySem.boot_len (da_cons (de_var 0) da_nil)))) da_nil)) da_nil)) de_int) de_int)))) db_nil)))) (pss_one (ps_ret (DF_.run (e := Bs.mk bx0 H fun _ => none) (df_lst (da_cons (de_ifExp (dt_cmp L_ge op_ge (de_var 2) (de_op L_rI op_pow de_int de_int)) (de_var 2) de_int) (da_cons (de_op L_add op_add (de_op L_rI op_mod (de_callTy L_int call_int1 T.n_int (by decide +kernel) (da_cons (de_op L_add op_add (de_op L_rI op_mulW (de_op L_rI op_mod (de_callTy L_int call_int1 T.n_int (by decide +kernel) (da_cons (de_var 2) da_nil)) de_int) de_int) (de_op L_rI op_mulW de_int (de_var 1))) da_nil)) de_int) de_int) da_nil))))))), ?_⟩
  have S0 : SK K (Bs.mk bx0 H fun _ => none) (fun _ => none) H (L2.start ["_law_script", "_law_k", "_law_cell"] [.ref sc, .int k]) (startD ["_law_script", "_law_k", "_law_cell"] [.raw (.ref sc), .int k]) :=
    start_ok (fun _ _ z => nomatch z) (fun _ z => z.elim) trivial (.cons (.raw _) (.cons (.int k) .nil))
  have two : ∀ c : Int, 0 ≤ c → ∀ Z : DEnds, (∀ c : Int, 0 ≤ c → Z.nx [.d (.raw (.ref sc)), .d (.int k), .d (.int c)]) → sdT2 sc ns Z [.d (.raw (.ref sc)), .d (.int k), .d (.int c)] := fun c hc Z hZ => by
    unfold sdT2
    simp only [dSeq, dIfS, dRet, dRetN, dDrop, dAsg, dAsgF, dApp, dAug, dPar, dPar2, dFrz, dNext, dC, dOp, dTest, dChain, dUn, dtAnd, dtOr, dtNot, dAndV, dOrV, dNotV, dIf, dNil, dCons, dStar, dTup, dLst, dFz, dCall, dCB, dSl, dNoPart, dPart, dM1, dBM, dFmt, dJ3, dSq, dVar, startD,
    List.map_cons, List.map_nil, List.length_cons, List.length_nil, List.nil_append, List.cons_append, List.append_nil, List.replicate_succ, List.replicate_zero, List.getElem?_cons_zero, List.getElem?_cons_succ, List.set_cons_zero, List.set_cons_succ, Nat.reduceAdd, Nat.reduceSub,
    isi_non_int, isi_non_bool, isi_non_str, isi_non_tup, isi_bl_int, isi_bl_bool, isi_bl_str, isi_bl_tup, isi_int_int, isi_int_bool, isi_int_str, isi_int_tup, isi_str_int, isi_str_bool, isi_str_str, isi_str_tup, isi_lst_int, isi_lst_bool, isi_lst_str, isi_lst_tup, isi_tup_int, isi_tup_bool, isi_tup_str, isi_tup_tup,
    isN_non, noN_non, isN_bl, noN_bl, isN_int, noN_int, isN_str, noN_str, isN_lst, noN_lst, isN_tup, noN_tup,
    eq_ss, ne_ss, eq_ii, ne_ii, ne_si, len_str', len_tup', len_lst', add_ii, sub_ii, lt_ii, le_ii, gt_ii, ge_ii, ex_bl, ex_int, ex_str, ex_sv, ex_own, all_of, Bool.not_true, Bool.not_false, Bool.false_eq_true, reduceIte, ix_lst, ix_str', sign_of, ix0, ix1, ix2, ix3, ix4, ix5, rI_ii, rdC1_i, lenR_i, ixR_i]
    have ab : ∀ i : Int, 0 ≤ (if i < 0 then -i else i) := fun i => by split <;> omega
    by_cases h1 : k < (ns.length : Int)
    · rw [if_pos (decide_eq_true h1)]
      obtain ⟨j, rfl⟩ : ∃ j : Nat, k = (j : Int) := ⟨k.toNat, by omega⟩
      exact ⟨ns[j]'(by omega), atI_nat (List.getElem?_eq_getElem (by omega)), trivial, hZ _ (ab _)⟩
    · rw [if_neg (by simpa using h1)]
      by_cases h2 : 0 < (ns.length : Int)
      · rw [if_pos (decide_eq_true h2)]
        have m0 : 0 ≤ k % (ns.length : Int) ∧ k % (ns.length : Int) < ns.length := ⟨Int.emod_nonneg _ (by omega), Int.emod_lt_of_pos _ h2⟩
        obtain ⟨j, hj⟩ : ∃ j : Nat, k % (ns.length : Int) = (j : Int) := ⟨(k % (ns.length : Int)).toNat, by omega⟩
        refine ⟨trivial, h2, ns[j]'(by omega), by rw [hj]; exact atI_nat (List.getElem?_eq_getElem (by omega)), trivial, trivial, by decide, ?_, hZ _ ?_⟩
        · exact mulW (Int.emod_nonneg _ (by decide)) (Int.lt_trans (Int.emod_lt_of_pos _ (by decide)) (by decide)) (by decide) (by decide)
        · have := Int.emod_nonneg (if ns[j]'(by omega) < 0 then -ns[j]'(by omega) else ns[j]'(by omega)) (show (2147483629 : Int) ≠ 0 by decide)
          omega
      · rw [if_neg (by simpa using h2)]
        exact hZ c hc
  refine ⟨fun _ => none, _, { nx := fun δ => ∃ c : Int, 0 ≤ c ∧ δ = [.d (.raw (.ref sc)), .d (.int k), .d (.int c)], rt := fun _ => False }, S0, ?_, fun δ' σ' G' H' ⟨c, hc, hδ⟩ S1 _ => ?_, fun _ _ _ _ z => z.elim, fun _ _ _ _ z => z.elim, fun _ _ _ _ z => z.elim⟩
  · simp only [dSeq, dIfS, dRet, dRetN, dDrop, dAsg, dAsgF, dApp, dAug, dPar, dPar2, dFrz, dNext, dC, dOp, dTest, dChain, dUn, dtAnd, dtOr, dtNot, dAndV, dOrV, dNotV, dIf, dNil, dCons, dStar, dTup, dLst, dFz, dCall, dCB, dSl, dNoPart, dPart, dM1, dBM, dFmt, dJ3, dSq, dVar, startD,
    List.map_cons, List.map_nil, List.length_cons, List.length_nil, List.nil_append, List.cons_append, List.append_nil, List.replicate_succ, List.replicate_zero, List.getElem?_cons_zero, List.getElem?_cons_succ, List.set_cons_zero, List.set_cons_succ, Nat.reduceAdd, Nat.reduceSub,
    isi_non_int, isi_non_bool, isi_non_str, isi_non_tup, isi_bl_int, isi_bl_bool, isi_bl_str, isi_bl_tup, isi_int_int, isi_int_bool, isi_int_str, isi_int_tup, isi_str_int, isi_str_bool, isi_str_str, isi_str_tup, isi_lst_int, isi_lst_bool, isi_lst_str, isi_lst_tup, isi_tup_int, isi_tup_bool, isi_tup_str, isi_tup_tup,
    isN_non, noN_non, isN_bl, noN_bl, isN_int, noN_int, isN_str, noN_str, isN_lst, noN_lst, isN_tup, noN_tup,
    eq_ss, ne_ss, eq_ii, ne_ii, ne_si, len_str', len_tup', len_lst', add_ii, sub_ii, lt_ii, le_ii, gt_ii, ge_ii, ex_bl, ex_int, ex_str, ex_sv, ex_own, all_of, Bool.not_true, Bool.not_false, Bool.false_eq_true, reduceIte, ix_lst, ix_str', sign_of, ix0, ix1, ix2, ix3, ix4, ix5, rI_ii, rdC1_i]
    exact ⟨mulW (by decide) (by decide) hk0 (by omega), _, by omega, rfl⟩
  subst hδ
  refine ⟨G', _, { nx := fun δ => ∃ c : Int, 0 ≤ c ∧ δ = [.d (.raw (.ref sc)), .d (.int k), .d (.int c)], rt := fun _ => False }, S1, two c hc _ fun c hc => ⟨c, hc, rfl⟩, fun δ' σ' G' H' ⟨c, hc, hδ⟩ S2 _ => ?_, fun _ _ _ _ z => z.elim, fun _ _ _ _ z => z.elim, fun _ _ _ _ z => z.elim⟩
  subst hδ
  refine ⟨G', _, S2, ?_⟩
  simp only [dSeq, dIfS, dRet, dRetN, dDrop, dAsg, dAsgF, dApp, dAug, dPar, dPar2, dFrz, dNext, dC, dOp, dTest, dChain, dUn, dtAnd, dtOr, dtNot, dAndV, dOrV, dNotV, dIf, dNil, dCons, dStar, dTup, dLst, dFz, dCall, dCB, dSl, dNoPart, dPart, dM1, dBM, dFmt, dJ3, dSq, dVar, startD,
    List.map_cons, List.map_nil, List.length_cons, List.length_nil, List.nil_append, List.cons_append, List.append_nil, List.replicate_succ, List.replicate_zero, List.getElem?_cons_zero, List.getElem?_cons_succ, List.set_cons_zero, List.set_cons_succ, Nat.reduceAdd, Nat.reduceSub,
    isi_non_int, isi_non_bool, isi_non_str, isi_non_tup, isi_bl_int, isi_bl_bool, isi_bl_str, isi_bl_tup, isi_int_int, isi_int_bool, isi_int_str, isi_int_tup, isi_str_int, isi_str_bool, isi_str_str, isi_str_tup, isi_lst_int, isi_lst_bool, isi_lst_str, isi_lst_tup, isi_tup_int, isi_tup_bool, isi_tup_str, isi_tup_tup,
    isN_non, noN_non, isN_bl, noN_bl, isN_int, noN_int, isN_str, noN_str, isN_lst, noN_lst, isN_tup, noN_tup,
    eq_ss, ne_ss, eq_ii, ne_ii, ne_si, len_str', len_tup', len_lst', add_ii, sub_ii, lt_ii, le_ii, gt_ii, ge_ii, ex_bl, ex_int, ex_str, ex_sv, ex_own, all_of, Bool.not_true, Bool.not_false, Bool.false_eq_true, reduceIte, ix_lst, ix_str', sign_of, ix0, ix1, ix2, ix3, ix4, ix5, rI_ii, rdC1_i]
  have y0 : 0 ≤ (c % 2147483629 * 48271 + 43019 * k) % 2147483629 ∧ (c % 2147483629 * 48271 + 43019 * k) % 2147483629 < 2147483629 := ⟨Int.emod_nonneg _ (by decide), Int.emod_lt_of_pos _ (by decide)⟩
  generalize (c % 2147483629 * 48271 + 43019 * k) % 2147483629 = y at y0 ⊢
  have m1 : CMulW (c % 2147483629) 48271 := mulW (Int.emod_nonneg _ (by decide)) (Int.lt_trans (Int.emod_lt_of_pos _ (by decide)) (by decide)) (by decide) (by decide)
  have m2 : CMulW 43019 k := mulW (by decide) (by decide) hk0 (by omega)
  have fin : ∀ (c' : Int), 0 ≤ c' → ∀ (p : Addr) (vs : List V) (G1 H1 : Hp), HK (Bs.mk bx0 H fun _ => none) G1 H1 → H1 p = some (.lst vs) → RpA K G1 vs [.int c', .int (y + 1)] → H' p = none → Q (.ref p) H1 := fun c' hc' p vs G1 H1 hk hp hv hn => by
    cases hv with
    | cons a b =>
      cases b with
      | cons b d =>
        cases d
        cases a
        cases b
        refine q p H1 c' (y + 1) (fun a o h => hk.keep a o (fun z => z) h) ?_ hp hc' ?_
        · cases e : H p with
          | none => rfl
          | some o =>
            have := S2.hk.keep p o (fun z => z) e
            rw [hn] at this
            cases this
        · show 1 ≤ y + 1 ∧ y + 1 ≤ bxTop
          have : bxTop = 2147483629 := rfl
          omega
  refine ⟨⟨by decide, by decide, by decide⟩, ?_⟩
  split
  · exact ⟨trivial, by decide, m1, m2, trivial, by decide, by decide, fun p vs G1 H1 S3 w3 hp hv _ hn _ _ => fin c hc p vs G1 H1 S3.hk hp hv hn⟩
  · exact ⟨trivial, by decide, m1, m2, trivial, by decide, by decide, fun p vs G1 H1 S3 w3 hp hv _ hn _ _ => fin 0 (by decide) p vs G1 H1 S3.hk hp hv hn⟩
end
end K88
set_option maxHeartbeats 4000000
/-! repr of the law's things -/
namespace K88
open PySem L2 Dn
structure Sm (n B : Nat) (d : D) : Prop where
  pl : d.pl = true
  sh : d.py.showable = true
  nd : d.py.hasDict = false
  dp : d.py.depth ≤ n
  ln : (shD d).length ≤ B
theorem Sm.mono {n m B C : Nat} {d : D} (h : Sm n B d) (h1 : n ≤ m) (h2 : B ≤ C) : Sm m C d := ⟨h.pl, h.sh, h.nd, Nat.le_trans h.dp h1, Nat.le_trans h.ln h2⟩
theorem Sm.ok {n B : Nat} {d : D} (h : Sm n B d) (h1 : n ≤ 100) (h2 : B ≤ 10000000) : repOk d := ⟨h.pl, h.sh, h.nd, Nat.le_trans h.dp h1, Nat.le_trans h.ln (Nat.le_trans h2 (by decide))⟩
theorem sm_all {n B : Nat} : ∀ {ds : List D}, (∀ d ∈ ds, Sm n B d) → plAll ds = true ∧ PyData.showableAll (pyAll ds) = true ∧ PyData.hasDictAll (pyAll ds) = false ∧ PyData.depthAll (pyAll ds) ≤ n ∧ piled (PyData.shownAll (pyAll ds)) ≤ ds.length * (B + 2)
  | [], _ => ⟨rfl, rfl, rfl, Nat.zero_le _, Nat.zero_le _⟩
  | d :: ds, h => by
    obtain ⟨a1, a2, a3, a4, a5⟩ := h d (List.mem_cons_self ..)
    obtain ⟨b1, b2, b3, b4, b5⟩ := sm_all fun x hx => h x (List.mem_cons_of_mem _ hx)
    refine ⟨?_, ?_, ?_, ?_, ?_⟩
    · unfold plAll; rw [a1, b1]; rfl
    · show (d.py.showable && PyData.showableAll (pyAll ds)) = true
      rw [a2, b2]; rfl
    · show (d.py.hasDict || PyData.hasDictAll (pyAll ds)) = false
      rw [a3, b3]; rfl
    · show max d.py.depth (PyData.depthAll (pyAll ds)) ≤ n
      omega
    · show piled (d.py.shown :: PyData.shownAll (pyAll ds)) ≤ (ds.length + 1) * (B + 2)
      rw [piled_cons, Nat.succ_mul]
      have : d.py.shown.length ≤ B := a5
      omega
theorem tupleText_le (ts : List Str) : (tupleText ts).length ≤ piled ts + 3 := by
  unfold tupleText
  rw [strLen_append, strLen_append]
  have h1 : ((("(" : String) : Str)).length = 1 := rfl
  have h2 : (((if ts.length == 1 then ",)" else ")" : String) : Str)).length ≤ 2 := by split <;> decide
  have h3 : (Str.join ", " ts).length ≤ piled ts := by
    cases ts with
    | nil => exact Nat.zero_le _
    | cons t r =>
      have := join_length_add (t :: r) (by simp)
      omega
  have h4 : (Str.ofString "(").length = 1 := rfl
  omega
theorem sm_tup {n B : Nat} {ds : List D} (hl : ds.length ≤ 6) (h : ∀ d ∈ ds, Sm n B d) : Sm (n + 1) (6 * (B + 2) + 3) (.tup ds) := by
  obtain ⟨b1, b2, b3, b4, b5⟩ := sm_all h
  refine ⟨b1, b2, b3, ?_, ?_⟩
  · show PyData.depthAll (pyAll ds) + 1 ≤ n + 1
    omega
  · show (tupleText (PyData.shownAll (pyAll ds))).length ≤ _
    have h1 := tupleText_le (PyData.shownAll (pyAll ds))
    have h2 := Nat.mul_le_mul_right (B + 2) hl
    omega
def SB : Nat → Nat
  | 0 => 40
  | n + 1 => 6 * (SB n + 2) + 3
theorem SB_le : ∀ n, 40 ≤ SB n
  | 0 => Nat.le_refl _
  | n + 1 => by
    have := SB_le n
    show 40 ≤ 6 * (SB n + 2) + 3
    omega
theorem sm_atom {d : D} (h : d ∈ atomsD) : Sm 0 40 d := by
  unfold atomsD at h
  simp only [List.mem_cons, List.not_mem_nil, or_false] at h
  rcases h with rfl | rfl | rfl | rfl | rfl | rfl | rfl | rfl | rfl | rfl | rfl | rfl | rfl | rfl | rfl | rfl | rfl
  all_goals exact ⟨rfl, by decide +kernel, rfl, by decide, by decide +kernel⟩
theorem sm_law : ∀ (n : Nat) (d : D), lawP n d → Sm n (SB n) d
  | 0, d, h => sm_atom h
  | n + 1, d, h => by
    rcases h with h | ⟨ds, rfl, hl, hds⟩
    · exact (sm_atom h).mono (Nat.zero_le _) (SB_le _)
    · exact sm_tup (by omega) fun x hx => sm_law n x (hds x hx)
theorem sm_words {d : D} (h : d ∈ namesD ∨ d ∈ harms8 ∨ d ∈ calmD ∨ d ∈ evsD ∨ d = .str (Str.ofString "story") ∨ d = .str (Str.ofString "alike") ∨ d = .str (Str.ofString "clean") ∨ d = .str (Str.ofString "reads") ∨ d = .str (Str.ofString "calm")) : Sm 0 40 d := by
  have k : ∀ s : String, (PyData.shown (.str (Str.ofString s))).length ≤ 40 → Sm 0 40 (.str (Str.ofString s)) := fun s h => ⟨rfl, rfl, rfl, Nat.zero_le _, h⟩
  unfold namesD harms8 calmD evsD at h
  simp only [List.mem_cons, List.not_mem_nil, or_false] at h
  rcases h with (rfl | rfl | rfl) | (rfl | rfl | rfl | rfl | rfl | rfl | rfl | rfl) | (rfl | rfl | rfl | rfl) | (rfl | rfl | rfl | rfl | rfl | rfl | rfl | rfl) | rfl | rfl | rfl | rfl | rfl
  all_goals exact k _ (by decide +kernel)
theorem sm_int {i : Int} (h0 : 0 ≤ i) (h1 : i < 3) : Sm 0 40 (.int i) := by
  have : i = 0 ∨ i = 1 ∨ i = 2 := by omega
  rcases this with rfl | rfl | rfl
  all_goals exact ⟨rfl, by decide +kernel, rfl, by decide, by decide +kernel⟩
theorem sm_st {d : D} (h : startP d) : Sm 5 100000 d := by
  obtain ⟨s, h0, h1, rfl⟩ := h
  refine (sm_tup (n := 0) (B := 40) (by simp) fun x hx => ?_).mono (by decide) (by decide)
  rcases List.mem_cons.mp hx with rfl | hx
  · exact sm_int h0 (by omega)
  · rw [List.mem_singleton.mp hx]; exact sm_int (by decide) (by decide)
theorem sm_ed {d : D} (h : edP d) : Sm 5 100000 d := by
  obtain ⟨s, h0, h1, rfl⟩ := h
  exact (sm_int h0 h1).mono (by decide) (by decide)
theorem sm_ev {d : D} (h : evP d) : Sm 5 100000 d := by
  obtain ⟨ds, rfl, hl, hd⟩ := h
  exact (sm_tup (n := 0) (B := 40) (by omega) fun x hx => sm_words (.inr (.inr (.inr (.inl (hd x hx)))))).mono (by decide) (by decide)
theorem sm_pap {d : D} (h : papP d) : Sm 5 100000 d := (sm_law 4 d (.inr h)).mono (by decide) (by decide)
theorem sm_claim {c : D} (h : LC c) : repOk c := by
  have w : ∀ {d : D}, (d ∈ namesD ∨ d ∈ harms8 ∨ d ∈ calmD ∨ d ∈ evsD ∨ d = .str (Str.ofString "story") ∨ d = .str (Str.ofString "alike") ∨ d = .str (Str.ofString "clean") ∨ d = .str (Str.ofString "reads") ∨ d = .str (Str.ofString "calm")) → Sm 5 100000 d := fun h => (sm_words h).mono (by decide) (by decide)
  have go : ∀ ds : List D, ds.length ≤ 6 → (∀ d ∈ ds, Sm 5 100000 d) → repOk (.tup ds) := fun ds hl hd => (sm_tup hl hd).ok (by decide) (by decide)
  cases h with
  | story hn hh hst he hev =>
    refine go _ (by simp) fun d hd => ?_
    simp only [List.mem_cons, List.not_mem_nil, or_false] at hd
    rcases hd with rfl | rfl | rfl | rfl | rfl | rfl
    · exact w (by simp)
    · exact w (.inl hn)
    · exact w (.inr (.inl hh))
    · exact sm_st hst
    · exact sm_ed he
    · exact sm_ev hev
  | alike hn hst he hev hev2 =>
    refine go _ (by simp) fun d hd => ?_
    simp only [List.mem_cons, List.not_mem_nil, or_false] at hd
    rcases hd with rfl | rfl | rfl | rfl | rfl | rfl
    · exact w (by simp)
    · exact w (.inl hn)
    · exact sm_st hst
    · exact sm_ed he
    · exact sm_ev hev
    · exact sm_ev hev2
  | clean hn he he2 hp =>
    refine go _ (by simp) fun d hd => ?_
    simp only [List.mem_cons, List.not_mem_nil, or_false] at hd
    rcases hd with rfl | rfl | rfl | rfl | rfl
    · exact w (by simp)
    · exact w (.inl hn)
    · exact sm_ed he
    · exact sm_ed he2
    · exact sm_pap hp
  | reads hn hp =>
    refine go _ (by simp) fun d hd => ?_
    simp only [List.mem_cons, List.not_mem_nil, or_false] at hd
    rcases hd with rfl | rfl | rfl
    · exact w (by simp)
    · exact w (.inl hn)
    · exact sm_pap hp
  | calm hn hh hp =>
    refine go _ (by simp) fun d hd => ?_
    simp only [List.mem_cons, List.not_mem_nil, or_false] at hd
    rcases hd with rfl | rfl | rfl | rfl
    · exact w (by simp)
    · exact w (.inl hn)
    · exact w (.inr (.inr (.inl hh)))
    · exact sm_pap hp
end K88
set_option maxHeartbeats 8000000
/-! the law -/
namespace K88
open PySem L2 Dn
def RRp (g : D → Option D) : RP := fun ds Q => RXf g ds Q False
theorem moRp' {g : D → Option D} : MoR (RRp g) := fun ds Q Q' k h => mox_f _ _ _ _ _ k (fun z => z) h
def spLaw (K : PySem.W.Frag) : Sp := fun vs H Q _ => ∃ (a : Addr) (ns : List Int), vs = [.ref a] ∧ ns.length ≤ 63 ∧ SqL K H a (ns.map V.int) ∧ ∀ H', Q (.bl true) H'
theorem for_inv {i : Nat} {tb : TDS} {I : DE → Prop} : ∀ (ds : List D) (Z : DEnds) (δ : DE), (∀ x ∈ ds, ∀ δ, I δ → ∀ Z : DEnds, (∀ δ', I δ' → Z.nx δ') → tb Z (δ.set i (.d x))) → (∀ δ', I δ' → Z.nx δ') → I δ → forW (dgName i) tb ds Z δ
  | [], Z, δ, _, h, hi => h δ hi
  | x :: xs, Z, δ, hb, h, hi => hb x (List.mem_cons_self ..) δ hi _ fun δ' hi' => for_inv xs Z δ' (fun y hy => hb y (List.mem_cons_of_mem _ hy)) h hi'
theorem isB_bb {a b neg : Bool} {Q : D → Prop} : rdIsB neg (.bl a) (.bl b) Q = Q (.bl (if neg then !decide (a = b) else decide (a = b))) := by
  exact propext ⟨fun ⟨_, _, h1, h2, q⟩ => by cases h1; cases h2; exact q, fun q => ⟨a, b, rfl, rfl, q⟩⟩
theorem pt1 {n : Nat} {d : D} {Q : D → Prop} (h : txD n d = true) (hl : (pt d).length ≤ 100000) (q : Q (.str (S (pt d)))) : RPt (n + 1) [d] Q := ⟨d, rfl, ⟨h, hl⟩, q⟩
theorem ct1 {c : D} {h0 : Str} {hs : List Str} {rs : List D} {Q : D → Prop} (s : ShC c h0 hs rs) (q : Q (.str (S (lineOf h0 hs rs)))) : RCt [c] Q :=
  ⟨h0, hs, rs, by rw [s.eq], s.len, fun d hd => (s.gd d hd).tx, Nat.le_trans s.line_le.1 (by decide), q⟩
theorem rp1 {g : D → Option D} {x : Str} {v : D} {Q : D → Prop} (h : g (.str x) = some v) (ha : askOk (.str x)) (q : Q v) : RRp g [.str x] Q := ⟨_, rfl, ha, by rw [h]; exact q⟩
theorem ask_S {l : List Nat} {k : Nat} (h1 : l.length ≤ 100000) (h2 : NR k l) (h3 : k ≤ 500) : askOk (.str (S l)) := ⟨rfl, fun x e => by
  cases e
  rw [len_S, tl_S]
  exact ⟨h1, Runs_of h2 h3⟩⟩
theorem lawRead_or (d : D) (b : Bool) : lawRead d b = d ∨ lawRead d b = .int 0 := by
  unfold lawRead
  by_cases h : (if b = true then readClaim d else readPlain d).isSome = true
  · rw [if_pos h]; exact .inl rfl
  · rw [if_neg h]; exact .inr rfl
theorem lawRead_in (x : Str) (b : Bool) : inV (lawRead (.str x) b).v [.int 0, .str x] = true ∧ (lawRead (.str x) b).flat = true := by
  rcases lawRead_or (.str x) b with h | h
  · rw [h]
    exact ⟨by unfold inV; simp [eqV, D.v], rfl⟩
  · rw [h]
    exact ⟨by unfold inV; simp [eqV, D.v], rfl⟩
theorem nin_read {x : Str} {b : Bool} {Q : D → Prop} (q : Q (.bl false)) : rdIn true (lawRead (.str x) b) (.tup [.int 0, .str x]) Q := by
  obtain ⟨h1, h2⟩ := lawRead_in x b
  rw [nin_f h2 rfl]
  have e : inV (lawRead (.str x) b).v ([D.int 0, D.str x].map D.v) = true := h1
  rw [e]
  exact q
def oddT : TDS := dIfS
  (dtOr (dTest (dOp (rdEqS true) (dCall RLr [] (dCons (dVar 11) (dCons (dC (D.bl false)) dNil))) (dC (D.int 0))))
    (dtOr (dTest (dOp (rdEqS true) (dCall RLr [] (dCons (dVar 11) (dCons (dC (D.bl true)) dNil))) (dC (D.int 0))))
      (dTest (dOp (rdIsB true) (dCall (RF1 (fun a => okd a = true) fun a => D.bl (isClaim a)) [] (dCons (dVar 11) dNil)) (dC (D.bl false))))))
  (dRet (dC (D.bl false))) dNext
theorem odd_ok1 {x : D} {Z : DEnds} {δ : DE} (hx : δ[11]? = some (.d x)) (ho : okd x = true) (hr : notRaw x) (hs : ∀ y, x ≠ .str y) (hc : isClaim x = false) (h : Z.nx δ) : oddT Z δ := by
  have hp : readPlain x = none := by cases x <;> first | rfl | exact absurd rfl (hs _)
  have hq : readClaim x = none := by cases x <;> first | rfl | exact absurd rfl (hs _)
  have ha : askOk x := ⟨hr, fun y e => absurd e (hs y)⟩
  have e1 : lawRead x false = .int 0 := by unfold lawRead; rw [hp]; rfl
  have e2 : lawRead x true = .int 0 := by unfold lawRead; rw [hq]; rfl
  unfold oddT
  have n0 : ∀ {Q : D → Prop}, Q (.bl false) → rdEqS true (.int 0) (.int 0) Q := fun q => by rw [ne_ii]; exact q
  simp only [dSeq, dIfS, dRet, dRetN, dDrop, dAsg, dAsgF, dApp, dAug, dPar, dPar2, dFrz, dNext, dC, dOp, dTest, dChain, dUn, dtAnd, dtOr, dtNot, dAndV, dOrV, dNotV, dIf, dNil, dCons, dStar, dTup, dLst, dFz, dCall, dCB, dSl, dNoPart, dPart, dM1, dBM, dFmt, dJ3, dSq, dVar, startD,
    List.map_cons, List.map_nil, List.length_cons, List.length_nil, List.nil_append, List.cons_append, List.append_nil, List.replicate_succ, List.replicate_zero, List.getElem?_cons_zero, List.getElem?_cons_succ, List.set_cons_zero, List.set_cons_succ, Nat.reduceAdd, Nat.reduceSub,
    isi_non_int, isi_non_bool, isi_non_str, isi_non_tup, isi_bl_int, isi_bl_bool, isi_bl_str, isi_bl_tup, isi_int_int, isi_int_bool, isi_int_str, isi_int_tup, isi_str_int, isi_str_bool, isi_str_str, isi_str_tup, isi_lst_int, isi_lst_bool, isi_lst_str, isi_lst_tup, isi_tup_int, isi_tup_bool, isi_tup_str, isi_tup_tup,
    isN_non, noN_non, isN_bl, noN_bl, isN_int, noN_int, isN_str, noN_str, isN_lst, noN_lst, isN_tup, noN_tup,
    eq_ss, ne_ss, eq_ii, ne_ii, ne_si, len_str', len_tup', len_lst', add_ii, sub_ii, lt_ii, le_ii, gt_ii, ge_ii, ex_bl, ex_int, ex_str, ex_sv, ex_own, all_of, Bool.not_true, Bool.not_false, Bool.false_eq_true, reduceIte, ix_lst, ix_str', sign_of, ix0, ix1, ix2, ix3, ix4, ix5]
  refine ⟨x, hx, x, false, rfl, ha, ?_⟩
  rw [e1]
  dsimp only
  refine n0 ⟨false, rfl, ?_⟩
  rw [if_neg Bool.false_ne_true]
  refine ⟨x, hx, x, true, rfl, ha, ?_⟩
  rw [e2]
  dsimp only
  refine n0 ⟨false, rfl, ?_⟩
  rw [if_neg Bool.false_ne_true]
  refine ⟨x, hx, x, rfl, ho, ?_⟩
  dsimp only
  rw [hc, isB_bb]
  exact ⟨false, rfl, h⟩
def bentT (p : Addr) : TDS := dSeq
  (dIfS (dTest (dOp (rdIsB true) (dCall (RF1 (fun a => okd a = true) fun a => D.bl (isClaim a)) [] (dCons (dCall (ROdd p) [] (dCons (dVar 2) (dCons (dVar 5) dNil))) dNil)) (dC (D.bl false)))) (dRet (dC (D.bl false))) dNext)
  (dSeq
    (dPar 9 10 (dCall (RBent p) [] (dCons (dVar 2) (dCons (dVar 6) dNil))) (dCall (RBent p) [] (dCons (dVar 2) (dCons (dVar 7) dNil))))
    (dIfS
      (dtOr (dTest (dOp (rdIn true) (dCall RLr [] (dCons (dVar 9) (dCons (dC (D.bl false)) dNil))) (dTup (dCons (dC (D.int 0)) (dCons (dVar 9) dNil)))))
        (dTest (dOp (rdIn true) (dCall RLr [] (dCons (dVar 10) (dCons (dC (D.bl true)) dNil))) (dTup (dCons (dC (D.int 0)) (dCons (dVar 10) dNil))))))
      (dRet (dC (D.bl false))) dNext))
/-- the slots of the law, in a turn -/
def sl (sc p : Addr) (c : D) (t l : Str) (a1 a3 a4 : SV) (b : Nat → SV) : DE := [.d (.raw (.ref sc)), a1, .d (.raw (.ref p)), a3, a4, .d c, .d (.str t), .d (.str l), b 8, b 9, b 10, b 11, b 12, b 13, b 14]
theorem bent_ok {sc p : Addr} {c v : D} {h0 : Str} {hs : List Str} {rs : List D} {a1 a3 a4 : SV} {b : Nat → SV} {Z : DEnds} (hc : LC c) (s : ShC c h0 hs rs) (gv : Gd 1454 v)
    (h : ∀ b' : Nat → SV, (∀ n, b' n = b n ∨ ∃ d, b' n = .d d) → Z.nx (sl sc p c (S (pt v)) (S (lineOf h0 hs rs)) a1 a3 a4 b')) : bentT p Z (sl sc p c (S (pt v)) (S (lineOf h0 hs rs)) a1 a3 a4 b) := by
  have sl9 := s.line_le
  have parts := s.parts
  obtain ⟨vs, hvs⟩ : ∃ vs, c = .tup vs := ⟨_, s.eq⟩
  have hv2 : vs = D.str h0 :: (hs.map .str ++ rs) := by
    have := hvs.symm.trans s.eq
    injection this
  subst hvs
  have hlen : 0 < vs.length ∧ vs.length ≤ 10 := by
    have := s.few
    rw [hv2]
    simp
    omega
  have hok : ∀ d ∈ vs, okd d = true := by rw [hv2]; exact parts
  unfold bentT sl
  simp only [dSeq, dIfS, dRet, dRetN, dDrop, dAsg, dAsgF, dApp, dAug, dPar, dPar2, dFrz, dNext, dC, dOp, dTest, dChain, dUn, dtAnd, dtOr, dtNot, dAndV, dOrV, dNotV, dIf, dNil, dCons, dStar, dTup, dLst, dFz, dCall, dCB, dSl, dNoPart, dPart, dM1, dBM, dFmt, dJ3, dSq, dVar, startD,
    List.map_cons, List.map_nil, List.length_cons, List.length_nil, List.nil_append, List.cons_append, List.append_nil, List.replicate_succ, List.replicate_zero, List.getElem?_cons_zero, List.getElem?_cons_succ, List.set_cons_zero, List.set_cons_succ, Nat.reduceAdd, Nat.reduceSub,
    isi_non_int, isi_non_bool, isi_non_str, isi_non_tup, isi_bl_int, isi_bl_bool, isi_bl_str, isi_bl_tup, isi_int_int, isi_int_bool, isi_int_str, isi_int_tup, isi_str_int, isi_str_bool, isi_str_str, isi_str_tup, isi_lst_int, isi_lst_bool, isi_lst_str, isi_lst_tup, isi_tup_int, isi_tup_bool, isi_tup_str, isi_tup_tup,
    isN_non, noN_non, isN_bl, noN_bl, isN_int, noN_int, isN_str, noN_str, isN_lst, noN_lst, isN_tup, noN_tup,
    eq_ss, ne_ss, eq_ii, ne_ii, ne_si, len_str', len_tup', len_lst', add_ii, sub_ii, lt_ii, le_ii, gt_ii, ge_ii, ex_bl, ex_int, ex_str, ex_sv, ex_own, all_of, Bool.not_true, Bool.not_false, Bool.false_eq_true, reduceIte, ix_lst, ix_str', sign_of, ix0, ix1, ix2, ix3, ix4, ix5]
  refine ⟨vs, rfl, hlen.1, hlen.2, fun o ho => ⟨o, rfl, odd_ok hok hlen.2 ho, ?_⟩⟩
  dsimp only
  rw [odd_cl hc ho, isB_bb]
  refine ⟨false, rfl, ?_⟩
  rw [if_neg Bool.false_ne_true]
  refine ⟨S (pt v), rfl, by rw [len_S]; exact Nat.le_trans gv.len (by decide), fun m hm => ?_⟩
  refine ⟨S (lineOf h0 hs rs), rfl, by rw [len_S]; exact Nat.le_trans sl9.1 (by decide), fun m2 hm2 => ?_⟩
  rw [tl_S] at hm hm2
  have k1 := NR_bent gv.nr hm
  have k2 := NR_bent sl9.2 hm2
  have l1 := len_bent hm
  have l2 := len_bent hm2
  have gl := gv.len
  have sl1 := sl9.1
  have q1 : askOk (.str (S m)) := ask_S (k := 42) (by omega) k1 (by decide)
  have q2 : askOk (.str (S m2)) := ask_S (k := 42) (by omega) k2 (by decide)
  refine ⟨_, _, rfl, q1, ?_⟩
  dsimp only
  refine ⟨by decide, nin_read ⟨false, rfl, ?_⟩⟩
  rw [if_neg Bool.false_ne_true]
  refine ⟨_, _, rfl, q2, ?_⟩
  dsimp only
  refine ⟨by decide, nin_read ⟨false, rfl, ?_⟩⟩
  rw [if_neg Bool.false_ne_true]
  exact h (fun n => if n = 9 then .d (.str (S m)) else if n = 10 then .d (.str (S m2)) else b n) fun n => by
    by_cases h9 : n = 9
    · exact .inr ⟨_, if_pos h9⟩
    · by_cases h10 : n = 10
      · exact .inr ⟨.str (S m2), by simp [h10]⟩
      · exact .inl (by simp [h9, h10])
def turnT (p : Addr) : TDS := dSeq
  (dPar 4 5 (dCall (RLP p 5) [] (dCons (dVar 2) (dCons (dC (D.int 4)) dNil)))
    (dCall (RLC p) [] (dCons (dVar 2) (dCons (dFz (dLst (dCons (dC (D.str (Str.ofString "m"))) (dCons (dC (D.str (Str.ofString "k"))) (dCons (dC (D.str (Str.ofString "abcd"))) dNil))))) dNil))))
  (dSeq (dPar 6 7 (dCall (RPt 51) [] (dCons (dVar 4) dNil)) (dCall RCt [] (dCons (dVar 5) dNil)))
    (dSeq
      (dIfS (dtOr (dTest (dOp (rdEqS true) (dCall (RPt 51) [] (dCons (dVar 4) dNil)) (dVar 6)))
          (dtNot (dTest (dCall (RF2 (fun a b => repOk a ∧ repOk b) fun a b => D.bl (decide (shD a = shD b))) [] (dCons (dCall (RRp readPlain) [] (dCons (dVar 6) dNil)) (dCons (dVar 4) dNil))))))
        (dRet (dC (D.bl false))) dNext)
      (dSeq
        (dIfS (dtOr (dTest (dOp (rdEqS true) (dCall RCt [] (dCons (dVar 5) dNil)) (dVar 7)))
            (dtOr (dtNot (dTest (dCall (RF2 (fun a b => repOk a ∧ repOk b) fun a b => D.bl (decide (shD a = shD b))) [] (dCons (dCall (RRp readClaim) [] (dCons (dVar 7) dNil)) (dCons (dVar 5) dNil)))))
              (dTest (dOp (rdIsB true) (dCall (RF1 (fun a => okd a = true) fun a => D.bl (isClaim a)) [] (dCons (dVar 5) dNil)) (dC (D.bl true))))))
          (dRet (dC (D.bl false))) dNext)
        (dSeq (dFor (dRng (dC (D.int 3))) (dgName 8) (bentT p))
          (dFor (dSq D.tupOf (dTup (dCons (dC D.non) (dCons (dC (D.int 3)) (dCons (dFz (dLst (dCons (dVar 6) dNil))) (dCons (dTup (dCons (dVar 7) dNil)) (dCons (dC (D.bl true)) dNil))))))) (dgName 11) oddT)))))
theorem neS_f {x : Str} {Q : D → Prop} (q : Q (.bl false)) : rdEqS true (.str x) (.str x) Q := by
  rw [ne_ss, decide_eq_true rfl]
  exact q
theorem same_t {a : D} {Q : D → Prop} (h : repOk a) (q : Q (.bl true)) : RF2 (fun a b => repOk a ∧ repOk b) (fun a b => D.bl (decide (shD a = shD b))) [a, a] Q := by
  rw [rf2]
  refine ⟨⟨h, h⟩, ?_⟩
  rw [decide_eq_true rfl]
  exact q
theorem turn_ok {sc p : Addr} {a1 a3 a4 a5 a6 a7 : SV} {b : Nat → SV} {Z : DEnds}
    (h : ∀ (v c : D) (t l : Str) (b' : Nat → SV), (∀ n, b' n = b n ∨ ∃ d, b' n = .d d) → Z.nx (sl sc p c t l a1 a3 (.d v) b')) :
    turnT p Z [.d (.raw (.ref sc)), a1, .d (.raw (.ref p)), a3, a4, a5, a6, a7, b 8, b 9, b 10, b 11, b 12, b 13, b 14] := by
  unfold turnT
  simp only [dSeq, dIfS, dRet, dRetN, dDrop, dAsg, dAsgF, dApp, dAug, dPar, dPar2, dFrz, dNext, dC, dOp, dTest, dChain, dUn, dtAnd, dtOr, dtNot, dAndV, dOrV, dNotV, dIf, dNil, dCons, dStar, dTup, dLst, dFz, dCall, dCB, dSl, dNoPart, dPart, dM1, dBM, dFmt, dJ3, dSq, dVar, startD,
    List.map_cons, List.map_nil, List.length_cons, List.length_nil, List.nil_append, List.cons_append, List.append_nil, List.replicate_succ, List.replicate_zero, List.getElem?_cons_zero, List.getElem?_cons_succ, List.set_cons_zero, List.set_cons_succ, Nat.reduceAdd, Nat.reduceSub,
    isi_non_int, isi_non_bool, isi_non_str, isi_non_tup, isi_bl_int, isi_bl_bool, isi_bl_str, isi_bl_tup, isi_int_int, isi_int_bool, isi_int_str, isi_int_tup, isi_str_int, isi_str_bool, isi_str_str, isi_str_tup, isi_lst_int, isi_lst_bool, isi_lst_str, isi_lst_tup, isi_tup_int, isi_tup_bool, isi_tup_str, isi_tup_tup,
    isN_non, noN_non, isN_bl, noN_bl, isN_int, noN_int, isN_str, noN_str, isN_lst, noN_lst, isN_tup, noN_tup,
    eq_ss, ne_ss, eq_ii, ne_ii, ne_si, len_str', len_tup', len_lst', add_ii, sub_ii, lt_ii, le_ii, gt_ii, ge_ii, ex_bl, ex_int, ex_str, ex_sv, ex_own, all_of, Bool.not_true, Bool.not_false, Bool.false_eq_true, reduceIte, ix_lst, ix_str', sign_of, ix0, ix1, ix2, ix3, ix4, ix5]
  refine ⟨rfl, fun v hv => ⟨by decide, rfl, fun c hc => ?_⟩⟩
  have gv : Gd 1454 v := gd_law (n := 4) (by decide) hv
  obtain ⟨h0, hs, rs, s⟩ := shape hc
  have okc : okd c = true := by rw [s.eq]; exact okd_of (by have := s.few; simp; omega) s.parts
  refine pt1 gv.tx (Nat.le_trans gv.len (by decide)) (ct1 s ?_)
  refine pt1 gv.tx (Nat.le_trans gv.len (by decide)) (neS_f ⟨false, rfl, ?_⟩)
  rw [if_neg Bool.false_ne_true]
  refine rp1 (rd_read gv.rd) (ask_S (k := 20) (Nat.le_trans gv.len (by decide)) gv.nr (by decide)) (same_t ((sm_law 4 v hv).ok (by decide) (by decide)) ⟨true, rfl, ?_⟩)
  rw [if_neg (by decide)]
  have rc : readClaim (.str (S (lineOf h0 hs rs))) = some c := by
    show readClaimL (tl (S (lineOf h0 hs rs))) = some c
    rw [tl_S]
    exact s.read s.cl
  have sl9 := s.line_le
  refine ct1 s (neS_f ⟨false, rfl, ?_⟩)
  rw [if_neg Bool.false_ne_true]
  refine rp1 rc (ask_S (k := 20) (Nat.le_trans sl9.1 (by decide)) sl9.2 (by decide)) (same_t (sm_claim hc) ⟨true, rfl, ?_⟩)
  rw [if_neg (by decide)]
  refine ⟨c, rfl, okc, ?_⟩
  dsimp only
  rw [s.cl, isB_bb]
  refine ⟨false, rfl, ?_⟩
  rw [if_neg Bool.false_ne_true]
  have st8 : ∀ (b' : Nat → SV) (x : D), (sl sc p c (S (pt v)) (S (lineOf h0 hs rs)) a1 a3 (.d v) b').set 8 (.d x) = sl sc p c (S (pt v)) (S (lineOf h0 hs rs)) a1 a3 (.d v) (fun n => if n = 8 then .d x else b' n) := fun b' x => rfl
  have st11 : ∀ (b' : Nat → SV) (x : D), (sl sc p c (S (pt v)) (S (lineOf h0 hs rs)) a1 a3 (.d v) b').set 11 (.d x) = sl sc p c (S (pt v)) (S (lineOf h0 hs rs)) a1 a3 (.d v) (fun n => if n = 11 then .d x else b' n) := fun b' x => rfl
  have put : ∀ {b' : Nat → SV} (k : Nat) (x : D), (∀ n, b' n = b n ∨ ∃ d, b' n = .d d) → ∀ n, (if n = k then SV.d x else b' n) = b n ∨ ∃ d, (if n = k then SV.d x else b' n) = .d d := fun {b'} k x hb n => by
    by_cases e : n = k
    · rw [if_pos e]; exact .inr ⟨x, rfl⟩
    · rw [if_neg e]; exact hb n
  refine ⟨3, rfl, by decide, by decide, ?_⟩
  refine for_inv (I := fun δ => ∃ b' : Nat → SV, (∀ n, b' n = b n ∨ ∃ d, b' n = .d d) ∧ δ = sl sc p c (S (pt v)) (S (lineOf h0 hs rs)) a1 a3 (.d v) b') _ _ _ (fun x hx δ ⟨b', hb, hδ⟩ Z hZ => ?_) (fun δ ⟨b', hb, hδ⟩ => ?_) ⟨b, fun n => .inl rfl, rfl⟩
  · rw [hδ, st8]
    refine bent_ok hc s gv fun b2 hb2 => hZ _ ⟨b2, fun n => ?_, rfl⟩
    rcases hb2 n with e | e
    · rw [e]; exact put 8 x hb n
    · exact .inr e
  · subst hδ
    have okt : ∀ l : List Nat, l.length ≤ 100000 → okd (.str (S l)) = true := fun l hl => decide_eq_true (by rw [len_S]; exact hl)
    have ok1 := okt _ (Nat.le_trans gv.len (by decide))
    have ok2 := okt _ (Nat.le_trans sl9.1 (by decide))
    simp only [dFor, sl, dSeq, dIfS, dRet, dRetN, dDrop, dAsg, dAsgF, dApp, dAug, dPar, dPar2, dFrz, dNext, dC, dOp, dTest, dChain, dUn, dtAnd, dtOr, dtNot, dAndV, dOrV, dNotV, dIf, dNil, dCons, dStar, dTup, dLst, dFz, dCall, dCB, dSl, dNoPart, dPart, dM1, dBM, dFmt, dJ3, dSq, dVar, startD,
    List.map_cons, List.map_nil, List.length_cons, List.length_nil, List.nil_append, List.cons_append, List.append_nil, List.replicate_succ, List.replicate_zero, List.getElem?_cons_zero, List.getElem?_cons_succ, List.set_cons_zero, List.set_cons_succ, Nat.reduceAdd, Nat.reduceSub,
    isi_non_int, isi_non_bool, isi_non_str, isi_non_tup, isi_bl_int, isi_bl_bool, isi_bl_str, isi_bl_tup, isi_int_int, isi_int_bool, isi_int_str, isi_int_tup, isi_str_int, isi_str_bool, isi_str_str, isi_str_tup, isi_lst_int, isi_lst_bool, isi_lst_str, isi_lst_tup, isi_tup_int, isi_tup_bool, isi_tup_str, isi_tup_tup,
    isN_non, noN_non, isN_bl, noN_bl, isN_int, noN_int, isN_str, noN_str, isN_lst, noN_lst, isN_tup, noN_tup,
    eq_ss, ne_ss, eq_ii, ne_ii, ne_si, len_str', len_tup', len_lst', add_ii, sub_ii, lt_ii, le_ii, gt_ii, ge_ii, ex_bl, ex_int, ex_str, ex_sv, ex_own, all_of, Bool.not_true, Bool.not_false, Bool.false_eq_true, reduceIte, ix_lst, ix_str', sign_of, ix0, ix1, ix2, ix3, ix4, ix5, D.tupOf]
    refine ⟨by decide, by decide, by decide, _, rfl, ?_⟩
    refine for_inv (I := fun δ => ∃ b' : Nat → SV, (∀ n, b' n = b n ∨ ∃ d, b' n = .d d) ∧ δ = sl sc p c (S (pt v)) (S (lineOf h0 hs rs)) a1 a3 (.d v) b') _ _ _ (fun x hx δ ⟨b', hb, hδ⟩ Z hZ => ?_) (fun δ ⟨b', hb, hδ⟩ => ?_) ⟨b', hb, rfl⟩
    · rw [hδ, st11]
      have nx := hZ _ ⟨_, put 11 x hb, rfl⟩
      simp only [List.mem_cons, List.not_mem_nil, or_false] at hx
      rcases hx with rfl | rfl | rfl | rfl | rfl
      · exact odd_ok1 (x := .non) rfl rfl rfl (fun y z => nomatch z) rfl nx
      · exact odd_ok1 (x := .int 3) rfl rfl rfl (fun y z => nomatch z) rfl nx
      · exact odd_ok1 (x := .lst [.str (S (pt v))]) rfl (by show (decide (1 ≤ 100000) && (okd _ && true)) = true; rw [ok1]; rfl) rfl (fun y z => nomatch z) rfl nx
      · exact odd_ok1 (x := .tup [.str (S (lineOf h0 hs rs))]) rfl (by show (decide (1 ≤ 100000) && (okd _ && true)) = true; rw [ok2]; rfl) rfl (fun y z => nomatch z) rfl nx
      · exact odd_ok1 (x := .bl true) rfl rfl rfl (fun y z => nomatch z) rfl nx
    · subst hδ
      exact h v c _ _ b' hb
end K88
set_option maxHeartbeats 8000000
/-! the law, whole -/
namespace K88
open PySem L2 Dn
def b15 (sc : Addr) (b : Nat → SV) : DE := [.d (.raw (.ref sc)), b 1, b 2, b 3, b 4, b 5, b 6, b 7, b 8, b 9, b 10, b 11, b 12, b 13, b 14]
def NoO (b : Nat → SV) : Prop := ∀ (n : Nat) (ds : List D), b n ≠ .own ds
theorem no15 {sc : Addr} {b : Nat → SV} (h : NoO b) : noOwn (b15 sc b) := fun i ds hi => by
  have hm := List.mem_of_getElem? hi
  unfold b15 at hm
  simp only [List.mem_cons, List.not_mem_nil, or_false] at hm
  rcases hm with e | e | e | e | e | e | e | e | e | e | e | e | e | e | e
  · cases e
  all_goals exact h _ _ e.symm
theorem NoO.put {b : Nat → SV} (h : NoO b) (k : Nat) (x : D) : NoO fun n => if n = k then .d x else b n := fun n ds => by
  by_cases e : n = k
  · dsimp only
    rw [if_pos e]
    exact fun z => nomatch z
  · dsimp only
    rw [if_neg e]
    exact h n ds
theorem lc_none {j : Nat} {tt : TDT} {te : TD} {δ : DE} {R : List D → Prop} : ∀ (ds acc : List D), (∀ x ∈ ds, ∀ R' : Bool → Prop, R' false → tt (δ.set j (.d x)) R') → R acc → lcW j tt te ds acc δ R
  | [], acc, _, h => h
  | x :: xs, acc, ht, h => by
    unfold lcW
    refine ht x (List.mem_cons_self ..) _ ?_
    rw [if_neg Bool.false_ne_true]
    exact lc_none xs acc (fun y hy => ht y (List.mem_cons_of_mem _ hy)) h
def badsP : List String := ["", "x", "01", "-0", "- 1", "(1,2)", "(1, )", "(1", "1)", "Yes", "\"a", "()x", "( )", "(1, 2))", "--1", "no "]
def badsC : List String := ["story m again (0, 0) 0", "reads m ()  ", "reads  m ()", "calm m left ()", "clean m 0 -1 ()", "alike m (0) 0 (\"x\") ()"]
theorem ask_str {s : String} (h : (tl (Str.ofString s)).length ≤ 100) : askOk (.str (Str.ofString s)) := ⟨rfl, fun x e => by
  cases e
  exact ⟨by rw [len_tl]; omega, Runs_of (k := 100) (NR_len h) (by decide)⟩⟩
theorem bad_t {s : String} (h : s ∈ badsP) {Q : D → Prop} (q : Q (.int 0)) : RLr [.str (Str.ofString s), .bl false] Q := by
  have hl : (tl (Str.ofString s)).length ≤ 100 := by
    have : ∀ s ∈ badsP, (tl (Str.ofString s)).length ≤ 100 := by decide
    exact this s h
  refine ⟨_, _, rfl, ask_str hl, ?_⟩
  have e : lawRead (.str (Str.ofString s)) false = .int 0 := by
    unfold lawRead
    rw [if_neg Bool.false_ne_true, bad_plain s h]
    rfl
  rw [e]
  exact q
theorem bad_c {s : String} (h : s ∈ badsC) {Q : D → Prop} (q : Q (.int 0)) : RLr [.str (Str.ofString s), .bl true] Q := by
  have hl : (tl (Str.ofString s)).length ≤ 100 := by
    have : ∀ s ∈ badsC, (tl (Str.ofString s)).length ≤ 100 := by decide
    exact this s h
  refine ⟨_, _, rfl, ask_str hl, ?_⟩
  have e : lawRead (.str (Str.ofString s)) true = .int 0 := by
    unfold lawRead
    rw [if_pos rfl, bad_claim s h]
    rfl
  rw [e]
  exact q
theorem ne00 {Q : D → Prop} (q : Q (.bl false)) : rdEqS true (.int 0) (.int 0) Q := by rw [ne_ii]; exact q
theorem eq_nil {neg : Bool} {Q : D → Prop} (q : Q (.bl (!neg))) : rdEq neg (.lst []) (.lst []) Q := by
  refine ⟨rfl, rfl, by decide +kernel, by decide +kernel, ?_⟩
  cases neg <;> exact q
theorem loops_ok {sc : Addr} {ns : List Int} {b : Nat → SV} (hb : NoO b) {Z : DEnds} (h : ∀ b', NoO b' → Z.nx (b15 sc b')) :
    dFor (dRng (dCB (rdC2 fun i j => D.int (if j > i then j else i)) (dCons (dC (D.int 1)) (dCons (dCB (rdC2 fun i j => D.int (if j < i then j else i)) (dCons (dC (D.int 3)) (dCons (dCB (rdLenR sc ns) (dCons (dVar 0) dNil)) dNil))) dNil))))
      (dgName 1) (dBoxed 0 1 2 sc fun p => dFor (dRng (dC (D.int 4))) (dgName 3) (turnT p)) Z (b15 sc b) := by
  have rd2 : ∀ {g : Int → Int → D} {i j : Int} {Q : D → Prop}, rdC2 g [.int i, .int j] Q = Q (g i j) := propext ⟨fun ⟨_, _, h, q⟩ => by cases h; exact q, fun q => ⟨_, _, rfl, q⟩⟩
  simp only [dFor, dRng, b15, dSeq, dIfS, dRet, dRetN, dDrop, dAsg, dAsgF, dApp, dAug, dPar, dPar2, dFrz, dNext, dC, dOp, dTest, dChain, dUn, dtAnd, dtOr, dtNot, dAndV, dOrV, dNotV, dIf, dNil, dCons, dStar, dTup, dLst, dFz, dCall, dCB, dSl, dNoPart, dPart, dM1, dBM, dFmt, dJ3, dSq, dVar, startD,
    List.map_cons, List.map_nil, List.length_cons, List.length_nil, List.nil_append, List.cons_append, List.append_nil, List.replicate_succ, List.replicate_zero, List.getElem?_cons_zero, List.getElem?_cons_succ, List.set_cons_zero, List.set_cons_succ, Nat.reduceAdd, Nat.reduceSub,
    isi_non_int, isi_non_bool, isi_non_str, isi_non_tup, isi_bl_int, isi_bl_bool, isi_bl_str, isi_bl_tup, isi_int_int, isi_int_bool, isi_int_str, isi_int_tup, isi_str_int, isi_str_bool, isi_str_str, isi_str_tup, isi_lst_int, isi_lst_bool, isi_lst_str, isi_lst_tup, isi_tup_int, isi_tup_bool, isi_tup_str, isi_tup_tup,
    isN_non, noN_non, isN_bl, noN_bl, isN_int, noN_int, isN_str, noN_str, isN_lst, noN_lst, isN_tup, noN_tup,
    eq_ss, ne_ss, eq_ii, ne_ii, ne_si, len_str', len_tup', len_lst', add_ii, sub_ii, lt_ii, le_ii, gt_ii, ge_ii, ex_bl, ex_int, ex_str, ex_sv, ex_own, all_of, Bool.not_true, Bool.not_false, Bool.false_eq_true, reduceIte, ix_lst, ix_str', sign_of, ix0, ix1, ix2, ix3, ix4, ix5, lenR_i, rd2]
  generalize hn : (if (if (ns.length : Int) < 3 then (ns.length : Int) else 3) > 1 then (if (ns.length : Int) < 3 then (ns.length : Int) else 3) else 1 : Int) = n
  have hn3 : 0 ≤ n ∧ n ≤ 3 := by
    rw [← hn]
    split <;> split <;> omega
  refine ⟨by omega, by omega, ?_⟩
  refine for_inv (I := fun δ => ∃ b', NoO b' ∧ δ = b15 sc b') _ _ _ (fun x hx δ ⟨b1, hb1, hδ⟩ Z hZ => ?_) (fun δ ⟨b', hb', hδ⟩ => by rw [hδ]; exact h b' hb') ⟨b, hb, rfl⟩
  obtain ⟨k, hk, rfl⟩ : ∃ k : Nat, k < n.toNat ∧ x = .int (k : Int) := by
    unfold rngD at hx
    obtain ⟨k, hk, e⟩ := List.mem_map.mp hx
    exact ⟨k, List.mem_range.mp hk, e.symm⟩
  have e1 : (b15 sc b1).set 1 (.d (.int (k : Int))) = b15 sc (fun n => if n = 1 then .d (.int (k : Int)) else b1 n) := rfl
  rw [hδ, e1]
  have hb2 := hb1.put 1 (.int (k : Int))
  refine ⟨no15 hb2, rfl, ⟨(k : Int), rfl, by omega, by omega⟩, fun p => ?_⟩
  generalize (fun n => if n = 1 then SV.d (.int (k : Int)) else b1 n) = b2 at hb2
  refine ⟨4, rfl, by decide, by decide, ?_⟩
  refine for_inv (I := fun δ => ∃ b', NoO b' ∧ δ = (b15 sc b').set 2 (.d (.raw (.ref p)))) _ _ _ (fun x hx δ ⟨b3, hb3, hδ⟩ Z hZ => ?_) (fun δ ⟨b', hb', hδ⟩ => hZ _ ⟨fun n => if n = 2 then .d (.raw (.ref p)) else b' n, hb'.put 2 _, by rw [hδ]; rfl⟩) ⟨b2, hb2, rfl⟩
  rw [hδ]
  refine turn_ok (sc := sc) (p := p) (a1 := b3 1) (a3 := .d x) (a4 := b3 4) (a5 := b3 5) (a6 := b3 6) (a7 := b3 7) (b := b3) fun v c t l b4 hb4 => hZ _ ⟨fun n => if n = 3 then .d x else if n = 4 then .d v else if n = 5 then .d c else if n = 6 then .d (.str t) else if n = 7 then .d (.str l) else if n = 1 then b3 1 else b4 n, fun n ds => ?_, rfl⟩
  dsimp only
  repeat' split
  all_goals first
    | exact hb3 _ _
    | (intro z; cases z; done)
    | (rcases hb4 n with e | ⟨d, e⟩
       · rw [e]; exact hb3 _ _
       · rw [e]; intro z; cases z)
def lawT (sc : Addr) (ns : List Int) : TDS := dSeq
  (dFor (dRng (dCB (rdC2 fun i j => D.int (if j > i then j else i)) (dCons (dC (D.int 1)) (dCons (dCB (rdC2 fun i j => D.int (if j < i then j else i)) (dCons (dC (D.int 3)) (dCons (dCB (rdLenR sc ns) (dCons (dVar 0) dNil)) dNil))) dNil))))
    (dgName 1) (dBoxed 0 1 2 sc fun p => dFor (dRng (dC (D.int 4))) (dgName 3) (turnT p)))
  (dSeq (dAsg 12 (dFz (dLst (dCons (dC (D.str (Str.ofString ""))) (dCons (dC (D.str (Str.ofString "x"))) (dCons (dC (D.str (Str.ofString "01"))) (dCons (dC (D.str (Str.ofString "-0"))) (dCons (dC (D.str (Str.ofString "- 1"))) (dCons (dC (D.str (Str.ofString "(1,2)"))) (dCons (dC (D.str (Str.ofString "(1, )"))) (dCons (dC (D.str (Str.ofString "(1"))) (dCons (dC (D.str (Str.ofString "1)"))) (dCons (dC (D.str (Str.ofString "Yes"))) (dCons (dC (D.str (Str.ofString "\"a"))) (dCons (dC (D.str (Str.ofString "()x"))) (dCons (dC (D.str (Str.ofString "( )"))) (dCons (dC (D.str (Str.ofString "(1, 2))"))) dNil)))))))))))))))))
    (dSeq (dAsg 12 (dOp rdCatL (dVar 12) (dFz (dLst (dCons (dC (D.str (Str.ofString "--1"))) (dCons (dC (D.str (Str.ofString "no "))) dNil))))))
      (dSeq (dIfS (dTest (dOp (rdEq true) (dFz (dLc (dSq D.lstOf (dVar 12)) 14 (dTest (dOp (rdEqS true) (dCall RLr [] (dCons (dVar 14) (dCons (dC (D.bl false)) dNil))) (dC (D.int 0)))) (dVar 14))) (dFz (dLst dNil)))) (dRet (dC (D.bl false))) dNext)
        (dSeq (dAsgF 13 (dLst (dCons (dC (D.str (Str.ofString "story m again (0, 0) 0"))) (dCons (dC (D.str (Str.ofString "reads m ()  "))) (dCons (dC (D.str (Str.ofString "reads  m ()"))) (dCons (dC (D.str (Str.ofString "calm m left ()"))) (dCons (dC (D.str (Str.ofString "clean m 0 -1 ()"))) dNil)))))))
          (dSeq (dApp 13 (dC (D.str (Str.ofString "alike m (0) 0 (\"x\") ()"))))
            (dFrz 13 (dRet (dOp (rdEq false) (dFz (dLc (dSq D.lstOf (dVar 13)) 7 (dTest (dOp (rdEqS true) (dCall RLr [] (dCons (dVar 7) (dCons (dC (D.bl true)) dNil))) (dC (D.int 0)))) (dVar 7))) (dFz (dLst dNil))))))))))
theorem law_go {sc : Addr} {ns : List Int} {b : Nat → SV} (hb : NoO b) {Z : DEnds} (hZ : Z.rt (.bl true)) : lawT sc ns Z (b15 sc b) := by
  unfold lawT
  refine loops_ok hb fun b' _ => ?_
  simp only [b15, dSeq, dIfS, dRet, dRetN, dDrop, dAsg, dAsgF, dApp, dAug, dPar, dPar2, dFrz, dNext, dC, dOp, dTest, dChain, dUn, dtAnd, dtOr, dtNot, dAndV, dOrV, dNotV, dIf, dNil, dCons, dStar, dTup, dLst, dFz, dCall, dCB, dSl, dNoPart, dPart, dM1, dBM, dFmt, dJ3, dSq, dVar, startD,
    List.map_cons, List.map_nil, List.length_cons, List.length_nil, List.nil_append, List.cons_append, List.append_nil, List.replicate_succ, List.replicate_zero, List.getElem?_cons_zero, List.getElem?_cons_succ, List.set_cons_zero, List.set_cons_succ, Nat.reduceAdd, Nat.reduceSub,
    isi_non_int, isi_non_bool, isi_non_str, isi_non_tup, isi_bl_int, isi_bl_bool, isi_bl_str, isi_bl_tup, isi_int_int, isi_int_bool, isi_int_str, isi_int_tup, isi_str_int, isi_str_bool, isi_str_str, isi_str_tup, isi_lst_int, isi_lst_bool, isi_lst_str, isi_lst_tup, isi_tup_int, isi_tup_bool, isi_tup_str, isi_tup_tup,
    isN_non, noN_non, isN_bl, noN_bl, isN_int, noN_int, isN_str, noN_str, isN_lst, noN_lst, isN_tup, noN_tup,
    eq_ss, ne_ss, eq_ii, ne_ii, ne_si, len_str', len_tup', len_lst', add_ii, sub_ii, lt_ii, le_ii, gt_ii, ge_ii, ex_bl, ex_int, ex_str, ex_sv, ex_own, all_of, Bool.not_true, Bool.not_false, Bool.false_eq_true, reduceIte, ix_lst, ix_str', sign_of, ix0, ix1, ix2, ix3, ix4, ix5, dFor, dLc, D.lstOf]
  refine ⟨by decide, by decide, _, _, rfl, rfl, by decide, ?_⟩
  dsimp only
  refine ⟨_, rfl, lc_none _ _ (fun x hx R' hR => ?_) ⟨by decide, eq_nil ⟨false, rfl, ?_⟩⟩⟩
  · obtain ⟨s, hs, rfl⟩ := List.mem_map.mp (show x ∈ badsP.map fun s => D.str (Str.ofString s) from hx)
    simp only [dSeq, dIfS, dRet, dRetN, dDrop, dAsg, dAsgF, dApp, dAug, dPar, dPar2, dFrz, dNext, dC, dOp, dTest, dChain, dUn, dtAnd, dtOr, dtNot, dAndV, dOrV, dNotV, dIf, dNil, dCons, dStar, dTup, dLst, dFz, dCall, dCB, dSl, dNoPart, dPart, dM1, dBM, dFmt, dJ3, dSq, dVar, startD,
    List.map_cons, List.map_nil, List.length_cons, List.length_nil, List.nil_append, List.cons_append, List.append_nil, List.replicate_succ, List.replicate_zero, List.getElem?_cons_zero, List.getElem?_cons_succ, List.set_cons_zero, List.set_cons_succ, Nat.reduceAdd, Nat.reduceSub,
    isi_non_int, isi_non_bool, isi_non_str, isi_non_tup, isi_bl_int, isi_bl_bool, isi_bl_str, isi_bl_tup, isi_int_int, isi_int_bool, isi_int_str, isi_int_tup, isi_str_int, isi_str_bool, isi_str_str, isi_str_tup, isi_lst_int, isi_lst_bool, isi_lst_str, isi_lst_tup, isi_tup_int, isi_tup_bool, isi_tup_str, isi_tup_tup,
    isN_non, noN_non, isN_bl, noN_bl, isN_int, noN_int, isN_str, noN_str, isN_lst, noN_lst, isN_tup, noN_tup,
    eq_ss, ne_ss, eq_ii, ne_ii, ne_si, len_str', len_tup', len_lst', add_ii, sub_ii, lt_ii, le_ii, gt_ii, ge_ii, ex_bl, ex_int, ex_str, ex_sv, ex_own, all_of, Bool.not_true, Bool.not_false, Bool.false_eq_true, reduceIte, ix_lst, ix_str', sign_of, ix0, ix1, ix2, ix3, ix4, ix5]
    exact bad_t hs (ne00 ⟨false, rfl, hR⟩)
  · rw [if_neg Bool.false_ne_true]
    refine ⟨by decide, by decide, _, rfl, lc_none _ _ (fun x hx R' hR => ?_) ⟨by decide, eq_nil hZ⟩⟩
    obtain ⟨s, hs, rfl⟩ := List.mem_map.mp (show x ∈ badsC.map fun s => D.str (Str.ofString s) from hx)
    simp only [dSeq, dIfS, dRet, dRetN, dDrop, dAsg, dAsgF, dApp, dAug, dPar, dPar2, dFrz, dNext, dC, dOp, dTest, dChain, dUn, dtAnd, dtOr, dtNot, dAndV, dOrV, dNotV, dIf, dNil, dCons, dStar, dTup, dLst, dFz, dCall, dCB, dSl, dNoPart, dPart, dM1, dBM, dFmt, dJ3, dSq, dVar, startD,
    List.map_cons, List.map_nil, List.length_cons, List.length_nil, List.nil_append, List.cons_append, List.append_nil, List.replicate_succ, List.replicate_zero, List.getElem?_cons_zero, List.getElem?_cons_succ, List.set_cons_zero, List.set_cons_succ, Nat.reduceAdd, Nat.reduceSub,
    isi_non_int, isi_non_bool, isi_non_str, isi_non_tup, isi_bl_int, isi_bl_bool, isi_bl_str, isi_bl_tup, isi_int_int, isi_int_bool, isi_int_str, isi_int_tup, isi_str_int, isi_str_bool, isi_str_str, isi_str_tup, isi_lst_int, isi_lst_bool, isi_lst_str, isi_lst_tup, isi_tup_int, isi_tup_bool, isi_tup_str, isi_tup_tup,
    isN_non, noN_non, isN_bl, noN_bl, isN_int, noN_int, isN_str, noN_str, isN_lst, noN_lst, isN_tup, noN_tup,
    eq_ss, ne_ss, eq_ii, ne_ii, ne_si, len_str', len_tup', len_lst', add_ii, sub_ii, lt_ii, le_ii, gt_ii, ge_ii, ex_bl, ex_int, ex_str, ex_sv, ex_own, all_of, Bool.not_true, Bool.not_false, Bool.false_eq_true, reduceIte, ix_lst, ix_str', sign_of, ix0, ix1, ix2, ix3, ix4, ix5]
    exact bad_c hs (ne00 ⟨false, rfl, hR⟩)
section
variable {P : Program} {w : World} {K : PySem.W.Frag} {mg : Str → Option Value} {base : Heap}
theorem ok_law (T : Tx K mg w) (TE : TxE P K mg) : FnG P w K mg base 100 T.a_law T.f_law ["_law_script"] (spLaw K) := by
  have G__law_seed := ok_law_seed (P := P) (base := base) T
  have G__law_plain_text := ok_law_plain_text (P := P) (base := base) T 51
  have G__law_claim_text := ok_law_claim_text (P := P) (base := base) T
  have G_plain_text := ok_plain_text (P := P) (base := base) T 51
  have G_claim_text := ok_claim_text (P := P) (base := base) T
  have G_is_claim := ok_is_claim (P := P) (base := base) T
  have G__law_is_same := ok_law_is_same (P := P) (w := w) (base := base) T
  have G__law_read := ok_law_read (base := base) T TE
  have G_read_plain : FnOk P w K mg base (L2.CX P w) 90 T.a_read_plain T.f_read_plain ["text"] (spD K bx0 (RRp readPlain)) := (ok_read_plain T TE).imp fun vs H Q E h => spX_imp h mox_f
  have G_read_claim : FnOk P w K mg base (L2.CX P w) 95 T.a_read_claim T.f_read_claim ["text"] (spD K bx0 (RRp readClaim)) := (ok_read_claim T TE).imp fun vs H Q E h => spX_imp h mox_f
  refine T.F_law.okG sc_law (fun vs H Q E ⟨a, ns, h, _⟩ => by rw [h]; rfl) (fun cdv A outer s H vs Q E hgd hr ⟨sc, ns, hv, hl, hsq, q⟩ => ?_)
  subst hv
  have heb : (Bs.mk bx0 H fun _ => none).b = bx0 := rfl
  have hs : SqL K (Bs.mk bx0 H fun _ => none).H0 sc (ns.map V.int) := hsq
  have hbs : ¬ (Bs.mk bx0 H fun _ => none).b.B sc := fun z => z
  refine ⟨_, DB_.run (e := Bs.mk bx0 H fun _ => none) (db_cons (ds_for PassesOwn.never rfl (di_range T.n_range (de_callB L_max (call_max2 rfl) T.n_max (by decide +kernel) (da_cons de_int (da_cons (de_callB L_min (call_min2 rfl) T.n_min (by decide +kernel) (da_cons de_int (da_cons (de_callB (L_lenR hbs hs) call_len_seq T.n_len PySem.boot_len (da_cons (de_var 0) da_nil)) da_nil))) da_nil)))) (dg_name 1 sc_law.nd) (db_box (i := 0) (j := 1) (s := 2) heb hs sc_law.nd G__law_seed (Room.mono hr (by first | decide | omega)) T.g__law_seed T.F__law_seed.kp T.b__law_seed (fun p e2 heb => have G__law_plain := ok_law_plain (P := P) (base := base) T p 5; have G__law_claim := ok_law_claim (P := P) (base := base) T p; have G__law_odd := ok_law_odd (P := P) (base := base) T p; have G__law_bent := ok_law_bent (P := P) (base := base) T p; (db_one (ds_for PassesOwn.never rfl (di_range T.n_range de_int) (dg_name 3 sc_law.nd) (db_cons (ds_par 4 5 rfl sc_law.nd (de_call (.inr heb.symm) (moLP _ _) G__law_plain (Room.mono hr (by first | decide | omega)) T.g__law_plain T.F__law_plain.kp T.b__law_plain .nil (fun _ => .nil) pass0 (da_cons (de_var 2) (da_cons de_int da_nil))) (de_call (.inr heb.symm) (moLC _) G__law_claim (Room.mono hr (by first | decide | omega)) T.g__law_claim T.F__law_claim.kp T.b__law_claim .nil (fun _ => .nil) pass0 (da_cons (de_var 2) (da_cons (DF_.de (df_lst (da_cons de_str (da_cons de_str (da_cons de_str da_nil))))) da_nil)))) (db_cons (ds_par 6 7 rfl sc_law.nd (de_call (.inl rfl) (moPt _) G__law_plain_text (Room.mono hr (by first | decide | omega)) T.g__law_plain_text T.F__law_plain_text.kp T.b__law_plain_text .nil (fun _ => .nil) pass0 (da_cons (de_var 4) da_nil)) (de_call (.inl rfl) moCt G__law_claim_text (Room.mono hr (by first | decide | omega)) T.g__law_claim_text T.F__law_claim_text.kp T.b__law_claim_text .nil (fun _ => .nil) pass0 (da_cons (de_var 5) da_nil))) (db_cons (ds_if (DW_.t (dw_or (dt_cmp L_neS op_ne (de_call (.inl rfl) (moPt _) G_plain_text (Room.mono hr (by first | decide | omega)) T.g_plain_text T.F_plain_text.kp T.b_plain_text .nil (fun _ => .nil) pass0 (da_cons (de_var 4) da_nil)) (de_var 6)) (dw_or1 (dt_not (dt_val (de_callG (.inl rfl) moF2 G__law_is_same hgd (Room.mono hr (by first | decide | omega)) T.g__law_is_same T.F__law_is_same.kp T.b__law_is_same (da_cons (de_call (.inl rfl) moRp' G_read_plain (Room.mono hr (by first | decide | omega)) T.g_read_plain T.F_read_plain.kp T.b_read_plain .nil (fun _ => .nil) passL (da_cons (de_var 6) da_nil)) (da_cons (de_var 4) da_nil)))))))) (db_one (ds_ret de_bl)) db_nil) (db_cons (ds_if (DW_.t (dw_or (dt_cmp L_neS op_ne (de_call (.inl rfl) moCt G_claim_text (Room.mono hr (by first | decide | omega)) T.g_claim_text T.F_claim_text.kp T.b_claim_text .nil (fun _ => .nil) pass0 (da_cons (de_var 5) da_nil)) (de_var 7)) (dw_or (dt_not (dt_val (de_callG (.inl rfl) moF2 G__law_is_same hgd (Room.mono hr (by first | decide | omega)) T.g__law_is_same T.F__law_is_same.kp T.b__law_is_same (da_cons (de_call (.inl rfl) moRp' G_read_claim (Room.mono hr (by first | decide | omega)) T.g_read_claim T.F_read_claim.kp T.b_read_claim .nil (fun _ => .nil) passL (da_cons (de_var 7) da_nil)) (da_cons (de_var 5) da_nil))))) (dw_or1 (dt_cmp L_notB op_notBl (de_call (.inl rfl) moF1 G_is_claim (Room.mono hr (by first | decide | omega)) T.g_is_claim T.F_is_claim.kp T.b_is_claim .nil (fun _ => .nil) pass0 (da_cons (de_var 5) da_nil)) de_bl))))) (db_one (ds_ret de_bl)) db_nil) (db_cons (ds_for PassesOwn.never rfl (di_range T.n_range de_int) (dg_name 8 sc_law.nd) (db_cons (ds_if (dt_cmp L_notB op_notBl (de_call (.inl rfl) moF1 G_is_claim (Room.mono hr (by first | decide | omega)) T.g_is_claim T.F_is_claim.kp T.b_is_claim .nil (fun _ => .nil) pass0 (da_cons (de_call (.inr heb.symm) (moOdd _) G__law_odd (Room.mono hr (by first | decide | omega)) T.g__law_odd T.F__law_odd.kp T.b__law_odd .nil (fun _ => .nil) pass0 (da_cons (de_var 2) (da_cons (de_var 5) da_nil))) da_nil)) de_bl) (db_one (ds_ret de_bl)) db_nil) (db_cons (ds_par 9 10 rfl sc_law.nd (de_call (.inr heb.symm) (moBent _) G__law_bent (Room.mono hr (by first | decide | omega)) T.g__law_bent T.F__law_bent.kp T.b__law_bent .nil (fun _ => .nil) pass0 (da_cons (de_var 2) (da_cons (de_var 6) da_nil))) (de_call (.inr heb.symm) (moBent _) G__law_bent (Room.mono hr (by first | decide | omega)) T.g__law_bent T.F__law_bent.kp T.b__law_bent .nil (fun _ => .nil) pass0 (da_cons (de_var 2) (da_cons (de_var 7) da_nil)))) (db_one (ds_if (DW_.t (dw_or (dt_cmp (L_in true) op_notIn_seq (de_call (.inl rfl) moLr G__law_read (Room.mono hr (by first | decide | omega)) T.g__law_read T.F__law_read.kp T.b__law_read .nil (fun _ => .nil) pass0 (da_cons (de_var 9) (da_cons de_bl da_nil))) (de_tup (da_cons de_int (da_cons (de_var 9) da_nil)))) (dw_or1 (dt_cmp (L_in true) op_notIn_seq (de_call (.inl rfl) moLr G__law_read (Room.mono hr (by first | decide | omega)) T.g__law_read T.F__law_read.kp T.b__law_read .nil (fun _ => .nil) pass0 (da_cons (de_var 10) (da_cons de_bl da_nil))) (de_tup (da_cons de_int (da_cons (de_var 10) da_nil))))))) (db_one (ds_ret de_bl)) db_nil))))) (db_one (ds_for PassesOwn.never rfl (di_tup (de_tup (da_cons de_non (da_cons de_int (da_cons (DF_.de (df_lst (da_cons (de_var 6) da_nil))) (da_cons (de_tup (da_cons (de_var 7) da_nil)) (da_cons de_bl da_nil))))))) (dg_name 11 sc_law.nd) (db_one (ds_if (DW_.t (dw_or (dt_cmp L_neS op_ne (de_call (.inl rfl) moLr G__law_read (Room.mono hr (by first | decide | omega)) T.g__law_read T.F__law_read.kp T.b__law_read .nil (fun _ => .nil) pass0 (da_cons (de_var 11) (da_cons de_bl da_nil))) de_int) (dw_or (dt_cmp L_neS op_ne (de_call (.inl rfl) moLr G__law_read (Room.mono hr (by first | decide | omega)) T.g__law_read T.F__law_read.kp T.b__law_read .nil (fun _ => .nil) pass0 (da_cons (de_var 11) (da_cons de_bl da_nil))) de_int) (dw_or1 (dt_cmp L_notB op_notBl (de_call (.inl rfl) moF1 G_is_claim (Room.mono hr (by first | decide | omega)) T.g_is_claim T.F_is_claim.kp T.b_is_claim .nil (fun _ => .nil) pass0 (da_cons (de_var 11) da_nil)) de_bl))))) (db_one (ds_ret de_bl)) db_nil)))))))))))))) (db_cons (ds_set 12 sc_law.nd (DF_.de (df_lst (da_cons de_str (da_cons de_str (da_cons de_str (da_cons de_str (da_cons de_str (da_cons de_str (da_cons de_str (da_cons de_str (da_cons de_str (da_cons de_str (da_cons de_str (da_cons de_str (da_cons de_str (da_cons de_str da_nil))))))))))))))))) (db_cons (ds_set 12 sc_law.nd (de_op L_catL op_cat (de_var 12) (DF_.de (df_lst (da_cons de_str (da_cons de_str da_nil)))))) (db_cons (ds_if (dt_cmp L_ne (op_neD hr.units) (DF_.de (df_lc (j := 14) rfl sc_law.nd (di_list (de_var 12)) (blkOk_by (N := ["_law_script", "_law_k", "_law_box", "_law_turn", "_law_value", "_law_claim_here", "_law_text", "_law_line", "_law_more", "_law_bent_here", "_law_near", "_law_odd_here", "_law_some", "_law_bad", "_law_one"]) (sc := defScope s_law) (own := [("_law_one", 14)]) (by decide +kernel)) (fun _ _ _ _ _ => pg_name (i := 14) sc_law.nd rfl (Or.inl rfl)) (fun _ _ _ _ _ => (dts_one (dt_cmp L_neS op_ne (de_call (.inl rfl) moLr G__law_read (Room.mono hr (by first | decide | omega)) T.g__law_read T.F__law_read.kp T.b__law_read .nil (fun _ => .nil) pass0 (da_cons (de_var 14) (da_cons de_bl da_nil))) de_int))) (fun _ _ _ _ _ => (de_var 14)))) (DF_.de (df_lst da_nil))) (db_one (ds_ret de_bl)) db_nil) (db_cons (ds_setF 13 sc_law.nd (df_lst (da_cons de_str (da_cons de_str (da_cons de_str (da_cons de_str (da_cons de_str da_nil))))))) (db_cons (ds_app 13 de_str) (db_one (ds_frz 13 (ds_ret (de_cmp L_eq (op_eqD hr.units) (DF_.de (df_lc (j := 7) rfl sc_law.nd (di_list (de_var 13)) (blkOk_by (N := ["_law_script", "_law_k", "_law_box", "_law_turn", "_law_value", "_law_claim_here", "_law_text", "_law_line", "_law_more", "_law_bent_here", "_law_near", "_law_odd_here", "_law_some", "_law_bad", "_law_one"]) (sc := defScope s_law) (own := [("_law_line", 7)]) (by decide +kernel)) (fun _ _ _ _ _ => pg_name (i := 7) sc_law.nd rfl (Or.inl rfl)) (fun _ _ _ _ _ => (dts_one (dt_cmp L_neS op_ne (de_call (.inl rfl) moLr G__law_read (Room.mono hr (by first | decide | omega)) T.g__law_read T.F__law_read.kp T.b__law_read .nil (fun _ => .nil) pass0 (da_cons (de_var 7) (da_cons de_bl da_nil))) de_int))) (fun _ _ _ _ _ => (de_var 7)))) (DF_.de (df_lst da_nil)))))))))))), ?_⟩
  refine ⟨fun _ => none, _, { nx := fun _ => False, rt := fun d => d = .bl true }, start_ok (fun _ _ z => nomatch z) (fun _ z => z.elim) trivial (.cons (.raw _) .nil), ?_, fun _ _ _ _ z => z.elim, fun d v G' H' hd _ hv => ?_, fun _ _ _ _ z => z.elim, fun _ _ _ _ z => z.elim⟩
  · have e0 : startD ["_law_script", "_law_k", "_law_box", "_law_turn", "_law_value", "_law_claim_here", "_law_text", "_law_line", "_law_more", "_law_bent_here", "_law_near", "_law_odd_here", "_law_some", "_law_bad", "_law_one"] [.raw (.ref sc)] = b15 sc (fun _ => .un) := rfl
    rw [e0]
    exact law_go (ns := ns) (fun n ds => by intro z; cases z) rfl
  · subst hd
    cases hv
    exact q H'
end
end K88
set_option maxHeartbeats 8000000
/-! what the top has written -/
namespace K88
open PySem L2 Dn
noncomputable def tx_mk {w : World} {K : PySem.W.Frag} {h : Heap} {mg : Str → Option Value} (X : K.In h) (G : h.Ns mainGlobals mg)
    {tk1 : Tok}
    {tk2 : Tok}
    {tk3 : Tok}
    {tk4 : Tok}
    {tk5 : Tok}
    {tk6 : Tok}
    {tk7 : Tok}
    {tk8 : Tok}
    {tk9 : Tok}
    {tk10 : Tok}
    {tk11 : Tok}
    {tk12 : Tok}
    {tk13 : Tok}
    {tk14 : Tok}
    {tk15 : Tok}
    {p_BARRED_words : Addr} {od_BARRED_words : Option Addr} {nn_BARRED_words : Nat} {sl_BARRED_words : Array (Option Value)}
    {tk16 : Tok}
    {tk17 : Tok}
    {tk18 : Tok}
    {tk19 : Tok}
    {tk20 : Tok}
    {tk21 : Tok}
    {tk22 : Tok}
    {tk23 : Tok}
    {p_HARMS : Addr} {od_HARMS : Option Addr} {nn_HARMS : Nat} {sl_HARMS : Array (Option Value)}
    {tk24 : Tok}
    {tk25 : Tok}
    {p_ALONE : Addr} {od_ALONE : Option Addr} {nn_ALONE : Nat} {sl_ALONE : Array (Option Value)}
    {tk26 : Tok}
    {tk27 : Tok}
    {p_NUMBERED : Addr} {od_NUMBERED : Option Addr} {nn_NUMBERED : Nat} {sl_NUMBERED : Array (Option Value)}
    {tk28 : Tok}
    {tk29 : Tok}
    {tk30 : Tok}
    {p_BARRED_plainthings : Addr} {od_BARRED_plainthings : Option Addr} {nn_BARRED_plainthings : Nat} {sl_BARRED_plainthings : Array (Option Value)}
    {p_FIXED : Addr} {es_FIXED : Array DictEntry} {nn_FIXED : Nat}
    {tk31 : Tok}
    {tk32 : Tok}
    {tk33 : Tok}
    {tk34 : Tok}
    {p_CALM : Addr} {od_CALM : Option Addr} {nn_CALM : Nat} {sl_CALM : Array (Option Value)}
    {p_WIDTHS : Addr} {es_WIDTHS : Array DictEntry} {nn_WIDTHS : Nat}
    {f_is_integer : Addr} {oc_is_integer kV_is_integer dc_is_integer pm_is_integer cd_is_integer ct_is_integer : Value} {od_is_integer an_is_integer : Option Addr} {sl_is_integer : Array (Option Value)}
    {f_is_number : Addr} {oc_is_number kV_is_number dc_is_number pm_is_number cd_is_number ct_is_number : Value} {od_is_number an_is_number : Option Addr} {sl_is_number : Array (Option Value)}
    {f_is_name : Addr} {oc_is_name kV_is_name dc_is_name pm_is_name cd_is_name ct_is_name : Value} {od_is_name an_is_name : Option Addr} {sl_is_name : Array (Option Value)}
    {f_number_in : Addr} {oc_number_in kV_number_in dc_number_in pm_number_in cd_number_in ct_number_in : Value} {od_number_in an_number_in : Option Addr} {sl_number_in : Array (Option Value)}
    {tk35 : Tok}
    {T_number_in : Addr} {oT_number_in : Option Addr} {nT_number_in : Nat} {sT_number_in : Array (Option Value)}
    {f_words_of : Addr} {oc_words_of kV_words_of dc_words_of pm_words_of cd_words_of ct_words_of : Value} {od_words_of an_words_of : Option Addr} {sl_words_of : Array (Option Value)}
    {f_is_plain : Addr} {oc_is_plain kV_is_plain dc_is_plain pm_is_plain cd_is_plain ct_is_plain : Value} {od_is_plain an_is_plain : Option Addr} {sl_is_plain : Array (Option Value)}
    {tk36 : Tok}
    {T_is_plain : Addr} {oT_is_plain : Option Addr} {nT_is_plain : Nat} {sT_is_plain : Array (Option Value)}
    {f_plain_text : Addr} {oc_plain_text kV_plain_text dc_plain_text pm_plain_text cd_plain_text ct_plain_text : Value} {od_plain_text an_plain_text : Option Addr} {sl_plain_text : Array (Option Value)}
    {f_word_end : Addr} {oc_word_end kV_word_end dc_word_end pm_word_end cd_word_end ct_word_end : Value} {od_word_end an_word_end : Option Addr} {sl_word_end : Array (Option Value)}
    {f_is_digits : Addr} {oc_is_digits kV_is_digits dc_is_digits pm_is_digits cd_is_digits ct_is_digits : Value} {od_is_digits an_is_digits : Option Addr} {sl_is_digits : Array (Option Value)}
    {f_word_at : Addr} {oc_word_at kV_word_at dc_word_at pm_word_at cd_word_at ct_word_at : Value} {od_word_at an_word_at : Option Addr} {sl_word_at : Array (Option Value)}
    {f_tuple_at : Addr} {oc_tuple_at kV_tuple_at dc_tuple_at pm_tuple_at cd_tuple_at ct_tuple_at : Value} {od_tuple_at an_tuple_at : Option Addr} {sl_tuple_at : Array (Option Value)}
    {f_thing_at : Addr} {oc_thing_at kV_thing_at dc_thing_at pm_thing_at cd_thing_at ct_thing_at : Value} {od_thing_at an_thing_at : Option Addr} {sl_thing_at : Array (Option Value)}
    {tk37 : Tok}
    {T_thing_at : Addr} {oT_thing_at : Option Addr} {nT_thing_at : Nat} {sT_thing_at : Array (Option Value)}
    {f_things_in : Addr} {oc_things_in kV_things_in dc_things_in pm_things_in cd_things_in ct_things_in : Value} {od_things_in an_things_in : Option Addr} {sl_things_in : Array (Option Value)}
    {f_read_plain : Addr} {oc_read_plain kV_read_plain dc_read_plain pm_read_plain cd_read_plain ct_read_plain : Value} {od_read_plain an_read_plain : Option Addr} {sl_read_plain : Array (Option Value)}
    {f_are_events : Addr} {oc_are_events kV_are_events dc_are_events pm_are_events cd_are_events ct_are_events : Value} {od_are_events an_are_events : Option Addr} {sl_are_events : Array (Option Value)}
    {f_is_start : Addr} {oc_is_start kV_is_start dc_is_start pm_is_start cd_is_start ct_is_start : Value} {od_is_start an_is_start : Option Addr} {sl_is_start : Array (Option Value)}
    {f_is_paper : Addr} {oc_is_paper kV_is_paper dc_is_paper pm_is_paper cd_is_paper ct_is_paper : Value} {od_is_paper an_is_paper : Option Addr} {sl_is_paper : Array (Option Value)}
    {f_is_word_of : Addr} {oc_is_word_of kV_is_word_of dc_is_word_of pm_is_word_of cd_is_word_of ct_is_word_of : Value} {od_is_word_of an_is_word_of : Option Addr} {sl_is_word_of : Array (Option Value)}
    {f_is_claim : Addr} {oc_is_claim kV_is_claim dc_is_claim pm_is_claim cd_is_claim ct_is_claim : Value} {od_is_claim an_is_claim : Option Addr} {sl_is_claim : Array (Option Value)}
    {f_bare_words : Addr} {oc_bare_words kV_bare_words dc_bare_words pm_bare_words cd_bare_words ct_bare_words : Value} {od_bare_words an_bare_words : Option Addr} {sl_bare_words : Array (Option Value)}
    {f_claim_text : Addr} {oc_claim_text kV_claim_text dc_claim_text pm_claim_text cd_claim_text ct_claim_text : Value} {od_claim_text an_claim_text : Option Addr} {sl_claim_text : Array (Option Value)}
    {f_read_claim : Addr} {oc_read_claim kV_read_claim dc_read_claim pm_read_claim cd_read_claim ct_read_claim : Value} {od_read_claim an_read_claim : Option Addr} {sl_read_claim : Array (Option Value)}
    {f__law_seed : Addr} {oc__law_seed kV__law_seed dc__law_seed pm__law_seed cd__law_seed ct__law_seed : Value} {od__law_seed an__law_seed : Option Addr} {sl__law_seed : Array (Option Value)}
    {f__law_choose : Addr} {oc__law_choose kV__law_choose dc__law_choose pm__law_choose cd__law_choose ct__law_choose : Value} {od__law_choose an__law_choose : Option Addr} {sl__law_choose : Array (Option Value)}
    {f__law_one_of : Addr} {oc__law_one_of kV__law_one_of dc__law_one_of pm__law_one_of cd__law_one_of ct__law_one_of : Value} {od__law_one_of an__law_one_of : Option Addr} {sl__law_one_of : Array (Option Value)}
    {f__law_plain : Addr} {oc__law_plain kV__law_plain dc__law_plain pm__law_plain cd__law_plain ct__law_plain : Value} {od__law_plain an__law_plain : Option Addr} {sl__law_plain : Array (Option Value)}
    {f__law_plain_text : Addr} {oc__law_plain_text kV__law_plain_text dc__law_plain_text pm__law_plain_text cd__law_plain_text ct__law_plain_text : Value} {od__law_plain_text an__law_plain_text : Option Addr} {sl__law_plain_text : Array (Option Value)}
    {f__law_claim_text : Addr} {oc__law_claim_text kV__law_claim_text dc__law_claim_text pm__law_claim_text cd__law_claim_text ct__law_claim_text : Value} {od__law_claim_text an__law_claim_text : Option Addr} {sl__law_claim_text : Array (Option Value)}
    {f__law_some_events : Addr} {oc__law_some_events kV__law_some_events dc__law_some_events pm__law_some_events cd__law_some_events ct__law_some_events : Value} {od__law_some_events an__law_some_events : Option Addr} {sl__law_some_events : Array (Option Value)}
    {f__law_claim : Addr} {oc__law_claim kV__law_claim dc__law_claim pm__law_claim cd__law_claim ct__law_claim : Value} {od__law_claim an__law_claim : Option Addr} {sl__law_claim : Array (Option Value)}
    {f__law_read : Addr} {oc__law_read kV__law_read dc__law_read pm__law_read cd__law_read ct__law_read : Value} {od__law_read an__law_read : Option Addr} {sl__law_read : Array (Option Value)}
    {f__law_bent : Addr} {oc__law_bent kV__law_bent dc__law_bent pm__law_bent cd__law_bent ct__law_bent : Value} {od__law_bent an__law_bent : Option Addr} {sl__law_bent : Array (Option Value)}
    {f__law_is_same : Addr} {oc__law_is_same kV__law_is_same dc__law_is_same pm__law_is_same cd__law_is_same ct__law_is_same : Value} {od__law_is_same an__law_is_same : Option Addr} {sl__law_is_same : Array (Option Value)}
    {f__law_odd : Addr} {oc__law_odd kV__law_odd dc__law_odd pm__law_odd cd__law_odd ct__law_odd : Value} {od__law_odd an__law_odd : Option Addr} {sl__law_odd : Array (Option Value)}
    {f_law : Addr} {oc_law kV_law dc_law pm_law cd_law ct_law : Value} {od_law an_law : Option Addr} {sl_law : Array (Option Value)}
    (n_len : PySem.W.nsIn K mainGlobals "len" = some none)
    (n_all : PySem.W.nsIn K mainGlobals "all" = some none)
    (n_any : PySem.W.nsIn K mainGlobals "any" = some none)
    (n_isinstance : PySem.W.nsIn K mainGlobals "isinstance" = some none)
    (n_int : PySem.W.nsIn K mainGlobals "int" = some none)
    (n_str : PySem.W.nsIn K mainGlobals "str" = some none)
    (n_bool : PySem.W.nsIn K mainGlobals "bool" = some none)
    (n_tuple : PySem.W.nsIn K mainGlobals "tuple" = some none)
    (n_list : PySem.W.nsIn K mainGlobals "list" = some none)
    (n_range : PySem.W.nsIn K mainGlobals "range" = some none)
    (n_abs : PySem.W.nsIn K mainGlobals "abs" = some none)
    (n_max : PySem.W.nsIn K mainGlobals "max" = some none)
    (n_min : PySem.W.nsIn K mainGlobals "min" = some none)
    (n_repr : PySem.W.nsIn K mainGlobals "repr" = some none)
    (k_LETTERS : PySem.W.nsIn K mainGlobals "LETTERS" = some (some (.str (Str.ofString "abcdefghijklmnopqrstuvwxyz") tk1)))
    (k_DIGITS : PySem.W.nsIn K mainGlobals "DIGITS" = some (some (.str (Str.ofString "0123456789") tk2)))
    (k_BARRED_words : PySem.W.nsIn K mainGlobals "BARRED_words" = some (some (.ref p_BARRED_words)))
    (q_BARRED_words : K.lookup p_BARRED_words = some ⟨.type "tuple", od_BARRED_words, .seq #[.str (Str.ofString "do") tk3, .str (Str.ofString "undo") tk4, .str (Str.ofString "else") tk5, .str (Str.ofString "go") tk6, .str (Str.ofString "sure") tk7, .str (Str.ofString "cut") tk8, .str (Str.ofString "back") tk9, .str (Str.ofString "gone") tk10, .str (Str.ofString "end") tk11, .str (Str.ofString "key") tk12, .str (Str.ofString "word") tk13, .str (Str.ofString "ok") tk14, .str (Str.ofString "no") tk15] nn_BARRED_words, sl_BARRED_words⟩)
    (k_HARMS : PySem.W.nsIn K mainGlobals "HARMS" = some (some (.ref p_HARMS)))
    (q_HARMS : K.lookup p_HARMS = some ⟨.type "tuple", od_HARMS, .seq #[.str (Str.ofString "again") tk16, .str (Str.ofString "astray") tk17, .str (Str.ofString "left") tk18, .str (Str.ofString "loose") tk19, .str (Str.ofString "noticed") tk20, .str (Str.ofString "stale") tk21, .str (Str.ofString "stuck") tk22, .str (Str.ofString "unlike") tk23] nn_HARMS, sl_HARMS⟩)
    (k_ALONE : PySem.W.nsIn K mainGlobals "ALONE" = some (some (.ref p_ALONE)))
    (q_ALONE : K.lookup p_ALONE = some ⟨.type "tuple", od_ALONE, .seq #[.str (Str.ofString "next") tk24, .str (Str.ofString "write") tk25] nn_ALONE, sl_ALONE⟩)
    (k_NUMBERED : PySem.W.nsIn K mainGlobals "NUMBERED" = some (some (.ref p_NUMBERED)))
    (q_NUMBERED : K.lookup p_NUMBERED = some ⟨.type "tuple", od_NUMBERED, .seq #[.str (Str.ofString "over") tk26, .str (Str.ofString "late") tk27] nn_NUMBERED, sl_NUMBERED⟩)
    (k_BARRED_plainthings : PySem.W.nsIn K mainGlobals "BARRED_plainthings" = some (some (.ref p_BARRED_plainthings)))
    (q_BARRED_plainthings : K.lookup p_BARRED_plainthings = some ⟨.type "tuple", od_BARRED_plainthings, .seq #[.str (Str.ofString "\"") tk28, .str (Str.ofString "\n") tk29, .str (Str.ofString "\\") tk30] nn_BARRED_plainthings, sl_BARRED_plainthings⟩)
    (d_FIXED : PySem.W.nsIn K mainGlobals "FIXED" = some (some (.ref p_FIXED)))
    (q_FIXED : K.lookup p_FIXED = some ⟨.type "dict", none, .dict es_FIXED nn_FIXED, #[]⟩)
    (l_FIXED : PySem.W.KeysLit w.params es_FIXED.toList)
    (y_FIXED : (p_FIXED == sysModules) = false)
    (r_FIXED : Paired (fun (q : Str × D) (en : DictEntry) => (∃ t, en.key = .str q.1 t) ∧ ∃ v, RelV v en.val ∧ ∀ G, Rp K G v q.2) [(Str.ofString "yes", (.bl true)), (Str.ofString "no", (.bl false)), (Str.ofString "none", .non)] es_FIXED.toList)
    (k_CALM : PySem.W.nsIn K mainGlobals "CALM" = some (some (.ref p_CALM)))
    (q_CALM : K.lookup p_CALM = some ⟨.type "tuple", od_CALM, .seq #[.str (Str.ofString "again") tk31, .str (Str.ofString "unlike") tk32, .str (Str.ofString "loose") tk33, .str (Str.ofString "astray") tk34] nn_CALM, sl_CALM⟩)
    (d_WIDTHS : PySem.W.nsIn K mainGlobals "WIDTHS" = some (some (.ref p_WIDTHS)))
    (q_WIDTHS : K.lookup p_WIDTHS = some ⟨.type "dict", none, .dict es_WIDTHS nn_WIDTHS, #[]⟩)
    (l_WIDTHS : PySem.W.KeysLit w.params es_WIDTHS.toList)
    (y_WIDTHS : (p_WIDTHS == sysModules) = false)
    (r_WIDTHS : Paired (fun (q : Str × D) (en : DictEntry) => (∃ t, en.key = .str q.1 t) ∧ ∃ v, RelV v en.val ∧ ∀ G, Rp K G v q.2) [(Str.ofString "story", (.int 6)), (Str.ofString "alike", (.int 6)), (Str.ofString "clean", (.int 5)), (Str.ofString "reads", (.int 3)), (Str.ofString "calm", (.int 4))] es_WIDTHS.toList)
    (a_is_integer : PySem.W.nsIn K mainGlobals "is_integer" = some (some (.ref f_is_integer)))
    (l_is_integer : K.lookup f_is_integer = some ⟨oc_is_integer, od_is_integer, .func (PySem.W.fnOf "is_integer" "is_integer" (defArgs s_is_integer) (defBody s_is_integer) (defScope s_is_integer) .none kV_is_integer dc_is_integer pm_is_integer an_is_integer cd_is_integer ct_is_integer), sl_is_integer⟩)
    (c_is_integer : PySem.W.codeIn K cd_is_integer "is_integer" = true)
    (k_is_integer : PySem.W.keepIn K (.ref f_is_integer) = true)
    (a_is_number : PySem.W.nsIn K mainGlobals "is_number" = some (some (.ref f_is_number)))
    (l_is_number : K.lookup f_is_number = some ⟨oc_is_number, od_is_number, .func (PySem.W.fnOf "is_number" "is_number" (defArgs s_is_number) (defBody s_is_number) (defScope s_is_number) .none kV_is_number dc_is_number pm_is_number an_is_number cd_is_number ct_is_number), sl_is_number⟩)
    (c_is_number : PySem.W.codeIn K cd_is_number "is_number" = true)
    (k_is_number : PySem.W.keepIn K (.ref f_is_number) = true)
    (a_is_name : PySem.W.nsIn K mainGlobals "is_name" = some (some (.ref f_is_name)))
    (l_is_name : K.lookup f_is_name = some ⟨oc_is_name, od_is_name, .func (PySem.W.fnOf "is_name" "is_name" (defArgs s_is_name) (defBody s_is_name) (defScope s_is_name) .none kV_is_name dc_is_name pm_is_name an_is_name cd_is_name ct_is_name), sl_is_name⟩)
    (c_is_name : PySem.W.codeIn K cd_is_name "is_name" = true)
    (k_is_name : PySem.W.keepIn K (.ref f_is_name) = true)
    (a_number_in : PySem.W.nsIn K mainGlobals "number_in" = some (some (.ref f_number_in)))
    (l_number_in : K.lookup f_number_in = some ⟨oc_number_in, od_number_in, .func (PySem.W.fnOf "number_in" "number_in" (defArgs s_number_in) (defBody s_number_in) (defScope s_number_in) (.ref T_number_in) kV_number_in dc_number_in pm_number_in an_number_in cd_number_in ct_number_in), sl_number_in⟩)
    (c_number_in : PySem.W.codeIn K cd_number_in "number_in" = true)
    (k_number_in : PySem.W.keepIn K (.ref f_number_in) = true)
    (t_number_in : K.lookup T_number_in = some ⟨.type "tuple", oT_number_in, .seq #[.int 4 tk35] nT_number_in, sT_number_in⟩)
    (a_words_of : PySem.W.nsIn K mainGlobals "words_of" = some (some (.ref f_words_of)))
    (l_words_of : K.lookup f_words_of = some ⟨oc_words_of, od_words_of, .func (PySem.W.fnOf "words_of" "words_of" (defArgs s_words_of) (defBody s_words_of) (defScope s_words_of) .none kV_words_of dc_words_of pm_words_of an_words_of cd_words_of ct_words_of), sl_words_of⟩)
    (c_words_of : PySem.W.codeIn K cd_words_of "words_of" = true)
    (k_words_of : PySem.W.keepIn K (.ref f_words_of) = true)
    (a_is_plain : PySem.W.nsIn K mainGlobals "is_plain" = some (some (.ref f_is_plain)))
    (l_is_plain : K.lookup f_is_plain = some ⟨oc_is_plain, od_is_plain, .func (PySem.W.fnOf "is_plain" "is_plain" (defArgs s_is_plain) (defBody s_is_plain) (defScope s_is_plain) (.ref T_is_plain) kV_is_plain dc_is_plain pm_is_plain an_is_plain cd_is_plain ct_is_plain), sl_is_plain⟩)
    (c_is_plain : PySem.W.codeIn K cd_is_plain "is_plain" = true)
    (k_is_plain : PySem.W.keepIn K (.ref f_is_plain) = true)
    (t_is_plain : K.lookup T_is_plain = some ⟨.type "tuple", oT_is_plain, .seq #[.int 40 tk36] nT_is_plain, sT_is_plain⟩)
    (a_plain_text : PySem.W.nsIn K mainGlobals "plain_text" = some (some (.ref f_plain_text)))
    (l_plain_text : K.lookup f_plain_text = some ⟨oc_plain_text, od_plain_text, .func (PySem.W.fnOf "plain_text" "plain_text" (defArgs s_plain_text) (defBody s_plain_text) (defScope s_plain_text) .none kV_plain_text dc_plain_text pm_plain_text an_plain_text cd_plain_text ct_plain_text), sl_plain_text⟩)
    (c_plain_text : PySem.W.codeIn K cd_plain_text "plain_text" = true)
    (k_plain_text : PySem.W.keepIn K (.ref f_plain_text) = true)
    (a_word_end : PySem.W.nsIn K mainGlobals "word_end" = some (some (.ref f_word_end)))
    (l_word_end : K.lookup f_word_end = some ⟨oc_word_end, od_word_end, .func (PySem.W.fnOf "word_end" "word_end" (defArgs s_word_end) (defBody s_word_end) (defScope s_word_end) .none kV_word_end dc_word_end pm_word_end an_word_end cd_word_end ct_word_end), sl_word_end⟩)
    (c_word_end : PySem.W.codeIn K cd_word_end "word_end" = true)
    (k_word_end : PySem.W.keepIn K (.ref f_word_end) = true)
    (a_is_digits : PySem.W.nsIn K mainGlobals "is_digits" = some (some (.ref f_is_digits)))
    (l_is_digits : K.lookup f_is_digits = some ⟨oc_is_digits, od_is_digits, .func (PySem.W.fnOf "is_digits" "is_digits" (defArgs s_is_digits) (defBody s_is_digits) (defScope s_is_digits) .none kV_is_digits dc_is_digits pm_is_digits an_is_digits cd_is_digits ct_is_digits), sl_is_digits⟩)
    (c_is_digits : PySem.W.codeIn K cd_is_digits "is_digits" = true)
    (k_is_digits : PySem.W.keepIn K (.ref f_is_digits) = true)
    (a_word_at : PySem.W.nsIn K mainGlobals "word_at" = some (some (.ref f_word_at)))
    (l_word_at : K.lookup f_word_at = some ⟨oc_word_at, od_word_at, .func (PySem.W.fnOf "word_at" "word_at" (defArgs s_word_at) (defBody s_word_at) (defScope s_word_at) .none kV_word_at dc_word_at pm_word_at an_word_at cd_word_at ct_word_at), sl_word_at⟩)
    (c_word_at : PySem.W.codeIn K cd_word_at "word_at" = true)
    (k_word_at : PySem.W.keepIn K (.ref f_word_at) = true)
    (a_tuple_at : PySem.W.nsIn K mainGlobals "tuple_at" = some (some (.ref f_tuple_at)))
    (l_tuple_at : K.lookup f_tuple_at = some ⟨oc_tuple_at, od_tuple_at, .func (PySem.W.fnOf "tuple_at" "tuple_at" (defArgs s_tuple_at) (defBody s_tuple_at) (defScope s_tuple_at) .none kV_tuple_at dc_tuple_at pm_tuple_at an_tuple_at cd_tuple_at ct_tuple_at), sl_tuple_at⟩)
    (c_tuple_at : PySem.W.codeIn K cd_tuple_at "tuple_at" = true)
    (k_tuple_at : PySem.W.keepIn K (.ref f_tuple_at) = true)
    (a_thing_at : PySem.W.nsIn K mainGlobals "thing_at" = some (some (.ref f_thing_at)))
    (l_thing_at : K.lookup f_thing_at = some ⟨oc_thing_at, od_thing_at, .func (PySem.W.fnOf "thing_at" "thing_at" (defArgs s_thing_at) (defBody s_thing_at) (defScope s_thing_at) (.ref T_thing_at) kV_thing_at dc_thing_at pm_thing_at an_thing_at cd_thing_at ct_thing_at), sl_thing_at⟩)
    (c_thing_at : PySem.W.codeIn K cd_thing_at "thing_at" = true)
    (k_thing_at : PySem.W.keepIn K (.ref f_thing_at) = true)
    (t_thing_at : K.lookup T_thing_at = some ⟨.type "tuple", oT_thing_at, .seq #[.int 40 tk37] nT_thing_at, sT_thing_at⟩)
    (a_things_in : PySem.W.nsIn K mainGlobals "things_in" = some (some (.ref f_things_in)))
    (l_things_in : K.lookup f_things_in = some ⟨oc_things_in, od_things_in, .func (PySem.W.fnOf "things_in" "things_in" (defArgs s_things_in) (defBody s_things_in) (defScope s_things_in) .none kV_things_in dc_things_in pm_things_in an_things_in cd_things_in ct_things_in), sl_things_in⟩)
    (c_things_in : PySem.W.codeIn K cd_things_in "things_in" = true)
    (k_things_in : PySem.W.keepIn K (.ref f_things_in) = true)
    (a_read_plain : PySem.W.nsIn K mainGlobals "read_plain" = some (some (.ref f_read_plain)))
    (l_read_plain : K.lookup f_read_plain = some ⟨oc_read_plain, od_read_plain, .func (PySem.W.fnOf "read_plain" "read_plain" (defArgs s_read_plain) (defBody s_read_plain) (defScope s_read_plain) .none kV_read_plain dc_read_plain pm_read_plain an_read_plain cd_read_plain ct_read_plain), sl_read_plain⟩)
    (c_read_plain : PySem.W.codeIn K cd_read_plain "read_plain" = true)
    (k_read_plain : PySem.W.keepIn K (.ref f_read_plain) = true)
    (a_are_events : PySem.W.nsIn K mainGlobals "are_events" = some (some (.ref f_are_events)))
    (l_are_events : K.lookup f_are_events = some ⟨oc_are_events, od_are_events, .func (PySem.W.fnOf "are_events" "are_events" (defArgs s_are_events) (defBody s_are_events) (defScope s_are_events) .none kV_are_events dc_are_events pm_are_events an_are_events cd_are_events ct_are_events), sl_are_events⟩)
    (c_are_events : PySem.W.codeIn K cd_are_events "are_events" = true)
    (k_are_events : PySem.W.keepIn K (.ref f_are_events) = true)
    (a_is_start : PySem.W.nsIn K mainGlobals "is_start" = some (some (.ref f_is_start)))
    (l_is_start : K.lookup f_is_start = some ⟨oc_is_start, od_is_start, .func (PySem.W.fnOf "is_start" "is_start" (defArgs s_is_start) (defBody s_is_start) (defScope s_is_start) .none kV_is_start dc_is_start pm_is_start an_is_start cd_is_start ct_is_start), sl_is_start⟩)
    (c_is_start : PySem.W.codeIn K cd_is_start "is_start" = true)
    (k_is_start : PySem.W.keepIn K (.ref f_is_start) = true)
    (a_is_paper : PySem.W.nsIn K mainGlobals "is_paper" = some (some (.ref f_is_paper)))
    (l_is_paper : K.lookup f_is_paper = some ⟨oc_is_paper, od_is_paper, .func (PySem.W.fnOf "is_paper" "is_paper" (defArgs s_is_paper) (defBody s_is_paper) (defScope s_is_paper) .none kV_is_paper dc_is_paper pm_is_paper an_is_paper cd_is_paper ct_is_paper), sl_is_paper⟩)
    (c_is_paper : PySem.W.codeIn K cd_is_paper "is_paper" = true)
    (k_is_paper : PySem.W.keepIn K (.ref f_is_paper) = true)
    (a_is_word_of : PySem.W.nsIn K mainGlobals "is_word_of" = some (some (.ref f_is_word_of)))
    (l_is_word_of : K.lookup f_is_word_of = some ⟨oc_is_word_of, od_is_word_of, .func (PySem.W.fnOf "is_word_of" "is_word_of" (defArgs s_is_word_of) (defBody s_is_word_of) (defScope s_is_word_of) .none kV_is_word_of dc_is_word_of pm_is_word_of an_is_word_of cd_is_word_of ct_is_word_of), sl_is_word_of⟩)
    (c_is_word_of : PySem.W.codeIn K cd_is_word_of "is_word_of" = true)
    (k_is_word_of : PySem.W.keepIn K (.ref f_is_word_of) = true)
    (a_is_claim : PySem.W.nsIn K mainGlobals "is_claim" = some (some (.ref f_is_claim)))
    (l_is_claim : K.lookup f_is_claim = some ⟨oc_is_claim, od_is_claim, .func (PySem.W.fnOf "is_claim" "is_claim" (defArgs s_is_claim) (defBody s_is_claim) (defScope s_is_claim) .none kV_is_claim dc_is_claim pm_is_claim an_is_claim cd_is_claim ct_is_claim), sl_is_claim⟩)
    (c_is_claim : PySem.W.codeIn K cd_is_claim "is_claim" = true)
    (k_is_claim : PySem.W.keepIn K (.ref f_is_claim) = true)
    (a_bare_words : PySem.W.nsIn K mainGlobals "bare_words" = some (some (.ref f_bare_words)))
    (l_bare_words : K.lookup f_bare_words = some ⟨oc_bare_words, od_bare_words, .func (PySem.W.fnOf "bare_words" "bare_words" (defArgs s_bare_words) (defBody s_bare_words) (defScope s_bare_words) .none kV_bare_words dc_bare_words pm_bare_words an_bare_words cd_bare_words ct_bare_words), sl_bare_words⟩)
    (c_bare_words : PySem.W.codeIn K cd_bare_words "bare_words" = true)
    (k_bare_words : PySem.W.keepIn K (.ref f_bare_words) = true)
    (a_claim_text : PySem.W.nsIn K mainGlobals "claim_text" = some (some (.ref f_claim_text)))
    (l_claim_text : K.lookup f_claim_text = some ⟨oc_claim_text, od_claim_text, .func (PySem.W.fnOf "claim_text" "claim_text" (defArgs s_claim_text) (defBody s_claim_text) (defScope s_claim_text) .none kV_claim_text dc_claim_text pm_claim_text an_claim_text cd_claim_text ct_claim_text), sl_claim_text⟩)
    (c_claim_text : PySem.W.codeIn K cd_claim_text "claim_text" = true)
    (k_claim_text : PySem.W.keepIn K (.ref f_claim_text) = true)
    (a_read_claim : PySem.W.nsIn K mainGlobals "read_claim" = some (some (.ref f_read_claim)))
    (l_read_claim : K.lookup f_read_claim = some ⟨oc_read_claim, od_read_claim, .func (PySem.W.fnOf "read_claim" "read_claim" (defArgs s_read_claim) (defBody s_read_claim) (defScope s_read_claim) .none kV_read_claim dc_read_claim pm_read_claim an_read_claim cd_read_claim ct_read_claim), sl_read_claim⟩)
    (c_read_claim : PySem.W.codeIn K cd_read_claim "read_claim" = true)
    (k_read_claim : PySem.W.keepIn K (.ref f_read_claim) = true)
    (a__law_seed : PySem.W.nsIn K mainGlobals "_law_seed" = some (some (.ref f__law_seed)))
    (l__law_seed : K.lookup f__law_seed = some ⟨oc__law_seed, od__law_seed, .func (PySem.W.fnOf "_law_seed" "_law_seed" (defArgs s__law_seed) (defBody s__law_seed) (defScope s__law_seed) .none kV__law_seed dc__law_seed pm__law_seed an__law_seed cd__law_seed ct__law_seed), sl__law_seed⟩)
    (c__law_seed : PySem.W.codeIn K cd__law_seed "_law_seed" = true)
    (k__law_seed : PySem.W.keepIn K (.ref f__law_seed) = true)
    (a__law_choose : PySem.W.nsIn K mainGlobals "_law_choose" = some (some (.ref f__law_choose)))
    (l__law_choose : K.lookup f__law_choose = some ⟨oc__law_choose, od__law_choose, .func (PySem.W.fnOf "_law_choose" "_law_choose" (defArgs s__law_choose) (defBody s__law_choose) (defScope s__law_choose) .none kV__law_choose dc__law_choose pm__law_choose an__law_choose cd__law_choose ct__law_choose), sl__law_choose⟩)
    (c__law_choose : PySem.W.codeIn K cd__law_choose "_law_choose" = true)
    (k__law_choose : PySem.W.keepIn K (.ref f__law_choose) = true)
    (a__law_one_of : PySem.W.nsIn K mainGlobals "_law_one_of" = some (some (.ref f__law_one_of)))
    (l__law_one_of : K.lookup f__law_one_of = some ⟨oc__law_one_of, od__law_one_of, .func (PySem.W.fnOf "_law_one_of" "_law_one_of" (defArgs s__law_one_of) (defBody s__law_one_of) (defScope s__law_one_of) .none kV__law_one_of dc__law_one_of pm__law_one_of an__law_one_of cd__law_one_of ct__law_one_of), sl__law_one_of⟩)
    (c__law_one_of : PySem.W.codeIn K cd__law_one_of "_law_one_of" = true)
    (k__law_one_of : PySem.W.keepIn K (.ref f__law_one_of) = true)
    (a__law_plain : PySem.W.nsIn K mainGlobals "_law_plain" = some (some (.ref f__law_plain)))
    (l__law_plain : K.lookup f__law_plain = some ⟨oc__law_plain, od__law_plain, .func (PySem.W.fnOf "_law_plain" "_law_plain" (defArgs s__law_plain) (defBody s__law_plain) (defScope s__law_plain) .none kV__law_plain dc__law_plain pm__law_plain an__law_plain cd__law_plain ct__law_plain), sl__law_plain⟩)
    (c__law_plain : PySem.W.codeIn K cd__law_plain "_law_plain" = true)
    (k__law_plain : PySem.W.keepIn K (.ref f__law_plain) = true)
    (a__law_plain_text : PySem.W.nsIn K mainGlobals "_law_plain_text" = some (some (.ref f__law_plain_text)))
    (l__law_plain_text : K.lookup f__law_plain_text = some ⟨oc__law_plain_text, od__law_plain_text, .func (PySem.W.fnOf "_law_plain_text" "_law_plain_text" (defArgs s__law_plain_text) (defBody s__law_plain_text) (defScope s__law_plain_text) .none kV__law_plain_text dc__law_plain_text pm__law_plain_text an__law_plain_text cd__law_plain_text ct__law_plain_text), sl__law_plain_text⟩)
    (c__law_plain_text : PySem.W.codeIn K cd__law_plain_text "_law_plain_text" = true)
    (k__law_plain_text : PySem.W.keepIn K (.ref f__law_plain_text) = true)
    (a__law_claim_text : PySem.W.nsIn K mainGlobals "_law_claim_text" = some (some (.ref f__law_claim_text)))
    (l__law_claim_text : K.lookup f__law_claim_text = some ⟨oc__law_claim_text, od__law_claim_text, .func (PySem.W.fnOf "_law_claim_text" "_law_claim_text" (defArgs s__law_claim_text) (defBody s__law_claim_text) (defScope s__law_claim_text) .none kV__law_claim_text dc__law_claim_text pm__law_claim_text an__law_claim_text cd__law_claim_text ct__law_claim_text), sl__law_claim_text⟩)
    (c__law_claim_text : PySem.W.codeIn K cd__law_claim_text "_law_claim_text" = true)
    (k__law_claim_text : PySem.W.keepIn K (.ref f__law_claim_text) = true)
    (a__law_some_events : PySem.W.nsIn K mainGlobals "_law_some_events" = some (some (.ref f__law_some_events)))
    (l__law_some_events : K.lookup f__law_some_events = some ⟨oc__law_some_events, od__law_some_events, .func (PySem.W.fnOf "_law_some_events" "_law_some_events" (defArgs s__law_some_events) (defBody s__law_some_events) (defScope s__law_some_events) .none kV__law_some_events dc__law_some_events pm__law_some_events an__law_some_events cd__law_some_events ct__law_some_events), sl__law_some_events⟩)
    (c__law_some_events : PySem.W.codeIn K cd__law_some_events "_law_some_events" = true)
    (k__law_some_events : PySem.W.keepIn K (.ref f__law_some_events) = true)
    (a__law_claim : PySem.W.nsIn K mainGlobals "_law_claim" = some (some (.ref f__law_claim)))
    (l__law_claim : K.lookup f__law_claim = some ⟨oc__law_claim, od__law_claim, .func (PySem.W.fnOf "_law_claim" "_law_claim" (defArgs s__law_claim) (defBody s__law_claim) (defScope s__law_claim) .none kV__law_claim dc__law_claim pm__law_claim an__law_claim cd__law_claim ct__law_claim), sl__law_claim⟩)
    (c__law_claim : PySem.W.codeIn K cd__law_claim "_law_claim" = true)
    (k__law_claim : PySem.W.keepIn K (.ref f__law_claim) = true)
    (a__law_read : PySem.W.nsIn K mainGlobals "_law_read" = some (some (.ref f__law_read)))
    (l__law_read : K.lookup f__law_read = some ⟨oc__law_read, od__law_read, .func (PySem.W.fnOf "_law_read" "_law_read" (defArgs s__law_read) (defBody s__law_read) (defScope s__law_read) .none kV__law_read dc__law_read pm__law_read an__law_read cd__law_read ct__law_read), sl__law_read⟩)
    (c__law_read : PySem.W.codeIn K cd__law_read "_law_read" = true)
    (k__law_read : PySem.W.keepIn K (.ref f__law_read) = true)
    (a__law_bent : PySem.W.nsIn K mainGlobals "_law_bent" = some (some (.ref f__law_bent)))
    (l__law_bent : K.lookup f__law_bent = some ⟨oc__law_bent, od__law_bent, .func (PySem.W.fnOf "_law_bent" "_law_bent" (defArgs s__law_bent) (defBody s__law_bent) (defScope s__law_bent) .none kV__law_bent dc__law_bent pm__law_bent an__law_bent cd__law_bent ct__law_bent), sl__law_bent⟩)
    (c__law_bent : PySem.W.codeIn K cd__law_bent "_law_bent" = true)
    (k__law_bent : PySem.W.keepIn K (.ref f__law_bent) = true)
    (a__law_is_same : PySem.W.nsIn K mainGlobals "_law_is_same" = some (some (.ref f__law_is_same)))
    (l__law_is_same : K.lookup f__law_is_same = some ⟨oc__law_is_same, od__law_is_same, .func (PySem.W.fnOf "_law_is_same" "_law_is_same" (defArgs s__law_is_same) (defBody s__law_is_same) (defScope s__law_is_same) .none kV__law_is_same dc__law_is_same pm__law_is_same an__law_is_same cd__law_is_same ct__law_is_same), sl__law_is_same⟩)
    (c__law_is_same : PySem.W.codeIn K cd__law_is_same "_law_is_same" = true)
    (k__law_is_same : PySem.W.keepIn K (.ref f__law_is_same) = true)
    (a__law_odd : PySem.W.nsIn K mainGlobals "_law_odd" = some (some (.ref f__law_odd)))
    (l__law_odd : K.lookup f__law_odd = some ⟨oc__law_odd, od__law_odd, .func (PySem.W.fnOf "_law_odd" "_law_odd" (defArgs s__law_odd) (defBody s__law_odd) (defScope s__law_odd) .none kV__law_odd dc__law_odd pm__law_odd an__law_odd cd__law_odd ct__law_odd), sl__law_odd⟩)
    (c__law_odd : PySem.W.codeIn K cd__law_odd "_law_odd" = true)
    (k__law_odd : PySem.W.keepIn K (.ref f__law_odd) = true)
    (a_law : PySem.W.nsIn K mainGlobals "law" = some (some (.ref f_law)))
    (l_law : K.lookup f_law = some ⟨oc_law, od_law, .func (PySem.W.fnOf "law" "law" (defArgs s_law) (defBody s_law) (defScope s_law) .none kV_law dc_law pm_law an_law cd_law ct_law), sl_law⟩)
    (c_law : PySem.W.codeIn K cd_law "law" = true)
    (k_law : PySem.W.keepIn K (.ref f_law) = true) : Tx K mg w :=
  have D_number_in : FunD K "number_in" "number_in" (defArgs s_number_in) (defBody s_number_in) (defScope s_number_in) [.int 4] [] f_number_in (PySem.W.fnOf "number_in" "number_in" (defArgs s_number_in) (defBody s_number_in) (defScope s_number_in) (.ref T_number_in) kV_number_in dc_number_in pm_number_in an_number_in cd_number_in ct_number_in) := ⟨⟨_, _, _, _, _, _, _, _, _, _, rfl, l_number_in, c_number_in, .inr ⟨by simp, T_number_in, _, [.int 4 tk35], _, rfl, t_number_in, rfl, .cons ⟨_, rfl⟩ .nil⟩, .inl rfl⟩, k_number_in⟩
  have b_number_in : Binds K (PySem.W.fnOf "number_in" "number_in" (defArgs s_number_in) (defBody s_number_in) (defScope s_number_in) (.ref T_number_in) kV_number_in dc_number_in pm_number_in an_number_in cd_number_in ct_number_in) ["word", "most"] [] := by
    obtain ⟨ds, h1, h2⟩ := D_number_in.binds1 (ps := ["word", "most"]) 2 1 (by simp) rfl (fun T kV doc pm an cdv ct us its h1 h2 => match us, h1, its, h2 with | [_, _], _, [_], _ => ⟨_, rfl, rfl⟩)
    cases h1
    exact h2
  have e_number_in : ∃ ds, Vals [V.int 4] ds ∧ Binds K (PySem.W.fnOf "number_in" "number_in" (defArgs s_number_in) (defBody s_number_in) (defScope s_number_in) (.ref T_number_in) kV_number_in dc_number_in pm_number_in an_number_in cd_number_in ct_number_in) ["word", "most"] ds := D_number_in.binds1 (ps := ["word", "most"]) 1 0 (by simp) rfl (fun T kV doc pm an cdv ct us its h1 h2 => match us, h1, its, h2 with | [_], _, [_], _ => ⟨_, rfl, rfl⟩)
  have D_is_plain : FunD K "is_plain" "is_plain" (defArgs s_is_plain) (defBody s_is_plain) (defScope s_is_plain) [.int 40] [] f_is_plain (PySem.W.fnOf "is_plain" "is_plain" (defArgs s_is_plain) (defBody s_is_plain) (defScope s_is_plain) (.ref T_is_plain) kV_is_plain dc_is_plain pm_is_plain an_is_plain cd_is_plain ct_is_plain) := ⟨⟨_, _, _, _, _, _, _, _, _, _, rfl, l_is_plain, c_is_plain, .inr ⟨by simp, T_is_plain, _, [.int 40 tk36], _, rfl, t_is_plain, rfl, .cons ⟨_, rfl⟩ .nil⟩, .inl rfl⟩, k_is_plain⟩
  have b_is_plain : Binds K (PySem.W.fnOf "is_plain" "is_plain" (defArgs s_is_plain) (defBody s_is_plain) (defScope s_is_plain) (.ref T_is_plain) kV_is_plain dc_is_plain pm_is_plain an_is_plain cd_is_plain ct_is_plain) ["value", "deep"] [] := by
    obtain ⟨ds, h1, h2⟩ := D_is_plain.binds1 (ps := ["value", "deep"]) 2 1 (by simp) rfl (fun T kV doc pm an cdv ct us its h1 h2 => match us, h1, its, h2 with | [_, _], _, [_], _ => ⟨_, rfl, rfl⟩)
    cases h1
    exact h2
  have e_is_plain : ∃ ds, Vals [V.int 40] ds ∧ Binds K (PySem.W.fnOf "is_plain" "is_plain" (defArgs s_is_plain) (defBody s_is_plain) (defScope s_is_plain) (.ref T_is_plain) kV_is_plain dc_is_plain pm_is_plain an_is_plain cd_is_plain ct_is_plain) ["value", "deep"] ds := D_is_plain.binds1 (ps := ["value", "deep"]) 1 0 (by simp) rfl (fun T kV doc pm an cdv ct us its h1 h2 => match us, h1, its, h2 with | [_], _, [_], _ => ⟨_, rfl, rfl⟩)
  have D_thing_at : FunD K "thing_at" "thing_at" (defArgs s_thing_at) (defBody s_thing_at) (defScope s_thing_at) [.int 40] [] f_thing_at (PySem.W.fnOf "thing_at" "thing_at" (defArgs s_thing_at) (defBody s_thing_at) (defScope s_thing_at) (.ref T_thing_at) kV_thing_at dc_thing_at pm_thing_at an_thing_at cd_thing_at ct_thing_at) := ⟨⟨_, _, _, _, _, _, _, _, _, _, rfl, l_thing_at, c_thing_at, .inr ⟨by simp, T_thing_at, _, [.int 40 tk37], _, rfl, t_thing_at, rfl, .cons ⟨_, rfl⟩ .nil⟩, .inl rfl⟩, k_thing_at⟩
  have b_thing_at : Binds K (PySem.W.fnOf "thing_at" "thing_at" (defArgs s_thing_at) (defBody s_thing_at) (defScope s_thing_at) (.ref T_thing_at) kV_thing_at dc_thing_at pm_thing_at an_thing_at cd_thing_at ct_thing_at) ["text", "at", "deep"] [] := by
    obtain ⟨ds, h1, h2⟩ := D_thing_at.binds1 (ps := ["text", "at", "deep"]) 3 1 (by simp) rfl (fun T kV doc pm an cdv ct us its h1 h2 => match us, h1, its, h2 with | [_, _, _], _, [_], _ => ⟨_, rfl, rfl⟩)
    cases h1
    exact h2
  have e_thing_at : ∃ ds, Vals [V.int 40] ds ∧ Binds K (PySem.W.fnOf "thing_at" "thing_at" (defArgs s_thing_at) (defBody s_thing_at) (defScope s_thing_at) (.ref T_thing_at) kV_thing_at dc_thing_at pm_thing_at an_thing_at cd_thing_at ct_thing_at) ["text", "at", "deep"] ds := D_thing_at.binds1 (ps := ["text", "at", "deep"]) 2 0 (by simp) rfl (fun T kV doc pm an cdv ct us its h1 h2 => match us, h1, its, h2 with | [_, _], _, [_], _ => ⟨_, rfl, rfl⟩)
  {
    n_len := PySem.W.mg_none_of X G n_len
    n_all := PySem.W.mg_none_of X G n_all
    n_any := PySem.W.mg_none_of X G n_any
    n_isinstance := PySem.W.mg_none_of X G n_isinstance
    n_int := PySem.W.mg_none_of X G n_int
    n_str := PySem.W.mg_none_of X G n_str
    n_bool := PySem.W.mg_none_of X G n_bool
    n_tuple := PySem.W.mg_none_of X G n_tuple
    n_list := PySem.W.mg_none_of X G n_list
    n_range := PySem.W.mg_none_of X G n_range
    n_abs := PySem.W.mg_none_of X G n_abs
    n_max := PySem.W.mg_none_of X G n_max
    n_min := PySem.W.mg_none_of X G n_min
    n_repr := PySem.W.mg_none_of X G n_repr
    k_LETTERS := ⟨_, .str (Str.ofString "abcdefghijklmnopqrstuvwxyz"), PySem.W.mg_of X G k_LETTERS, ⟨_, rfl⟩, fun _ => .str _⟩
    k_DIGITS := ⟨_, .str (Str.ofString "0123456789"), PySem.W.mg_of X G k_DIGITS, ⟨_, rfl⟩, fun _ => .str _⟩
    k_BARRED_words := ⟨_, .ref p_BARRED_words, PySem.W.mg_of X G k_BARRED_words, rfl, fun _ => .tup (xs := [.str (Str.ofString "do"), .str (Str.ofString "undo"), .str (Str.ofString "else"), .str (Str.ofString "go"), .str (Str.ofString "sure"), .str (Str.ofString "cut"), .str (Str.ofString "back"), .str (Str.ofString "gone"), .str (Str.ofString "end"), .str (Str.ofString "key"), .str (Str.ofString "word"), .str (Str.ofString "ok"), .str (Str.ofString "no")]) (.inr ⟨_, _, _, q_BARRED_words, rfl, rfl, by show (13 : Nat) ≤ sizeLine; decide, (.cons ⟨_, rfl⟩ (.cons ⟨_, rfl⟩ (.cons ⟨_, rfl⟩ (.cons ⟨_, rfl⟩ (.cons ⟨_, rfl⟩ (.cons ⟨_, rfl⟩ (.cons ⟨_, rfl⟩ (.cons ⟨_, rfl⟩ (.cons ⟨_, rfl⟩ (.cons ⟨_, rfl⟩ (.cons ⟨_, rfl⟩ (.cons ⟨_, rfl⟩ (.cons ⟨_, rfl⟩ (.nil))))))))))))))⟩) (.cons (.str _) (.cons (.str _) (.cons (.str _) (.cons (.str _) (.cons (.str _) (.cons (.str _) (.cons (.str _) (.cons (.str _) (.cons (.str _) (.cons (.str _) (.cons (.str _) (.cons (.str _) (.cons (.str _) (.nil))))))))))))))⟩
    k_HARMS := ⟨_, .ref p_HARMS, PySem.W.mg_of X G k_HARMS, rfl, fun _ => .tup (xs := [.str (Str.ofString "again"), .str (Str.ofString "astray"), .str (Str.ofString "left"), .str (Str.ofString "loose"), .str (Str.ofString "noticed"), .str (Str.ofString "stale"), .str (Str.ofString "stuck"), .str (Str.ofString "unlike")]) (.inr ⟨_, _, _, q_HARMS, rfl, rfl, by show (8 : Nat) ≤ sizeLine; decide, (.cons ⟨_, rfl⟩ (.cons ⟨_, rfl⟩ (.cons ⟨_, rfl⟩ (.cons ⟨_, rfl⟩ (.cons ⟨_, rfl⟩ (.cons ⟨_, rfl⟩ (.cons ⟨_, rfl⟩ (.cons ⟨_, rfl⟩ (.nil)))))))))⟩) (.cons (.str _) (.cons (.str _) (.cons (.str _) (.cons (.str _) (.cons (.str _) (.cons (.str _) (.cons (.str _) (.cons (.str _) (.nil)))))))))⟩
    k_ALONE := ⟨_, .ref p_ALONE, PySem.W.mg_of X G k_ALONE, rfl, fun _ => .tup (xs := [.str (Str.ofString "next"), .str (Str.ofString "write")]) (.inr ⟨_, _, _, q_ALONE, rfl, rfl, by show (2 : Nat) ≤ sizeLine; decide, (.cons ⟨_, rfl⟩ (.cons ⟨_, rfl⟩ (.nil)))⟩) (.cons (.str _) (.cons (.str _) (.nil)))⟩
    k_NUMBERED := ⟨_, .ref p_NUMBERED, PySem.W.mg_of X G k_NUMBERED, rfl, fun _ => .tup (xs := [.str (Str.ofString "over"), .str (Str.ofString "late")]) (.inr ⟨_, _, _, q_NUMBERED, rfl, rfl, by show (2 : Nat) ≤ sizeLine; decide, (.cons ⟨_, rfl⟩ (.cons ⟨_, rfl⟩ (.nil)))⟩) (.cons (.str _) (.cons (.str _) (.nil)))⟩
    k_BARRED_plainthings := ⟨_, .ref p_BARRED_plainthings, PySem.W.mg_of X G k_BARRED_plainthings, rfl, fun _ => .tup (xs := [.str (Str.ofString "\""), .str (Str.ofString "\n"), .str (Str.ofString "\\")]) (.inr ⟨_, _, _, q_BARRED_plainthings, rfl, rfl, by show (3 : Nat) ≤ sizeLine; decide, (.cons ⟨_, rfl⟩ (.cons ⟨_, rfl⟩ (.cons ⟨_, rfl⟩ (.nil))))⟩) (.cons (.str _) (.cons (.str _) (.cons (.str _) (.nil))))⟩
    d_FIXED := ⟨_, _, _, PySem.W.mg_of X G d_FIXED, ⟨q_FIXED, l_FIXED, y_FIXED⟩, r_FIXED⟩
    k_CALM := ⟨_, .ref p_CALM, PySem.W.mg_of X G k_CALM, rfl, fun _ => .tup (xs := [.str (Str.ofString "again"), .str (Str.ofString "unlike"), .str (Str.ofString "loose"), .str (Str.ofString "astray")]) (.inr ⟨_, _, _, q_CALM, rfl, rfl, by show (4 : Nat) ≤ sizeLine; decide, (.cons ⟨_, rfl⟩ (.cons ⟨_, rfl⟩ (.cons ⟨_, rfl⟩ (.cons ⟨_, rfl⟩ (.nil)))))⟩) (.cons (.str _) (.cons (.str _) (.cons (.str _) (.cons (.str _) (.nil)))))⟩
    d_WIDTHS := ⟨_, _, _, PySem.W.mg_of X G d_WIDTHS, ⟨q_WIDTHS, l_WIDTHS, y_WIDTHS⟩, r_WIDTHS⟩
    a_is_integer := f_is_integer
    f_is_integer := (PySem.W.fnOf "is_integer" "is_integer" (defArgs s_is_integer) (defBody s_is_integer) (defScope s_is_integer) .none kV_is_integer dc_is_integer pm_is_integer an_is_integer cd_is_integer ct_is_integer)
    g_is_integer := PySem.W.mg_of X G a_is_integer
    F_is_integer := ⟨⟨_, _, _, _, _, _, _, _, _, _, rfl, l_is_integer, c_is_integer⟩, k_is_integer⟩
    b_is_integer := .all fun us hl => match us, hl with | [_], _ => rfl
    a_is_number := f_is_number
    f_is_number := (PySem.W.fnOf "is_number" "is_number" (defArgs s_is_number) (defBody s_is_number) (defScope s_is_number) .none kV_is_number dc_is_number pm_is_number an_is_number cd_is_number ct_is_number)
    g_is_number := PySem.W.mg_of X G a_is_number
    F_is_number := ⟨⟨_, _, _, _, _, _, _, _, _, _, rfl, l_is_number, c_is_number⟩, k_is_number⟩
    b_is_number := .all fun us hl => match us, hl with | [_], _ => rfl
    a_is_name := f_is_name
    f_is_name := (PySem.W.fnOf "is_name" "is_name" (defArgs s_is_name) (defBody s_is_name) (defScope s_is_name) .none kV_is_name dc_is_name pm_is_name an_is_name cd_is_name ct_is_name)
    g_is_name := PySem.W.mg_of X G a_is_name
    F_is_name := ⟨⟨_, _, _, _, _, _, _, _, _, _, rfl, l_is_name, c_is_name⟩, k_is_name⟩
    b_is_name := .all fun us hl => match us, hl with | [_], _ => rfl
    a_number_in := f_number_in
    f_number_in := (PySem.W.fnOf "number_in" "number_in" (defArgs s_number_in) (defBody s_number_in) (defScope s_number_in) (.ref T_number_in) kV_number_in dc_number_in pm_number_in an_number_in cd_number_in ct_number_in)
    g_number_in := PySem.W.mg_of X G a_number_in
    F_number_in := ⟨⟨_, _, _, _, _, _, _, _, _, _, rfl, l_number_in, c_number_in⟩, k_number_in⟩
    b_number_in := b_number_in
    u_number_in := e_number_in.choose
    w_number_in := [.int 4]
    bd_number_in := e_number_in.choose_spec.2
    v_number_in := e_number_in.choose_spec.1
    r_number_in := fun _ => .cons (.int _) .nil
    a_words_of := f_words_of
    f_words_of := (PySem.W.fnOf "words_of" "words_of" (defArgs s_words_of) (defBody s_words_of) (defScope s_words_of) .none kV_words_of dc_words_of pm_words_of an_words_of cd_words_of ct_words_of)
    g_words_of := PySem.W.mg_of X G a_words_of
    F_words_of := ⟨⟨_, _, _, _, _, _, _, _, _, _, rfl, l_words_of, c_words_of⟩, k_words_of⟩
    b_words_of := .all fun us hl => match us, hl with | [_], _ => rfl
    a_is_plain := f_is_plain
    f_is_plain := (PySem.W.fnOf "is_plain" "is_plain" (defArgs s_is_plain) (defBody s_is_plain) (defScope s_is_plain) (.ref T_is_plain) kV_is_plain dc_is_plain pm_is_plain an_is_plain cd_is_plain ct_is_plain)
    g_is_plain := PySem.W.mg_of X G a_is_plain
    F_is_plain := ⟨⟨_, _, _, _, _, _, _, _, _, _, rfl, l_is_plain, c_is_plain⟩, k_is_plain⟩
    b_is_plain := b_is_plain
    u_is_plain := e_is_plain.choose
    w_is_plain := [.int 40]
    bd_is_plain := e_is_plain.choose_spec.2
    v_is_plain := e_is_plain.choose_spec.1
    r_is_plain := fun _ => .cons (.int _) .nil
    a_plain_text := f_plain_text
    f_plain_text := (PySem.W.fnOf "plain_text" "plain_text" (defArgs s_plain_text) (defBody s_plain_text) (defScope s_plain_text) .none kV_plain_text dc_plain_text pm_plain_text an_plain_text cd_plain_text ct_plain_text)
    g_plain_text := PySem.W.mg_of X G a_plain_text
    F_plain_text := ⟨⟨_, _, _, _, _, _, _, _, _, _, rfl, l_plain_text, c_plain_text⟩, k_plain_text⟩
    b_plain_text := .all fun us hl => match us, hl with | [_], _ => rfl
    a_word_end := f_word_end
    f_word_end := (PySem.W.fnOf "word_end" "word_end" (defArgs s_word_end) (defBody s_word_end) (defScope s_word_end) .none kV_word_end dc_word_end pm_word_end an_word_end cd_word_end ct_word_end)
    g_word_end := PySem.W.mg_of X G a_word_end
    F_word_end := ⟨⟨_, _, _, _, _, _, _, _, _, _, rfl, l_word_end, c_word_end⟩, k_word_end⟩
    b_word_end := .all fun us hl => match us, hl with | [_, _], _ => rfl
    a_is_digits := f_is_digits
    f_is_digits := (PySem.W.fnOf "is_digits" "is_digits" (defArgs s_is_digits) (defBody s_is_digits) (defScope s_is_digits) .none kV_is_digits dc_is_digits pm_is_digits an_is_digits cd_is_digits ct_is_digits)
    g_is_digits := PySem.W.mg_of X G a_is_digits
    F_is_digits := ⟨⟨_, _, _, _, _, _, _, _, _, _, rfl, l_is_digits, c_is_digits⟩, k_is_digits⟩
    b_is_digits := .all fun us hl => match us, hl with | [_], _ => rfl
    a_word_at := f_word_at
    f_word_at := (PySem.W.fnOf "word_at" "word_at" (defArgs s_word_at) (defBody s_word_at) (defScope s_word_at) .none kV_word_at dc_word_at pm_word_at an_word_at cd_word_at ct_word_at)
    g_word_at := PySem.W.mg_of X G a_word_at
    F_word_at := ⟨⟨_, _, _, _, _, _, _, _, _, _, rfl, l_word_at, c_word_at⟩, k_word_at⟩
    b_word_at := .all fun us hl => match us, hl with | [_, _], _ => rfl
    a_tuple_at := f_tuple_at
    f_tuple_at := (PySem.W.fnOf "tuple_at" "tuple_at" (defArgs s_tuple_at) (defBody s_tuple_at) (defScope s_tuple_at) .none kV_tuple_at dc_tuple_at pm_tuple_at an_tuple_at cd_tuple_at ct_tuple_at)
    g_tuple_at := PySem.W.mg_of X G a_tuple_at
    F_tuple_at := ⟨⟨_, _, _, _, _, _, _, _, _, _, rfl, l_tuple_at, c_tuple_at⟩, k_tuple_at⟩
    b_tuple_at := .all fun us hl => match us, hl with | [_, _, _], _ => rfl
    a_thing_at := f_thing_at
    f_thing_at := (PySem.W.fnOf "thing_at" "thing_at" (defArgs s_thing_at) (defBody s_thing_at) (defScope s_thing_at) (.ref T_thing_at) kV_thing_at dc_thing_at pm_thing_at an_thing_at cd_thing_at ct_thing_at)
    g_thing_at := PySem.W.mg_of X G a_thing_at
    F_thing_at := ⟨⟨_, _, _, _, _, _, _, _, _, _, rfl, l_thing_at, c_thing_at⟩, k_thing_at⟩
    b_thing_at := b_thing_at
    u_thing_at := e_thing_at.choose
    w_thing_at := [.int 40]
    bd_thing_at := e_thing_at.choose_spec.2
    v_thing_at := e_thing_at.choose_spec.1
    r_thing_at := fun _ => .cons (.int _) .nil
    a_things_in := f_things_in
    f_things_in := (PySem.W.fnOf "things_in" "things_in" (defArgs s_things_in) (defBody s_things_in) (defScope s_things_in) .none kV_things_in dc_things_in pm_things_in an_things_in cd_things_in ct_things_in)
    g_things_in := PySem.W.mg_of X G a_things_in
    F_things_in := ⟨⟨_, _, _, _, _, _, _, _, _, _, rfl, l_things_in, c_things_in⟩, k_things_in⟩
    b_things_in := .all fun us hl => match us, hl with | [_], _ => rfl
    a_read_plain := f_read_plain
    f_read_plain := (PySem.W.fnOf "read_plain" "read_plain" (defArgs s_read_plain) (defBody s_read_plain) (defScope s_read_plain) .none kV_read_plain dc_read_plain pm_read_plain an_read_plain cd_read_plain ct_read_plain)
    g_read_plain := PySem.W.mg_of X G a_read_plain
    F_read_plain := ⟨⟨_, _, _, _, _, _, _, _, _, _, rfl, l_read_plain, c_read_plain⟩, k_read_plain⟩
    b_read_plain := .all fun us hl => match us, hl with | [_], _ => rfl
    a_are_events := f_are_events
    f_are_events := (PySem.W.fnOf "are_events" "are_events" (defArgs s_are_events) (defBody s_are_events) (defScope s_are_events) .none kV_are_events dc_are_events pm_are_events an_are_events cd_are_events ct_are_events)
    g_are_events := PySem.W.mg_of X G a_are_events
    F_are_events := ⟨⟨_, _, _, _, _, _, _, _, _, _, rfl, l_are_events, c_are_events⟩, k_are_events⟩
    b_are_events := .all fun us hl => match us, hl with | [_], _ => rfl
    a_is_start := f_is_start
    f_is_start := (PySem.W.fnOf "is_start" "is_start" (defArgs s_is_start) (defBody s_is_start) (defScope s_is_start) .none kV_is_start dc_is_start pm_is_start an_is_start cd_is_start ct_is_start)
    g_is_start := PySem.W.mg_of X G a_is_start
    F_is_start := ⟨⟨_, _, _, _, _, _, _, _, _, _, rfl, l_is_start, c_is_start⟩, k_is_start⟩
    b_is_start := .all fun us hl => match us, hl with | [_], _ => rfl
    a_is_paper := f_is_paper
    f_is_paper := (PySem.W.fnOf "is_paper" "is_paper" (defArgs s_is_paper) (defBody s_is_paper) (defScope s_is_paper) .none kV_is_paper dc_is_paper pm_is_paper an_is_paper cd_is_paper ct_is_paper)
    g_is_paper := PySem.W.mg_of X G a_is_paper
    F_is_paper := ⟨⟨_, _, _, _, _, _, _, _, _, _, rfl, l_is_paper, c_is_paper⟩, k_is_paper⟩
    b_is_paper := .all fun us hl => match us, hl with | [_], _ => rfl
    a_is_word_of := f_is_word_of
    f_is_word_of := (PySem.W.fnOf "is_word_of" "is_word_of" (defArgs s_is_word_of) (defBody s_is_word_of) (defScope s_is_word_of) .none kV_is_word_of dc_is_word_of pm_is_word_of an_is_word_of cd_is_word_of ct_is_word_of)
    g_is_word_of := PySem.W.mg_of X G a_is_word_of
    F_is_word_of := ⟨⟨_, _, _, _, _, _, _, _, _, _, rfl, l_is_word_of, c_is_word_of⟩, k_is_word_of⟩
    b_is_word_of := .all fun us hl => match us, hl with | [_, _], _ => rfl
    a_is_claim := f_is_claim
    f_is_claim := (PySem.W.fnOf "is_claim" "is_claim" (defArgs s_is_claim) (defBody s_is_claim) (defScope s_is_claim) .none kV_is_claim dc_is_claim pm_is_claim an_is_claim cd_is_claim ct_is_claim)
    g_is_claim := PySem.W.mg_of X G a_is_claim
    F_is_claim := ⟨⟨_, _, _, _, _, _, _, _, _, _, rfl, l_is_claim, c_is_claim⟩, k_is_claim⟩
    b_is_claim := .all fun us hl => match us, hl with | [_], _ => rfl
    a_bare_words := f_bare_words
    f_bare_words := (PySem.W.fnOf "bare_words" "bare_words" (defArgs s_bare_words) (defBody s_bare_words) (defScope s_bare_words) .none kV_bare_words dc_bare_words pm_bare_words an_bare_words cd_bare_words ct_bare_words)
    g_bare_words := PySem.W.mg_of X G a_bare_words
    F_bare_words := ⟨⟨_, _, _, _, _, _, _, _, _, _, rfl, l_bare_words, c_bare_words⟩, k_bare_words⟩
    b_bare_words := .all fun us hl => match us, hl with | [_], _ => rfl
    a_claim_text := f_claim_text
    f_claim_text := (PySem.W.fnOf "claim_text" "claim_text" (defArgs s_claim_text) (defBody s_claim_text) (defScope s_claim_text) .none kV_claim_text dc_claim_text pm_claim_text an_claim_text cd_claim_text ct_claim_text)
    g_claim_text := PySem.W.mg_of X G a_claim_text
    F_claim_text := ⟨⟨_, _, _, _, _, _, _, _, _, _, rfl, l_claim_text, c_claim_text⟩, k_claim_text⟩
    b_claim_text := .all fun us hl => match us, hl with | [_], _ => rfl
    a_read_claim := f_read_claim
    f_read_claim := (PySem.W.fnOf "read_claim" "read_claim" (defArgs s_read_claim) (defBody s_read_claim) (defScope s_read_claim) .none kV_read_claim dc_read_claim pm_read_claim an_read_claim cd_read_claim ct_read_claim)
    g_read_claim := PySem.W.mg_of X G a_read_claim
    F_read_claim := ⟨⟨_, _, _, _, _, _, _, _, _, _, rfl, l_read_claim, c_read_claim⟩, k_read_claim⟩
    b_read_claim := .all fun us hl => match us, hl with | [_], _ => rfl
    a__law_seed := f__law_seed
    f__law_seed := (PySem.W.fnOf "_law_seed" "_law_seed" (defArgs s__law_seed) (defBody s__law_seed) (defScope s__law_seed) .none kV__law_seed dc__law_seed pm__law_seed an__law_seed cd__law_seed ct__law_seed)
    g__law_seed := PySem.W.mg_of X G a__law_seed
    F__law_seed := ⟨⟨_, _, _, _, _, _, _, _, _, _, rfl, l__law_seed, c__law_seed⟩, k__law_seed⟩
    b__law_seed := .all fun us hl => match us, hl with | [_, _], _ => rfl
    a__law_choose := f__law_choose
    f__law_choose := (PySem.W.fnOf "_law_choose" "_law_choose" (defArgs s__law_choose) (defBody s__law_choose) (defScope s__law_choose) .none kV__law_choose dc__law_choose pm__law_choose an__law_choose cd__law_choose ct__law_choose)
    g__law_choose := PySem.W.mg_of X G a__law_choose
    F__law_choose := ⟨⟨_, _, _, _, _, _, _, _, _, _, rfl, l__law_choose, c__law_choose⟩, k__law_choose⟩
    b__law_choose := .all fun us hl => match us, hl with | [_, _], _ => rfl
    a__law_one_of := f__law_one_of
    f__law_one_of := (PySem.W.fnOf "_law_one_of" "_law_one_of" (defArgs s__law_one_of) (defBody s__law_one_of) (defScope s__law_one_of) .none kV__law_one_of dc__law_one_of pm__law_one_of an__law_one_of cd__law_one_of ct__law_one_of)
    g__law_one_of := PySem.W.mg_of X G a__law_one_of
    F__law_one_of := ⟨⟨_, _, _, _, _, _, _, _, _, _, rfl, l__law_one_of, c__law_one_of⟩, k__law_one_of⟩
    b__law_one_of := .all fun us hl => match us, hl with | [_, _], _ => rfl
    a__law_plain := f__law_plain
    f__law_plain := (PySem.W.fnOf "_law_plain" "_law_plain" (defArgs s__law_plain) (defBody s__law_plain) (defScope s__law_plain) .none kV__law_plain dc__law_plain pm__law_plain an__law_plain cd__law_plain ct__law_plain)
    g__law_plain := PySem.W.mg_of X G a__law_plain
    F__law_plain := ⟨⟨_, _, _, _, _, _, _, _, _, _, rfl, l__law_plain, c__law_plain⟩, k__law_plain⟩
    b__law_plain := .all fun us hl => match us, hl with | [_, _], _ => rfl
    a__law_plain_text := f__law_plain_text
    f__law_plain_text := (PySem.W.fnOf "_law_plain_text" "_law_plain_text" (defArgs s__law_plain_text) (defBody s__law_plain_text) (defScope s__law_plain_text) .none kV__law_plain_text dc__law_plain_text pm__law_plain_text an__law_plain_text cd__law_plain_text ct__law_plain_text)
    g__law_plain_text := PySem.W.mg_of X G a__law_plain_text
    F__law_plain_text := ⟨⟨_, _, _, _, _, _, _, _, _, _, rfl, l__law_plain_text, c__law_plain_text⟩, k__law_plain_text⟩
    b__law_plain_text := .all fun us hl => match us, hl with | [_], _ => rfl
    a__law_claim_text := f__law_claim_text
    f__law_claim_text := (PySem.W.fnOf "_law_claim_text" "_law_claim_text" (defArgs s__law_claim_text) (defBody s__law_claim_text) (defScope s__law_claim_text) .none kV__law_claim_text dc__law_claim_text pm__law_claim_text an__law_claim_text cd__law_claim_text ct__law_claim_text)
    g__law_claim_text := PySem.W.mg_of X G a__law_claim_text
    F__law_claim_text := ⟨⟨_, _, _, _, _, _, _, _, _, _, rfl, l__law_claim_text, c__law_claim_text⟩, k__law_claim_text⟩
    b__law_claim_text := .all fun us hl => match us, hl with | [_], _ => rfl
    a__law_some_events := f__law_some_events
    f__law_some_events := (PySem.W.fnOf "_law_some_events" "_law_some_events" (defArgs s__law_some_events) (defBody s__law_some_events) (defScope s__law_some_events) .none kV__law_some_events dc__law_some_events pm__law_some_events an__law_some_events cd__law_some_events ct__law_some_events)
    g__law_some_events := PySem.W.mg_of X G a__law_some_events
    F__law_some_events := ⟨⟨_, _, _, _, _, _, _, _, _, _, rfl, l__law_some_events, c__law_some_events⟩, k__law_some_events⟩
    b__law_some_events := .all fun us hl => match us, hl with | [_], _ => rfl
    a__law_claim := f__law_claim
    f__law_claim := (PySem.W.fnOf "_law_claim" "_law_claim" (defArgs s__law_claim) (defBody s__law_claim) (defScope s__law_claim) .none kV__law_claim dc__law_claim pm__law_claim an__law_claim cd__law_claim ct__law_claim)
    g__law_claim := PySem.W.mg_of X G a__law_claim
    F__law_claim := ⟨⟨_, _, _, _, _, _, _, _, _, _, rfl, l__law_claim, c__law_claim⟩, k__law_claim⟩
    b__law_claim := .all fun us hl => match us, hl with | [_, _], _ => rfl
    a__law_read := f__law_read
    f__law_read := (PySem.W.fnOf "_law_read" "_law_read" (defArgs s__law_read) (defBody s__law_read) (defScope s__law_read) .none kV__law_read dc__law_read pm__law_read an__law_read cd__law_read ct__law_read)
    g__law_read := PySem.W.mg_of X G a__law_read
    F__law_read := ⟨⟨_, _, _, _, _, _, _, _, _, _, rfl, l__law_read, c__law_read⟩, k__law_read⟩
    b__law_read := .all fun us hl => match us, hl with | [_, _], _ => rfl
    a__law_bent := f__law_bent
    f__law_bent := (PySem.W.fnOf "_law_bent" "_law_bent" (defArgs s__law_bent) (defBody s__law_bent) (defScope s__law_bent) .none kV__law_bent dc__law_bent pm__law_bent an__law_bent cd__law_bent ct__law_bent)
    g__law_bent := PySem.W.mg_of X G a__law_bent
    F__law_bent := ⟨⟨_, _, _, _, _, _, _, _, _, _, rfl, l__law_bent, c__law_bent⟩, k__law_bent⟩
    b__law_bent := .all fun us hl => match us, hl with | [_, _], _ => rfl
    a__law_is_same := f__law_is_same
    f__law_is_same := (PySem.W.fnOf "_law_is_same" "_law_is_same" (defArgs s__law_is_same) (defBody s__law_is_same) (defScope s__law_is_same) .none kV__law_is_same dc__law_is_same pm__law_is_same an__law_is_same cd__law_is_same ct__law_is_same)
    g__law_is_same := PySem.W.mg_of X G a__law_is_same
    F__law_is_same := ⟨⟨_, _, _, _, _, _, _, _, _, _, rfl, l__law_is_same, c__law_is_same⟩, k__law_is_same⟩
    b__law_is_same := .all fun us hl => match us, hl with | [_, _], _ => rfl
    a__law_odd := f__law_odd
    f__law_odd := (PySem.W.fnOf "_law_odd" "_law_odd" (defArgs s__law_odd) (defBody s__law_odd) (defScope s__law_odd) .none kV__law_odd dc__law_odd pm__law_odd an__law_odd cd__law_odd ct__law_odd)
    g__law_odd := PySem.W.mg_of X G a__law_odd
    F__law_odd := ⟨⟨_, _, _, _, _, _, _, _, _, _, rfl, l__law_odd, c__law_odd⟩, k__law_odd⟩
    b__law_odd := .all fun us hl => match us, hl with | [_, _], _ => rfl
    a_law := f_law
    f_law := (PySem.W.fnOf "law" "law" (defArgs s_law) (defBody s_law) (defScope s_law) .none kV_law dc_law pm_law an_law cd_law ct_law)
    g_law := PySem.W.mg_of X G a_law
    F_law := ⟨⟨_, _, _, _, _, _, _, _, _, _, rfl, l_law, c_law⟩, k_law⟩
    b_law := .all fun us hl => match us, hl with | [_], _ => rfl }
noncomputable def txe_mk {P : Program} {K : PySem.W.Frag} {h : Heap} {mg : Str → Option Value} (X : K.In h) (G : h.Ns mainGlobals mg)
    {C W fI cc cda : Addr} {oc kV dc pm ct ccl cl : Value} {od an cdd cld : Option Addr} {sl csl ccs : Array (Option Value)} {vs : Array Value} {file : Str} {tf : Tok}
    {nm q : Str} {N : Addr} {bs bm : List Value} {sn : List Str} {sub : List Value} {ab : Bool} {col : Option Bool} {dd : Option Addr} {k0 k1 k2 k3 k5 : Option Value}
    (mC : PySem.W.nsIn K mainGlobals "InvalidText" = some (some (.ref C))) (mW : PySem.W.nsIn K mainGlobals "WorkError" = some (some (.ref W)))
    (iC : PySem.W.findIn K (.ref C) "__init__" = some (some (.ref fI)))
    (lI : K.lookup fI = some ⟨oc, od, .func (PySem.W.fnX "__init__" "InvalidText.__init__" (defArgs sInit) (defBody sInit) (defScope sInit) [("__class__", cc)] .none kV dc pm an (.ref cda) ct), sl⟩)
    (cI : PySem.W.codeIn K (.ref cda) "InvalidText.__init__" = true) (lc : K.lookup cda = some ⟨ccl, cdd, .fields vs, ccs⟩) (v2 : vs[2]? = some (.str file tf)) (fil : ((P.main.file : Str) == file) = true)
    (lcc : K.lookup cc = some ⟨cl, cld, .cell (some (.ref C)), csl⟩)
    (lC : K.lookup C = some (excClassObj nm q C N bs bm true sn sub ab col dd k0 k1 k2 k3 k5 "ValueError.__new__")) (hbm : PySem.HandSPX.refsVE bm = true)
    (sa : PySem.W.findIn K (.ref C) "__setattr__" = some (some (.builtin "object.__setattr__"))) (exC : PySem.W.subIn K (.ref C) (.type "BaseException") = some true) (tyC : PySem.W.typeIn K (.ref C) = some (.type "type")) (kC : PySem.W.keepIn K (.ref C) = true)
    (noat : PySem.W.findIn K (.ref C) "at" = some none) (sup : PySem.W.nsIn K mainGlobals "super" = some none) (th : PySem.W.nsIn K PySem.cStatics "thirdparty.any" = some none)
    (along : PySem.W.ks_superIn K C C "__init__" = some (some (.builtin "ValueError.__init__"))) (isB : PySem.W.subIn K (.ref C) (.type "ValueError") = some true) (self : PySem.W.mroIn K C (.ref C) = some true) (top : (P.main.scope.names.lookup ("super" : Str)).isSome = false)
    (tI : PySem.W.typeIn K (.ref fI) = some (.type "function"))
    (ga : PySem.W.findIn K (.ref C) "__getattribute__" = some (some (.builtin "BaseException.__getattribute__"))) (gg : PySem.W.findIn K (.ref C) "__getattr__" = some none) (hd : PySem.W.hasDictIn K C = true)
    (ca : PySem.W.findIn K (.ref C) "__class__" = some (some (.builtin "object.__class__"))) (cn : PySem.W.specialIn K (.builtin "object.__class__") "__get__" = some (some (.builtin "getset_descriptor.__get__"))) (ck : PySem.W.takesIn K (.builtin "object.__class__") = some true) (cm : PySem.W.mroIn K C (.type "object") = some true)
    (exm : PySem.W.exmOne K (.ref C) (.ref C) = some true) (kit : PySem.W.kitOne K (.ref C) (.ref W) = some true) : TxE P K mg :=
  have T : OexC K C := ⟨⟨_, _, _, _, _, _, _, _, _, _, _, _, _, _, _, lC, hbm⟩, sa, exC, tyC, kC⟩
  { C := C, W := W, fI := fI, cc := cc, fdI := PySem.W.fnX "__init__" "InvalidText.__init__" (defArgs sInit) (defBody sInit) (defScope sInit) [("__class__", cc)] .none kV dc pm an (.ref cda) ct
    mC := PySem.W.mg_of X G mC
    mW := PySem.W.mg_of X G mW
    S := ⟨⟨_, _, _, _, _, _, _, _, _, _, _, _, _, _, _, _, rfl, lI, cI, lc, v2, fil⟩, ⟨_, _, _, lcc⟩, T, noat, PySem.W.mg_none_of X G sup, th, along, isB, self, top⟩
    iC := iC
    tI := tI
    bI := .all fun us hl => match us, hl with | [_, _], _ => rfl
    T := ⟨ga, gg, exC, hd, ca, cn, ck, cm⟩
    TX := ⟨ga, gg, exC, hd⟩
    exm := exm
    kit := kit }
theorem law_mk {P : Program} {w : World} {K : PySem.W.Frag} {h : Heap} {mg : Str → Option Value} {fa : Addr} (X : K.In h) (G : h.Ns mainGlobals mg) (hfa : mg "law" = some (.ref fa)) (TE : TxE P K mg)
    {tk1 : Tok}
    {tk2 : Tok}
    {tk3 : Tok}
    {tk4 : Tok}
    {tk5 : Tok}
    {tk6 : Tok}
    {tk7 : Tok}
    {tk8 : Tok}
    {tk9 : Tok}
    {tk10 : Tok}
    {tk11 : Tok}
    {tk12 : Tok}
    {tk13 : Tok}
    {tk14 : Tok}
    {tk15 : Tok}
    {p_BARRED_words : Addr} {od_BARRED_words : Option Addr} {nn_BARRED_words : Nat} {sl_BARRED_words : Array (Option Value)}
    {tk16 : Tok}
    {tk17 : Tok}
    {tk18 : Tok}
    {tk19 : Tok}
    {tk20 : Tok}
    {tk21 : Tok}
    {tk22 : Tok}
    {tk23 : Tok}
    {p_HARMS : Addr} {od_HARMS : Option Addr} {nn_HARMS : Nat} {sl_HARMS : Array (Option Value)}
    {tk24 : Tok}
    {tk25 : Tok}
    {p_ALONE : Addr} {od_ALONE : Option Addr} {nn_ALONE : Nat} {sl_ALONE : Array (Option Value)}
    {tk26 : Tok}
    {tk27 : Tok}
    {p_NUMBERED : Addr} {od_NUMBERED : Option Addr} {nn_NUMBERED : Nat} {sl_NUMBERED : Array (Option Value)}
    {tk28 : Tok}
    {tk29 : Tok}
    {tk30 : Tok}
    {p_BARRED_plainthings : Addr} {od_BARRED_plainthings : Option Addr} {nn_BARRED_plainthings : Nat} {sl_BARRED_plainthings : Array (Option Value)}
    {p_FIXED : Addr} {es_FIXED : Array DictEntry} {nn_FIXED : Nat}
    {tk31 : Tok}
    {tk32 : Tok}
    {tk33 : Tok}
    {tk34 : Tok}
    {p_CALM : Addr} {od_CALM : Option Addr} {nn_CALM : Nat} {sl_CALM : Array (Option Value)}
    {p_WIDTHS : Addr} {es_WIDTHS : Array DictEntry} {nn_WIDTHS : Nat}
    {f_is_integer : Addr} {oc_is_integer kV_is_integer dc_is_integer pm_is_integer cd_is_integer ct_is_integer : Value} {od_is_integer an_is_integer : Option Addr} {sl_is_integer : Array (Option Value)}
    {f_is_number : Addr} {oc_is_number kV_is_number dc_is_number pm_is_number cd_is_number ct_is_number : Value} {od_is_number an_is_number : Option Addr} {sl_is_number : Array (Option Value)}
    {f_is_name : Addr} {oc_is_name kV_is_name dc_is_name pm_is_name cd_is_name ct_is_name : Value} {od_is_name an_is_name : Option Addr} {sl_is_name : Array (Option Value)}
    {f_number_in : Addr} {oc_number_in kV_number_in dc_number_in pm_number_in cd_number_in ct_number_in : Value} {od_number_in an_number_in : Option Addr} {sl_number_in : Array (Option Value)}
    {tk35 : Tok}
    {T_number_in : Addr} {oT_number_in : Option Addr} {nT_number_in : Nat} {sT_number_in : Array (Option Value)}
    {f_words_of : Addr} {oc_words_of kV_words_of dc_words_of pm_words_of cd_words_of ct_words_of : Value} {od_words_of an_words_of : Option Addr} {sl_words_of : Array (Option Value)}
    {f_is_plain : Addr} {oc_is_plain kV_is_plain dc_is_plain pm_is_plain cd_is_plain ct_is_plain : Value} {od_is_plain an_is_plain : Option Addr} {sl_is_plain : Array (Option Value)}
    {tk36 : Tok}
    {T_is_plain : Addr} {oT_is_plain : Option Addr} {nT_is_plain : Nat} {sT_is_plain : Array (Option Value)}
    {f_plain_text : Addr} {oc_plain_text kV_plain_text dc_plain_text pm_plain_text cd_plain_text ct_plain_text : Value} {od_plain_text an_plain_text : Option Addr} {sl_plain_text : Array (Option Value)}
    {f_word_end : Addr} {oc_word_end kV_word_end dc_word_end pm_word_end cd_word_end ct_word_end : Value} {od_word_end an_word_end : Option Addr} {sl_word_end : Array (Option Value)}
    {f_is_digits : Addr} {oc_is_digits kV_is_digits dc_is_digits pm_is_digits cd_is_digits ct_is_digits : Value} {od_is_digits an_is_digits : Option Addr} {sl_is_digits : Array (Option Value)}
    {f_word_at : Addr} {oc_word_at kV_word_at dc_word_at pm_word_at cd_word_at ct_word_at : Value} {od_word_at an_word_at : Option Addr} {sl_word_at : Array (Option Value)}
    {f_tuple_at : Addr} {oc_tuple_at kV_tuple_at dc_tuple_at pm_tuple_at cd_tuple_at ct_tuple_at : Value} {od_tuple_at an_tuple_at : Option Addr} {sl_tuple_at : Array (Option Value)}
    {f_thing_at : Addr} {oc_thing_at kV_thing_at dc_thing_at pm_thing_at cd_thing_at ct_thing_at : Value} {od_thing_at an_thing_at : Option Addr} {sl_thing_at : Array (Option Value)}
    {tk37 : Tok}
    {T_thing_at : Addr} {oT_thing_at : Option Addr} {nT_thing_at : Nat} {sT_thing_at : Array (Option Value)}
    {f_things_in : Addr} {oc_things_in kV_things_in dc_things_in pm_things_in cd_things_in ct_things_in : Value} {od_things_in an_things_in : Option Addr} {sl_things_in : Array (Option Value)}
    {f_read_plain : Addr} {oc_read_plain kV_read_plain dc_read_plain pm_read_plain cd_read_plain ct_read_plain : Value} {od_read_plain an_read_plain : Option Addr} {sl_read_plain : Array (Option Value)}
    {f_are_events : Addr} {oc_are_events kV_are_events dc_are_events pm_are_events cd_are_events ct_are_events : Value} {od_are_events an_are_events : Option Addr} {sl_are_events : Array (Option Value)}
    {f_is_start : Addr} {oc_is_start kV_is_start dc_is_start pm_is_start cd_is_start ct_is_start : Value} {od_is_start an_is_start : Option Addr} {sl_is_start : Array (Option Value)}
    {f_is_paper : Addr} {oc_is_paper kV_is_paper dc_is_paper pm_is_paper cd_is_paper ct_is_paper : Value} {od_is_paper an_is_paper : Option Addr} {sl_is_paper : Array (Option Value)}
    {f_is_word_of : Addr} {oc_is_word_of kV_is_word_of dc_is_word_of pm_is_word_of cd_is_word_of ct_is_word_of : Value} {od_is_word_of an_is_word_of : Option Addr} {sl_is_word_of : Array (Option Value)}
    {f_is_claim : Addr} {oc_is_claim kV_is_claim dc_is_claim pm_is_claim cd_is_claim ct_is_claim : Value} {od_is_claim an_is_claim : Option Addr} {sl_is_claim : Array (Option Value)}
    {f_bare_words : Addr} {oc_bare_words kV_bare_words dc_bare_words pm_bare_words cd_bare_words ct_bare_words : Value} {od_bare_words an_bare_words : Option Addr} {sl_bare_words : Array (Option Value)}
    {f_claim_text : Addr} {oc_claim_text kV_claim_text dc_claim_text pm_claim_text cd_claim_text ct_claim_text : Value} {od_claim_text an_claim_text : Option Addr} {sl_claim_text : Array (Option Value)}
    {f_read_claim : Addr} {oc_read_claim kV_read_claim dc_read_claim pm_read_claim cd_read_claim ct_read_claim : Value} {od_read_claim an_read_claim : Option Addr} {sl_read_claim : Array (Option Value)}
    {f__law_seed : Addr} {oc__law_seed kV__law_seed dc__law_seed pm__law_seed cd__law_seed ct__law_seed : Value} {od__law_seed an__law_seed : Option Addr} {sl__law_seed : Array (Option Value)}
    {f__law_choose : Addr} {oc__law_choose kV__law_choose dc__law_choose pm__law_choose cd__law_choose ct__law_choose : Value} {od__law_choose an__law_choose : Option Addr} {sl__law_choose : Array (Option Value)}
    {f__law_one_of : Addr} {oc__law_one_of kV__law_one_of dc__law_one_of pm__law_one_of cd__law_one_of ct__law_one_of : Value} {od__law_one_of an__law_one_of : Option Addr} {sl__law_one_of : Array (Option Value)}
    {f__law_plain : Addr} {oc__law_plain kV__law_plain dc__law_plain pm__law_plain cd__law_plain ct__law_plain : Value} {od__law_plain an__law_plain : Option Addr} {sl__law_plain : Array (Option Value)}
    {f__law_plain_text : Addr} {oc__law_plain_text kV__law_plain_text dc__law_plain_text pm__law_plain_text cd__law_plain_text ct__law_plain_text : Value} {od__law_plain_text an__law_plain_text : Option Addr} {sl__law_plain_text : Array (Option Value)}
    {f__law_claim_text : Addr} {oc__law_claim_text kV__law_claim_text dc__law_claim_text pm__law_claim_text cd__law_claim_text ct__law_claim_text : Value} {od__law_claim_text an__law_claim_text : Option Addr} {sl__law_claim_text : Array (Option Value)}
    {f__law_some_events : Addr} {oc__law_some_events kV__law_some_events dc__law_some_events pm__law_some_events cd__law_some_events ct__law_some_events : Value} {od__law_some_events an__law_some_events : Option Addr} {sl__law_some_events : Array (Option Value)}
    {f__law_claim : Addr} {oc__law_claim kV__law_claim dc__law_claim pm__law_claim cd__law_claim ct__law_claim : Value} {od__law_claim an__law_claim : Option Addr} {sl__law_claim : Array (Option Value)}
    {f__law_read : Addr} {oc__law_read kV__law_read dc__law_read pm__law_read cd__law_read ct__law_read : Value} {od__law_read an__law_read : Option Addr} {sl__law_read : Array (Option Value)}
    {f__law_bent : Addr} {oc__law_bent kV__law_bent dc__law_bent pm__law_bent cd__law_bent ct__law_bent : Value} {od__law_bent an__law_bent : Option Addr} {sl__law_bent : Array (Option Value)}
    {f__law_is_same : Addr} {oc__law_is_same kV__law_is_same dc__law_is_same pm__law_is_same cd__law_is_same ct__law_is_same : Value} {od__law_is_same an__law_is_same : Option Addr} {sl__law_is_same : Array (Option Value)}
    {f__law_odd : Addr} {oc__law_odd kV__law_odd dc__law_odd pm__law_odd cd__law_odd ct__law_odd : Value} {od__law_odd an__law_odd : Option Addr} {sl__law_odd : Array (Option Value)}
    {f_law : Addr} {oc_law kV_law dc_law pm_law cd_law ct_law : Value} {od_law an_law : Option Addr} {sl_law : Array (Option Value)}
    (n_len : PySem.W.nsIn K mainGlobals "len" = some none)
    (n_all : PySem.W.nsIn K mainGlobals "all" = some none)
    (n_any : PySem.W.nsIn K mainGlobals "any" = some none)
    (n_isinstance : PySem.W.nsIn K mainGlobals "isinstance" = some none)
    (n_int : PySem.W.nsIn K mainGlobals "int" = some none)
    (n_str : PySem.W.nsIn K mainGlobals "str" = some none)
    (n_bool : PySem.W.nsIn K mainGlobals "bool" = some none)
    (n_tuple : PySem.W.nsIn K mainGlobals "tuple" = some none)
    (n_list : PySem.W.nsIn K mainGlobals "list" = some none)
    (n_range : PySem.W.nsIn K mainGlobals "range" = some none)
    (n_abs : PySem.W.nsIn K mainGlobals "abs" = some none)
    (n_max : PySem.W.nsIn K mainGlobals "max" = some none)
    (n_min : PySem.W.nsIn K mainGlobals "min" = some none)
    (n_repr : PySem.W.nsIn K mainGlobals "repr" = some none)
    (k_LETTERS : PySem.W.nsIn K mainGlobals "LETTERS" = some (some (.str (Str.ofString "abcdefghijklmnopqrstuvwxyz") tk1)))
    (k_DIGITS : PySem.W.nsIn K mainGlobals "DIGITS" = some (some (.str (Str.ofString "0123456789") tk2)))
    (k_BARRED_words : PySem.W.nsIn K mainGlobals "BARRED_words" = some (some (.ref p_BARRED_words)))
    (q_BARRED_words : K.lookup p_BARRED_words = some ⟨.type "tuple", od_BARRED_words, .seq #[.str (Str.ofString "do") tk3, .str (Str.ofString "undo") tk4, .str (Str.ofString "else") tk5, .str (Str.ofString "go") tk6, .str (Str.ofString "sure") tk7, .str (Str.ofString "cut") tk8, .str (Str.ofString "back") tk9, .str (Str.ofString "gone") tk10, .str (Str.ofString "end") tk11, .str (Str.ofString "key") tk12, .str (Str.ofString "word") tk13, .str (Str.ofString "ok") tk14, .str (Str.ofString "no") tk15] nn_BARRED_words, sl_BARRED_words⟩)
    (k_HARMS : PySem.W.nsIn K mainGlobals "HARMS" = some (some (.ref p_HARMS)))
    (q_HARMS : K.lookup p_HARMS = some ⟨.type "tuple", od_HARMS, .seq #[.str (Str.ofString "again") tk16, .str (Str.ofString "astray") tk17, .str (Str.ofString "left") tk18, .str (Str.ofString "loose") tk19, .str (Str.ofString "noticed") tk20, .str (Str.ofString "stale") tk21, .str (Str.ofString "stuck") tk22, .str (Str.ofString "unlike") tk23] nn_HARMS, sl_HARMS⟩)
    (k_ALONE : PySem.W.nsIn K mainGlobals "ALONE" = some (some (.ref p_ALONE)))
    (q_ALONE : K.lookup p_ALONE = some ⟨.type "tuple", od_ALONE, .seq #[.str (Str.ofString "next") tk24, .str (Str.ofString "write") tk25] nn_ALONE, sl_ALONE⟩)
    (k_NUMBERED : PySem.W.nsIn K mainGlobals "NUMBERED" = some (some (.ref p_NUMBERED)))
    (q_NUMBERED : K.lookup p_NUMBERED = some ⟨.type "tuple", od_NUMBERED, .seq #[.str (Str.ofString "over") tk26, .str (Str.ofString "late") tk27] nn_NUMBERED, sl_NUMBERED⟩)
    (k_BARRED_plainthings : PySem.W.nsIn K mainGlobals "BARRED_plainthings" = some (some (.ref p_BARRED_plainthings)))
    (q_BARRED_plainthings : K.lookup p_BARRED_plainthings = some ⟨.type "tuple", od_BARRED_plainthings, .seq #[.str (Str.ofString "\"") tk28, .str (Str.ofString "\n") tk29, .str (Str.ofString "\\") tk30] nn_BARRED_plainthings, sl_BARRED_plainthings⟩)
    (d_FIXED : PySem.W.nsIn K mainGlobals "FIXED" = some (some (.ref p_FIXED)))
    (q_FIXED : K.lookup p_FIXED = some ⟨.type "dict", none, .dict es_FIXED nn_FIXED, #[]⟩)
    (l_FIXED : PySem.W.KeysLit w.params es_FIXED.toList)
    (y_FIXED : (p_FIXED == sysModules) = false)
    (r_FIXED : Paired (fun (q : Str × D) (en : DictEntry) => (∃ t, en.key = .str q.1 t) ∧ ∃ v, RelV v en.val ∧ ∀ G, Rp K G v q.2) [(Str.ofString "yes", (.bl true)), (Str.ofString "no", (.bl false)), (Str.ofString "none", .non)] es_FIXED.toList)
    (k_CALM : PySem.W.nsIn K mainGlobals "CALM" = some (some (.ref p_CALM)))
    (q_CALM : K.lookup p_CALM = some ⟨.type "tuple", od_CALM, .seq #[.str (Str.ofString "again") tk31, .str (Str.ofString "unlike") tk32, .str (Str.ofString "loose") tk33, .str (Str.ofString "astray") tk34] nn_CALM, sl_CALM⟩)
    (d_WIDTHS : PySem.W.nsIn K mainGlobals "WIDTHS" = some (some (.ref p_WIDTHS)))
    (q_WIDTHS : K.lookup p_WIDTHS = some ⟨.type "dict", none, .dict es_WIDTHS nn_WIDTHS, #[]⟩)
    (l_WIDTHS : PySem.W.KeysLit w.params es_WIDTHS.toList)
    (y_WIDTHS : (p_WIDTHS == sysModules) = false)
    (r_WIDTHS : Paired (fun (q : Str × D) (en : DictEntry) => (∃ t, en.key = .str q.1 t) ∧ ∃ v, RelV v en.val ∧ ∀ G, Rp K G v q.2) [(Str.ofString "story", (.int 6)), (Str.ofString "alike", (.int 6)), (Str.ofString "clean", (.int 5)), (Str.ofString "reads", (.int 3)), (Str.ofString "calm", (.int 4))] es_WIDTHS.toList)
    (a_is_integer : PySem.W.nsIn K mainGlobals "is_integer" = some (some (.ref f_is_integer)))
    (l_is_integer : K.lookup f_is_integer = some ⟨oc_is_integer, od_is_integer, .func (PySem.W.fnOf "is_integer" "is_integer" (defArgs s_is_integer) (defBody s_is_integer) (defScope s_is_integer) .none kV_is_integer dc_is_integer pm_is_integer an_is_integer cd_is_integer ct_is_integer), sl_is_integer⟩)
    (c_is_integer : PySem.W.codeIn K cd_is_integer "is_integer" = true)
    (k_is_integer : PySem.W.keepIn K (.ref f_is_integer) = true)
    (a_is_number : PySem.W.nsIn K mainGlobals "is_number" = some (some (.ref f_is_number)))
    (l_is_number : K.lookup f_is_number = some ⟨oc_is_number, od_is_number, .func (PySem.W.fnOf "is_number" "is_number" (defArgs s_is_number) (defBody s_is_number) (defScope s_is_number) .none kV_is_number dc_is_number pm_is_number an_is_number cd_is_number ct_is_number), sl_is_number⟩)
    (c_is_number : PySem.W.codeIn K cd_is_number "is_number" = true)
    (k_is_number : PySem.W.keepIn K (.ref f_is_number) = true)
    (a_is_name : PySem.W.nsIn K mainGlobals "is_name" = some (some (.ref f_is_name)))
    (l_is_name : K.lookup f_is_name = some ⟨oc_is_name, od_is_name, .func (PySem.W.fnOf "is_name" "is_name" (defArgs s_is_name) (defBody s_is_name) (defScope s_is_name) .none kV_is_name dc_is_name pm_is_name an_is_name cd_is_name ct_is_name), sl_is_name⟩)
    (c_is_name : PySem.W.codeIn K cd_is_name "is_name" = true)
    (k_is_name : PySem.W.keepIn K (.ref f_is_name) = true)
    (a_number_in : PySem.W.nsIn K mainGlobals "number_in" = some (some (.ref f_number_in)))
    (l_number_in : K.lookup f_number_in = some ⟨oc_number_in, od_number_in, .func (PySem.W.fnOf "number_in" "number_in" (defArgs s_number_in) (defBody s_number_in) (defScope s_number_in) (.ref T_number_in) kV_number_in dc_number_in pm_number_in an_number_in cd_number_in ct_number_in), sl_number_in⟩)
    (c_number_in : PySem.W.codeIn K cd_number_in "number_in" = true)
    (k_number_in : PySem.W.keepIn K (.ref f_number_in) = true)
    (t_number_in : K.lookup T_number_in = some ⟨.type "tuple", oT_number_in, .seq #[.int 4 tk35] nT_number_in, sT_number_in⟩)
    (a_words_of : PySem.W.nsIn K mainGlobals "words_of" = some (some (.ref f_words_of)))
    (l_words_of : K.lookup f_words_of = some ⟨oc_words_of, od_words_of, .func (PySem.W.fnOf "words_of" "words_of" (defArgs s_words_of) (defBody s_words_of) (defScope s_words_of) .none kV_words_of dc_words_of pm_words_of an_words_of cd_words_of ct_words_of), sl_words_of⟩)
    (c_words_of : PySem.W.codeIn K cd_words_of "words_of" = true)
    (k_words_of : PySem.W.keepIn K (.ref f_words_of) = true)
    (a_is_plain : PySem.W.nsIn K mainGlobals "is_plain" = some (some (.ref f_is_plain)))
    (l_is_plain : K.lookup f_is_plain = some ⟨oc_is_plain, od_is_plain, .func (PySem.W.fnOf "is_plain" "is_plain" (defArgs s_is_plain) (defBody s_is_plain) (defScope s_is_plain) (.ref T_is_plain) kV_is_plain dc_is_plain pm_is_plain an_is_plain cd_is_plain ct_is_plain), sl_is_plain⟩)
    (c_is_plain : PySem.W.codeIn K cd_is_plain "is_plain" = true)
    (k_is_plain : PySem.W.keepIn K (.ref f_is_plain) = true)
    (t_is_plain : K.lookup T_is_plain = some ⟨.type "tuple", oT_is_plain, .seq #[.int 40 tk36] nT_is_plain, sT_is_plain⟩)
    (a_plain_text : PySem.W.nsIn K mainGlobals "plain_text" = some (some (.ref f_plain_text)))
    (l_plain_text : K.lookup f_plain_text = some ⟨oc_plain_text, od_plain_text, .func (PySem.W.fnOf "plain_text" "plain_text" (defArgs s_plain_text) (defBody s_plain_text) (defScope s_plain_text) .none kV_plain_text dc_plain_text pm_plain_text an_plain_text cd_plain_text ct_plain_text), sl_plain_text⟩)
    (c_plain_text : PySem.W.codeIn K cd_plain_text "plain_text" = true)
    (k_plain_text : PySem.W.keepIn K (.ref f_plain_text) = true)
    (a_word_end : PySem.W.nsIn K mainGlobals "word_end" = some (some (.ref f_word_end)))
    (l_word_end : K.lookup f_word_end = some ⟨oc_word_end, od_word_end, .func (PySem.W.fnOf "word_end" "word_end" (defArgs s_word_end) (defBody s_word_end) (defScope s_word_end) .none kV_word_end dc_word_end pm_word_end an_word_end cd_word_end ct_word_end), sl_word_end⟩)
    (c_word_end : PySem.W.codeIn K cd_word_end "word_end" = true)
    (k_word_end : PySem.W.keepIn K (.ref f_word_end) = true)
    (a_is_digits : PySem.W.nsIn K mainGlobals "is_digits" = some (some (.ref f_is_digits)))
    (l_is_digits : K.lookup f_is_digits = some ⟨oc_is_digits, od_is_digits, .func (PySem.W.fnOf "is_digits" "is_digits" (defArgs s_is_digits) (defBody s_is_digits) (defScope s_is_digits) .none kV_is_digits dc_is_digits pm_is_digits an_is_digits cd_is_digits ct_is_digits), sl_is_digits⟩)
    (c_is_digits : PySem.W.codeIn K cd_is_digits "is_digits" = true)
    (k_is_digits : PySem.W.keepIn K (.ref f_is_digits) = true)
    (a_word_at : PySem.W.nsIn K mainGlobals "word_at" = some (some (.ref f_word_at)))
    (l_word_at : K.lookup f_word_at = some ⟨oc_word_at, od_word_at, .func (PySem.W.fnOf "word_at" "word_at" (defArgs s_word_at) (defBody s_word_at) (defScope s_word_at) .none kV_word_at dc_word_at pm_word_at an_word_at cd_word_at ct_word_at), sl_word_at⟩)
    (c_word_at : PySem.W.codeIn K cd_word_at "word_at" = true)
    (k_word_at : PySem.W.keepIn K (.ref f_word_at) = true)
    (a_tuple_at : PySem.W.nsIn K mainGlobals "tuple_at" = some (some (.ref f_tuple_at)))
    (l_tuple_at : K.lookup f_tuple_at = some ⟨oc_tuple_at, od_tuple_at, .func (PySem.W.fnOf "tuple_at" "tuple_at" (defArgs s_tuple_at) (defBody s_tuple_at) (defScope s_tuple_at) .none kV_tuple_at dc_tuple_at pm_tuple_at an_tuple_at cd_tuple_at ct_tuple_at), sl_tuple_at⟩)
    (c_tuple_at : PySem.W.codeIn K cd_tuple_at "tuple_at" = true)
    (k_tuple_at : PySem.W.keepIn K (.ref f_tuple_at) = true)
    (a_thing_at : PySem.W.nsIn K mainGlobals "thing_at" = some (some (.ref f_thing_at)))
    (l_thing_at : K.lookup f_thing_at = some ⟨oc_thing_at, od_thing_at, .func (PySem.W.fnOf "thing_at" "thing_at" (defArgs s_thing_at) (defBody s_thing_at) (defScope s_thing_at) (.ref T_thing_at) kV_thing_at dc_thing_at pm_thing_at an_thing_at cd_thing_at ct_thing_at), sl_thing_at⟩)
    (c_thing_at : PySem.W.codeIn K cd_thing_at "thing_at" = true)
    (k_thing_at : PySem.W.keepIn K (.ref f_thing_at) = true)
    (t_thing_at : K.lookup T_thing_at = some ⟨.type "tuple", oT_thing_at, .seq #[.int 40 tk37] nT_thing_at, sT_thing_at⟩)
    (a_things_in : PySem.W.nsIn K mainGlobals "things_in" = some (some (.ref f_things_in)))
    (l_things_in : K.lookup f_things_in = some ⟨oc_things_in, od_things_in, .func (PySem.W.fnOf "things_in" "things_in" (defArgs s_things_in) (defBody s_things_in) (defScope s_things_in) .none kV_things_in dc_things_in pm_things_in an_things_in cd_things_in ct_things_in), sl_things_in⟩)
    (c_things_in : PySem.W.codeIn K cd_things_in "things_in" = true)
    (k_things_in : PySem.W.keepIn K (.ref f_things_in) = true)
    (a_read_plain : PySem.W.nsIn K mainGlobals "read_plain" = some (some (.ref f_read_plain)))
    (l_read_plain : K.lookup f_read_plain = some ⟨oc_read_plain, od_read_plain, .func (PySem.W.fnOf "read_plain" "read_plain" (defArgs s_read_plain) (defBody s_read_plain) (defScope s_read_plain) .none kV_read_plain dc_read_plain pm_read_plain an_read_plain cd_read_plain ct_read_plain), sl_read_plain⟩)
    (c_read_plain : PySem.W.codeIn K cd_read_plain "read_plain" = true)
    (k_read_plain : PySem.W.keepIn K (.ref f_read_plain) = true)
    (a_are_events : PySem.W.nsIn K mainGlobals "are_events" = some (some (.ref f_are_events)))
    (l_are_events : K.lookup f_are_events = some ⟨oc_are_events, od_are_events, .func (PySem.W.fnOf "are_events" "are_events" (defArgs s_are_events) (defBody s_are_events) (defScope s_are_events) .none kV_are_events dc_are_events pm_are_events an_are_events cd_are_events ct_are_events), sl_are_events⟩)
    (c_are_events : PySem.W.codeIn K cd_are_events "are_events" = true)
    (k_are_events : PySem.W.keepIn K (.ref f_are_events) = true)
    (a_is_start : PySem.W.nsIn K mainGlobals "is_start" = some (some (.ref f_is_start)))
    (l_is_start : K.lookup f_is_start = some ⟨oc_is_start, od_is_start, .func (PySem.W.fnOf "is_start" "is_start" (defArgs s_is_start) (defBody s_is_start) (defScope s_is_start) .none kV_is_start dc_is_start pm_is_start an_is_start cd_is_start ct_is_start), sl_is_start⟩)
    (c_is_start : PySem.W.codeIn K cd_is_start "is_start" = true)
    (k_is_start : PySem.W.keepIn K (.ref f_is_start) = true)
    (a_is_paper : PySem.W.nsIn K mainGlobals "is_paper" = some (some (.ref f_is_paper)))
    (l_is_paper : K.lookup f_is_paper = some ⟨oc_is_paper, od_is_paper, .func (PySem.W.fnOf "is_paper" "is_paper" (defArgs s_is_paper) (defBody s_is_paper) (defScope s_is_paper) .none kV_is_paper dc_is_paper pm_is_paper an_is_paper cd_is_paper ct_is_paper), sl_is_paper⟩)
    (c_is_paper : PySem.W.codeIn K cd_is_paper "is_paper" = true)
    (k_is_paper : PySem.W.keepIn K (.ref f_is_paper) = true)
    (a_is_word_of : PySem.W.nsIn K mainGlobals "is_word_of" = some (some (.ref f_is_word_of)))
    (l_is_word_of : K.lookup f_is_word_of = some ⟨oc_is_word_of, od_is_word_of, .func (PySem.W.fnOf "is_word_of" "is_word_of" (defArgs s_is_word_of) (defBody s_is_word_of) (defScope s_is_word_of) .none kV_is_word_of dc_is_word_of pm_is_word_of an_is_word_of cd_is_word_of ct_is_word_of), sl_is_word_of⟩)
    (c_is_word_of : PySem.W.codeIn K cd_is_word_of "is_word_of" = true)
    (k_is_word_of : PySem.W.keepIn K (.ref f_is_word_of) = true)
    (a_is_claim : PySem.W.nsIn K mainGlobals "is_claim" = some (some (.ref f_is_claim)))
    (l_is_claim : K.lookup f_is_claim = some ⟨oc_is_claim, od_is_claim, .func (PySem.W.fnOf "is_claim" "is_claim" (defArgs s_is_claim) (defBody s_is_claim) (defScope s_is_claim) .none kV_is_claim dc_is_claim pm_is_claim an_is_claim cd_is_claim ct_is_claim), sl_is_claim⟩)
    (c_is_claim : PySem.W.codeIn K cd_is_claim "is_claim" = true)
    (k_is_claim : PySem.W.keepIn K (.ref f_is_claim) = true)
    (a_bare_words : PySem.W.nsIn K mainGlobals "bare_words" = some (some (.ref f_bare_words)))
    (l_bare_words : K.lookup f_bare_words = some ⟨oc_bare_words, od_bare_words, .func (PySem.W.fnOf "bare_words" "bare_words" (defArgs s_bare_words) (defBody s_bare_words) (defScope s_bare_words) .none kV_bare_words dc_bare_words pm_bare_words an_bare_words cd_bare_words ct_bare_words), sl_bare_words⟩)
    (c_bare_words : PySem.W.codeIn K cd_bare_words "bare_words" = true)
    (k_bare_words : PySem.W.keepIn K (.ref f_bare_words) = true)
    (a_claim_text : PySem.W.nsIn K mainGlobals "claim_text" = some (some (.ref f_claim_text)))
    (l_claim_text : K.lookup f_claim_text = some ⟨oc_claim_text, od_claim_text, .func (PySem.W.fnOf "claim_text" "claim_text" (defArgs s_claim_text) (defBody s_claim_text) (defScope s_claim_text) .none kV_claim_text dc_claim_text pm_claim_text an_claim_text cd_claim_text ct_claim_text), sl_claim_text⟩)
    (c_claim_text : PySem.W.codeIn K cd_claim_text "claim_text" = true)
    (k_claim_text : PySem.W.keepIn K (.ref f_claim_text) = true)
    (a_read_claim : PySem.W.nsIn K mainGlobals "read_claim" = some (some (.ref f_read_claim)))
    (l_read_claim : K.lookup f_read_claim = some ⟨oc_read_claim, od_read_claim, .func (PySem.W.fnOf "read_claim" "read_claim" (defArgs s_read_claim) (defBody s_read_claim) (defScope s_read_claim) .none kV_read_claim dc_read_claim pm_read_claim an_read_claim cd_read_claim ct_read_claim), sl_read_claim⟩)
    (c_read_claim : PySem.W.codeIn K cd_read_claim "read_claim" = true)
    (k_read_claim : PySem.W.keepIn K (.ref f_read_claim) = true)
    (a__law_seed : PySem.W.nsIn K mainGlobals "_law_seed" = some (some (.ref f__law_seed)))
    (l__law_seed : K.lookup f__law_seed = some ⟨oc__law_seed, od__law_seed, .func (PySem.W.fnOf "_law_seed" "_law_seed" (defArgs s__law_seed) (defBody s__law_seed) (defScope s__law_seed) .none kV__law_seed dc__law_seed pm__law_seed an__law_seed cd__law_seed ct__law_seed), sl__law_seed⟩)
    (c__law_seed : PySem.W.codeIn K cd__law_seed "_law_seed" = true)
    (k__law_seed : PySem.W.keepIn K (.ref f__law_seed) = true)
    (a__law_choose : PySem.W.nsIn K mainGlobals "_law_choose" = some (some (.ref f__law_choose)))
    (l__law_choose : K.lookup f__law_choose = some ⟨oc__law_choose, od__law_choose, .func (PySem.W.fnOf "_law_choose" "_law_choose" (defArgs s__law_choose) (defBody s__law_choose) (defScope s__law_choose) .none kV__law_choose dc__law_choose pm__law_choose an__law_choose cd__law_choose ct__law_choose), sl__law_choose⟩)
    (c__law_choose : PySem.W.codeIn K cd__law_choose "_law_choose" = true)
    (k__law_choose : PySem.W.keepIn K (.ref f__law_choose) = true)
    (a__law_one_of : PySem.W.nsIn K mainGlobals "_law_one_of" = some (some (.ref f__law_one_of)))
    (l__law_one_of : K.lookup f__law_one_of = some ⟨oc__law_one_of, od__law_one_of, .func (PySem.W.fnOf "_law_one_of" "_law_one_of" (defArgs s__law_one_of) (defBody s__law_one_of) (defScope s__law_one_of) .none kV__law_one_of dc__law_one_of pm__law_one_of an__law_one_of cd__law_one_of ct__law_one_of), sl__law_one_of⟩)
    (c__law_one_of : PySem.W.codeIn K cd__law_one_of "_law_one_of" = true)
    (k__law_one_of : PySem.W.keepIn K (.ref f__law_one_of) = true)
    (a__law_plain : PySem.W.nsIn K mainGlobals "_law_plain" = some (some (.ref f__law_plain)))
    (l__law_plain : K.lookup f__law_plain = some ⟨oc__law_plain, od__law_plain, .func (PySem.W.fnOf "_law_plain" "_law_plain" (defArgs s__law_plain) (defBody s__law_plain) (defScope s__law_plain) .none kV__law_plain dc__law_plain pm__law_plain an__law_plain cd__law_plain ct__law_plain), sl__law_plain⟩)
    (c__law_plain : PySem.W.codeIn K cd__law_plain "_law_plain" = true)
    (k__law_plain : PySem.W.keepIn K (.ref f__law_plain) = true)
    (a__law_plain_text : PySem.W.nsIn K mainGlobals "_law_plain_text" = some (some (.ref f__law_plain_text)))
    (l__law_plain_text : K.lookup f__law_plain_text = some ⟨oc__law_plain_text, od__law_plain_text, .func (PySem.W.fnOf "_law_plain_text" "_law_plain_text" (defArgs s__law_plain_text) (defBody s__law_plain_text) (defScope s__law_plain_text) .none kV__law_plain_text dc__law_plain_text pm__law_plain_text an__law_plain_text cd__law_plain_text ct__law_plain_text), sl__law_plain_text⟩)
    (c__law_plain_text : PySem.W.codeIn K cd__law_plain_text "_law_plain_text" = true)
    (k__law_plain_text : PySem.W.keepIn K (.ref f__law_plain_text) = true)
    (a__law_claim_text : PySem.W.nsIn K mainGlobals "_law_claim_text" = some (some (.ref f__law_claim_text)))
    (l__law_claim_text : K.lookup f__law_claim_text = some ⟨oc__law_claim_text, od__law_claim_text, .func (PySem.W.fnOf "_law_claim_text" "_law_claim_text" (defArgs s__law_claim_text) (defBody s__law_claim_text) (defScope s__law_claim_text) .none kV__law_claim_text dc__law_claim_text pm__law_claim_text an__law_claim_text cd__law_claim_text ct__law_claim_text), sl__law_claim_text⟩)
    (c__law_claim_text : PySem.W.codeIn K cd__law_claim_text "_law_claim_text" = true)
    (k__law_claim_text : PySem.W.keepIn K (.ref f__law_claim_text) = true)
    (a__law_some_events : PySem.W.nsIn K mainGlobals "_law_some_events" = some (some (.ref f__law_some_events)))
    (l__law_some_events : K.lookup f__law_some_events = some ⟨oc__law_some_events, od__law_some_events, .func (PySem.W.fnOf "_law_some_events" "_law_some_events" (defArgs s__law_some_events) (defBody s__law_some_events) (defScope s__law_some_events) .none kV__law_some_events dc__law_some_events pm__law_some_events an__law_some_events cd__law_some_events ct__law_some_events), sl__law_some_events⟩)
    (c__law_some_events : PySem.W.codeIn K cd__law_some_events "_law_some_events" = true)
    (k__law_some_events : PySem.W.keepIn K (.ref f__law_some_events) = true)
    (a__law_claim : PySem.W.nsIn K mainGlobals "_law_claim" = some (some (.ref f__law_claim)))
    (l__law_claim : K.lookup f__law_claim = some ⟨oc__law_claim, od__law_claim, .func (PySem.W.fnOf "_law_claim" "_law_claim" (defArgs s__law_claim) (defBody s__law_claim) (defScope s__law_claim) .none kV__law_claim dc__law_claim pm__law_claim an__law_claim cd__law_claim ct__law_claim), sl__law_claim⟩)
    (c__law_claim : PySem.W.codeIn K cd__law_claim "_law_claim" = true)
    (k__law_claim : PySem.W.keepIn K (.ref f__law_claim) = true)
    (a__law_read : PySem.W.nsIn K mainGlobals "_law_read" = some (some (.ref f__law_read)))
    (l__law_read : K.lookup f__law_read = some ⟨oc__law_read, od__law_read, .func (PySem.W.fnOf "_law_read" "_law_read" (defArgs s__law_read) (defBody s__law_read) (defScope s__law_read) .none kV__law_read dc__law_read pm__law_read an__law_read cd__law_read ct__law_read), sl__law_read⟩)
    (c__law_read : PySem.W.codeIn K cd__law_read "_law_read" = true)
    (k__law_read : PySem.W.keepIn K (.ref f__law_read) = true)
    (a__law_bent : PySem.W.nsIn K mainGlobals "_law_bent" = some (some (.ref f__law_bent)))
    (l__law_bent : K.lookup f__law_bent = some ⟨oc__law_bent, od__law_bent, .func (PySem.W.fnOf "_law_bent" "_law_bent" (defArgs s__law_bent) (defBody s__law_bent) (defScope s__law_bent) .none kV__law_bent dc__law_bent pm__law_bent an__law_bent cd__law_bent ct__law_bent), sl__law_bent⟩)
    (c__law_bent : PySem.W.codeIn K cd__law_bent "_law_bent" = true)
    (k__law_bent : PySem.W.keepIn K (.ref f__law_bent) = true)
    (a__law_is_same : PySem.W.nsIn K mainGlobals "_law_is_same" = some (some (.ref f__law_is_same)))
    (l__law_is_same : K.lookup f__law_is_same = some ⟨oc__law_is_same, od__law_is_same, .func (PySem.W.fnOf "_law_is_same" "_law_is_same" (defArgs s__law_is_same) (defBody s__law_is_same) (defScope s__law_is_same) .none kV__law_is_same dc__law_is_same pm__law_is_same an__law_is_same cd__law_is_same ct__law_is_same), sl__law_is_same⟩)
    (c__law_is_same : PySem.W.codeIn K cd__law_is_same "_law_is_same" = true)
    (k__law_is_same : PySem.W.keepIn K (.ref f__law_is_same) = true)
    (a__law_odd : PySem.W.nsIn K mainGlobals "_law_odd" = some (some (.ref f__law_odd)))
    (l__law_odd : K.lookup f__law_odd = some ⟨oc__law_odd, od__law_odd, .func (PySem.W.fnOf "_law_odd" "_law_odd" (defArgs s__law_odd) (defBody s__law_odd) (defScope s__law_odd) .none kV__law_odd dc__law_odd pm__law_odd an__law_odd cd__law_odd ct__law_odd), sl__law_odd⟩)
    (c__law_odd : PySem.W.codeIn K cd__law_odd "_law_odd" = true)
    (k__law_odd : PySem.W.keepIn K (.ref f__law_odd) = true)
    (a_law : PySem.W.nsIn K mainGlobals "law" = some (some (.ref f_law)))
    (l_law : K.lookup f_law = some ⟨oc_law, od_law, .func (PySem.W.fnOf "law" "law" (defArgs s_law) (defBody s_law) (defScope s_law) .none kV_law dc_law pm_law an_law cd_law ct_law), sl_law⟩)
    (c_law : PySem.W.codeIn K cd_law "law" = true)
    (k_law : PySem.W.keepIn K (.ref f_law) = true) : ∃ fd : FuncData, (∀ (s : Shared) (u : Value), BindsTo s fd ⟨[u], []⟩ [("_law_script", u)]) ∧ ∀ base : Heap, K.In base → base.Ns mainGlobals mg → FnG P w K mg base 100 fa fd ["_law_script"] (spLaw K) := by
  have e := hfa.symm.trans (PySem.W.mg_of X G a_law)
  cases e
  exact ⟨(PySem.W.fnOf "law" "law" (defArgs s_law) (defBody s_law) (defScope s_law) .none kV_law dc_law pm_law an_law cd_law ct_law), fun s v => .of_eq rfl, fun base _ _ => ok_law (tx_mk X G n_len n_all n_any n_isinstance n_int n_str n_bool n_tuple n_list n_range n_abs n_max n_min n_repr k_LETTERS k_DIGITS k_BARRED_words q_BARRED_words k_HARMS q_HARMS k_ALONE q_ALONE k_NUMBERED q_NUMBERED k_BARRED_plainthings q_BARRED_plainthings d_FIXED q_FIXED l_FIXED y_FIXED r_FIXED k_CALM q_CALM d_WIDTHS q_WIDTHS l_WIDTHS y_WIDTHS r_WIDTHS a_is_integer l_is_integer c_is_integer k_is_integer a_is_number l_is_number c_is_number k_is_number a_is_name l_is_name c_is_name k_is_name a_number_in l_number_in c_number_in k_number_in t_number_in a_words_of l_words_of c_words_of k_words_of a_is_plain l_is_plain c_is_plain k_is_plain t_is_plain a_plain_text l_plain_text c_plain_text k_plain_text a_word_end l_word_end c_word_end k_word_end a_is_digits l_is_digits c_is_digits k_is_digits a_word_at l_word_at c_word_at k_word_at a_tuple_at l_tuple_at c_tuple_at k_tuple_at a_thing_at l_thing_at c_thing_at k_thing_at t_thing_at a_things_in l_things_in c_things_in k_things_in a_read_plain l_read_plain c_read_plain k_read_plain a_are_events l_are_events c_are_events k_are_events a_is_start l_is_start c_is_start k_is_start a_is_paper l_is_paper c_is_paper k_is_paper a_is_word_of l_is_word_of c_is_word_of k_is_word_of a_is_claim l_is_claim c_is_claim k_is_claim a_bare_words l_bare_words c_bare_words k_bare_words a_claim_text l_claim_text c_claim_text k_claim_text a_read_claim l_read_claim c_read_claim k_read_claim a__law_seed l__law_seed c__law_seed k__law_seed a__law_choose l__law_choose c__law_choose k__law_choose a__law_one_of l__law_one_of c__law_one_of k__law_one_of a__law_plain l__law_plain c__law_plain k__law_plain a__law_plain_text l__law_plain_text c__law_plain_text k__law_plain_text a__law_claim_text l__law_claim_text c__law_claim_text k__law_claim_text a__law_some_events l__law_some_events c__law_some_events k__law_some_events a__law_claim l__law_claim c__law_claim k__law_claim a__law_read l__law_read c__law_read k__law_read a__law_bent l__law_bent c__law_bent k__law_bent a__law_is_same l__law_is_same c__law_is_same k__law_is_same a__law_odd l__law_odd c__law_odd k__law_odd a_law l_law c_law k_law) TE⟩
end K88
open PySem PySem.W PyProof.Rows
set_option maxHeartbeats 0 in
theorem PySem.Challenge.cw_asneverbegun_k88_texts_of_plain_things_a_holds : PySem.Challenge.rw_asneverbegun_k88_texts_of_plain_things_a.Holds := by
  w_on; o_law; k_head; (case hw => w_witness2)
  k_fill
  refine L2.walkG (l := PySem.Challenge.rw_asneverbegun_k88_texts_of_plain_things_a) (n := 63) (k := 100) (x := "_law_script") (sp := K88.spLaw) rfl (by decide) rfl ⟨rfl, by decide, by decide⟩ (fun w h Y => PySem.W.kIn_of Y) ?F (fun K H a ns hl hS => ⟨a, ns, rfl, hl, hS, fun _ => rfl⟩)
  case F =>
    intro w mg fa h KX G hmg
    refine' K88.law_mk (w := w) KX G hmg ?TE ?n_len ?n_all ?n_any ?n_isinstance ?n_int ?n_str ?n_bool ?n_tuple ?n_list ?n_range ?n_abs ?n_max ?n_min ?n_repr ?k_LETTERS ?k_DIGITS ?k_BARRED_words ?q_BARRED_words ?k_HARMS ?q_HARMS ?k_ALONE ?q_ALONE ?k_NUMBERED ?q_NUMBERED ?k_BARRED_plainthings ?q_BARRED_plainthings ?d_FIXED ?q_FIXED ?l_FIXED ?y_FIXED ?r_FIXED ?k_CALM ?q_CALM ?d_WIDTHS ?q_WIDTHS ?l_WIDTHS ?y_WIDTHS ?r_WIDTHS ?a_is_integer ?l_is_integer ?c_is_integer ?k_is_integer ?a_is_number ?l_is_number ?c_is_number ?k_is_number ?a_is_name ?l_is_name ?c_is_name ?k_is_name ?a_number_in ?l_number_in ?c_number_in ?k_number_in ?t_number_in ?a_words_of ?l_words_of ?c_words_of ?k_words_of ?a_is_plain ?l_is_plain ?c_is_plain ?k_is_plain ?t_is_plain ?a_plain_text ?l_plain_text ?c_plain_text ?k_plain_text ?a_word_end ?l_word_end ?c_word_end ?k_word_end ?a_is_digits ?l_is_digits ?c_is_digits ?k_is_digits ?a_word_at ?l_word_at ?c_word_at ?k_word_at ?a_tuple_at ?l_tuple_at ?c_tuple_at ?k_tuple_at ?a_thing_at ?l_thing_at ?c_thing_at ?k_thing_at ?t_thing_at ?a_things_in ?l_things_in ?c_things_in ?k_things_in ?a_read_plain ?l_read_plain ?c_read_plain ?k_read_plain ?a_are_events ?l_are_events ?c_are_events ?k_are_events ?a_is_start ?l_is_start ?c_is_start ?k_is_start ?a_is_paper ?l_is_paper ?c_is_paper ?k_is_paper ?a_is_word_of ?l_is_word_of ?c_is_word_of ?k_is_word_of ?a_is_claim ?l_is_claim ?c_is_claim ?k_is_claim ?a_bare_words ?l_bare_words ?c_bare_words ?k_bare_words ?a_claim_text ?l_claim_text ?c_claim_text ?k_claim_text ?a_read_claim ?l_read_claim ?c_read_claim ?k_read_claim ?a__law_seed ?l__law_seed ?c__law_seed ?k__law_seed ?a__law_choose ?l__law_choose ?c__law_choose ?k__law_choose ?a__law_one_of ?l__law_one_of ?c__law_one_of ?k__law_one_of ?a__law_plain ?l__law_plain ?c__law_plain ?k__law_plain ?a__law_plain_text ?l__law_plain_text ?c__law_plain_text ?k__law_plain_text ?a__law_claim_text ?l__law_claim_text ?c__law_claim_text ?k__law_claim_text ?a__law_some_events ?l__law_some_events ?c__law_some_events ?k__law_some_events ?a__law_claim ?l__law_claim ?c__law_claim ?k__law_claim ?a__law_read ?l__law_read ?c__law_read ?k__law_read ?a__law_bent ?l__law_bent ?c__law_bent ?k__law_bent ?a__law_is_same ?l__law_is_same ?c__law_is_same ?k__law_is_same ?a__law_odd ?l__law_odd ?c__law_odd ?k__law_odd ?a_law ?l_law ?c_law ?k_law
    case TE =>
      refine' K88.txe_mk KX G ?xmC ?xmW ?xiC ?xlI ?xcI ?xlc ?xv2 ?xfil ?xlcc ?xlC ?xhbm ?xsa ?xexC ?xtyC ?xkC ?xnoat ?xsup ?xth ?xalong ?xisB ?xself ?xtop ?xtI ?xga ?xgg ?xhd ?xca ?xcn ?xck ?xcm ?xexm ?xkit
      (case xmC => k_is)
      (case xmW => k_is)
      (case xiC => k_is)
      (case xlI => k_is)
      (case xcI => k_is)
      (case xlc => k_is)
      (case xv2 => rfl)
      (case xfil => first | rfl | decide +kernel)
      (case xlcc => k_is)
      (case xlC => k_is)
      (case xhbm => first | rfl | decide)
      (case xsa => k_is)
      (case xexC => k_is)
      (case xtyC => k_is)
      (case xkC => k_is)
      (case xnoat => k_is)
      (case xsup => k_is)
      (case xth => k_is)
      (case xalong => ks_is)
      (case xisB => k_is)
      (case xself => k_is)
      (case xtop => first | rfl | decide +kernel)
      (case xtI => k_is)
      (case xga => k_is)
      (case xgg => k_is)
      (case xhd => k_is)
      (case xca => k_is)
      (case xcn => k_is)
      (case xck => k_is)
      (case xcm => k_is)
      (case xexm => kts_exm)
      (case xkit => kit_is)
    (case n_len => k_is)
    (case n_all => k_is)
    (case n_any => k_is)
    (case n_isinstance => k_is)
    (case n_int => k_is)
    (case n_str => k_is)
    (case n_bool => k_is)
    (case n_tuple => k_is)
    (case n_list => k_is)
    (case n_range => k_is)
    (case n_abs => k_is)
    (case n_max => k_is)
    (case n_min => k_is)
    (case n_repr => k_is)
    (case k_LETTERS => k_is)
    (case k_DIGITS => k_is)
    (case k_BARRED_words => k_is)
    (case q_BARRED_words => k_is)
    (case k_HARMS => k_is)
    (case q_HARMS => k_is)
    (case k_ALONE => k_is)
    (case q_ALONE => k_is)
    (case k_NUMBERED => k_is)
    (case q_NUMBERED => k_is)
    (case k_BARRED_plainthings => k_is)
    (case q_BARRED_plainthings => k_is)
    (case d_FIXED => k_is)
    (case q_FIXED => k_is)
    (case l_FIXED => exact ⟨⟨_, _, rfl, rfl⟩, ⟨⟨_, _, rfl, rfl⟩, ⟨⟨_, _, rfl, rfl⟩, trivial⟩⟩⟩)
    (case y_FIXED => first | rfl | decide)
    (case r_FIXED => exact .cons ⟨⟨_, rfl⟩, .bl true, rfl, fun _ => .bl _⟩ (.cons ⟨⟨_, rfl⟩, .bl false, rfl, fun _ => .bl _⟩ (.cons ⟨⟨_, rfl⟩, .non, rfl, fun _ => .non⟩ (.nil))))
    (case k_CALM => k_is)
    (case q_CALM => k_is)
    (case d_WIDTHS => k_is)
    (case q_WIDTHS => k_is)
    (case l_WIDTHS => exact ⟨⟨_, _, rfl, rfl⟩, ⟨⟨_, _, rfl, rfl⟩, ⟨⟨_, _, rfl, rfl⟩, ⟨⟨_, _, rfl, rfl⟩, ⟨⟨_, _, rfl, rfl⟩, trivial⟩⟩⟩⟩⟩)
    (case y_WIDTHS => first | rfl | decide)
    (case r_WIDTHS => exact .cons ⟨⟨_, rfl⟩, .int 6, ⟨_, rfl⟩, fun _ => .int _⟩ (.cons ⟨⟨_, rfl⟩, .int 6, ⟨_, rfl⟩, fun _ => .int _⟩ (.cons ⟨⟨_, rfl⟩, .int 5, ⟨_, rfl⟩, fun _ => .int _⟩ (.cons ⟨⟨_, rfl⟩, .int 3, ⟨_, rfl⟩, fun _ => .int _⟩ (.cons ⟨⟨_, rfl⟩, .int 4, ⟨_, rfl⟩, fun _ => .int _⟩ (.nil))))))
    (case a_is_integer => k_is)
    (case l_is_integer => k_is)
    (case c_is_integer => k_is)
    (case k_is_integer => k_is)
    (case a_is_number => k_is)
    (case l_is_number => k_is)
    (case c_is_number => k_is)
    (case k_is_number => k_is)
    (case a_is_name => k_is)
    (case l_is_name => k_is)
    (case c_is_name => k_is)
    (case k_is_name => k_is)
    (case a_number_in => k_is)
    (case l_number_in => k_is)
    (case c_number_in => k_is)
    (case k_number_in => k_is)
    (case t_number_in => k_is)
    (case a_words_of => k_is)
    (case l_words_of => k_is)
    (case c_words_of => k_is)
    (case k_words_of => k_is)
    (case a_is_plain => k_is)
    (case l_is_plain => k_is)
    (case c_is_plain => k_is)
    (case k_is_plain => k_is)
    (case t_is_plain => k_is)
    (case a_plain_text => k_is)
    (case l_plain_text => k_is)
    (case c_plain_text => k_is)
    (case k_plain_text => k_is)
    (case a_word_end => k_is)
    (case l_word_end => k_is)
    (case c_word_end => k_is)
    (case k_word_end => k_is)
    (case a_is_digits => k_is)
    (case l_is_digits => k_is)
    (case c_is_digits => k_is)
    (case k_is_digits => k_is)
    (case a_word_at => k_is)
    (case l_word_at => k_is)
    (case c_word_at => k_is)
    (case k_word_at => k_is)
    (case a_tuple_at => k_is)
    (case l_tuple_at => k_is)
    (case c_tuple_at => k_is)
    (case k_tuple_at => k_is)
    (case a_thing_at => k_is)
    (case l_thing_at => k_is)
    (case c_thing_at => k_is)
    (case k_thing_at => k_is)
    (case t_thing_at => k_is)
    (case a_things_in => k_is)
    (case l_things_in => k_is)
    (case c_things_in => k_is)
    (case k_things_in => k_is)
    (case a_read_plain => k_is)
    (case l_read_plain => k_is)
    (case c_read_plain => k_is)
    (case k_read_plain => k_is)
    (case a_are_events => k_is)
    (case l_are_events => k_is)
    (case c_are_events => k_is)
    (case k_are_events => k_is)
    (case a_is_start => k_is)
    (case l_is_start => k_is)
    (case c_is_start => k_is)
    (case k_is_start => k_is)
    (case a_is_paper => k_is)
    (case l_is_paper => k_is)
    (case c_is_paper => k_is)
    (case k_is_paper => k_is)
    (case a_is_word_of => k_is)
    (case l_is_word_of => k_is)
    (case c_is_word_of => k_is)
    (case k_is_word_of => k_is)
    (case a_is_claim => k_is)
    (case l_is_claim => k_is)
    (case c_is_claim => k_is)
    (case k_is_claim => k_is)
    (case a_bare_words => k_is)
    (case l_bare_words => k_is)
    (case c_bare_words => k_is)
    (case k_bare_words => k_is)
    (case a_claim_text => k_is)
    (case l_claim_text => k_is)
    (case c_claim_text => k_is)
    (case k_claim_text => k_is)
    (case a_read_claim => k_is)
    (case l_read_claim => k_is)
    (case c_read_claim => k_is)
    (case k_read_claim => k_is)
    (case a__law_seed => k_is)
    (case l__law_seed => k_is)
    (case c__law_seed => k_is)
    (case k__law_seed => k_is)
    (case a__law_choose => k_is)
    (case l__law_choose => k_is)
    (case c__law_choose => k_is)
    (case k__law_choose => k_is)
    (case a__law_one_of => k_is)
    (case l__law_one_of => k_is)
    (case c__law_one_of => k_is)
    (case k__law_one_of => k_is)
    (case a__law_plain => k_is)
    (case l__law_plain => k_is)
    (case c__law_plain => k_is)
    (case k__law_plain => k_is)
    (case a__law_plain_text => k_is)
    (case l__law_plain_text => k_is)
    (case c__law_plain_text => k_is)
    (case k__law_plain_text => k_is)
    (case a__law_claim_text => k_is)
    (case l__law_claim_text => k_is)
    (case c__law_claim_text => k_is)
    (case k__law_claim_text => k_is)
    (case a__law_some_events => k_is)
    (case l__law_some_events => k_is)
    (case c__law_some_events => k_is)
    (case k__law_some_events => k_is)
    (case a__law_claim => k_is)
    (case l__law_claim => k_is)
    (case c__law_claim => k_is)
    (case k__law_claim => k_is)
    (case a__law_read => k_is)
    (case l__law_read => k_is)
    (case c__law_read => k_is)
    (case k__law_read => k_is)
    (case a__law_bent => k_is)
    (case l__law_bent => k_is)
    (case c__law_bent => k_is)
    (case k__law_bent => k_is)
    (case a__law_is_same => k_is)
    (case l__law_is_same => k_is)
    (case c__law_is_same => k_is)
    (case k__law_is_same => k_is)
    (case a__law_odd => k_is)
    (case l__law_odd => k_is)
    (case c__law_odd => k_is)
    (case k__law_odd => k_is)
    (case a_law => k_is)
    (case l_law => k_is)
    (case c_law => k_is)
    (case k_law => k_is)
