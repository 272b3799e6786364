import PyProof.Rows.All
import Wide.All
import OpenK.AllK
import Wide.FinOn
import HandS.ForMost
import HandS.ForExc
import HandS.Wide
import HandS.IsInst
import HandS.ExcValue
import HandS.ExcIs
import HandS.Flow
import HandS.More
import HandS.TryOnly
import PySem.Challenge.RW_glide_k04_a_spot
set_option Elab.async false
set_option linter.all false
set_option maxRecDepth 100000
set_option maxHeartbeats 4000000
/-! GD, part a: plain data over the hand layer; what an environment holds; the judgements; expressions and statements. -/
namespace GD
open PySem PySem.Spec PyProof.Rows L2

/-! ### data -/
/-- what a Python value is worth, without addresses; scr: the script; exc: an error of the program's class of that name -/
inductive D where
  | non
  | bl (b : Bool)
  | int (i : Int)
  | str (x : Str)
  | tup (ds : List D)
  | lst (ds : List D)
  | scr (ns : List Int)
  | dct (ks : List Key) (ds : List D)
  | exc (x : Str)
  | ty (n : String)
  | cls (x : Str)

/-- an error that was caught, of the class cls, at a -/
def ExK (cls : Value) (a : Addr) : HO := .ext fun h => ∃ (oe : Obj) (vs : Array Value), h.get? a = some oe ∧ Zc cls none oe ∧ oe.data = .fields vs
section
variable (K : PySem.W.Frag) (mg : Str → Option Value) (B : Hp)
mutual
/-- the value stands for the data, by the clean heap B -/
inductive Is : V → D → Prop
  | non : Is .non .non
  | bl (b : Bool) : Is (.bl b) (.bl b)
  | int (i : Int) : Is (.int i) (.int i)
  | str (x : Str) : Is (.str x) (.str x)
  | tup {a : Addr} {xs : List V} {ds : List D} (h : SqT K B a xs) (r : IsL xs ds) : Is (.ref a) (.tup ds)
  | lst {a : Addr} {xs : List V} {ds : List D} (h : B a = some (.lst xs)) (r : IsL xs ds) : Is (.ref a) (.lst ds)
  | scr {a : Addr} {ns : List Int} (h : SqL K B a (ns.map V.int)) : Is (.ref a) (.scr ns)
  | dct {a : Addr} {kvs : List (Key × V)} {ks : List Key} {ds : List D} (h : B a = some (.dK kvs)) (hk : kvs.map (·.1) = ks) (r : IsL (kvs.map (·.2)) ds) : Is (.ref a) (.dct ks ds)
  | exc {a : Addr} {x : Str} {cls : Value} (hc : mg x = some cls) (h : B a = some (ExK cls a)) : Is (.ref a) (.exc x)
  | ty (n : String) : Is (.ty n) (.ty n)
  | cls {a : Addr} {x : Str} (h : mg x = some (.ref a)) : Is (.ref a) (.cls x)
inductive IsL : List V → List D → Prop
  | nil : IsL [] []
  | cons {v : V} {vs : List V} {d : D} {ds : List D} (h : Is v d) (r : IsL vs ds) : IsL (v :: vs) (d :: ds)
end
end

theorem seqT {K : PySem.W.Frag} {H H' : Hp} {a : Addr} {xs : List V} (e : Same H H') (h : SqT K H a xs) : SqT K H' a xs := by
  rcases h with (h | ⟨o, h⟩) | h
  · exact .inl (.inl (e _ _ h))
  · exact .inl (.inr ⟨o, e _ _ h⟩)
  · exact .inr h

section
variable {K : PySem.W.Frag} {mg : Str → Option Value} {B B' : Hp}
mutual
theorem Is.mono (e : Same B B') : ∀ {v : V} {d : D}, Is K mg B v d → Is K mg B' v d
  | _, _, .non => .non
  | _, _, .bl b => .bl b
  | _, _, .int i => .int i
  | _, _, .str x => .str x
  | _, _, .tup h r => .tup (seqT e h) (IsL.mono e r)
  | _, _, .lst h r => .lst (e _ _ h) (IsL.mono e r)
  | _, _, .scr h => .scr (e.seq h)
  | _, _, .dct h k r => .dct (e _ _ h) k (IsL.mono e r)
  | _, _, .exc c h => .exc c (e _ _ h)
  | _, _, .ty n => .ty n
  | _, _, .cls h => .cls h
theorem IsL.mono (e : Same B B') : ∀ {vs : List V} {ds : List D}, IsL K mg B vs ds → IsL K mg B' vs ds
  | _, _, .nil => .nil
  | _, _, .cons h r => .cons (Is.mono e h) (IsL.mono e r)
end
theorem IsL.length : ∀ {vs : List V} {ds : List D}, IsL K mg B vs ds → vs.length = ds.length
  | _, _, .nil => rfl
  | _, _, .cons _ r => congrArg (· + 1) (IsL.length r)
theorem IsL.get : ∀ {vs : List V} {ds : List D} {i : Nat} {d : D}, IsL K mg B vs ds → ds[i]? = some d → ∃ v, vs[i]? = some v ∧ Is K mg B v d
  | _, _, _, _, .nil, e => by simp at e
  | _, _, 0, d, .cons h _, e => by
    simp at e
    subst e
    exact ⟨_, rfl, h⟩
  | _, _, i + 1, d, .cons _ r, e => by
    obtain ⟨v, h1, h2⟩ := IsL.get (i := i) (d := d) r (by simpa using e)
    exact ⟨v, by simpa using h1, h2⟩
theorem IsL.at : ∀ {vs : List V} {ds : List D} {i : Nat} {v : V}, IsL K mg B vs ds → vs[i]? = some v → ∃ d, ds[i]? = some d ∧ Is K mg B v d
  | _, _, _, _, .nil, e => by simp at e
  | _, _, 0, v, .cons h _, e => by
    simp at e
    subst e
    exact ⟨_, rfl, h⟩
  | _, _, i + 1, v, .cons _ r, e => by
    obtain ⟨d, h1, h2⟩ := IsL.at (i := i) (v := v) r (by simpa using e)
    exact ⟨d, by simpa using h1, h2⟩
theorem IsL.append : ∀ {vs ws : List V} {ds es : List D}, IsL K mg B vs ds → IsL K mg B ws es → IsL K mg B (vs ++ ws) (ds ++ es)
  | _, _, _, _, .nil, s => s
  | _, _, _, _, .cons h r, s => .cons h (IsL.append r s)
theorem IsL.take : ∀ {vs : List V} {ds : List D} (n : Nat), IsL K mg B vs ds → IsL K mg B (vs.take n) (ds.take n)
  | _, _, 0, _ => .nil
  | _, _, _ + 1, .nil => .nil
  | _, _, n + 1, .cons h r => .cons h (IsL.take n r)
theorem IsL.drop : ∀ {vs : List V} {ds : List D} (n : Nat), IsL K mg B vs ds → IsL K mg B (vs.drop n) (ds.drop n)
  | _, _, 0, r => r
  | _, _, _ + 1, .nil => .nil
  | _, _, n + 1, .cons _ r => IsL.drop n r
theorem IsL.set {v : V} {d : D} (h : Is K mg B v d) : ∀ {vs : List V} {ds : List D} (i : Nat), IsL K mg B vs ds → IsL K mg B (vs.set i v) (ds.set i d)
  | _, _, _, .nil => .nil
  | _, _, 0, .cons _ r => .cons h r
  | _, _, i + 1, .cons h' r => .cons h' (IsL.set h i r)
theorem IsL.snoc {v : V} {d : D} {vs : List V} {ds : List D} (r : IsL K mg B vs ds) (h : Is K mg B v d) : IsL K mg B (vs ++ [v]) (ds ++ [d]) := r.append (.cons h .nil)
theorem IsL.rev : ∀ {vs : List V} {ds : List D}, IsL K mg B vs ds → IsL K mg B vs.reverse ds.reverse
  | _, _, .nil => .nil
  | _, _, .cons h r => by
    rw [List.reverse_cons, List.reverse_cons]
    exact (IsL.rev r).snoc h
theorem IsL.ints : ∀ (ns : List Int), IsL K mg B (ns.map V.int) (ns.map D.int)
  | [] => .nil
  | n :: ns => .cons (.int n) (IsL.ints ns)
end

/-! ### how heaps grow -/
/-- the clean heap and the heap have grown; what the clean one did not know of the old heap it does not know now -/
structure Grow (B H B' H' : Hp) : Prop where
  bb : Same B B'
  hh : Same H H'
  bh : Same B' H'
  sep : ∀ p o, H p = some o → B p = none → B' p = none
section
variable {B H B' H' B2 H2 : Hp}
theorem Grow.refl (h : Same B H) : Grow B H B H := ⟨Same.refl _, Same.refl _, h, fun _ _ _ n => n⟩
theorem Grow.trans (a : Grow B H B' H') (b : Grow B' H' B2 H2) : Grow B H B2 H2 :=
  ⟨a.bb.trans b.bb, a.hh.trans b.hh, b.bh, fun p o e n => b.sep p o (a.hh p o e) (a.sep p o e n)⟩
/-- a new object, clean -/
theorem Grow.new {p : Addr} {o : HO} (h : Same B H) (n : H p = none) : Grow B H (upd B p o) (upd H p o) := by
  have nb : ∀ q u, B q = some u → q ≠ p := fun q u e => ne_of_none (h q u e) n
  refine ⟨fun q u e => ?_, fun q u e => ?_, fun q u e => ?_, fun q u e z => ?_⟩
  · rw [upd_ne (nb q u e)]; exact e
  · rw [upd_ne (ne_of_none e n)]; exact e
  · by_cases hq : q = p
    · subst hq; rw [upd_same] at e ⊢; exact e
    · rw [upd_ne hq] at e ⊢; exact h q u e
  · rw [upd_ne (ne_of_none e n)]; exact z
/-- a new object, one's own -/
theorem Grow.own {p : Addr} {o : HO} (h : Same B H) (n : H p = none) : Grow B H B (upd H p o) := by
  refine ⟨Same.refl _, fun q u e => ?_, fun q u e => ?_, fun _ _ _ z => z⟩
  · rw [upd_ne (ne_of_none e n)]; exact e
  · rw [upd_ne (ne_of_none (h q u e) n)]; exact h q u e
theorem Grow.freeB (g : Grow B H B' H') {p : Addr} (n : H' p = none) : B' p = none := by
  cases e : B' p with
  | none => rfl
  | some o =>
    rw [g.bh p o e] at n
    cases n
end

/-! ### environments -/
/-- a slot: unknown, data, a list of one's own -/
inductive Sl where
  | un
  | v (d : D)
  | l (ds : List D)
abbrev En := List Sl
/-- the entry: its clean heap, its heap -/
structure Wd where
  B : Hp
  H : Hp
structure EnvOk (K : PySem.W.Frag) (mg : Str → Option Value) (W : Wd) (B H : Hp) (σ : L2.St) (ρ : En) : Prop where
  gr : Grow W.B W.H B H
  len : σ.length = ρ.length
  val : ∀ (i : Nat) (d : D), ρ[i]? = some (.v d) → ∃ v, σ[i]? = some (some v) ∧ Is K mg B v d
  own : ∀ (i : Nat) (ds : List D), ρ[i]? = some (.l ds) → ∃ p xs, σ[i]? = some (some (.ref p)) ∧ H p = some (.lst xs) ∧ B p = none ∧ W.H p = none ∧ IsL K mg B xs ds
  dis : ∀ (i j : Nat) (ds es : List D) (p : Addr), ρ[i]? = some (.l ds) → ρ[j]? = some (.l es) → σ[i]? = some (some (.ref p)) → σ[j]? = some (some (.ref p)) → i = j
section
variable {K : PySem.W.Frag} {mg : Str → Option Value} {W : Wd} {B H B' H' : Hp} {σ : L2.St} {ρ : En}
theorem EnvOk.bh (E : EnvOk K mg W B H σ ρ) : Same B H := E.gr.bh
theorem EnvOk.grow (E : EnvOk K mg W B H σ ρ) (g : Grow B H B' H') : EnvOk K mg W B' H' σ ρ :=
  ⟨E.gr.trans g, E.len, fun i d e => let ⟨v, h1, h2⟩ := E.val i d e; ⟨v, h1, h2.mono g.bb⟩,
    fun i ds e => let ⟨p, xs, h1, h2, h3, h4, h5⟩ := E.own i ds e; ⟨p, xs, h1, g.hh _ _ h2, g.sep _ _ h2 h3, h4, h5.mono g.bb⟩, E.dis⟩
/-- the clean heap taken for the entry's -/
theorem EnvOk.here (E : EnvOk K mg W B H σ ρ) : EnvOk K mg ⟨B, W.H⟩ B H σ ρ :=
  ⟨⟨Same.refl _, E.gr.hh, E.gr.bh, fun _ _ _ n => n⟩, E.len, E.val, E.own, E.dis⟩
theorem EnvOk.back {B1 : Hp} (g : Grow W.B W.H B H) (E : EnvOk K mg ⟨B, W.H⟩ B' H' σ ρ) : EnvOk K mg W B' H' σ ρ :=
  ⟨⟨g.bb.trans E.gr.bb, E.gr.hh, E.gr.bh, fun p o e n => E.gr.sep p o e (g.sep p o e n)⟩, E.len, E.val, E.own, E.dis⟩
theorem get_set {α : Type} {l : List α} {i j : Nat} {x y : α} (h : (l.set i x)[j]? = some y) : (j = i ∧ y = x ∧ i < l.length) ∨ (j ≠ i ∧ l[j]? = some y) := by
  by_cases e : i = j
  · subst e
    by_cases hl : i < l.length
    · rw [List.getElem?_set_self hl] at h
      exact .inl ⟨rfl, (Option.some.inj h).symm, hl⟩
    · rw [List.getElem?_eq_none (by simpa using hl)] at h
      cases h
  · rw [List.getElem?_set_ne e] at h
    exact .inr ⟨fun z => e z.symm, h⟩
/-- a name gets a clean value -/
theorem EnvOk.set (E : EnvOk K mg W B H σ ρ) {i : Nat} {v : V} {d : D} (h : Is K mg B v d) : EnvOk K mg W B H (σ.set i (some v)) (ρ.set i (.v d)) := by
  refine ⟨E.gr, by simp [E.len], fun j e hj => ?_, fun j ds hj => ?_, fun j k ds es p hj hk h1 h2 => ?_⟩
  · rcases get_set hj with ⟨rfl, e1, hl⟩ | ⟨hne, e1⟩
    · cases e1
      exact ⟨v, by rw [List.getElem?_set_self (by rw [E.len]; exact hl)], h⟩
    · obtain ⟨u, h1, h2⟩ := E.val j e e1
      exact ⟨u, by rw [List.getElem?_set_ne (Ne.symm hne)]; exact h1, h2⟩
  · rcases get_set hj with ⟨_, e1, _⟩ | ⟨hne, e1⟩
    · cases e1
    · obtain ⟨p, xs, h1, h2⟩ := E.own j ds e1
      exact ⟨p, xs, by rw [List.getElem?_set_ne (Ne.symm hne)]; exact h1, h2⟩
  · rcases get_set hj with ⟨_, e1, _⟩ | ⟨n1, e1⟩
    · cases e1
    · rcases get_set hk with ⟨_, e2, _⟩ | ⟨n2, e2⟩
      · cases e2
      · rw [List.getElem?_set_ne (Ne.symm n1)] at h1
        rw [List.getElem?_set_ne (Ne.symm n2)] at h2
        exact E.dis j k ds es p e1 e2 h1 h2
/-- a name gets a new list of its own -/
theorem EnvOk.setL (E : EnvOk K mg W B H σ ρ) {i : Nat} {p : Addr} {xs : List V} {ds : List D} (hp : H p = some (.lst xs)) (nb : B p = none) (nw : W.H p = none)
    (nn : ∀ (j : Nat) (es : List D), ρ[j]? = some (.l es) → j ≠ i → σ[j]? ≠ some (some (.ref p))) (h : IsL K mg B xs ds) : EnvOk K mg W B H (σ.set i (some (.ref p))) (ρ.set i (.l ds)) := by
  refine ⟨E.gr, by simp [E.len], fun j e hj => ?_, fun j es hj => ?_, fun j k es fs q hj hk h1 h2 => ?_⟩
  · rcases get_set hj with ⟨_, e1, _⟩ | ⟨hne, e1⟩
    · cases e1
    · obtain ⟨u, h1, h2⟩ := E.val j e e1
      exact ⟨u, by rw [List.getElem?_set_ne (Ne.symm hne)]; exact h1, h2⟩
  · rcases get_set hj with ⟨rfl, e1, hl⟩ | ⟨hne, e1⟩
    · cases e1
      exact ⟨p, xs, by rw [List.getElem?_set_self (by rw [E.len]; exact hl)], hp, nb, nw, h⟩
    · obtain ⟨q, ys, h1, h2⟩ := E.own j es e1
      exact ⟨q, ys, by rw [List.getElem?_set_ne (Ne.symm hne)]; exact h1, h2⟩
  · rcases get_set hj with ⟨rfl, e1, hl⟩ | ⟨n1, e1⟩
    · rcases get_set hk with ⟨rfl, e2, _⟩ | ⟨n2, e2⟩
      · rfl
      · rw [List.getElem?_set_self (by rw [E.len]; exact hl)] at h1
        rw [List.getElem?_set_ne (Ne.symm n2)] at h2
        cases h1
        exact absurd h2 (nn k fs e2 n2)
    · rcases get_set hk with ⟨rfl, e2, hl⟩ | ⟨n2, e2⟩
      · rw [List.getElem?_set_self (by rw [E.len]; exact hl)] at h2
        rw [List.getElem?_set_ne (Ne.symm n1)] at h1
        cases h2
        exact absurd h1 (nn j es e1 n1)
      · rw [List.getElem?_set_ne (Ne.symm n1)] at h1
        rw [List.getElem?_set_ne (Ne.symm n2)] at h2
        exact E.dis j k es fs q e1 e2 h1 h2
/-- one's own list changes -/
theorem EnvOk.mut (E : EnvOk K mg W B H σ ρ) {i : Nat} {p : Addr} {xs ys : List V} {ds es : List D} (hi : ρ[i]? = some (.l ds)) (hs : σ[i]? = some (some (.ref p))) (h : IsL K mg B ys es) :
    EnvOk K mg W B (upd H p (.lst ys)) σ (ρ.set i (.l es)) := by
  obtain ⟨p', zs, h1, h2, h3, h4, h5⟩ := E.own i ds hi
  have ep : p' = p := by
    rw [hs] at h1
    cases h1
    rfl
  subst ep
  have nb : ∀ q u, B q = some u → q ≠ p' := fun q u e z => by rw [z, h3] at e; cases e
  have nw : ∀ q u, W.H q = some u → q ≠ p' := fun q u e z => by rw [z, h4] at e; cases e
  have hl : i < ρ.length := (List.getElem?_eq_some_iff.mp hi).1
  refine ⟨⟨E.gr.bb, fun q u e => ?_, fun q u e => ?_, E.gr.sep⟩, by simp [E.len], fun j e hj => ?_, fun j fs hj => ?_, fun j k fs gs q hj hk h1 h2 => ?_⟩
  · rw [upd_ne (nw q u e)]; exact E.gr.hh q u e
  · rw [upd_ne (nb q u e)]; exact E.gr.bh q u e
  · rcases get_set hj with ⟨_, e1, _⟩ | ⟨hne, e1⟩
    · cases e1
    · exact E.val j e e1
  · rcases get_set hj with ⟨rfl, e1, _⟩ | ⟨hne, e1⟩
    · cases e1
      exact ⟨p', ys, hs, upd_same, h3, h4, h⟩
    · obtain ⟨q, zs', g1, g2, g3⟩ := E.own j fs e1
      have hq : q ≠ p' := fun z => hne (E.dis j i fs ds p' e1 hi (by rw [g1, z]) hs)
      exact ⟨q, zs', g1, by rw [upd_ne hq]; exact g2, g3⟩
  · have hj' : ∃ es, ρ[j]? = some (.l es) := by
      rcases get_set hj with ⟨rfl, _, _⟩ | ⟨_, e1⟩
      · exact ⟨_, hi⟩
      · exact ⟨_, e1⟩
    have hk' : ∃ es, ρ[k]? = some (.l es) := by
      rcases get_set hk with ⟨rfl, _, _⟩ | ⟨_, e1⟩
      · exact ⟨_, hi⟩
      · exact ⟨_, e1⟩
    obtain ⟨_, e1⟩ := hj'
    obtain ⟨_, e2⟩ := hk'
    exact E.dis j k _ _ q e1 e2 h1 h2
/-- one's own list becomes data -/
def frz (i : Nat) (ρ : En) : En := match ρ[i]? with
  | some (.l ds) => ρ.set i (.v (.lst ds))
  | _ => ρ
theorem EnvOk.frz (E : EnvOk K mg W B H σ ρ) (i : Nat) : ∃ B', EnvOk K mg W B' H σ (frz i ρ) := by
  unfold GD.frz
  split
  · rename_i ds hi
    obtain ⟨p, xs, h1, h2, h3, h4, h5⟩ := E.own i ds hi
    have nb : ∀ q u, B q = some u → q ≠ p := fun q u e z => by rw [z, h3] at e; cases e
    have bb : Same B (upd B p (.lst xs)) := fun q u e => by rw [upd_ne (nb q u e)]; exact e
    have hl : i < ρ.length := (List.getElem?_eq_some_iff.mp hi).1
    refine ⟨upd B p (.lst xs), ⟨⟨E.gr.bb.trans bb, E.gr.hh, fun q u e => ?_, fun q u e n => ?_⟩, by simp [E.len], fun j e hj => ?_, fun j fs hj => ?_, fun j k fs gs q hj hk g1 g2 => ?_⟩⟩
    · by_cases hq : q = p
      · subst hq; rw [upd_same] at e; rw [h2, e]
      · rw [upd_ne hq] at e; exact E.gr.bh q u e
    · rw [upd_ne (fun z => by rw [z, h4] at e; cases e)]
      exact E.gr.sep q u e n
    · rcases get_set hj with ⟨rfl, e1, _⟩ | ⟨hne, e1⟩
      · cases e1
        exact ⟨_, h1, .lst upd_same (h5.mono bb)⟩
      · obtain ⟨u, g1, g2⟩ := E.val j e e1
        exact ⟨u, g1, g2.mono bb⟩
    · rcases get_set hj with ⟨_, e1, _⟩ | ⟨hne, e1⟩
      · cases e1
      · obtain ⟨q, zs', g1, g2, g3, g4, g5⟩ := E.own j fs e1
        have hq : q ≠ p := fun z => hne (E.dis j i fs ds p e1 hi (by rw [g1, z]) h1)
        exact ⟨q, zs', g1, g2, by rw [upd_ne hq]; exact g3, g4, g5.mono bb⟩
    · rcases get_set hj with ⟨_, e1, _⟩ | ⟨_, e1⟩
      · cases e1
      · rcases get_set hk with ⟨_, e2, _⟩ | ⟨_, e2⟩
        · cases e2
        · exact E.dis j k _ _ q e1 e2 g1 g2
  · exact ⟨B, E⟩
/-- a slot is forgotten -/
theorem EnvOk.drop (E : EnvOk K mg W B H σ ρ) (i : Nat) {o : Option V} : EnvOk K mg W B H (σ.set i o) (ρ.set i .un) := by
  refine ⟨E.gr, by simp [E.len], fun j e hj => ?_, fun j ds hj => ?_, fun j k ds es p hj hk h1 h2 => ?_⟩
  · rcases get_set hj with ⟨_, e1, _⟩ | ⟨hne, e1⟩
    · cases e1
    · obtain ⟨u, h1, h2⟩ := E.val j e e1
      exact ⟨u, by rw [List.getElem?_set_ne (Ne.symm hne)]; exact h1, h2⟩
  · rcases get_set hj with ⟨_, e1, _⟩ | ⟨hne, e1⟩
    · cases e1
    · obtain ⟨p, xs, h1, h2⟩ := E.own j ds e1
      exact ⟨p, xs, by rw [List.getElem?_set_ne (Ne.symm hne)]; exact h1, h2⟩
  · rcases get_set hj with ⟨_, e1, _⟩ | ⟨n1, e1⟩
    · cases e1
    · rcases get_set hk with ⟨_, e2, _⟩ | ⟨n2, e2⟩
      · cases e2
      · rw [List.getElem?_set_ne (Ne.symm n1)] at h1
        rw [List.getElem?_set_ne (Ne.symm n2)] at h2
        exact E.dis j k ds es p e1 e2 h1 h2
end

/-! ### answers -/
inductive R (α : Type) where
  | ok (a : α)
  | er (x : Str)
  | st
def R.bind {α β : Type} (r : R α) (f : α → R β) : R β := match r with
  | .ok a => f a
  | .er x => .er x
  | .st => .st
def Post {α : Type} (r : R α) (P : α → Prop) (E : Str → Prop) : Prop := match r with
  | .ok a => P a
  | .er x => E x
  | .st => False
theorem Post.bind {α β : Type} {r : R α} {f : α → R β} {P : β → Prop} {E : Str → Prop} (h : Post (r.bind f) P E) : Post r (fun a => Post (f a) P E) E := by
  cases r <;> exact h
theorem Post.mono {α : Type} {r : R α} {P P' : α → Prop} {E E' : Str → Prop} (h : Post r P E) (hp : ∀ a, r = .ok a → P a → P' a) (he : ∀ x, E x → E' x) : Post r P' E' := by
  cases r with
  | ok a => exact hp a rfl h
  | er x => exact he x h
  | st => exact h
inductive Out where
  | nx (ρ : En)
  | rt (d : D)
  | bk (ρ : En)
  | ct (ρ : En)
  | er (x : Str) (ρ : En)
  | st
abbrev EM := En → R D
abbrev TM := En → R Bool
abbrev AM := En → R (List D)
abbrev SM := En → Out

/-! ### the judgements -/
def wpE (X : Cx) (e : Expr) : TE := fun σ H Q => ∃ t, PE X e t ∧ t σ H Q
def wpT (X : Cx) (e : Expr) : TT := fun σ H Q => ∃ t, PT X e t ∧ t σ H Q
def wpA (X : Cx) (es : List Expr) : TA := fun σ H Q => ∃ t, PA X es t ∧ t σ H Q
def wpS (X : Cx) (s : Stmt) : TS := fun D σ H => ∃ t, PS X s t ∧ t D σ H
def wpB (X : Cx) (ss : List Stmt) : TS := fun D σ H => ∃ t, PSs X ss t ∧ t D σ H
theorem pe_wp {X : Cx} {e : Expr} : PE X e (wpE X e) := ⟨fun pins s σ H Q I ⟨_, h, q⟩ => h.run pins s σ H Q I q⟩
theorem pt_wp {X : Cx} {e : Expr} : PT X e (wpT X e) := ⟨fun pins s σ H Q I ⟨_, h, q⟩ => h.run pins s σ H Q I q⟩
theorem pa_wp {X : Cx} {es : List Expr} : PA X es (wpA X es) := ⟨fun pos pins s σ H Q I ⟨_, h, q⟩ => h.run pos pins s σ H Q I q⟩
theorem ps_wp {X : Cx} {s : Stmt} : PS X s (wpS X s) := ⟨fun pins s σ H D I ⟨_, h, q⟩ => h.run pins s σ H D I q⟩
theorem pb_wp {X : Cx} {ss : List Stmt} : PSs X ss (wpB X ss) := ⟨fun pins s σ H D I ⟨_, h, q⟩ => h.run pins s σ H D I q⟩

def okD (X : Cx) (B H : Hp) (Q : VK) (d : D) : Prop := ∀ v B' H', Grow B H B' H' → Is X.K X.mg B' v d → Q v H'
def okT (B H : Hp) (Q : Bool → Hp → Prop) (b : Bool) : Prop := ∀ B' H', Grow B H B' H' → Q b H'
def okA (X : Cx) (B H : Hp) (Q : List V → Hp → Prop) (ds : List D) : Prop := ∀ vs B' H', Grow B H B' H' → IsL X.K X.mg B' vs ds → Q vs H'
/-- a new list of one's own -/
def okF (X : Cx) (B H : Hp) (Q : VK) (ds : List D) : Prop := ∀ p xs B' H', Grow B H B' H' → H p = none → H' p = some (.lst xs) → B' p = none → IsL X.K X.mg B' xs ds → Q (.ref p) H'
def erD (X : Cx) (Wx : WX) (σ : L2.St) (B H : Hp) (x : Str) : Prop := ∀ cls B' H', X.mg x = some cls → Grow B H B' H' → Wx cls none σ H'
def PED (X : Cx) (Wx : WX) (e : Expr) (m : EM) : Prop := ∀ W σ H B ρ, EnvOk X.K X.mg W B H σ ρ → ∀ Q, Post (m ρ) (okD X B H Q) (erD X Wx σ B H) → wpE X e σ H Q
def PTD (X : Cx) (Wx : WX) (e : Expr) (m : TM) : Prop := ∀ W σ H B ρ, EnvOk X.K X.mg W B H σ ρ → ∀ Q, Post (m ρ) (okT B H Q) (erD X Wx σ B H) → wpT X e σ H Q
def PAD (X : Cx) (Wx : WX) (es : List Expr) (m : AM) : Prop := ∀ W σ H B ρ, EnvOk X.K X.mg W B H σ ρ → ∀ Q, Post (m ρ) (okA X B H Q) (erD X Wx σ B H) → wpA X es σ H Q
def PFD (X : Cx) (Wx : WX) (e : Expr) (m : AM) : Prop := ∀ W σ H B ρ, EnvOk X.K X.mg W B H σ ρ → ∀ Q, Post (m ρ) (okF X B H Q) (erD X Wx σ B H) → wpE X e σ H Q
def PostS (X : Cx) (W : Wd) (Wx : WX) (o : Out) (D : Ends) : Prop := match o with
  | .nx ρ => ∀ σ B H, EnvOk X.K X.mg W B H σ ρ → D.nx σ H
  | .rt d => ∀ v B H, Grow W.B W.H B H → Is X.K X.mg B v d → D.rt v H
  | .bk ρ => ∀ σ B H, EnvOk X.K X.mg W B H σ ρ → D.bk σ H
  | .ct ρ => ∀ σ B H, EnvOk X.K X.mg W B H σ ρ → D.ct σ H
  | .er x ρ => ∀ cls σ B H, X.mg x = some cls → EnvOk X.K X.mg W B H σ ρ → Wx cls none σ H
  | .st => False
def PSD (X : Cx) (Wx : WX) (s : Stmt) (m : SM) : Prop := ∀ W σ H B ρ, EnvOk X.K X.mg W B H σ ρ → ∀ D, PostS X W Wx (m ρ) D → wpS X s D σ H
def PBD (X : Cx) (Wx : WX) (ss : List Stmt) (m : SM) : Prop := ∀ W σ H B ρ, EnvOk X.K X.mg W B H σ ρ → ∀ D, PostS X W Wx (m ρ) D → wpB X ss D σ H

section
variable {X : Cx} {Wx : WX} {W : Wd} {σ : L2.St} {B H B1 H1 : Hp}
theorem okD.later {Q : VK} {d : D} (h : okD X B H Q d) (g : Grow B H B1 H1) : okD X B1 H1 Q d := fun v B' H' g' r => h v B' H' (g.trans g') r
theorem okT.later {Q : Bool → Hp → Prop} {b : Bool} (h : okT B H Q b) (g : Grow B H B1 H1) : okT B1 H1 Q b := fun B' H' g' => h B' H' (g.trans g')
theorem okA.later {Q : List V → Hp → Prop} {ds : List D} (h : okA X B H Q ds) (g : Grow B H B1 H1) : okA X B1 H1 Q ds := fun v B' H' g' r => h v B' H' (g.trans g') r
theorem okF.later {Q : VK} {ds : List D} (h : okF X B H Q ds) (g : Grow B H B1 H1) : okF X B1 H1 Q ds := fun p xs B' H' g' n e n' r => h p xs B' H' (g.trans g') (by
  cases q : H p with
  | none => rfl
  | some o => rw [g.hh p o q] at n; cases n) e n' r
theorem erD.later {x : Str} (h : erD X Wx σ B H x) (g : Grow B H B1 H1) : erD X Wx σ B1 H1 x := fun cls B' H' e g' => h cls B' H' e (g.trans g')
end
end GD

/-! GD, part b: expressions. -/
namespace GD
open PySem PySem.Spec PyProof.Rows L2

def R.ofO {α : Type} (o : Option α) : R α := match o with
  | some a => .ok a
  | none => .st
theorem Post.ofO {α : Type} {o : Option α} {P : α → Prop} {E : Str → Prop} (h : Post (R.ofO o) P E) : ∃ a, o = some a ∧ P a := by
  cases o with
  | none => exact h.elim
  | some a => exact ⟨a, rfl, h⟩
/-! ### the operations on data -/
def mulOk (i j : Int) : Prop := i.natAbs.log2 + j.natAbs.log2 < 1000000
instance (i j : Int) : Decidable (mulOk i j) := by unfold mulOk; infer_instance
def divOk (j : Int) : Prop := 0 < j ∧ j.natAbs.log2 < 9000
instance (j : Int) : Decidable (divOk j) := by unfold divOk; infer_instance
def powOk (i j : Int) : Prop := 0 ≤ j ∧ j ≤ 1000000 ∧ i.natAbs < 2 ^ 64
instance (i j : Int) : Decidable (powOk i j) := by unfold powOk; infer_instance
def catOk (m n : Nat) : Prop := m + n ≤ sizeLine
instance (m n : Nat) : Decidable (catOk m n) := by unfold catOk; infer_instance
def dAdd : D → D → Option D
  | .int i, .int j => some (.int (i + j))
  | .str x, .str y => if catOk x.length y.length then some (.str (x ++ y)) else none
  | .lst xs, .lst ys => if catOk xs.length ys.length then some (.lst (xs ++ ys)) else none
  | .tup xs, .tup ys => if xs.isEmpty = false ∧ ys.isEmpty = false ∧ catOk xs.length ys.length then some (.tup (xs ++ ys)) else none
  | _, _ => none
def dSub : D → D → Option D
  | .int i, .int j => some (.int (i - j))
  | _, _ => none
def dMul : D → D → Option D
  | .int i, .int j => if mulOk i j then some (.int (i * j)) else none
  | _, _ => none
def dDiv : D → D → Option D
  | .int i, .int j => if divOk j then some (.int (i / j)) else none
  | _, _ => none
def dMod : D → D → Option D
  | .int i, .int j => if 0 < j then some (.int (i % j)) else none
  | _, _ => none
def dPow : D → D → Option D
  | .int i, .int j => if powOk i j then some (.int (i ^ j.toNat)) else none
  | _, _ => none
def dNeg : D → Option D
  | .int i => some (.int (-i))
  | _ => none
def intsOf : List D → Option (List Int)
  | [] => some []
  | .int i :: ds => (intsOf ds).map (i :: ·)
  | _ => none
def dLt : D → D → Option D
  | .int i, .int j => some (.bl (decide (i < j)))
  | .str x, .str y => some (.bl (decide (x.cps.toList < y.cps.toList)))
  | .tup xs, .tup ys => (intsOf xs).bind fun ns => (intsOf ys).map fun ms => .bl (HT.lexLt ns ms)
  | _, _ => none
def dLe : D → D → Option D
  | .int i, .int j => some (.bl (decide (i ≤ j)))
  | .str x, .str y => some (.bl (!decide (y.cps.toList < x.cps.toList)))
  | _, _ => none
def dGt : D → D → Option D
  | .int i, .int j => some (.bl (decide (j < i)))
  | .str x, .str y => some (.bl (decide (y.cps.toList < x.cps.toList)))
  | _, _ => none
def dGe : D → D → Option D
  | .int i, .int j => some (.bl (decide (j ≤ i)))
  | .str x, .str y => some (.bl (!decide (x.cps.toList < y.cps.toList)))
  | _, _ => none
mutual
def toP : D → PyData
  | .non => .none
  | .bl b => .bool b
  | .int i => .int i
  | .str x => .str x
  | .tup ds => .tuple (toPs ds)
  | .lst ds => .list (toPs ds)
  | .scr ns => .list (ns.map .int)
  | _ => .dict []
def toPs : List D → List PyData
  | [] => []
  | d :: ds => toP d :: toPs ds
end
/-- the two are compared by == -/
def dEq (d e : D) : Option D := if SeqAt.shaped (toP d) = true ∧ SeqAt.shaped (toP e) = true then some (.bl (PyData.eqv (toP d) (toP e))) else none
def dNe (d e : D) : Option D := if SeqAt.shaped (toP d) = true ∧ SeqAt.shaped (toP e) = true then some (.bl (!PyData.eqv (toP d) (toP e))) else none
def D.isNone : D → Bool
  | .non => true
  | _ => false
/-- is, is not: of None alone -/
def dIs (d e : D) : Option D := match e with
  | .non => some (.bl d.isNone)
  | _ => none
def dIsNot (d e : D) : Option D := match e with
  | .non => some (.bl (!d.isNone))
  | _ => none
def dAt : D → D → Option D
  | .tup ds, .int k => atI ds k
  | .lst ds, .int k => atI ds k
  | .scr ns, .int k => (atI ns k).map D.int
  | .str x, .int k => if x.length ≤ sizeLine then (atI x.cps.toList k).map fun c => .str ⟨#[c]⟩ else none
  | _, _ => none

/-! ### combinators -/
def eVar (i : Nat) : EM := fun ρ => match ρ[i]? with
  | some (.v d) => .ok d
  | _ => .st
def eC (d : D) : EM := fun _ => .ok d
def e1 (g : D → Option D) (ma : EM) : EM := fun ρ => (ma ρ).bind fun x => R.ofO (g x)
def e2 (g : D → D → Option D) (ma mb : EM) : EM := fun ρ => (ma ρ).bind fun x => (mb ρ).bind fun y => R.ofO (g x y)
def asB : D → Option Bool
  | .bl b => some b
  | _ => none
def mB (ma : EM) : TM := fun ρ => (ma ρ).bind fun x => R.ofO (asB x)
def aNil : AM := fun _ => .ok []
def aCons (ma : EM) (mr : AM) : AM := fun ρ => (ma ρ).bind fun x => (mr ρ).bind fun xs => .ok (x :: xs)
/-- a call: of a def, of a built-in -/
def eF (F : List D → R D) (ma : AM) : EM := fun ρ => (ma ρ).bind F
def eB (g : List D → Option D) (ma : AM) : EM := fun ρ => (ma ρ).bind fun ds => R.ofO (g ds)
def eTup (ma : AM) : EM := fun ρ => (ma ρ).bind fun ds => if ds.length ≤ sizeLine then .ok (.tup ds) else .st
def aLst (ma : AM) : AM := fun ρ => (ma ρ).bind fun ds => if ds.length ≤ sizeLine then .ok ds else .st
/-- a new list, as data -/
def eL (mf : AM) : EM := fun ρ => (mf ρ).bind fun ds => .ok (.lst ds)
def mNot (t : TM) : TM := fun ρ => (t ρ).bind fun b => .ok (!b)
def mAnd (t u : TM) : TM := fun ρ => (t ρ).bind fun b => if b = true then u ρ else .ok false
def mOr (t u : TM) : TM := fun ρ => (t ρ).bind fun b => if b = true then .ok true else u ρ
def eNot (a : EM) : EM := fun ρ => (mB a ρ).bind fun b => .ok (.bl (!b))
def eAnd (a b : EM) : EM := fun ρ => (mB a ρ).bind fun c => if c = true then b ρ else .ok (.bl false)
def eOr (a b : EM) : EM := fun ρ => (mB a ρ).bind fun c => if c = true then .ok (.bl true) else b ρ
/-- a op b op' c -/
def eCh (g g' : D → D → Option D) (ma mb mc : EM) : EM := fun ρ => (ma ρ).bind fun x => (mb ρ).bind fun y => (R.ofO (g x y)).bind fun z => (R.ofO (asB z)).bind fun k =>
  if k = true then (mc ρ).bind fun w => R.ofO (g' y w) else .ok (.bl false)

/-! ### inversion -/
section
variable {K : PySem.W.Frag} {mg : Str → Option Value} {B : Hp} {v : V}
theorem Is.int_inv {i : Int} (h : Is K mg B v (.int i)) : v = .int i := by cases h; rfl
theorem Is.bl_inv {b : Bool} (h : Is K mg B v (.bl b)) : v = .bl b := by cases h; rfl
theorem Is.str_inv {x : Str} (h : Is K mg B v (.str x)) : v = .str x := by cases h; rfl
theorem Is.non_inv (h : Is K mg B v .non) : v = .non := by cases h; rfl
theorem Is.ty_inv {n : String} (h : Is K mg B v (.ty n)) : v = .ty n := by cases h; rfl
theorem Is.tup_inv {ds : List D} (h : Is K mg B v (.tup ds)) : ∃ a xs, v = .ref a ∧ SqT K B a xs ∧ IsL K mg B xs ds := by
  cases h with
  | tup h r => exact ⟨_, _, rfl, h, r⟩
theorem Is.lst_inv {ds : List D} (h : Is K mg B v (.lst ds)) : ∃ a xs, v = .ref a ∧ B a = some (.lst xs) ∧ IsL K mg B xs ds := by
  cases h with
  | lst h r => exact ⟨_, _, rfl, h, r⟩
theorem Is.scr_inv {ns : List Int} (h : Is K mg B v (.scr ns)) : ∃ a, v = .ref a ∧ SqL K B a (ns.map V.int) := by
  cases h with
  | scr h => exact ⟨_, rfl, h⟩
theorem Is.none_iff {d : D} (h : Is K mg B v d) : decide (v = V.non) = d.isNone := by
  cases h <;> simp [D.isNone]
theorem IsL.ints_inv : ∀ {ds : List D} {ns : List Int} {xs : List V}, intsOf ds = some ns → IsL K mg B xs ds → xs = ns.map V.int
  | [], ns, xs, e, h => by
    cases h
    simp [intsOf] at e
    subst e
    rfl
  | d :: ds, ns, xs, e, h => by
    cases h with
    | cons h r =>
      cases d with
      | int i =>
        simp only [intsOf, Option.map_eq_some_iff] at e
        obtain ⟨ms, e1, rfl⟩ := e
        rw [h.int_inv, IsL.ints_inv e1 r]
        rfl
      | _ => simp [intsOf] at e
theorem seqL_of {H : Hp} {a : Addr} {xs : List V} (e : Same B H) (h : B a = some (.lst xs)) : SqL K H a xs := SqL.of (e _ _ h)
theorem dps_ints {H : Hp} : ∀ ns : List Int, DpAll K H (ns.map V.int) (ns.map PyData.int)
  | [] => .nil
  | n :: ns => .cons (.int n) (dps_ints ns)
mutual
theorem Is.dp {H : Hp} (e : Same B H) : ∀ {v : V} {d : D}, Is K mg B v d → (SeqAt.shaped (toP d) = true ∨ PyData.canLay0 (toP d) = true) → Dp K H v (toP d)
  | _, _, .non, _ => .non
  | _, _, .bl b, _ => .bl b
  | _, _, .int i, _ => .int i
  | _, _, .str x, _ => .str x
  | _, _, .tup h r, c => by
    simp only [toP]
    refine .tup (seqT e h) (IsL.dp e r ?_)
    rcases c with c | c
    · have := SeqAt.canLay_of_shaped c
      simpa [toP, PyData.canLay0] using this
    · simpa [toP, PyData.canLay0] using c
  | _, _, .lst h r, c => by
    simp only [toP]
    refine .lst (seqL_of e h) (IsL.dp e r ?_)
    rcases c with c | c
    · have := SeqAt.canLay_of_shaped c
      simpa [toP, PyData.canLay0] using this
    · simpa [toP, PyData.canLay0] using c
  | _, _, .scr (ns := ns) h, _ => by
    simp only [toP]
    refine .lst (e.seq h) ?_
    exact dps_ints ns
  | _, _, .dct h k r, c => by
    rcases c with c | c
    · have := SeqAt.canLay_of_shaped c
      simp [toP, PyData.canLay0] at this
    · simp [toP, PyData.canLay0] at c
  | _, _, .exc h k, c => by
    rcases c with c | c
    · have := SeqAt.canLay_of_shaped c
      simp [toP, PyData.canLay0] at this
    · simp [toP, PyData.canLay0] at c
  | _, _, .ty n, c => by
    rcases c with c | c
    · have := SeqAt.canLay_of_shaped c
      simp [toP, PyData.canLay0] at this
    · simp [toP, PyData.canLay0] at c
  | _, _, .cls h, c => by
    rcases c with c | c
    · have := SeqAt.canLay_of_shaped c
      simp [toP, PyData.canLay0] at this
    · simp [toP, PyData.canLay0] at c
theorem IsL.dp {H : Hp} (e : Same B H) : ∀ {vs : List V} {ds : List D}, IsL K mg B vs ds → PyData.canLayAll0 (toPs ds) = true → DpAll K H vs (toPs ds)
  | _, _, .nil, _ => .nil
  | _, _, .cons h r, c => by
    simp only [toPs] at c ⊢
    simp only [PyData.canLayAll0, Bool.and_eq_true] at c
    exact .cons (Is.dp e h (.inr c.1)) (IsL.dp e r c.2)
end
end

/-! ### operators -/
def wpO (X : Cx) (f : Value → Value → Sem Value) : R2 := fun x y H Q => ∃ r, OpR X f r ∧ r x y H Q
theorem op_wp {X : Cx} {f : Value → Value → Sem Value} : OpR X f (wpO X f) := fun pins s σ H x y v u Q I rx ry ⟨_, ho, q⟩ => ho pins s σ H x y v u Q I rx ry q
def OpD (X : Cx) (f : Value → Value → Sem Value) (g : D → D → Option D) : Prop :=
  ∀ B H x y d e d' Q, Same B H → Is X.K X.mg B x d → Is X.K X.mg B y e → g d e = some d' → okD X B H Q d' → wpO X f x y H Q
section
variable {X : Cx} {B H : Hp} {Q : VK} {d : D}
theorem okD.at {v : V} (h : okD X B H Q d) (e : Same B H) (r : Is X.K X.mg B v d) : Q v H := h v B H (Grow.refl e) r
theorem okD.nt {ds : List D} {xs : List V} {p : Addr} (h : okD X B H Q (.tup ds)) (e : Same B H) (n : H p = none) (r : IsL X.K X.mg B xs ds) : Q (.ref p) (upd H p (.tup xs)) :=
  h _ _ _ (Grow.new e n) (.tup (SqT.of upd_same) (r.mono (Grow.new (o := .tup xs) e n).bb))
theorem okD.nl {ds : List D} {xs : List V} {p : Addr} (h : okD X B H Q (.lst ds)) (e : Same B H) (n : H p = none) (r : IsL X.K X.mg B xs ds) : Q (.ref p) (upd H p (.lst xs)) :=
  h _ _ _ (Grow.new e n) (.lst upd_same (r.mono (Grow.new (o := .lst xs) e n).bb))
theorem some_ite {α : Type} {c : Prop} [Decidable c] {a b : α} (h : (if c then some a else none) = some b) : c ∧ a = b := by
  by_cases hc : c
  · rw [if_pos hc] at h; exact ⟨hc, Option.some.inj h⟩
  · rw [if_neg hc] at h; cases h
theorem opd_add : OpD X (binaryOp .Add) dAdd := by
  intro B H x y d e d' Q b rx ry g q
  unfold dAdd at g
  split at g
  · cases g
    rw [rx.int_inv, ry.int_inv]
    exact ⟨_, op_add, _, _, rfl, rfl, q.at b (.int _)⟩
  · obtain ⟨hc, rfl⟩ := some_ite g
    rw [rx.str_inv, ry.str_inv]
    exact ⟨_, op_add_str, _, _, rfl, rfl, hc, q.at b (.str _)⟩
  · obtain ⟨hc, rfl⟩ := some_ite g
    obtain ⟨a1, xs, rfl, h1, r1⟩ := rx.lst_inv
    obtain ⟨a2, ys, rfl, h2, r2⟩ := ry.lst_inv
    exact ⟨_, op_cat, a1, a2, xs, ys, rfl, rfl, b _ _ h1, b _ _ h2, by rw [r1.length, r2.length]; exact hc, fun p hp => q.nl b hp (r1.append r2)⟩
  · obtain ⟨⟨h1, h2, hc⟩, rfl⟩ := some_ite g
    obtain ⟨a1, xs, rfl, g1, r1⟩ := rx.tup_inv
    obtain ⟨a2, ys, rfl, g2, r2⟩ := ry.tup_inv
    rename_i ds es
    have n1 : xs ≠ [] := by
      intro z
      subst z
      cases r1
      simp at h1
    have n2 : ys ≠ [] := by
      intro z
      subst z
      cases r2
      simp at h2
    exact ⟨_, op_catT, a1, a2, xs, ys, rfl, rfl, seqT b g1, seqT b g2, n1, by rw [r1.length, r2.length]; exact hc, fun z => absurd z n2, fun _ p hp => q.nt b hp (r1.append r2)⟩
  · cases g
theorem opd_sub : OpD X (binaryOp .Sub) dSub := by
  intro B H x y d e d' Q b rx ry g q
  unfold dSub at g
  split at g
  · cases g
    rw [rx.int_inv, ry.int_inv]
    exact ⟨_, op_sub, _, _, rfl, rfl, q.at b (.int _)⟩
  · cases g
theorem opd_mul : OpD X (binaryOp .Mult) dMul := by
  intro B H x y d e d' Q b rx ry g q
  unfold dMul at g
  split at g
  · obtain ⟨hc, rfl⟩ := some_ite g
    rw [rx.int_inv, ry.int_inv]
    exact ⟨_, op_mulW, _, _, rfl, rfl, hc, q.at b (.int _)⟩
  · cases g
theorem opd_div : OpD X (binaryOp .FloorDiv) dDiv := by
  intro B H x y d e d' Q b rx ry g q
  unfold dDiv at g
  split at g
  · obtain ⟨hc, rfl⟩ := some_ite g
    rw [rx.int_inv, ry.int_inv]
    exact ⟨_, op_fdivW, _, _, rfl, rfl, hc, q.at b (.int _)⟩
  · cases g
theorem opd_mod : OpD X (binaryOp .Mod) dMod := by
  intro B H x y d e d' Q b rx ry g q
  unfold dMod at g
  split at g
  · obtain ⟨hc, rfl⟩ := some_ite g
    rw [rx.int_inv, ry.int_inv]
    exact ⟨_, op_mod, _, _, rfl, rfl, hc, q.at b (.int _)⟩
  · cases g
theorem opd_pow : OpD X (binaryOp .Pow) dPow := by
  intro B H x y d e d' Q b rx ry g q
  unfold dPow at g
  split at g
  · obtain ⟨hc, rfl⟩ := some_ite g
    rw [rx.int_inv, ry.int_inv]
    exact ⟨_, op_pow, _, _, rfl, rfl, hc, q.at b (.int _)⟩
  · cases g
theorem opd_lt (hu : X.A.units < cLine) : OpD X (compareOp .Lt) dLt := by
  intro B H x y d e d' Q b rx ry g q
  unfold dLt at g
  split at g
  · cases g
    rw [rx.int_inv, ry.int_inv]
    exact ⟨_, op_lt, _, _, rfl, rfl, q.at b (.bl _)⟩
  · cases g
    rw [rx.str_inv, ry.str_inv]
    exact ⟨_, op_lt_str, _, _, rfl, rfl, q.at b (.bl _)⟩
  · simp only [Option.bind_eq_some_iff, Option.map_eq_some_iff] at g
    obtain ⟨ns, g1, ms, g2, rfl⟩ := g
    obtain ⟨a1, xs, rfl, h1, r1⟩ := rx.tup_inv
    obtain ⟨a2, ys, rfl, h2, r2⟩ := ry.tup_inv
    have e1 := IsL.ints_inv g1 r1
    have e2 := IsL.ints_inv g2 r2
    subst e1 e2
    exact ⟨_, op_ltT hu, _, _, _, _, rfl, rfl, seqT b h1, seqT b h2, q.at b (.bl _)⟩
  · cases g
theorem opd_le : OpD X (compareOp .LtE) dLe := by
  intro B H x y d e d' Q b rx ry g q
  unfold dLe at g
  split at g
  · cases g
    rw [rx.int_inv, ry.int_inv]
    exact ⟨_, op_le, _, _, rfl, rfl, q.at b (.bl _)⟩
  · cases g
    rw [rx.str_inv, ry.str_inv]
    exact ⟨_, op_le_str, _, _, rfl, rfl, q.at b (.bl _)⟩
  · cases g
theorem opd_gt : OpD X (compareOp .Gt) dGt := by
  intro B H x y d e d' Q b rx ry g q
  unfold dGt at g
  split at g
  · cases g
    rw [rx.int_inv, ry.int_inv]
    exact ⟨_, op_gt, _, _, rfl, rfl, q.at b (.bl _)⟩
  · cases g
    rw [rx.str_inv, ry.str_inv]
    exact ⟨_, op_gt_str, _, _, rfl, rfl, q.at b (.bl _)⟩
  · cases g
theorem opd_ge : OpD X (compareOp .GtE) dGe := by
  intro B H x y d e d' Q b rx ry g q
  unfold dGe at g
  split at g
  · cases g
    rw [rx.int_inv, ry.int_inv]
    exact ⟨_, op_ge, _, _, rfl, rfl, q.at b (.bl _)⟩
  · cases g
    rw [rx.str_inv, ry.str_inv]
    exact ⟨_, op_ge_str, _, _, rfl, rfl, q.at b (.bl _)⟩
  · cases g
theorem opd_eq (hu : X.A.units + 64 < cLine) : OpD X (compareOp .Eq) dEq := by
  intro B H x y d e d' Q b rx ry g q
  obtain ⟨⟨h1, h2⟩, rfl⟩ := some_ite g
  exact ⟨_, op_eqD hu, _, _, rx.dp b (.inl h1), ry.dp b (.inl h2), h1, h2, q.at b (.bl _)⟩
theorem opd_ne (hu : X.A.units + 64 < cLine) : OpD X (compareOp .NotEq) dNe := by
  intro B H x y d e d' Q b rx ry g q
  obtain ⟨⟨h1, h2⟩, rfl⟩ := some_ite g
  exact ⟨_, op_neD hu, _, _, rx.dp b (.inl h1), ry.dp b (.inl h2), h1, h2, q.at b (.bl _)⟩
theorem opd_is : OpD X (compareOp .Is) dIs := by
  intro B H x y d e d' Q b rx ry g q
  unfold dIs at g
  split at g
  · cases g
    rw [ry.non_inv]
    exact ⟨_, op_isN, rfl, by rw [rx.none_iff]; exact q.at b (.bl _)⟩
  · cases g
theorem opd_isNot : OpD X (compareOp .IsNot) dIsNot := by
  intro B H x y d e d' Q b rx ry g q
  unfold dIsNot at g
  split at g
  · cases g
    rw [ry.non_inv]
    exact ⟨_, op_notN, rfl, by rw [rx.none_iff]; exact q.at b (.bl _)⟩
  · cases g
/-- a subscript -/
def wpIx (X : Cx) : R2 := fun x y H Q => ∃ r, IxR X r ∧ r x y H Q
theorem ix_wp : IxR X (wpIx X) := fun value slice pins s σ H x y v u Q I rx ry ⟨_, ho, q⟩ => ho value slice pins s σ H x y v u Q I rx ry q
theorem IsL.atI {K : PySem.W.Frag} {mg : Str → Option Value} {xs : List V} {ds : List D} {k : Int} (r : IsL K mg B xs ds) (h : atI ds k = some d) : ∃ v, L2.atI xs k = some v ∧ Is K mg B v d := by
  unfold L2.atI at h ⊢
  rw [r.length]
  cases e : ixN ds.length k with
  | none => rw [e] at h; cases h
  | some j =>
    rw [e] at h
    exact r.get h
theorem ixd {x y : V} {d e d' : D} (b : Same B H) (rx : Is X.K X.mg B x d) (ry : Is X.K X.mg B y e) (g : dAt d e = some d') (q : okD X B H Q d') : wpIx X x y H Q := by
  unfold dAt at g
  split at g
  · obtain ⟨a1, xs, rfl, h1, r1⟩ := rx.tup_inv
    rw [ry.int_inv]
    obtain ⟨v, e1, r⟩ := r1.atI g
    exact ⟨_, ix_tup, _, _, _, _, rfl, rfl, seqT b h1, e1, q.at b r⟩
  · obtain ⟨a1, xs, rfl, h1, r1⟩ := rx.lst_inv
    rw [ry.int_inv]
    obtain ⟨v, e1, r⟩ := r1.atI g
    exact ⟨_, ix_list, _, _, _, _, rfl, rfl, seqL_of b h1, e1, q.at b r⟩
  · obtain ⟨a1, rfl, h1⟩ := rx.scr_inv
    rw [ry.int_inv]
    simp only [Option.map_eq_some_iff] at g
    obtain ⟨i, g1, rfl⟩ := g
    refine ⟨_, ix_list, _, _, _, .int i, rfl, rfl, b.seq h1, ?_, q.at b (.int i)⟩
    unfold L2.atI at g1 ⊢
    rw [List.length_map]
    rename_i ns k
    cases e : ixN ns.length k with
    | none => rw [e] at g1; cases g1
    | some j =>
      rw [e] at g1
      show (ns.map V.int)[j]? = _
      rw [List.getElem?_map, show ns[j]? = some i from g1]
      rfl
  · rw [rx.str_inv, ry.int_inv]
    split at g
    · rename_i hl
      simp only [Option.map_eq_some_iff] at g
      obtain ⟨c, g1, rfl⟩ := g
      exact ⟨_, ix_str, _, _, _, rfl, rfl, hl, g1, q.at b (.str _)⟩
    · cases g
  · cases g
end

/-! ### expressions -/
section
variable {X : Cx} {Wx : WX} {a b c e : Expr} {es : List Expr} {pos p : Pos} {ma mb mc m : EM} {mr : AM}
theorem two {α : Type} {W : Wd} {σ : L2.St} {B H : Hp} {ρ : En} {k : D → D → R α} {P : α → Prop} {Rr : V → V → Hp → Prop} (ha : PED X Wx a ma) (hb : PED X Wx b mb) (E : EnvOk X.K X.mg W B H σ ρ)
    (h : Post ((ma ρ).bind fun d => (mb ρ).bind fun e => k d e) P (erD X Wx σ B H))
    (f : ∀ d e x y B2 H2, Grow B H B2 H2 → Is X.K X.mg B2 x d → Is X.K X.mg B2 y e → Post (k d e) P (erD X Wx σ B H) → Rr x y H2) : wpE X a σ H fun x H1 => wpE X b σ H1 fun y H2 => Rr x y H2 := by
  refine ha W σ H B ρ E _ (h.bind.mono (fun d _ hd x B1 H1 g1 rx => ?_) fun x h => h)
  exact hb W σ H1 B1 ρ (E.grow g1) _ (hd.bind.mono (fun e _ he y B2 H2 g2 ry => f d e x y B2 H2 (g1.trans g2) (rx.mono g2.bb) ry he) fun x h => h.later g1)
theorem ped_var {i : Nat} {x : Str} (hN : X.N[i]? = some x) (hv : Vis X.env.scope x) (hd : (x == ("__debug__" : Str)) = false := by decide) (hcd : (x == ("__classdict__" : Str)) = false := by decide) : PED X Wx (.Name x pos) (eVar i) := by
  intro W σ H B ρ E Q h
  unfold eVar at h
  split at h
  · rename_i d hd'
    obtain ⟨v, h1, h2⟩ := E.val i d hd'
    exact ⟨_, pe_var hN hv hd hcd, v, h1, okD.at h E.bh h2⟩
  · exact h.elim
theorem ped_int {i j} : PED X Wx (.Constant (.int i) j pos) (eC (.int i)) := fun W σ H B ρ E Q h => ⟨_, pe_int, okD.at h E.bh (.int i)⟩
theorem ped_bl {i j} : PED X Wx (.Constant (.bool i) j pos) (eC (.bl i)) := fun W σ H B ρ E Q h => ⟨_, pe_bl, okD.at h E.bh (.bl i)⟩
theorem ped_non {j} : PED X Wx (.Constant .none j pos) (eC .non) := fun W σ H B ρ E Q h => ⟨_, pe_non, okD.at h E.bh .non⟩
theorem ped_str {x j} : PED X Wx (.Constant (.str x) j pos) (eC (.str x)) := fun W σ H B ρ E Q h => ⟨_, pe_str, okD.at h E.bh (.str x)⟩
/-- a name of the module -/
theorem ped_glob {x : Str} {v : V} {u : Value} {d : D} (hg : Gl X x) (hm : X.mg x = some u) (r : RelV v u) (hd : ∀ B, Is X.K X.mg B v d) (hdb : (x == ("__debug__" : Str)) = false := by decide) : PED X Wx (.Name x pos) (eC d) :=
  fun W σ H B ρ E Q h => ⟨_, pe_glob hg hm r hdb, okD.at h E.bh (hd B)⟩
theorem ped_bltn {x : Str} {v : V} {u : Value} {d : D} (hg : Gl X x) (hm : X.mg x = none) (hv : bootBuiltins x = some u) (r : RelV v u) (hd : ∀ B, Is X.K X.mg B v d) (hn : x ≠ "__name__" := by decide) (hdb : (x == ("__debug__" : Str)) = false := by decide) :
    PED X Wx (.Name x pos) (eC d) := fun W σ H B ρ E Q h => ⟨_, pe_bltn hg hm hv r hn hdb, okD.at h E.bh (hd B)⟩
theorem ped_op {op : Operator} {g : D → D → Option D} (ho : OpD X (binaryOp op) g) (ha : PED X Wx a ma) (hb : PED X Wx b mb) : PED X Wx (.BinOp a op b pos) (e2 g ma mb) :=
  fun W σ H B ρ E Q h => ⟨_, pe_op op_wp pe_wp pe_wp, two ha hb E h fun d e x y B2 H2 gr rx ry hk => by
    obtain ⟨d', e1, q⟩ := hk.ofO
    exact ho B2 H2 x y d e d' Q gr.bh rx ry e1 (q.later gr)⟩
theorem ped_const {d : D} (h : PED X Wx e m) (hd : ∀ ρ, m ρ = .ok d) : PED X Wx e (eC d) := fun W σ H B ρ E Q q => h W σ H B ρ E Q (by rw [hd ρ]; exact q)
theorem ped_cmp {op : CmpOp} {g : D → D → Option D} (ho : OpD X (compareOp op) g) (ha : PED X Wx a ma) (hb : PED X Wx b mb) (hm : behindInMarks op b = false) : PED X Wx (.Compare a [op] [b] pos) (e2 g ma mb) :=
  fun W σ H B ρ E Q h => ⟨_, pe_cmpR op_wp pe_wp pe_wp hm, two ha hb E h fun d e x y B2 H2 gr rx ry hk => by
    obtain ⟨d', e1, q⟩ := hk.ofO
    exact ho B2 H2 x y d e d' Q gr.bh rx ry e1 (q.later gr)⟩
theorem ptd_cmp {op : CmpOp} {g : D → D → Option D} (ho : OpD X (compareOp op) g) (ha : PED X Wx a ma) (hb : PED X Wx b mb) (hm : behindInMarks op b = false) : PTD X Wx (.Compare a [op] [b] pos) (mB (e2 g ma mb)) :=
  fun W σ H B ρ E Q h => ⟨_, pt_cmpR op_wp pe_wp pe_wp hm, by
    have h' : Post ((ma ρ).bind fun d => (mb ρ).bind fun e => (R.ofO (g d e)).bind fun x => R.ofO (asB x)) (okT B H Q) (erD X Wx σ B H) := by
      have := h
      unfold GD.mB e2 at this
      cases hm : ma ρ with
      | ok d =>
        rw [hm] at this
        cases hn : mb ρ with
        | ok e => rw [hn] at this; exact this
        | er x => rw [hn] at this; exact this
        | st => rw [hn] at this; exact this
      | er x => rw [hm] at this; exact this
      | st => rw [hm] at this; exact this
    exact two ha hb E h' fun d e x y B2 H2 gr rx ry hk => by
      obtain ⟨d', e1, q⟩ := hk.bind.ofO
      refine ho B2 H2 x y d e d' _ gr.bh rx ry e1 fun v B3 H3 g3 r3 => ?_
      obtain ⟨k, e2, q2⟩ := q.ofO
      cases d' with
      | bl k' =>
        obtain rfl : k' = k := Option.some.inj e2
        exact ⟨k', r3.bl_inv, q2 B3 H3 (gr.trans g3)⟩
      | _ => cases e2⟩
theorem ped_un {op : UnaryOp} {r : V → Hp → VK → Prop} {g : D → Option D} (hu : UnR X (unaryOp op) r) (ho : ∀ B H x d d' Q, Same B H → Is X.K X.mg B x d → g d = some d' → okD X B H Q d' → r x H Q) (ha : PED X Wx a ma) : PED X Wx (.UnaryOp op a pos) (e1 g ma) :=
  fun W σ H B ρ E Q h => ⟨_, pe_un hu pe_wp, ha W σ H B ρ E _ ((show Post ((ma ρ).bind fun x => R.ofO (g x)) _ _ from h).bind.mono (fun d _ hd x B1 H1 g1 rx => by
    obtain ⟨d', e1, q⟩ := hd.ofO
    exact ho B1 H1 x d d' Q g1.bh rx e1 (q.later g1)) fun x h => h)⟩
theorem ped_neg (ha : PED X Wx a ma) : PED X Wx (.UnaryOp .USub a pos) (e1 dNeg ma) := ped_un un_neg (fun B H x d d' Q b r g q => by
  unfold dNeg at g
  split at g
  · cases g
    rw [r.int_inv]
    exact ⟨_, rfl, q.at b (.int _)⟩
  · cases g) ha
theorem ped_ix (ha : PED X Wx a ma) (hb : PED X Wx b mb) (hs : PlainIx b) : PED X Wx (.Subscript a b pos) (e2 dAt ma mb) :=
  fun W σ H B ρ E Q h => ⟨_, pe_ix ix_wp pe_wp pe_wp hs, two ha hb E h fun d e x y B2 H2 gr rx ry hk => by
    obtain ⟨d', e1, q⟩ := hk.ofO
    exact ixd gr.bh rx ry e1 (q.later gr)⟩
theorem ped_chain {op op' : CmpOp} {g g' : D → D → Option D} (ho : OpD X (compareOp op) g) (ho' : OpD X (compareOp op') g') (ha : PED X Wx a ma) (hb : PED X Wx b mb) (hc : PED X Wx c mc)
    (hm : lastMarks [op, op'] [b, c] = false) : PED X Wx (.Compare a [op, op'] [b, c] pos) (eCh g g' ma mb mc) :=
  fun W σ H B ρ E Q h => ⟨_, pe_chain op_wp op_wp pe_wp pe_wp pe_wp hm, two ha hb E h fun d e x y B2 H2 gr rx ry hk => by
    obtain ⟨z, e1, q⟩ := hk.bind.ofO
    refine ho B2 H2 x y d e z _ gr.bh rx ry e1 fun v B3 H3 g3 r3 => ?_
    obtain ⟨k, e2, q2⟩ := q.bind.ofO
    cases z with
    | bl k' =>
      obtain rfl : k' = k := Option.some.inj e2
      refine ⟨k', r3.bl_inv, ?_⟩
      cases k' with
      | true =>
        rw [if_pos rfl] at q2 ⊢
        refine hc W σ H3 B3 ρ ((E.grow gr).grow g3) _ (q2.bind.mono (fun w _ hw u B4 H4 g4 ru => ?_) fun x h => (h.later gr).later g3)
        obtain ⟨d', e3, q3⟩ := hw.ofO
        exact ho' B4 H4 y u e w d' Q g4.bh ((ry.mono g3.bb).mono g4.bb) ru e3 (((q3.later gr).later g3).later g4)
      | false =>
        rw [if_neg Bool.false_ne_true] at q2 ⊢
        exact okD.at (((show okD X B H Q (.bl false) from q2).later gr).later g3) g3.bh (.bl false)
    | _ => cases e2⟩
/-- a comparison's value, or any True | False, as a test -/
theorem ptd_val (ha : PED X Wx a ma) (he : ∀ whole, isTrue a X.env whole = (do let v ← whole; standAt a.pos; holding [v] (truthy v))) : PTD X Wx a (GD.mB ma) :=
  fun W σ H B ρ E Q h => ⟨_, pt_val pe_wp he, ha W σ H B ρ E _ ((show Post ((ma ρ).bind fun x => R.ofO (asB x)) _ _ from h).bind.mono (fun d _ hd x B1 H1 g1 rx => by
    obtain ⟨k, e1, q⟩ := hd.ofO
    cases d with
    | bl k' =>
      obtain rfl : k' = k := Option.some.inj e1
      exact ⟨k', rx.bl_inv, q B1 H1 g1⟩
    | _ => cases e1) fun x h => h)⟩
variable {t u : TM} {rest : List Expr}
theorem ptd_not (ha : PTD X Wx a t) : PTD X Wx (.UnaryOp .Not a pos) (GD.mNot t) :=
  fun W σ H B ρ E Q h => ⟨_, pt_not pt_wp, ha W σ H B ρ E _ ((show Post ((t ρ).bind fun b => R.ok (!b)) _ _ from h).bind.mono (fun b _ hb B1 H1 g1 => (show okT B H Q (!b) from hb) B1 H1 g1) fun x h => h)⟩
/-- and, or as tests -/
def wpW (X : Cx) (e : Expr) : TT := fun σ H Q => ∃ t, PW X e t ∧ t σ H Q
theorem pw_wp : PW X e (wpW X e) := ⟨fun wh pins s σ H Q I ⟨_, h, q⟩ => h.run wh pins s σ H Q I q⟩
def PWD (X : Cx) (Wx : WX) (e : Expr) (m : TM) : Prop := ∀ W σ H B ρ, EnvOk X.K X.mg W B H σ ρ → ∀ Q, Post (m ρ) (okT B H Q) (erD X Wx σ B H) → wpW X e σ H Q
theorem pwd_pt (h : PWD X Wx e t) : PTD X Wx e t := fun W σ H B ρ E Q q => let ⟨r, h1, h2⟩ := h W σ H B ρ E Q q; ⟨r, h1.pt, h2⟩
theorem pwd_and1 (ha : PTD X Wx a t) : PWD X Wx (.BoolOp .And [a] pos) t := fun W σ H B ρ E Q h => ⟨_, pw_and1 pt_wp, ha W σ H B ρ E Q h⟩
theorem pwd_or1 (ha : PTD X Wx a t) : PWD X Wx (.BoolOp .Or [a] pos) t := fun W σ H B ρ E Q h => ⟨_, pw_or1 pt_wp, ha W σ H B ρ E Q h⟩
theorem pwd_and (ha : PTD X Wx a t) (hb : PWD X Wx (.BoolOp .And (b :: rest) pos) u) : PWD X Wx (.BoolOp .And (a :: b :: rest) pos) (GD.mAnd t u) :=
  fun W σ H B ρ E Q h => ⟨_, pw_and pt_wp pw_wp, ha W σ H B ρ E _ ((show Post ((t ρ).bind fun b => if b = true then u ρ else .ok false) _ _ from h).bind.mono (fun k _ hk B1 H1 g1 => by
    cases k with
    | true =>
      rw [if_pos rfl] at hk ⊢
      exact hb W σ H1 B1 ρ (E.grow g1) Q (hk.mono (fun _ _ q => q.later g1) fun _ q => q.later g1)
    | false =>
      rw [if_neg Bool.false_ne_true] at hk ⊢
      exact (show okT B H Q false from hk) B1 H1 g1) fun x h => h)⟩
theorem pwd_or (ha : PTD X Wx a t) (hb : PWD X Wx (.BoolOp .Or (b :: rest) pos) u) : PWD X Wx (.BoolOp .Or (a :: b :: rest) pos) (GD.mOr t u) :=
  fun W σ H B ρ E Q h => ⟨_, pw_or pt_wp pw_wp, ha W σ H B ρ E _ ((show Post ((t ρ).bind fun b => if b = true then .ok true else u ρ) _ _ from h).bind.mono (fun k _ hk B1 H1 g1 => by
    cases k with
    | false =>
      rw [if_neg Bool.false_ne_true] at hk ⊢
      exact hb W σ H1 B1 ρ (E.grow g1) Q (hk.mono (fun _ _ q => q.later g1) fun _ q => q.later g1)
    | true =>
      rw [if_pos rfl] at hk ⊢
      exact (show okT B H Q true from hk) B1 H1 g1) fun x h => h)⟩
/-- a True | False read off -/
theorem postB {W : Wd} {σ : L2.St} {B H : Hp} {α : Type} {k : Bool → R α} {P : α → Prop} {ρ : En} (h : Post ((GD.mB ma ρ).bind k) P (erD X Wx σ B H)) :
    Post (ma ρ) (fun d => ∃ b, d = .bl b ∧ Post (k b) P (erD X Wx σ B H)) (erD X Wx σ B H) := by
  unfold GD.mB at h
  cases e : ma ρ with
  | ok d =>
    rw [e] at h
    cases d with
    | bl b => exact ⟨b, rfl, h⟩
    | _ => exact False.elim h
  | er x => rw [e] at h; exact h
  | st => rw [e] at h; exact h
theorem ped_not (ha : PED X Wx a ma) : PED X Wx (.UnaryOp .Not a pos) (eNot ma) :=
  fun W σ H B ρ E Q h => ⟨_, pe_not pe_wp, ha W σ H B ρ E _ ((postB (W := W) h).mono (fun d _ ⟨b, e, q⟩ x B1 H1 g1 rx => by
    subst e
    exact ⟨b, rx.bl_inv, okD.at ((show okD X B H Q (.bl (!b)) from q).later g1) g1.bh (.bl _)⟩) fun x h => h)⟩
theorem ped_one {op} (ha : PED X Wx a ma) : PED X Wx (.BoolOp op [a] pos) ma := fun W σ H B ρ E Q h => ⟨_, pe_one pe_wp, ha W σ H B ρ E Q h⟩
theorem ped_and (ha : PED X Wx a ma) (hb : PED X Wx (.BoolOp .And (b :: rest) pos) mb) : PED X Wx (.BoolOp .And (a :: b :: rest) pos) (eAnd ma mb) :=
  fun W σ H B ρ E Q h => ⟨_, pe_and pe_wp pe_wp, ha W σ H B ρ E _ ((postB (W := W) h).mono (fun d _ ⟨k, e, q⟩ x B1 H1 g1 rx => by
    subst e
    refine ⟨k, rx.bl_inv, ?_⟩
    cases k with
    | true =>
      rw [if_pos rfl] at q ⊢
      exact hb W σ H1 B1 ρ (E.grow g1) Q (q.mono (fun _ _ q => q.later g1) fun _ q => q.later g1)
    | false =>
      rw [if_neg Bool.false_ne_true] at q ⊢
      exact okD.at ((show okD X B H Q (.bl false) from q).later g1) g1.bh (.bl _)) fun x h => h)⟩
theorem ped_or (ha : PED X Wx a ma) (hb : PED X Wx (.BoolOp .Or (b :: rest) pos) mb) : PED X Wx (.BoolOp .Or (a :: b :: rest) pos) (eOr ma mb) :=
  fun W σ H B ρ E Q h => ⟨_, pe_or pe_wp pe_wp, ha W σ H B ρ E _ ((postB (W := W) h).mono (fun d _ ⟨k, e, q⟩ x B1 H1 g1 rx => by
    subst e
    refine ⟨k, rx.bl_inv, ?_⟩
    cases k with
    | false =>
      rw [if_neg Bool.false_ne_true] at q ⊢
      exact hb W σ H1 B1 ρ (E.grow g1) Q (q.mono (fun _ _ q => q.later g1) fun _ q => q.later g1)
    | true =>
      rw [if_pos rfl] at q ⊢
      exact okD.at ((show okD X B H Q (.bl true) from q).later g1) g1.bh (.bl _)) fun x h => h)⟩

/-! ### argument lists, displays, calls -/
theorem pad_nil : PAD X Wx [] aNil := fun W σ H B ρ E Q h => ⟨_, pa_nil, h [] B H (Grow.refl E.bh) .nil⟩
theorem pad_cons (ha : PED X Wx a ma) (hr : PAD X Wx es mr) (hs : starEach (a :: es) X.env = (false, eval a X.env) :: starEach es X.env := by rfl) : PAD X Wx (a :: es) (aCons ma mr) :=
  fun W σ H B ρ E Q h => ⟨_, pa_cons pe_wp pa_wp hs, ha W σ H B ρ E _ ((show Post ((ma ρ).bind fun x => (mr ρ).bind fun xs => R.ok (x :: xs)) _ _ from h).bind.mono (fun d _ hd x B1 H1 g1 rx =>
    hr W σ H1 B1 ρ (E.grow g1) _ (hd.bind.mono (fun ds _ hds vs B2 H2 g2 r2 => (show okA X B H Q (d :: ds) from hds) _ B2 H2 (g1.trans g2) (.cons (rx.mono g2.bb) r2)) fun x h => h.later g1)) fun x h => h)⟩
theorem ped_tup {k} (h : PAD X Wx es mr) : PED X Wx (.Tuple es k pos) (eTup mr) :=
  fun W σ H B ρ E Q hq => ⟨_, pe_tup pa_wp, h W σ H B ρ E _ ((show Post ((mr ρ).bind fun ds => if ds.length ≤ sizeLine then R.ok (D.tup ds) else R.st) _ _ from hq).bind.mono (fun ds _ hd vs B1 H1 g1 r1 => by
    by_cases hl : ds.length ≤ sizeLine
    · rw [if_pos hl] at hd
      exact ⟨by rw [r1.length]; exact hl, fun p hp => okD.nt ((show okD X B H Q (.tup ds) from hd).later g1) g1.bh hp r1⟩
    · rw [if_neg hl] at hd
      exact hd.elim) fun x h => h)⟩
theorem okF.nl {B H : Hp} {Q : VK} {ds : List D} {xs : List V} {p : Addr} (h : okF X B H Q ds) (e : Same B H) (n : H p = none) (r : IsL X.K X.mg B xs ds) : Q (.ref p) (upd H p (.lst xs)) :=
  h p xs B _ (Grow.own e n) n upd_same (by
    cases q : B p with
    | none => rfl
    | some o => rw [e p o q] at n; cases n) r
theorem pfd_lst (h : PAD X Wx es mr) : PFD X Wx (.List es pos) (aLst mr) :=
  fun W σ H B ρ E Q hq => ⟨_, pe_lst pa_wp, h W σ H B ρ E _ ((show Post ((mr ρ).bind fun ds => if ds.length ≤ sizeLine then R.ok ds else R.st) _ _ from hq).bind.mono (fun ds _ hd vs B1 H1 g1 r1 => by
    by_cases hl : ds.length ≤ sizeLine
    · rw [if_pos hl] at hd
      exact ⟨by rw [r1.length]; exact hl, fun p hp => okF.nl ((show okF X B H Q ds from hd).later g1) g1.bh hp r1⟩
    · rw [if_neg hl] at hd
      exact hd.elim) fun x h => h)⟩
/-- a new list taken as data -/
theorem ped_new {mf : AM} (h : PFD X Wx e mf) : PED X Wx e (eL mf) :=
  fun W σ H B ρ E Q hq => h W σ H B ρ E Q ((show Post ((mf ρ).bind fun ds => R.ok (D.lst ds)) _ _ from hq).bind.mono (fun ds _ hd p xs B1 H1 g n e1 nb r => by
    have nb' : ∀ q u, B1 q = some u → q ≠ p := fun q u e z => by rw [z, nb] at e; cases e
    have s1 : Same B1 (upd B1 p (.lst xs)) := fun q u e => by rw [upd_ne (nb' q u e)]; exact e
    refine (show okD X B H Q (.lst ds) from hd) _ (upd B1 p (.lst xs)) H1 ⟨g.bb.trans s1, g.hh, fun q u e => ?_, fun q u e z => ?_⟩ (.lst upd_same (r.mono s1))
    · by_cases hq : q = p
      · subst hq; rw [upd_same] at e; rw [e1, e]
      · rw [upd_ne hq] at e; exact g.bh q u e
    · rw [upd_ne (ne_of_none e n)]
      exact g.sep q u e z) fun x h => h)
theorem ped_lst (h : PAD X Wx es mr) : PED X Wx (.List es pos) (eL (aLst mr)) := ped_new (pfd_lst h)
/-- what a def promises, over data -/
def spD (K : PySem.W.Frag) (mg : Str → Option Value) (n : Nat) (F : List D → R D) : Sp := fun vs H Q E => ∃ B ds, Same B H ∧ ds.length = n ∧ IsL K mg B vs ds ∧
  Post (F ds) (fun d => ∀ v B' H', Grow B H B' H' → Is K mg B' v d → Q v H') (fun x => ∀ cls B' H', mg x = some cls → Grow B H B' H' → E cls none H')
/-- a def of the module that keeps such a promise -/
def FnD (P : Program) (w : World) (K : PySem.W.Frag) (mg : Str → Option Value) (base : Heap) (k : Nat) (x : Str) (ps : List Str) (F : List D → R D) : Prop :=
  ∃ f fd, mg x = some (.ref f) ∧ PySem.W.keepIn K (.ref f) = true ∧ Binds K fd ps [] ∧ FnOk P w K mg base (L2.CX P w) k f fd ps (spD K mg ps.length F)
theorem ped_call {k : Nat} {x : Str} {ps : List Str} {F : List D → R D} (hF : FnD X.prog X.w X.K X.mg X.base k x ps F) (hr : Room k X.A) (tk : Takes X Wx) (hg : Gl X x) (ha : PAD X Wx (a :: es) (aCons ma mr)) (hn : ∀ ρ ds, aCons ma mr ρ = .ok ds → ds.length = ps.length)
    (hdb : (x == ("__debug__" : Str)) = false := by decide) (he : starEach (a :: es) X.env = (false, eval a X.env) :: starEach es X.env := by rfl) (hpl : (backTo pos (starEach es X.env)).any (·.1) = false := by rfl) :
    PED X Wx (.Call (.Name x p) (a :: es) [] pos) (eF F (aCons ma mr)) := by
  obtain ⟨f, fd, hm, hk, hb, hf⟩ := hF
  intro W σ H B ρ E Q h
  refine ⟨_, pe_callS hf hr hg hm hk hb (fun σ => passAt tk σ) pa_wp hdb he hpl, ?_⟩
  refine ha W σ H B ρ E _ ((show Post ((aCons ma mr ρ).bind F) _ _ from h).bind.mono (fun ds hds hd vs B1 H1 g1 r1 => ?_) fun x h => h)
  exact ⟨B1, ds, g1.bh, hn ρ ds hds, r1, hd.mono (fun d _ q v B2 H2 g2 r2 => q v B2 H2 (g1.trans g2) r2) fun x q cls B2 H2 e g2 => q cls B2 H2 e (g1.trans g2)⟩
theorem aCons_len {n : Nat} (h : ∀ ρ ds, mr ρ = .ok ds → ds.length = n) : ∀ ρ ds, aCons ma mr ρ = .ok ds → ds.length = n + 1 := by
  intro ρ ds e
  unfold aCons at e
  cases h1 : ma ρ with
  | ok d =>
    rw [h1] at e
    cases h2 : mr ρ with
    | ok xs =>
      rw [h2] at e
      cases e
      rw [List.length_cons, h ρ xs h2]
    | er x => rw [h2] at e; cases e
    | st => rw [h2] at e; cases e
  | er x => rw [h1] at e; cases e
  | st => rw [h1] at e; cases e
theorem aNil_len : ∀ (ρ : En) ds, aNil ρ = .ok ds → ds.length = 0 := by
  intro ρ ds e
  cases e
  rfl
/-- a built-in called by its name -/
def CallD (X : Cx) (f : Value) (g : List D → Option D) : Prop := ∀ B H vs ds d' Q, Same B H → IsL X.K X.mg B vs ds → g ds = some d' → okD X B H Q d' → ∃ r, CallR X f r ∧ r vs H Q
def wpC (X : Cx) (f : Value) : List V → Hp → VK → Prop := fun vs H Q => ∃ r, CallR X f r ∧ r vs H Q
theorem call_wp {f : Value} : CallR X f (wpC X f) := fun pins s σ H xs us Q I r ⟨_, h, q⟩ => h pins s σ H xs us Q I r q
theorem ped_callB {x : Str} {id : String} {g : List D → Option D} (hc : CallD X (.builtin id) g) (hg : Gl X x) (hm : X.mg x = none) (hv : bootBuiltins x = some (.builtin id)) (ha : PAD X Wx (a :: es) mr) (hn : x ≠ "__name__" := by decide) (hdb : (x == ("__debug__" : Str)) = false := by decide)
    (he : starEach (a :: es) X.env = (false, eval a X.env) :: starEach es X.env := by rfl) (hpl : (backTo pos (starEach es X.env)).any (·.1) = false := by rfl) : PED X Wx (.Call (.Name x p) (a :: es) [] pos) (eB g mr) :=
  fun W σ H B ρ E Q h => ⟨_, pe_callB call_wp hg hm hv pa_wp hn hdb he hpl, ha W σ H B ρ E _ ((show Post ((mr ρ).bind fun ds => R.ofO (g ds)) _ _ from h).bind.mono (fun ds _ hd vs B1 H1 g1 r1 => by
    obtain ⟨d', e1, q⟩ := hd.ofO
    exact hc B1 H1 vs ds d' Q g1.bh r1 e1 (q.later g1)) fun x h => h)⟩
theorem ped_callT {x : Str} {T : String} {g : List D → Option D} (hc : CallD X (.type T) g) (hg : Gl X x) (hm : X.mg x = none) (hv : bootBuiltins x = some (.type T)) (ha : PAD X Wx (a :: es) mr) (hn : x ≠ "__name__" := by decide) (hdb : (x == ("__debug__" : Str)) = false := by decide)
    (he : starEach (a :: es) X.env = (false, eval a X.env) :: starEach es X.env := by rfl) (hpl : (backTo pos (starEach es X.env)).any (·.1) = false := by rfl) : PED X Wx (.Call (.Name x p) (a :: es) [] pos) (eB g mr) :=
  fun W σ H B ρ E Q h => ⟨_, pe_callTy call_wp hg hm hv pa_wp hn hdb he hpl, ha W σ H B ρ E _ ((show Post ((mr ρ).bind fun ds => R.ofO (g ds)) _ _ from h).bind.mono (fun ds _ hd vs B1 H1 g1 r1 => by
    obtain ⟨d', e1, q⟩ := hd.ofO
    exact hc B1 H1 vs ds d' Q g1.bh r1 e1 (q.later g1)) fun x h => h)⟩
end
end GD

/-! GD, part c: statements, loops, defs. -/
namespace GD
open PySem PySem.Spec PyProof.Rows L2

/-! ### combinators -/
def sNil : SM := fun ρ => .nx ρ
def sSeq (a b : SM) : SM := fun ρ => match a ρ with
  | .nx ρ' => b ρ'
  | o => o
/-- with an answer: a value goes on, an error leaves -/
def ofR {α : Type} (r : R α) (ρ : En) (k : α → Out) : Out := match r with
  | .ok a => k a
  | .er x => .er x ρ
  | .st => .st
def sIf (t : TM) (a b : SM) : SM := fun ρ => ofR (t ρ) ρ fun c => if c = true then a ρ else b ρ
def sAsg (i : Nat) (m : EM) : SM := fun ρ => ofR (m ρ) ρ fun d => .nx (ρ.set i (.v d))
def sRet (m : EM) : SM := fun ρ => ofR (m ρ) ρ .rt
def sRetN : SM := fun _ => .rt .non
def sExpr (m : EM) : SM := fun ρ => ofR (m ρ) ρ fun _ => .nx ρ
def sRaise (x : Str) : SM := fun ρ => .er x ρ
def sBreak : SM := fun ρ => .bk ρ
def sCont : SM := fun ρ => .ct ρ
/-- a list of one's own made -/
def sOwn (i : Nat) (m : AM) : SM := fun ρ => ofR (m ρ) ρ fun ds => .nx (ρ.set i (.l ds))
/-- a list of one's own becomes data, ahead of a statement -/
def sFrz (i : Nat) (a : SM) : SM := fun ρ => a (frz i ρ)
/-- targets: a name; a tuple of targets -/
def gNm (i : Nat) : D → En → Option En := fun d ρ => some (ρ.set i (.v d))
def gsNil : List D → En → Option En := fun ds ρ => match ds with
  | [] => some ρ
  | _ => none
def gsCons (g : D → En → Option En) (gs : List D → En → Option En) : List D → En → Option En := fun ds ρ => match ds with
  | d :: r => (g d ρ).bind fun ρ' => gs r ρ'
  | [] => none
def gTp (gs : List D → En → Option En) : D → En → Option En := fun d ρ => match d with
  | .tup ds => gs ds ρ
  | _ => none
def sTgt (g : D → En → Option En) (m : EM) : SM := fun ρ => ofR (m ρ) ρ fun d => match g d ρ with
  | some ρ' => .nx ρ'
  | none => .st
def sPar (i j : Nat) (ma mb : EM) : SM := fun ρ => ofR ((ma ρ).bind fun x => (mb ρ).bind fun y => .ok (x, y)) ρ fun p => .nx ((ρ.set i (.v p.1)).set j (.v p.2))
/-- a loop over given items -/
def loop (g : D → En → Option En) (body : SM) : List D → En → Out
  | [], ρ => .nx ρ
  | d :: r, ρ => match g d ρ with
    | none => .st
    | some ρ' => match body ρ' with
      | .nx ρ2 => loop g body r ρ2
      | .ct ρ2 => loop g body r ρ2
      | .bk ρ2 => .nx ρ2
      | o => o
def asL : D → Option (List D)
  | .lst ds => some ds
  | .scr ns => some (ns.map D.int)
  | _ => none
def asT : D → Option (List D)
  | .tup ds => some ds
  | _ => none
def sFor (g : D → En → Option En) (f : D → Option (List D)) (m : EM) (body : SM) : SM := fun ρ => ofR ((m ρ).bind fun d => R.ofO (f d)) ρ fun ds => loop g body ds ρ
/-- range(a), range(a, b), range(a, b, c) -/
def rg (a c : Int) (n : Nat) : List D := (List.range n).map fun i => D.int (a + (i : Nat) * c)
def dRange : List D → Option (List D)
  | [.int j] => if -(2 ^ 62) ≤ j ∧ j < 2 ^ 62 then some (rg 0 1 j.toNat) else none
  | [.int i, .int j] => if -(2 ^ 62) ≤ i ∧ i < 2 ^ 62 ∧ -(2 ^ 62) ≤ j ∧ j < 2 ^ 62 then some (rg i 1 (j - i).toNat) else none
  | [.int i, .int j, .int c] => if c ≠ 0 ∧ c.natAbs < 1073741824 ∧ Builtin.Range.small i j c = true ∧ 0 ≤ Builtin.Range.rangeSize i j c then some (rg i c (Builtin.Range.rangeSize i j c).toNat) else none
  | _ => none
def sForR (g : D → En → Option En) (m : AM) (body : SM) : SM := fun ρ => ofR ((m ρ).bind fun ds => R.ofO (dRange ds)) ρ fun ds => loop g body ds ρ
def whileN (t : TM) (body : SM) : Nat → En → Out
  | 0, _ => .st
  | n + 1, ρ => ofR (t ρ) ρ fun c => if c = true then (match body ρ with
      | .nx ρ2 => whileN t body n ρ2
      | .ct ρ2 => whileN t body n ρ2
      | .bk ρ2 => .nx ρ2
      | o => o) else .nx ρ
def sWhile (fuel : En → Nat) (t : TM) (body : SM) : SM := fun ρ => whileN t body (fuel ρ) ρ
/-- xs.append(e), a list of one's own; xs.pop(); xs.insert(i, e); xs[i] = e; xs.clear() -/
def sApp (i : Nat) (m : EM) : SM := fun ρ => match ρ[i]? with
  | some (.l ds) => ofR (m ρ) ρ fun d => if ds.length < sizeLine then .nx (ρ.set i (.l (ds ++ [d]))) else .st
  | _ => .st
def sPop (i : Nat) : SM := fun ρ => match ρ[i]? with
  | some (.l ds) => if ds = [] then .st else .nx (ρ.set i (.l ds.dropLast))
  | _ => .st
/-- a def's answer -/
def runF (n : Nat) (m : SM) (ds : List D) : R D := match m (ds.map Sl.v ++ List.replicate (n - ds.length) Sl.un) with
  | .rt d => .ok d
  | .nx _ => .ok .non
  | .er x _ => .er x
  | _ => .st

/-! ### rules -/
section
variable {X : Cx} {Wx : WX} {W : Wd} {a b c e : Expr} {es : List Expr} {st : Stmt} {ss ts : List Stmt} {pos p : Pos} {ma mb m : EM} {mr mf : AM} {t : TM} {sa sb sc : SM} {σ : L2.St} {B H : Hp} {ρ : En} {D : Ends}
theorem PostS.ofR {α : Type} {r : R α} {k : α → Out} (h : PostS X W Wx (GD.ofR r ρ k) D) (E : EnvOk X.K X.mg W B H σ ρ) : Post r (fun x => PostS X W Wx (k x) D) (erD X Wx σ B H) := by
  cases r with
  | ok x => exact h
  | er x => exact fun cls B' H' e g => h cls σ B' H' e (E.grow g)
  | st => exact h
theorem pbd_nil : PBD X Wx [] sNil := fun W σ H B ρ E D h => ⟨_, pss_nil, (show PostS X W Wx (.nx ρ) D from h) σ B H E⟩
theorem pbd_cons (h1 : PSD X Wx st sa) (h2 : PBD X Wx ss sb) : PBD X Wx (st :: ss) (sSeq sa sb) :=
  fun W σ H B ρ E D h => ⟨_, pss_cons ps_wp pb_wp, h1 W σ H B ρ E { D with nx := wpB X ss D } (by
    unfold sSeq at h
    cases e : sa ρ with
    | nx ρ' =>
      rw [e] at h
      exact fun σ' B' H' E' => h2 W σ' H' B' ρ' E' D h
    | rt d => rw [e] at h; exact h
    | bk ρ' => rw [e] at h; exact h
    | ct ρ' => rw [e] at h; exact h
    | er x ρ' => rw [e] at h; exact h
    | st => rw [e] at h; exact h)⟩
theorem pbd_one (h1 : PSD X Wx st sa) : PBD X Wx [st] sa := fun W σ H B ρ E D h => ⟨_, pss_one ps_wp, h1 W σ H B ρ E D h⟩
theorem psd_frz (i : Nat) (h : PSD X Wx st sa) : PSD X Wx st (sFrz i sa) := fun W σ H B ρ E D q =>
  let ⟨B', E'⟩ := E.frz i
  h W σ H B' _ E' D q
theorem psd_pass : PSD X Wx (.Pass pos) sNil := fun W σ H B ρ E D h => ⟨_, ps_pass, (show PostS X W Wx (.nx ρ) D from h) σ B H E⟩
theorem psd_break : PSD X Wx (.Break pos) sBreak := fun W σ H B ρ E D h => ⟨_, ps_break, (show PostS X W Wx (.bk ρ) D from h) σ B H E⟩
theorem psd_cont : PSD X Wx (.Continue pos) sCont := fun W σ H B ρ E D h => ⟨_, ps_continue, (show PostS X W Wx (.ct ρ) D from h) σ B H E⟩
theorem psd_doc {x j pos'} : PSD X Wx (.Expr (.Constant (.str x) j pos) pos') sNil := fun W σ H B ρ E D h => ⟨_, ps_doc, (show PostS X W Wx (.nx ρ) D from h) σ B H E⟩
theorem psd_expr (h : PED X Wx e m) (hs : swapsWith e none pos.line X.env = pure false := by rfl) : PSD X Wx (.Expr e pos) (sExpr m) := fun W σ H B ρ E D q =>
  ⟨_, ps_expr pe_wp hs, h W σ H B ρ E _ ((PostS.ofR q E).mono (fun d _ hd v B' H' g _ => hd σ B' H' (E.grow g)) fun _ z => z)⟩
theorem psd_ret (h : PED X Wx e m) : PSD X Wx (.Return (some e) pos) (sRet m) := fun W σ H B ρ E D q =>
  ⟨_, ps_ret pe_wp, h W σ H B ρ E _ ((PostS.ofR q E).mono (fun d _ hd v B' H' g r => (show PostS X W Wx (.rt d) D from hd) v B' H' (E.gr.trans g) r) fun _ z => z)⟩
theorem psd_retN : PSD X Wx (.Return none pos) sRetN := fun W σ H B ρ E D q => ⟨_, ps_retN, (show PostS X W Wx (.rt .non) D from q) _ B H E.gr .non⟩
theorem psd_if (hc : PTD X Wx c t) (ha : PBD X Wx ss sa) (hb : PBD X Wx ts sb) : PSD X Wx (.If c ss ts pos) (sIf t sa sb) := fun W σ H B ρ E D q =>
  ⟨_, ps_if pt_wp pb_wp pb_wp, hc W σ H B ρ E _ ((PostS.ofR q E).mono (fun k _ hk B' H' g => by
    cases k with
    | true =>
      rw [if_pos rfl] at hk ⊢
      exact ha W σ H' B' ρ (E.grow g) D hk
    | false =>
      rw [if_neg Bool.false_ne_true] at hk ⊢
      exact hb W σ H' B' ρ (E.grow g) D hk) fun _ z => z)⟩
theorem psd_set {i : Nat} {x : Str} {pos' : Pos} (hN : X.N.Nodup) (hi : X.N[i]? = some x) (hx : Loc X.env.scope x) (h : PED X Wx e m) (hs : swapsWith e (some (.Name x pos')) pos.line X.env = pure false := by rfl)
    (hf : X.fn x = true ∨ X.env.scope.names.lookup x = some .local := by first | exact .inl rfl | exact .inr rfl | assumption) : PSD X Wx (.Assign [.Name x pos'] e pos) (sAsg i m) := fun W σ H B ρ E D q =>
  ⟨_, ps_set hN hi hx pe_wp hs hf, h W σ H B ρ E _ ((PostS.ofR q E).mono (fun d _ hd v B' H' g r => (show PostS X W Wx (.nx (ρ.set i (.v d))) D from hd) _ B' H' ((E.grow g).set r)) fun _ z => z)⟩
theorem psd_own {i : Nat} {x : Str} {pos' : Pos} (hN : X.N.Nodup) (hi : X.N[i]? = some x) (hx : Loc X.env.scope x) (h : PFD X Wx e mf) (hs : swapsWith e (some (.Name x pos')) pos.line X.env = pure false := by rfl)
    (hf : X.fn x = true ∨ X.env.scope.names.lookup x = some .local := by first | exact .inl rfl | exact .inr rfl | assumption) : PSD X Wx (.Assign [.Name x pos'] e pos) (sOwn i mf) := fun W σ H B ρ E D q =>
  ⟨_, ps_set hN hi hx pe_wp hs hf, h W σ H B ρ E _ ((PostS.ofR q E).mono (fun ds _ hd p xs B' H' g n e1 nb r => (show PostS X W Wx (.nx (ρ.set i (.l ds))) D from hd) _ B' H' ((E.grow g).setL e1 nb (by
    cases q : W.H p with
    | none => rfl
    | some o => rw [E.gr.hh p o q] at n; cases n) (fun j fs hj _ z => by
      obtain ⟨p', ys, h1, h2, _⟩ := E.own j fs hj
      rw [z] at h1
      cases h1
      rw [n] at h2
      cases h2) r)) fun _ z => z)⟩
/-- targets -/
def wpG (X : Cx) (tg : Expr) : TG := fun v σ H Q => ∃ t, PG X tg t ∧ t v σ H Q
theorem pg_wp {tg : Expr} : PG X tg (wpG X tg) := ⟨fun pins s σ H v u Q I r ⟨_, h, q⟩ => h.run pins s σ H v u Q I r q⟩
def wpGs (X : Cx) (tgs : List Expr) : TGs := fun v σ H Q => ∃ t, PGs X tgs t ∧ t v σ H Q
theorem pgs_wp {tgs : List Expr} : PGs X tgs (wpGs X tgs) := ⟨fun pins s σ H v u Q I r ⟨_, h, q⟩ => h.run pins s σ H v u Q I r q⟩
def PGD (X : Cx) (tg : Expr) (g : GD.D → En → Option En) : Prop := ∀ W σ H B ρ ρ' d v, EnvOk X.K X.mg W B H σ ρ → Is X.K X.mg B v d → g d ρ = some ρ' → ∀ Q : L2.St → Hp → Prop, (∀ σ', EnvOk X.K X.mg W B H σ' ρ' → Q σ' H) → wpG X tg v σ H Q
def PGsD (X : Cx) (tgs : List Expr) (g : List GD.D → En → Option En) : Prop := ∀ W σ H B ρ ρ' ds vs, EnvOk X.K X.mg W B H σ ρ → IsL X.K X.mg B vs ds → g ds ρ = some ρ' → ∀ Q : L2.St → Hp → Prop, (∀ σ', EnvOk X.K X.mg W B H σ' ρ' → Q σ' H) → wpGs X tgs vs σ H Q
theorem pgd_name {i : Nat} {x : Str} (hN : X.N.Nodup) (hi : X.N[i]? = some x) (hx : Loc X.env.scope x) (hf : X.fn x = true ∨ X.env.scope.names.lookup x = some .local := by first | exact .inl rfl | exact .inr rfl | assumption) : PGD X (.Name x pos) (gNm i) := by
  intro W σ H B ρ ρ' d v E r g Q q
  cases g
  exact ⟨_, pg_name hN hi hx hf, q _ (E.set r)⟩
theorem pgsd_nil : PGsD X [] gsNil := by
  intro W σ H B ρ ρ' ds vs E r g Q q
  cases r with
  | nil =>
    cases g
    exact ⟨_, pgs_nil, rfl, q _ E⟩
  | cons _ _ => cases g
theorem pgsd_cons {tg : Expr} {tgs : List Expr} {g : GD.D → En → Option En} {gs : List GD.D → En → Option En} (h1 : PGD X tg g) (h2 : PGsD X tgs gs)
    (hs : (assignEach (tg :: tgs) X.env).map (·.2) = assign tg X.env :: (assignEach tgs X.env).map (·.2) := by rfl) : PGsD X (tg :: tgs) (gsCons g gs) := by
  intro W σ H B ρ ρ' ds vs E r gg Q q
  cases r with
  | nil => cases gg
  | cons hv r =>
    simp only [gsCons, Option.bind_eq_some_iff] at gg
    obtain ⟨ρ1, g1, g2⟩ := gg
    exact ⟨_, pgs_cons pg_wp pgs_wp hs, _, _, rfl, h1 W σ H B ρ ρ1 _ _ E hv g1 _ fun σ1 E1 => h2 W σ1 H B ρ1 ρ' _ _ E1 r g2 Q q⟩
theorem gs_len {gs : List GD.D → En → Option En} (n : Nat) (h : ∀ ds ρ ρ', gs ds ρ = some ρ' → ds.length = n) {g : GD.D → En → Option En} : ∀ ds ρ ρ', gsCons g gs ds ρ = some ρ' → ds.length = n + 1 := by
  intro ds ρ ρ' e
  cases ds with
  | nil => cases e
  | cons d r =>
    simp only [gsCons, Option.bind_eq_some_iff] at e
    obtain ⟨ρ1, _, e2⟩ := e
    rw [List.length_cons, h r ρ1 ρ' e2]
theorem gs_len0 : ∀ (ds : List GD.D) (ρ ρ' : En), gsNil ds ρ = some ρ' → ds.length = 0 := by
  intro ds ρ ρ' e
  cases ds with
  | nil => rfl
  | cons _ _ => cases e
theorem pgd_tup {tgs : List Expr} {k : Nat} {gs : List GD.D → En → Option En} {n : Nat} (hc : X.calm = true) (h : PGsD X tgs gs) (hl : ∀ ds ρ ρ', gs ds ρ = some ρ' → ds.length = n)
    (hn : (assignEach tgs X.env).length = n := by rfl) (hst : (assignEach tgs X.env).findIdx? (·.1) = none := by rfl) : PGD X (.Tuple tgs k pos) (gTp gs) := by
  intro W σ H B ρ ρ' d v E r g Q q
  unfold gTp at g
  split at g
  · obtain ⟨a, xs, rfl, h1, r1⟩ := r.tup_inv
    exact ⟨_, pg_tup hc pgs_wp hn hst, a, xs, rfl, seqT E.bh h1, by rw [r1.length]; exact hl _ _ _ g, h W σ H B ρ ρ' _ _ E r1 g Q q⟩
  · cases g
theorem psd_tgt {tg : Expr} {g : GD.D → En → Option En} (h : PED X Wx e m) (hg : PGD X tg g) (hs : swapsWithSole [tg] e pos.line X.env = pure false := by rfl) (hw : swappedStores [tg] e X.env = pure none := by rfl)
    (h1 : (assignEach [tg] X.env).map (·.2) = [assign tg X.env] := by rfl) : PSD X Wx (.Assign [tg] e pos) (sTgt g m) := fun W σ H B ρ E D q =>
  ⟨_, ps_asg pe_wp pg_wp hs hw h1, h W σ H B ρ E _ ((PostS.ofR q E).mono (fun d _ hd v B' H' gr r => by
    cases eg : g d ρ with
    | none => rw [eg] at hd; exact hd.elim
    | some ρ' =>
      rw [eg] at hd
      exact hg W σ H' B' ρ ρ' d v (E.grow gr) r eg _ fun σ' E' => (show PostS X W Wx (.nx ρ') D from hd) σ' B' H' E') fun _ z => z)⟩
theorem psd_par {i j : Nat} {x y : Str} {px py pt : Pos} {kt k2 pt2} (hc : X.calm = true) (hN : X.N.Nodup) (hi : X.N[i]? = some x) (hj : X.N[j]? = some y) (hij : i ≠ j)
    (hx : X.env.scope.names.lookup x = some .local) (hy : X.env.scope.names.lookup y = some .local) (ha : PED X Wx a ma) (hb : PED X Wx b mb)
    (hw : swappedStores [.Tuple [.Name x px, .Name y py] kt pt] (.Tuple [a, b] k2 pt2) X.env = pure (some [x, y]) := by rfl)
    (hs : swapsWithSole [.Tuple [.Name x px, .Name y py] kt pt] (.Tuple [a, b] k2 pt2) pos.line X.env = pure false := by rfl)
    (s1 : starEach [a, b] X.env = (false, eval a X.env) :: starEach [b] X.env := by rfl) (s2 : starEach [b] X.env = (false, eval b X.env) :: starEach [] X.env := by rfl) :
    PSD X Wx (.Assign [.Tuple [.Name x px, .Name y py] kt pt] (.Tuple [a, b] k2 pt2) pos) (sPar i j ma mb) := fun W σ H B ρ E D q =>
  ⟨_, ps_par hc hN hi hj hij hx hy pa_wp hw hs, (pad_cons ha (pad_cons hb pad_nil s2) s1) W σ H B ρ E _ (by
    have q2 := PostS.ofR q E
    unfold aCons aNil
    refine (?_ : Post ((ma ρ).bind fun u => ((mb ρ).bind fun v => (R.ok ([] : List GD.D)).bind fun xs => .ok (v :: xs)).bind fun xs => .ok (u :: xs)) _ _)
    cases e1 : ma ρ with
    | ok u =>
      cases e2 : mb ρ with
      | ok v =>
        rw [e1, e2] at q2
        intro vs B' H' g r
        cases r with
        | cons r1 r =>
          cases r with
          | cons r2 r =>
            cases r
            exact ⟨_, _, rfl, (show PostS X W Wx (.nx _) D from q2) _ B' H' (((E.grow g).set r1).set r2)⟩
      | er z => rw [e1, e2] at q2; exact q2
      | st => rw [e1, e2] at q2; exact q2
    | er z => rw [e1] at q2; exact q2
    | st => rw [e1] at q2; exact q2)⟩
/-- raise X('..') -/
theorem psd_raise {C : Addr} {bmB : List Value} {Bn newId initId : String} {x s : Str} {j : Nat} {p2 pos2 : Pos} (hc : X.calm = true) (tk : Takes X Wx) (F : ExcBaseFacts Bn newId initId bmB) (q : PySem.W.excIn X.K C bmB newId = true) (gC : X.mg x = some (.ref C)) (kC : PySem.W.keepIn X.K (.ref C) = true)
    (r : Raises X (.ref C)) (hg : Gl X x) (hdb : (x == ("__debug__" : Str)) = false := by decide) : PSD X Wx (.Raise (some (.Call (.Name x p) [.Constant (.str s) j p2] [] pos)) none pos2) (sRaise x) := fun W σ H B ρ E D h =>
  ⟨_, ps_raise hc tk (pmk_own F q gC kC r hg hdb), (show PostS X W Wx (.er x ρ) D from h) _ σ B H gC E⟩

/-! ### loops -/
/-- what a loop leaves at its end -/
def ends (D : Ends) (N : L2.St → Hp → Prop) : Ends := { D with nx := N, ct := N, bk := D.nx }
theorem loop_turn {g : GD.D → En → Option En} {d : GD.D} {r : List GD.D} {tgt : Expr} {body : List Stmt} {N : L2.St → Hp → Prop} {v : V} (hg : PGD X tgt g) (hb : PBD X Wx body sb) (E : EnvOk X.K X.mg W B H σ ρ) (rv : Is X.K X.mg B v d)
    (q : PostS X W Wx (loop g sb (d :: r) ρ) D) (hN : ∀ σ' B' H' ρ', EnvOk X.K X.mg W B' H' σ' ρ' → PostS X W Wx (loop g sb r ρ') D → N σ' H') :
    wpG X tgt v σ H fun σ2 H2 => wpB X body (ends D N) σ2 H2 := by
  unfold loop at q
  cases eg : g d ρ with
  | none => rw [eg] at q; exact q.elim
  | some ρ1 =>
    rw [eg] at q
    dsimp only at q
    refine hg W σ H B ρ ρ1 d v E rv eg _ fun σ1 E1 => hb W σ1 H B ρ1 E1 _ ?_
    revert q
    cases eb : sb ρ1 with
    | nx ρ2 => exact fun q σ2 B2 H2 E2 => hN σ2 B2 H2 ρ2 E2 q
    | ct ρ2 => exact fun q σ2 B2 H2 E2 => hN σ2 B2 H2 ρ2 E2 q
    | bk ρ2 => exact fun q => q
    | rt d => exact fun q => q
    | er x ρ2 => exact fun q => q
    | st => exact fun q => q
theorem drop_get {α : Type} {l : List α} {i : Nat} {x : α} (h : l[i]? = some x) : l.drop i = x :: l.drop (i + 1) := by
  obtain ⟨hi, e⟩ := List.getElem?_eq_some_iff.mp h
  rw [List.drop_eq_getElem_cons hi, e]
/-- the loop's outcome read with the clean heap of its begin -/
theorem PostS.back {o : Out} (g : Grow W.B W.H B H) (q : PostS X W Wx o D) : PostS X ⟨B, W.H⟩ Wx o D := by
  cases o with
  | nx ρ => exact fun σ' B' H' E => q σ' B' H' (E.back (B1 := B) g)
  | rt d => exact fun v B' H' gr r => q v B' H' ⟨g.bb.trans gr.bb, gr.hh, gr.bh, fun p o e n => gr.sep p o e (g.sep p o e n)⟩ r
  | bk ρ => exact fun σ' B' H' E => q σ' B' H' (E.back (B1 := B) g)
  | ct ρ => exact fun σ' B' H' E => q σ' B' H' (E.back (B1 := B) g)
  | er x ρ => exact fun cls σ' B' H' e E => q cls σ' B' H' e (E.back (B1 := B) g)
  | st => exact q
theorem psd_forL {tgt : Expr} {body : List Stmt} {g : GD.D → En → Option En} (hp : PassesOwn (model X.prog X.w) X.A X.env X.xe) (hc : X.calm = true) (h : PED X Wx e m) (hg : PGD X tgt g) (hb : PBD X Wx body sb) (hfs : ∀ x, foldedSetIterable e X.env x = pure x := by intro _; rfl) :
    PSD X Wx (.For tgt e body [] pos) (sFor g asL m sb) := fun W σ H B ρ E D q =>
  ⟨_, ps_for (hs := hfs) hp hc (pi_list pe_wp) pg_wp pb_wp, by
    refine h W σ H B ρ E _ ((PostS.ofR q E).bind.mono (fun d _ hd v B1 H1 g1 rv => ?_) fun _ z => z)
    obtain ⟨ds, ed, q1⟩ := hd.ofO
    have E1 := E.grow g1
    have q2 := PostS.back E1.gr q1
    obtain ⟨a, xs, ev, hs, r⟩ : ∃ a xs, v = V.ref a ∧ SqL X.K B1 a xs ∧ IsL X.K X.mg B1 xs ds := by
      cases d with
      | lst ds' =>
        cases ed
        obtain ⟨a, xs, ev, h1, r⟩ := rv.lst_inv
        exact ⟨a, xs, ev, SqL.of h1, r⟩
      | scr ns =>
        cases ed
        obtain ⟨a, ev, h1⟩ := rv.scr_inv
        exact ⟨a, _, ev, h1, IsL.ints ns⟩
      | _ => cases ed
    exact ⟨a, ev, ⟨xs, g1.bh.seq hs⟩, for_list (K := X.K) (a := a) (xs := xs) (fun i σ' H' => ∃ B' ρ', EnvOk X.K X.mg ⟨B1, W.H⟩ B' H' σ' ρ' ∧ PostS X ⟨B1, W.H⟩ Wx (loop g sb (ds.drop i) ρ') D)
        ⟨B1, ρ, E1.here, q2⟩ (fun i σ' H' _ ⟨B', ρ', E', _⟩ => (E'.gr.bb.trans E'.gr.bh).seq hs)
        (fun i x σ' H' hx ⟨B', ρ', E', q'⟩ => by
          obtain ⟨d', hd', r'⟩ := r.at hx
          rw [drop_get hd'] at q'
          exact loop_turn hg hb E' (r'.mono E'.gr.bb) q' fun σ2 B2 H2 ρ2 E2 z => ⟨B2, ρ2, E2, z⟩)
        (fun σ' H' ⟨B', ρ', E', q'⟩ => by
          rw [r.length, List.drop_length] at q'
          exact (show PostS X ⟨B1, W.H⟩ Wx (.nx ρ') D from q') σ' B' H' E')⟩⟩
theorem psd_forT {tgt : Expr} {body : List Stmt} {g : GD.D → En → Option En} (hp : PassesOwn (model X.prog X.w) X.A X.env X.xe) (hc : X.calm = true) (h : PED X Wx e m) (hg : PGD X tgt g) (hb : PBD X Wx body sb) (hfs : ∀ x, foldedSetIterable e X.env x = pure x := by intro _; rfl) :
    PSD X Wx (.For tgt e body [] pos) (sFor g asT m sb) := fun W σ H B ρ E D q =>
  ⟨_, ps_for (hs := hfs) hp hc (pi_tup pe_wp) pg_wp pb_wp, by
    refine h W σ H B ρ E _ ((PostS.ofR q E).bind.mono (fun d _ hd v B1 H1 g1 rv => ?_) fun _ z => z)
    obtain ⟨ds, ed, q1⟩ := hd.ofO
    have E1 := E.grow g1
    have q2 := PostS.back E1.gr q1
    cases d with
    | tup ds' =>
      obtain rfl : ds' = ds := Option.some.inj ed
      obtain ⟨a, xs, ev, hs, r⟩ := rv.tup_inv
      exact ⟨a, ev, ⟨xs, seqT g1.bh hs⟩, for_tup (K := X.K) (a := a) (xs := xs) (fun i σ' H' => ∃ B' ρ', EnvOk X.K X.mg ⟨B1, W.H⟩ B' H' σ' ρ' ∧ PostS X ⟨B1, W.H⟩ Wx (loop g sb (ds'.drop i) ρ') D)
        ⟨B1, ρ, E1.here, q2⟩ (fun i σ' H' _ ⟨B', ρ', E', _⟩ => seqT (E'.gr.bb.trans E'.gr.bh) hs)
        (fun i x σ' H' hx ⟨B', ρ', E', q'⟩ => by
          obtain ⟨d', hd', r'⟩ := r.at hx
          rw [drop_get hd'] at q'
          exact loop_turn hg hb E' (r'.mono E'.gr.bb) q' fun σ2 B2 H2 ρ2 E2 z => ⟨B2, ρ2, E2, z⟩)
        (fun σ' H' ⟨B', ρ', E', q'⟩ => by
          rw [r.length, List.drop_length] at q'
          exact (show PostS X ⟨B1, W.H⟩ Wx (.nx ρ') D from q') σ' B' H' E')⟩
    | _ => cases ed⟩
theorem rg_get {i c : Int} {n k : Nat} (h : k < n) : (rg i c n)[k]? = some (GD.D.int (i + (k : Nat) * c)) := by
  unfold rg
  rw [List.getElem?_map, List.getElem?_range h]
  rfl
theorem rg_len {i c : Int} {n : Nat} : (rg i c n).length = n := by
  unfold rg
  rw [List.length_map, List.length_range]
theorem rg_loop {tgt : Expr} {body : List Stmt} {g : GD.D → En → Option En} {lo c : Int} {n : Nat} {B1 H1 : Hp} (hg : PGD X tgt g) (hb : PBD X Wx body sb) (E : EnvOk X.K X.mg W B1 H1 σ ρ) (q : PostS X W Wx (loop g sb (rg lo c n) ρ) D) :
    (∃ B' ρ', EnvOk X.K X.mg W B' H1 σ ρ' ∧ PostS X W Wx (loop g sb ((rg lo c n).drop 0) ρ') D) ∧
    (∀ (i : Nat) σ' H', i < n → (∃ B' ρ', EnvOk X.K X.mg W B' H' σ' ρ' ∧ PostS X W Wx (loop g sb ((rg lo c n).drop i) ρ') D) →
      wpG X tgt (.int (lo + (i : Nat) * c)) σ' H' fun σ2 H2 => wpB X body (ends D fun σ3 H3 => ∃ B' ρ', EnvOk X.K X.mg W B' H3 σ3 ρ' ∧ PostS X W Wx (loop g sb ((rg lo c n).drop (i + 1)) ρ') D) σ2 H2) ∧
    (∀ σ' H', (∃ B' ρ', EnvOk X.K X.mg W B' H' σ' ρ' ∧ PostS X W Wx (loop g sb ((rg lo c n).drop n) ρ') D) → D.nx σ' H') := by
  refine ⟨⟨B1, ρ, E, q⟩, fun i σ' H' hi ⟨B', ρ', E', q'⟩ => ?_, fun σ' H' ⟨B', ρ', E', q'⟩ => ?_⟩
  · rw [drop_get (rg_get hi)] at q'
    exact loop_turn hg hb E' (.int _) q' fun σ2 B2 H2 ρ2 E2 z => ⟨B2, ρ2, E2, z⟩
  · rw [show (rg lo c n).drop n = [] from by
      rw [List.drop_eq_nil_iff, rg_len]
      exact Nat.le_refl _] at q'
    exact (show PostS X W Wx (.nx ρ') D from q') σ' B' H' E'
theorem psd_for1 {tgt : Expr} {cpos : Pos} {body : List Stmt} {g : GD.D → En → Option En} (hp : PassesOwn (model X.prog X.w) X.A X.env X.xe) (hc : X.calm = true) (hgl : Gl X "range") (hm : X.mg "range" = none) (h : PAD X Wx [a] mr) (hg : PGD X tgt g) (hb : PBD X Wx body sb)
    (hl : ∀ ρ ds, mr ρ = .ok ds → ds.length = 1) (hs : starEach [a] X.env = [(false, eval a X.env)] := by rfl) : PSD X Wx (.For tgt (.Call (.Name "range" p) [a] [] cpos) body [] pos) (sForR g mr sb) := fun W σ H B ρ E D q =>
  ⟨_, ps_for hp hc (pi_range1 hgl hm pa_wp hs) pg_wp pb_wp, by
    refine h W σ H B ρ E _ ((PostS.ofR q E).bind.mono (fun ds eds hd vs B1 H1 g1 rv => ?_) fun _ z => z)
    obtain ⟨rs, ed, q1⟩ := hd.ofO
    have hl1 := hl ρ ds eds
    match ds, hl1, ed, rv with
    | [d], _, ed, rv =>
      cases d with
      | int j =>
        obtain ⟨hj, rfl⟩ := some_ite ed
        cases rv with
        | cons r1 r2 =>
          cases r2
          rw [r1.int_inv]
          obtain ⟨h0, h1, h2⟩ := rg_loop hg hb (E.grow g1) q1
          refine ⟨j, rfl, hj.1, hj.2, for_range (lo := 0) (n := j.toNat) (fun i σ' H' => ∃ B' ρ', EnvOk X.K X.mg W B' H' σ' ρ' ∧ PostS X W Wx (loop g sb ((rg 0 1 j.toNat).drop i) ρ') D) h0 (fun i σ' H' hi p => ?_) h2⟩
          have z := h1 i σ' H' hi p
          rw [Int.mul_one] at z
          exact z
      | _ => cases ed⟩
theorem psd_for2 {tgt : Expr} {cpos : Pos} {body : List Stmt} {g : GD.D → En → Option En} (hp : PassesOwn (model X.prog X.w) X.A X.env X.xe) (hc : X.calm = true) (hgl : Gl X "range") (hm : X.mg "range" = none) (h : PAD X Wx [a, b] mr) (hg : PGD X tgt g) (hb : PBD X Wx body sb)
    (hl : ∀ ρ ds, mr ρ = .ok ds → ds.length = 2) (hs : starEach [a, b] X.env = [(false, eval a X.env), (false, eval b X.env)] := by rfl) (hs2 : starEach [b] X.env = [(false, eval b X.env)] := by rfl) : PSD X Wx (.For tgt (.Call (.Name "range" p) [a, b] [] cpos) body [] pos) (sForR g mr sb) := fun W σ H B ρ E D q =>
  ⟨_, ps_for hp hc (pi_range2 hgl hm pa_wp hs hs2) pg_wp pb_wp, by
    refine h W σ H B ρ E _ ((PostS.ofR q E).bind.mono (fun ds eds hd vs B1 H1 g1 rv => ?_) fun _ z => z)
    obtain ⟨rs, ed, q1⟩ := hd.ofO
    have hl1 := hl ρ ds eds
    match ds, hl1, ed, rv with
    | [d, d2], _, ed, rv =>
      cases d with
      | int i =>
        cases d2 with
        | int j =>
          obtain ⟨hj, rfl⟩ := some_ite ed
          cases rv with
          | cons r1 r2 =>
            cases r2 with
            | cons r2 r3 =>
              cases r3
              rw [r1.int_inv, r2.int_inv]
              obtain ⟨h0, h1, h2⟩ := rg_loop hg hb (E.grow g1) q1
              refine ⟨i, j, rfl, hj, for_range (lo := i) (n := (j - i).toNat) (fun k σ' H' => ∃ B' ρ', EnvOk X.K X.mg W B' H' σ' ρ' ∧ PostS X W Wx (loop g sb ((rg i 1 (j - i).toNat).drop k) ρ') D) h0 (fun k σ' H' hi p => ?_) h2⟩
              have z := h1 k σ' H' hi p
              rw [Int.mul_one] at z
              exact z
        | _ => cases ed
      | _ => cases ed⟩
theorem psd_for3 {tgt : Expr} {cpos : Pos} {body : List Stmt} {g : GD.D → En → Option En} (hp : PassesOwn (model X.prog X.w) X.A X.env X.xe) (hc : X.calm = true) (hgl : Gl X "range") (hm : X.mg "range" = none) (h : PAD X Wx [a, b, c] mr) (hg : PGD X tgt g) (hb : PBD X Wx body sb)
    (hl : ∀ ρ ds, mr ρ = .ok ds → ds.length = 3) (hs : starEach [a, b, c] X.env = (false, eval a X.env) :: starEach [b, c] X.env := by rfl) (hpl : (backTo cpos (starEach [b, c] X.env)).any (·.1) = false := by rfl) :
    PSD X Wx (.For tgt (.Call (.Name "range" p) [a, b, c] [] cpos) body [] pos) (sForR g mr sb) := fun W σ H B ρ E D q =>
  ⟨_, ps_for hp hc (pi_range3 hgl hm pa_wp hs hpl) pg_wp pb_wp, by
    refine h W σ H B ρ E _ ((PostS.ofR q E).bind.mono (fun ds eds hd vs B1 H1 g1 rv => ?_) fun _ z => z)
    obtain ⟨rs, ed, q1⟩ := hd.ofO
    have hl1 := hl ρ ds eds
    match ds, hl1, ed, rv with
    | [d, d2, d3], _, ed, rv =>
      cases d with
      | int i =>
        cases d2 with
        | int j =>
          cases d3 with
          | int k =>
            obtain ⟨⟨hj1, hj2, hj3, hj4⟩, rfl⟩ := some_ite ed
            cases rv with
            | cons r1 r2 =>
              cases r2 with
              | cons r2 r3 =>
                cases r3 with
                | cons r3 r4 =>
                  cases r4
                  rw [r1.int_inv, r2.int_inv, r3.int_inv]
                  obtain ⟨h0, h1, h2⟩ := rg_loop hg hb (E.grow g1) q1
                  exact ⟨i, j, k, (Builtin.Range.rangeSize i j k).toNat, rfl, ⟨hj1, hj2, hj3, by omega⟩, for_rangeC (lo := i) (c := k) (n := (Builtin.Range.rangeSize i j k).toNat) (fun z σ' H' => ∃ B' ρ', EnvOk X.K X.mg W B' H' σ' ρ' ∧ PostS X W Wx (loop g sb ((rg i k (Builtin.Range.rangeSize i j k).toNat).drop z) ρ') D) h0 h1 h2⟩
          | _ => cases ed
        | _ => cases ed
      | _ => cases ed⟩
theorem psd_while {body : List Stmt} {fuel : En → Nat} (hp : PassesOwn (model X.prog X.w) X.A X.env X.xe) (hc : PTD X Wx c t) (hb : PBD X Wx body sb) : PSD X Wx (.While c body [] pos) (sWhile fuel t sb) := fun W σ H B ρ E D q =>
  ⟨_, ps_while hp pt_wp pb_wp, fun m σ' H' => ∃ B' ρ', EnvOk X.K X.mg W B' H' σ' ρ' ∧ PostS X W Wx (whileN t sb m ρ') D, ⟨fuel ρ, B, ρ, E, q⟩, by
    rintro m σ' H' ⟨B', ρ', E', q'⟩
    cases m with
    | zero => exact q'.elim
    | succ m =>
      refine hc W σ' H' B' ρ' E' _ ((PostS.ofR q' E').mono (fun k _ hk B2 H2 g2 => ?_) fun _ z => z)
      cases k with
      | true =>
        rw [if_pos rfl] at hk ⊢
        refine ⟨fun σ3 H3 => ∃ B3 ρ3, EnvOk X.K X.mg W B3 H3 σ3 ρ3 ∧ PostS X W Wx (whileN t sb m ρ3) D, fun σ3 H3 z => ⟨m, Nat.lt_succ_self m, z⟩, hb W σ' H2 B2 ρ' (E'.grow g2) _ ?_⟩
        revert hk
        cases eb : sb ρ' with
        | nx ρ2 => exact fun q σ2 B2 H2 E2 => ⟨B2, ρ2, E2, q⟩
        | ct ρ2 => exact fun q σ2 B2 H2 E2 => ⟨B2, ρ2, E2, q⟩
        | bk ρ2 => exact fun q => q
        | rt d => exact fun q => q
        | er x ρ2 => exact fun q => q
        | st => exact fun q => q
      | false =>
        rw [if_neg Bool.false_ne_true] at hk ⊢
        exact (show PostS X W Wx (.nx ρ') D from hk) σ' B2 H2 (E'.grow g2)⟩
end

/-! ### a def -/
theorem env_start {K : PySem.W.Frag} {mg : Str → Option Value} {B H : Hp} {N : List Str} {vs : List V} {ds : List D} (b : Same B H) (r : IsL K mg B vs ds) :
    EnvOk K mg ⟨B, H⟩ B H (L2.start N vs) (ds.map Sl.v ++ List.replicate (N.length - ds.length) Sl.un) := by
  have hl := r.length
  refine ⟨Grow.refl b, by simp [L2.start, hl], fun i d h => ?_, fun i es h => ?_, fun i j es fs p h _ _ _ => ?_⟩
  · by_cases hi : i < ds.length
    · rw [List.getElem?_append_left (by rw [List.length_map]; exact hi), List.getElem?_map] at h
      cases e : ds[i]? with
      | none => rw [e] at h; cases h
      | some d' =>
        rw [e] at h
        cases h
        obtain ⟨v, h1, h2⟩ := r.get e
        exact ⟨v, by unfold L2.start; rw [List.getElem?_append_left (by rw [List.length_map, hl]; exact hi), List.getElem?_map, h1]; rfl, h2⟩
    · rw [List.getElem?_append_right (by rw [List.length_map]; omega), List.getElem?_replicate] at h
      split at h <;> cases h
  all_goals
    by_cases hi : i < ds.length
    · rw [List.getElem?_append_left (by rw [List.length_map]; exact hi), List.getElem?_map] at h
      cases e : ds[i]? with
      | none => rw [e] at h; cases h
      | some d' => rw [e] at h; cases h
    · rw [List.getElem?_append_right (by rw [List.length_map]; omega), List.getElem?_replicate] at h
      split at h <;> cases h
section
variable {P : Program} {w : World} {K : PySem.W.Frag} {mg : Str → Option Value} {base : Heap}
/-- THE RULE for a def -/
theorem fnOk_mk {x qual : Str} {st : Stmt} {f : Addr} {fd : FuncData} {N ps : List Str} {k : Nat} {m : SM} (F : Fun K x qual st f fd) (S : FnScope N ps (defScope st))
    (hb : ∀ (cdv : Value) (A : Around) (outer : List PySem.Env) (s : Shared) (H : Hp) (E : XK), Room k (A.deeper (envOfC qual (defScope st) s.heap.objs.size f cdv)) →
      PBD (cxOf (L2.CX P w) P w K mg base N qual (defScope st) f cdv A outer s H E) (fun cls d _ H => E cls d H) (defBody st) m) :
    FnOk P w K mg base (L2.CX P w) (k + 1) f fd ps (spD K mg ps.length (runF N.length m)) := by
  refine F.okX S (fun vs H Q E h => ?_) (fun cdv A outer s H vs Q E hr h => ?_)
  · obtain ⟨B, ds, _, hl, r, _⟩ := h
    rw [r.length, hl]
  · obtain ⟨B, ds, b, hl, r, q⟩ := h
    have z := hb cdv A outer s H E hr ⟨B, H⟩ (L2.start N vs) H B _ (env_start b r) { nx := fun _ H' => Q .non H', rt := Q } (by
      unfold runF at q
      show PostS _ _ _ (m (ds.map Sl.v ++ List.replicate (N.length - ds.length) Sl.un)) _
      cases e : m (ds.map Sl.v ++ List.replicate (N.length - ds.length) Sl.un) with
      | nx ρ =>
        rw [e] at q
        exact fun σ' B' H' E' => q .non B' H' E'.gr .non
      | rt d => rw [e] at q; exact q
      | bk ρ => rw [e] at q; exact q.elim
      | ct ρ => rw [e] at q; exact q.elim
      | er y ρ =>
        rw [e] at q
        exact fun cls σ' B' H' ec E' => q cls B' H' ec E'.gr
      | st => rw [e] at q; exact q.elim)
    exact z
end
end GD

/-! GD, part d: built-ins, slices, displays of dicts, comprehensions. -/
namespace GD
open PySem PySem.Spec PyProof.Rows L2

/-! ### built-ins -/
def dAbs : List D → Option D
  | [.int i] => some (.int i.natAbs)
  | _ => none
def dMax2 : List D → Option D
  | [.int i, .int j] => some (.int (max i j))
  | _ => none
def dMin2 : List D → Option D
  | [.int i, .int j] => some (.int (min i j))
  | _ => none
def dLen : List D → Option D
  | [.lst ds] => some (.int ds.length)
  | [.tup ds] => some (.int ds.length)
  | [.scr ns] => some (.int ns.length)
  | [.str x] => if x.length ≤ sizeLine then some (.int x.length) else none
  | _ => none
def dMinL : List D → Option D
  | [.lst ds] => (intsOf ds).bind fun ns => ns.min?.map D.int
  | _ => none
def dMaxL : List D → Option D
  | [.lst ds] => (intsOf ds).bind fun ns => ns.max?.map D.int
  | _ => none
def boolsOf : List D → Option (List Bool)
  | [] => some []
  | .bl i :: ds => (boolsOf ds).map (i :: ·)
  | _ => none
def dAll : List D → Option D
  | [.lst ds] => (boolsOf ds).map fun bs => .bl (bs.all id)
  | _ => none
def dAny : List D → Option D
  | [.lst ds] => (boolsOf ds).map fun bs => .bl (bs.any id)
  | _ => none
def dInt : List D → Option D
  | [.int i] => some (.int i)
  | [.bl b] => some (.int (if b then 1 else 0))
  | _ => none
/-- the name of the class of plain data -/
def tyName : D → Option String
  | .non => some "NoneType"
  | .bl _ => some "bool"
  | .int _ => some "int"
  | .str _ => some "str"
  | .tup _ => some "tuple"
  | .lst _ => some "list"
  | .scr _ => some "list"
  | .dct _ _ => some "dict"
  | _ => none
def dIsi : List D → Option D
  | [d, .ty n] => (tyName d).bind fun t => (kitB t n).map D.bl
  | _ => none
/-- list(xs), list(t): the items of a new list -/
def asC : List D → Option (List D)
  | [.lst ds] => some ds
  | [.tup ds] => some ds
  | [.scr ns] => some (ns.map D.int)
  | _ => none
def cutL {α : Type} (xs : List α) (lo hi : Option Int) : List α := (xs.drop (HT.sIx xs.length 0 lo)).take (HT.sIx xs.length xs.length hi - HT.sIx xs.length 0 lo)
/-- a slice of a text, of a tuple (not the whole of it) -/
def dCut (d : D) (lo hi : Option Int) : Option D := match d with
  | .str x => if x.length ≤ sizeLine then some (.str (cutS x lo hi)) else none
  | .tup ds => if HT.sIx ds.length 0 lo = 0 ∧ HT.sIx ds.length ds.length hi = ds.length then none else some (.tup (cutL ds lo hi))
  | _ => none

section
variable {X : Cx} {K : PySem.W.Frag} {mg : Str → Option Value} {B : Hp}
theorem IsL.one_inv {vs : List V} {d : D} (h : IsL K mg B vs [d]) : ∃ v, vs = [v] ∧ Is K mg B v d := by
  cases h with
  | cons h r => cases r; exact ⟨_, rfl, h⟩
theorem IsL.two_inv {vs : List V} {d e : D} (h : IsL K mg B vs [d, e]) : ∃ v u, vs = [v, u] ∧ Is K mg B v d ∧ Is K mg B u e := by
  cases h with
  | cons h r =>
    obtain ⟨u, rfl, h2⟩ := r.one_inv
    exact ⟨_, u, rfl, h, h2⟩
theorem IsL.bools_inv : ∀ {ds : List D} {ns : List Bool} {xs : List V}, boolsOf ds = some ns → IsL K mg B xs ds → xs = ns.map V.bl
  | [], ns, xs, e, h => by
    cases h
    simp [boolsOf] at e
    subst e
    rfl
  | d :: ds, ns, xs, e, h => by
    cases h with
    | cons h r =>
      cases d with
      | bl i =>
        simp only [boolsOf, Option.map_eq_some_iff] at e
        obtain ⟨ms, e1, rfl⟩ := e
        rw [h.bl_inv, IsL.bools_inv e1 r]
        rfl
      | _ => simp [boolsOf] at e
theorem calld_abs : CallD X (.builtin "abs") dAbs := by
  intro B H vs ds d' Q b r g q
  unfold dAbs at g
  split at g
  · cases g
    obtain ⟨v, rfl, h⟩ := r.one_inv
    rw [h.int_inv]
    rename_i i
    refine ⟨_, call_abs, i, rfl, ?_⟩
    have e : (if i < 0 then -i else i) = (i.natAbs : Int) := by split <;> omega
    rw [e]
    exact q.at b (.int _)
  · cases g
theorem calld_max2 (hc : X.calm = true) : CallD X (.builtin "max") dMax2 := by
  intro B H vs ds d' Q b r g q
  unfold dMax2 at g
  split at g
  · cases g
    obtain ⟨v, u, rfl, h, h2⟩ := r.two_inv
    rw [h.int_inv, h2.int_inv]
    rename_i i j
    refine ⟨_, call_max2 hc, i, j, rfl, ?_⟩
    have e : (if j > i then j else i) = max i j := by split <;> omega
    rw [e]
    exact q.at b (.int _)
  · cases g
theorem calld_min2 (hc : X.calm = true) : CallD X (.builtin "min") dMin2 := by
  intro B H vs ds d' Q b r g q
  unfold dMin2 at g
  split at g
  · cases g
    obtain ⟨v, u, rfl, h, h2⟩ := r.two_inv
    rw [h.int_inv, h2.int_inv]
    rename_i i j
    refine ⟨_, call_min2 hc, i, j, rfl, ?_⟩
    have e : (if j < i then j else i) = min i j := by split <;> omega
    rw [e]
    exact q.at b (.int _)
  · cases g
theorem calld_len : CallD X (.builtin "len") dLen := by
  intro B H vs ds d' Q b r g q
  unfold dLen at g
  split at g
  · cases g
    obtain ⟨v, rfl, h⟩ := r.one_inv
    obtain ⟨a, xs, rfl, h1, r1⟩ := h.lst_inv
    refine ⟨_, call_len_seq, a, xs, rfl, .inl (seqL_of b h1), ?_⟩
    rw [r1.length]
    exact q.at b (.int _)
  · cases g
    obtain ⟨v, rfl, h⟩ := r.one_inv
    obtain ⟨a, xs, rfl, h1, r1⟩ := h.tup_inv
    refine ⟨_, call_len_seq, a, xs, rfl, .inr (seqT b h1), ?_⟩
    rw [r1.length]
    exact q.at b (.int _)
  · cases g
    obtain ⟨v, rfl, h⟩ := r.one_inv
    obtain ⟨a, rfl, h1⟩ := h.scr_inv
    refine ⟨_, call_len_seq, a, _, rfl, .inl (b.seq h1), ?_⟩
    rw [List.length_map]
    exact q.at b (.int _)
  · obtain ⟨hl, rfl⟩ := some_ite g
    obtain ⟨v, rfl, h⟩ := r.one_inv
    rw [h.str_inv]
    exact ⟨_, call_len_str, _, rfl, hl, q.at b (.int _)⟩
  · cases g
theorem calld_minL (hc : X.calm = true) : CallD X (.builtin "min") dMinL := by
  intro B H vs ds d' Q b r g q
  unfold dMinL at g
  split at g
  · simp only [Option.bind_eq_some_iff, Option.map_eq_some_iff] at g
    obtain ⟨ns, g1, m, g2, rfl⟩ := g
    obtain ⟨v, rfl, h⟩ := r.one_inv
    obtain ⟨a, xs, rfl, h1, r1⟩ := h.lst_inv
    have e1 := IsL.ints_inv g1 r1
    subst e1
    obtain ⟨gm, gl⟩ := List.min?_eq_some_iff.mp g2
    refine ⟨_, cr_min hc, a, ns, rfl, seqL_of b h1, List.length_pos_of_mem gm, fun m' hm hle => ?_⟩
    have e : m' = m := Int.le_antisymm (hle m gm) (gl m' hm)
    rw [e]
    exact q.at b (.int _)
  · cases g
theorem calld_maxL (hc : X.calm = true) : CallD X (.builtin "max") dMaxL := by
  intro B H vs ds d' Q b r g q
  unfold dMaxL at g
  split at g
  · simp only [Option.bind_eq_some_iff, Option.map_eq_some_iff] at g
    obtain ⟨ns, g1, m, g2, rfl⟩ := g
    obtain ⟨v, rfl, h⟩ := r.one_inv
    obtain ⟨a, xs, rfl, h1, r1⟩ := h.lst_inv
    have e1 := IsL.ints_inv g1 r1
    subst e1
    obtain ⟨gm, gl⟩ := List.max?_eq_some_iff.mp g2
    refine ⟨_, cr_max hc, a, ns, rfl, seqL_of b h1, List.length_pos_of_mem gm, fun m' hm hle => ?_⟩
    have e : m' = m := Int.le_antisymm (gl m' hm) (hle m gm)
    rw [e]
    exact q.at b (.int _)
  · cases g
theorem calld_all (hc : X.calm = true) : CallD X (.builtin "all") dAll := by
  intro B H vs ds d' Q b r g q
  unfold dAll at g
  split at g
  · simp only [Option.map_eq_some_iff] at g
    obtain ⟨ns, g1, rfl⟩ := g
    obtain ⟨v, rfl, h⟩ := r.one_inv
    obtain ⟨a, xs, rfl, h1, r1⟩ := h.lst_inv
    have e1 := IsL.bools_inv g1 r1
    subst e1
    exact ⟨_, cr_all hc, a, ns, rfl, seqL_of b h1, q.at b (.bl _)⟩
  · cases g
theorem calld_any (hc : X.calm = true) : CallD X (.builtin "any") dAny := by
  intro B H vs ds d' Q b r g q
  unfold dAny at g
  split at g
  · simp only [Option.map_eq_some_iff] at g
    obtain ⟨ns, g1, rfl⟩ := g
    obtain ⟨v, rfl, h⟩ := r.one_inv
    obtain ⟨a, xs, rfl, h1, r1⟩ := h.lst_inv
    have e1 := IsL.bools_inv g1 r1
    subst e1
    exact ⟨_, cr_any hc, a, ns, rfl, seqL_of b h1, q.at b (.bl _)⟩
  · cases g
theorem calld_int : CallD X (.type "int") dInt := by
  intro B H vs ds d' Q b r g q
  unfold dInt at g
  split at g
  · cases g
    obtain ⟨v, rfl, h⟩ := r.one_inv
    rw [h.int_inv]
    exact ⟨_, call_int1, .inl ⟨_, rfl, q.at b (.int _)⟩⟩
  · cases g
    obtain ⟨v, rfl, h⟩ := r.one_inv
    rw [h.bl_inv]
    exact ⟨_, call_int1, .inr ⟨_, rfl, q.at b (.int _)⟩⟩
  · cases g
theorem Is.tyX {H : Hp} (b : Same B H) {v : V} {d : D} {t : String} (h : Is K mg B v d) (e : tyName d = some t) : TyX K H v (.type t) := by
  cases h with
  | non => cases e; exact .base .non
  | bl x => cases e; exact .base (.bl x)
  | int x => cases e; exact .base (.int x)
  | str x => cases e; exact .base (.str x)
  | tup h r =>
    cases e
    rcases h with (h | ⟨o, h⟩) | ⟨o, its, n, hk, hc, _⟩
    · exact .base (.tup (b _ _ h))
    · exact .fTuple (b _ _ h)
    · exact .kTuple hk hc
  | lst h r => cases e; exact .base (.lst (b _ _ h))
  | scr h =>
    cases e
    rcases h with (h | ⟨o, h⟩) | ⟨o, its, n, hk, hc, _⟩
    · exact .base (.lst (b _ _ h))
    · exact .base (.frz (b _ _ h))
    · exact .kList hk hc
  | dct h _ _ => cases e; exact .base (.dK (b _ _ h))
  | exc _ _ => cases e
  | ty _ => cases e
  | cls _ => cases e
theorem calld_isi : CallD X (.builtin "isinstance") dIsi := by
  intro B H vs ds d' Q b r g q
  unfold dIsi at g
  split at g
  · simp only [Option.bind_eq_some_iff, Option.map_eq_some_iff] at g
    obtain ⟨t, g1, k, g2, rfl⟩ := g
    obtain ⟨v, u, rfl, h, h2⟩ := r.two_inv
    rw [h2.ty_inv]
    exact ⟨_, call_isi, _, _, _, _, k, rfl, .ty _, h.tyX b g1, kit_ty g2, q.at b (.bl _)⟩
  · cases g
end

/-! ### new lists -/
def aB (g : List D → Option (List D)) (ma : AM) : AM := fun ρ => (ma ρ).bind fun ds => R.ofO (g ds)
def CallF (X : Cx) (f : Value) (g : List D → Option (List D)) : Prop := ∀ B H vs ds es Q, Same B H → IsL X.K X.mg B vs ds → g ds = some es → okF X B H Q es → ∃ r, CallR X f r ∧ r vs H Q
section
variable {X : Cx} {Wx : WX} {a b c e : Expr} {es : List Expr} {pos p p2 : Pos} {ma mb m : EM} {mr : AM}
theorem pfd_callT {x : Str} {T : String} {g : List D → Option (List D)} (hc : CallF X (.type T) g) (hg : Gl X x) (hm : X.mg x = none) (hv : bootBuiltins x = some (.type T)) (ha : PAD X Wx (a :: es) mr) (hn : x ≠ "__name__" := by decide) (hdb : (x == ("__debug__" : Str)) = false := by decide)
    (he : starEach (a :: es) X.env = (false, eval a X.env) :: starEach es X.env := by rfl) (hpl : (backTo pos (starEach es X.env)).any (·.1) = false := by rfl) : PFD X Wx (.Call (.Name x p) (a :: es) [] pos) (aB g mr) :=
  fun W σ H B ρ E Q h => ⟨_, pe_callTy call_wp hg hm hv pa_wp hn hdb he hpl, ha W σ H B ρ E _ ((show Post ((mr ρ).bind fun ds => R.ofO (g ds)) _ _ from h).bind.mono (fun ds _ hd vs B1 H1 g1 r1 => by
    obtain ⟨d', e1, q⟩ := hd.ofO
    exact hc B1 H1 vs ds d' Q g1.bh r1 e1 (q.later g1)) fun x h => h)⟩
theorem callf_list : CallF X (.type "list") asC := by
  intro B H vs ds es Q b r g q
  unfold asC at g
  split at g
  · cases g
    obtain ⟨v, rfl, h⟩ := r.one_inv
    obtain ⟨a, xs, rfl, h1, r1⟩ := h.lst_inv
    exact ⟨_, call_list_of, a, xs, rfl, .inl (seqL_of b h1), fun l hl => q.nl b hl r1⟩
  · cases g
    obtain ⟨v, rfl, h⟩ := r.one_inv
    obtain ⟨a, xs, rfl, h1, r1⟩ := h.tup_inv
    exact ⟨_, call_list_of, a, xs, rfl, .inr (seqT b h1), fun l hl => q.nl b hl r1⟩
  · cases g
    obtain ⟨v, rfl, h⟩ := r.one_inv
    obtain ⟨a, rfl, h1⟩ := h.scr_inv
    exact ⟨_, call_list_of, a, _, rfl, .inl (b.seq h1), fun l hl => q.nl b hl (IsL.ints _)⟩
  · cases g
/-- the bounds of a slice -/
abbrev OM := En → R (Option Int)
def oNone : OM := fun _ => .ok none
def oSome (m : EM) : OM := fun ρ => (m ρ).bind fun d => match d with
  | .int i => .ok (some i)
  | _ => .st
def wpPO (X : Cx) (o : Option Expr) : TO := fun σ H Q => ∃ t, PO X o t ∧ t σ H Q
theorem po_wp {o : Option Expr} : PO X o (wpPO X o) := ⟨fun pins s σ H Q I ⟨_, h, q⟩ => h.run pins s σ H Q I q⟩
def POD (X : Cx) (Wx : WX) (o : Option Expr) (m : OM) : Prop := ∀ W σ H B ρ, EnvOk X.K X.mg W B H σ ρ → ∀ Q : Option Int → Hp → Prop, Post (m ρ) (fun i => ∀ B' H', Grow B H B' H' → Q i H') (erD X Wx σ B H) → wpPO X o σ H Q
theorem pod_none : POD X Wx none oNone := fun W σ H B ρ E Q h => ⟨_, po_none, h B H (Grow.refl E.bh)⟩
theorem pod_some (h : PED X Wx e m) : POD X Wx (some e) (oSome m) := fun W σ H B ρ E Q q =>
  ⟨_, po_some pe_wp, h W σ H B ρ E _ ((show Post ((m ρ).bind fun d => match d with
    | .int i => R.ok (some i)
    | _ => R.st) _ _ from q).bind.mono (fun d _ hd v B1 H1 g1 r => by
    cases d with
    | int i => exact ⟨i, r.int_inv, (show ∀ B' H', Grow B H B' H' → Q (some i) H' from hd) B1 H1 g1⟩
    | _ => exact hd.elim) fun x h => h)⟩
variable {lo hi : Option Expr} {ml mh : OM}
theorem slice3 {α : Type} {W : Wd} {σ : L2.St} {B H : Hp} {ρ : En} {k : D → Option Int → Option Int → R α} {P : α → Prop} {Rr : V → Option Int → Option Int → Hp → Prop} (ha : PED X Wx a ma) (hl : POD X Wx lo ml) (hh : POD X Wx hi mh) (E : EnvOk X.K X.mg W B H σ ρ)
    (h : Post ((ma ρ).bind fun d => (ml ρ).bind fun i => (mh ρ).bind fun j => k d i j) P (erD X Wx σ B H))
    (f : ∀ d i j x B2 H2, Grow B H B2 H2 → Is X.K X.mg B2 x d → Post (k d i j) P (erD X Wx σ B H) → Rr x i j H2) : wpE X a σ H fun x H1 => wpPO X lo σ H1 fun i H2 => wpPO X hi σ H2 fun j H3 => Rr x i j H3 := by
  refine ha W σ H B ρ E _ (h.bind.mono (fun d _ hd x B1 H1 g1 rx => ?_) fun x h => h)
  refine hl W σ H1 B1 ρ (E.grow g1) _ (hd.bind.mono (fun i _ hi B2 H2 g2 => ?_) fun x h => h.later g1)
  exact hh W σ H2 B2 ρ ((E.grow g1).grow g2) _ (hi.bind.mono (fun j _ hj B3 H3 g3 => f d i j x B3 H3 ((g1.trans g2).trans g3) ((rx.mono g2.bb).mono g3.bb) hj) fun x h => h.later (g1.trans g2))
def aCut (ma : EM) (ml mh : OM) : AM := fun ρ => (ma ρ).bind fun d => (ml ρ).bind fun i => (mh ρ).bind fun j => (R.ofO (asL d)).bind fun ds => .ok (cutL ds i j)
def eCut (ma : EM) (ml mh : OM) : EM := fun ρ => (ma ρ).bind fun d => (ml ρ).bind fun i => (mh ρ).bind fun j => R.ofO (dCut d i j)
theorem IsL.cut {K : PySem.W.Frag} {mg : Str → Option Value} {B : Hp} {xs : List V} {ds : List D} (r : IsL K mg B xs ds) (lo hi : Option Int) : IsL K mg B (cutV xs lo hi) (cutL ds lo hi) := by
  unfold cutV cutL
  rw [r.length]
  exact (r.drop _).take _
theorem pfd_cut (ha : PED X Wx a ma) (hl : POD X Wx lo ml) (hh : POD X Wx hi mh) : PFD X Wx (.Subscript a (.Slice lo hi none p2) pos) (aCut ma ml mh) :=
  fun W σ H B ρ E Q h => ⟨_, pe_slice sl_list pe_wp po_wp po_wp, slice3 ha hl hh E h fun d i j x B2 H2 g r hk => by
    obtain ⟨ds, e1, q⟩ := hk.bind.ofO
    have q' : okF X B H Q (cutL ds i j) := q
    unfold asL at e1
    split at e1
    · cases e1
      obtain ⟨a1, xs, rfl, h1, r1⟩ := r.lst_inv
      exact ⟨a1, xs, rfl, seqL_of g.bh h1, fun p hp => (q'.later g).nl g.bh hp (r1.cut i j)⟩
    · cases e1
      obtain ⟨a1, rfl, h1⟩ := r.scr_inv
      exact ⟨a1, _, rfl, g.bh.seq h1, fun p hp => (q'.later g).nl g.bh hp ((IsL.ints _).cut i j)⟩
    · cases e1⟩
def wpSl (X : Cx) : V → Option Int → Option Int → Hp → VK → Prop := fun x lo hi H Q => ∃ r, SlR X r ∧ r x lo hi H Q
theorem sl_wp : SlR X (wpSl X) := fun pins s σ H x v vl vu lo hi sl Q I rx hs pl pu ⟨_, h, q⟩ => h pins s σ H x v vl vu lo hi sl Q I rx hs pl pu q
theorem ped_cut (ha : PED X Wx a ma) (hl : POD X Wx lo ml) (hh : POD X Wx hi mh) : PED X Wx (.Subscript a (.Slice lo hi none p2) pos) (eCut ma ml mh) :=
  fun W σ H B ρ E Q h => ⟨_, pe_slice sl_wp pe_wp po_wp po_wp, slice3 ha hl hh E h fun d i j x B2 H2 g r hk => by
    obtain ⟨d', e1, q⟩ := hk.ofO
    have q' : okD X B H Q d' := q
    unfold dCut at e1
    split at e1
    · obtain ⟨hl, rfl⟩ := some_ite e1
      rw [r.str_inv]
      exact ⟨_, sl_str, _, rfl, hl, (q'.later g).at g.bh (.str _)⟩
    · split at e1
      · cases e1
      · rename_i hc
        cases e1
        obtain ⟨a1, xs, rfl, h1, r1⟩ := r.tup_inv
        exact ⟨_, sl_tup, a1, xs, rfl, seqT g.bh h1, by rw [r1.length]; exact hc, fun p hp => (q'.later g).nt g.bh hp (r1.cut i j)⟩
    · cases e1⟩
/-- {} -/
theorem ped_dnew : PED X Wx (.Dict [] [] pos) (eC (.dct [] [])) := fun W σ H B ρ E Q h =>
  ⟨_, pe_dnewK, fun d hd => (show okD X B H Q (.dct [] []) from h) _ _ _ (Grow.new E.bh hd) (.dct upd_same rfl .nil)⟩
/-- {k: v} of one number and one value -/
def eDct1 (mk mv : EM) : EM := fun ρ => (mk ρ).bind fun k => (mv ρ).bind fun v => match k with
  | .int i => .ok (.dct [.inl i] [v])
  | _ => .st
theorem ped_dct1 (ha : PED X Wx a ma) (hb : PED X Wx b mb) : PED X Wx (.Dict [some a] [b] pos) (eDct1 ma mb) := fun W σ H B ρ E Q h =>
  ⟨_, pe_disp (pps_cons pe_wp pe_wp pps_nil) (by rfl) (by rfl) (fun z => by cases z) (by show 1 ≤ 15; decide), fun p hp => by
    have g0 : Grow B H B (upd H p (.dK [])) := Grow.own E.bh hp
    have nb : B p = none := by
      cases q : B p with
      | none => rfl
      | some o => rw [E.bh p o q] at hp; cases hp
    refine two ha hb (E.grow g0) (P := okD X B H Q) (h.mono (fun d _ q => q) fun x q => q.later g0) fun d e x y B2 H2 g rx ry hk => ?_
    have ep : H2 p = some (.dK []) := g.hh _ _ upd_same
    have np : B2 p = none := g.sep p _ upd_same nb
    cases d with
    | int i =>
      refine ⟨ep, [(.inl i, y)], ?_, by show 1 ≤ 15; decide, ?_⟩
      · rw [rx.int_inv]
        rfl
      · have hq : okD X B H Q (.dct [.inl i] [e]) := hk
        have nn : ∀ q u, B2 q = some u → q ≠ p := fun q u e z => by rw [z, np] at e; cases e
        have s1 : Same B2 (upd B2 p (.dK [(.inl i, y)])) := fun q u e => by rw [upd_ne (nn q u e)]; exact e
        exact hq _ (upd B2 p (.dK [(.inl i, y)])) _ ⟨g.bb.trans s1, fun q u e => by rw [upd_ne (ne_of_none e hp)]; exact g.hh q u (by rw [upd_ne (ne_of_none e hp)]; exact e), fun q u e => by
            by_cases z : q = p
            · subst z; rw [upd_same] at e ⊢; exact e
            · rw [upd_ne z] at e ⊢; exact g.bh q u e, fun q u e z => by
            rw [upd_ne (ne_of_none e hp)]
            exact g.sep q u (by rw [upd_ne (ne_of_none e hp)]; exact e) z⟩ (.dct upd_same rfl (.cons (ry.mono s1) .nil))
    | _ => exact hk.elim⟩
end
end GD
namespace GD
open PySem PySem.Spec PyProof.Rows L2
/-! ### the built-ins' names -/
theorem bb_len : bootBuiltins "len" = some (.builtin "len") := by decide +kernel
theorem bb_abs : bootBuiltins "abs" = some (.builtin "abs") := by decide +kernel
theorem bb_max : bootBuiltins "max" = some (.builtin "max") := by decide +kernel
theorem bb_min : bootBuiltins "min" = some (.builtin "min") := by decide +kernel
theorem bb_all : bootBuiltins "all" = some (.builtin "all") := by decide +kernel
theorem bb_any : bootBuiltins "any" = some (.builtin "any") := by decide +kernel
theorem bb_isinstance : bootBuiltins "isinstance" = some (.builtin "isinstance") := by decide +kernel
theorem bb_int : bootBuiltins "int" = some (.type "int") := by decide +kernel
theorem bb_bool : bootBuiltins "bool" = some (.type "bool") := by decide +kernel
theorem bb_tuple : bootBuiltins "tuple" = some (.type "tuple") := by decide +kernel
theorem bb_list : bootBuiltins "list" = some (.type "list") := by decide +kernel
theorem bb_str : bootBuiltins "str" = some (.type "str") := by decide +kernel
/-- how far a while goes: the size of a slot's number -/
def fuelI (i : Nat) : En → Nat := fun ρ => match ρ[i]? with
  | some (.v (.int k)) => k.natAbs + 1
  | _ => 0
/-- what the law is to keep -/
def spLaw (K : PySem.W.Frag) : Sp := fun vs H Q _ => ∃ (a : Addr) (ns : List Int), vs = [.ref a] ∧ SqL K H a (ns.map V.int) ∧ ns.length ≤ 63 ∧ ∀ H', Q (.bl true) H'
theorem law_of {P : Program} {w : World} {K : PySem.W.Frag} {mg : Str → Option Value} {base : Heap} {k : Nat} {f : Addr} {fd : FuncData} {F : List D → R D} (h : FnOk P w K mg base (L2.CX P w) k f fd ["script"] (spD K mg 1 F))
    (hF : ∀ ns : List Int, ns.length ≤ 63 → F [.scr ns] = .ok (.bl true)) : FnOk P w K mg base (L2.CX P w) k f fd ["script"] (spLaw K) := by
  refine h.imp fun vs H Q E hs => ?_
  obtain ⟨a, ns, rfl, hS, hl, q⟩ := hs
  refine ⟨H, [.scr ns], Same.refl _, rfl, .cons (.scr hS) .nil, ?_⟩
  rw [hF ns hl]
  intro v B' H' _ r
  rw [r.bl_inv]
  exact q H'
theorem walk {l : PySem.W.OpenLaw} {q : Program} {loose : List Str} {XP : (Str → Option Value) → Heap → Prop} {YP : World → Heap → Prop} {d : DefRec} {K : Params → PySem.W.Frag} {k : Nat} (hn : l.most = some 63) (hdf : d.params.defaults = []) (hr : Room k callerA)
    (hY : ∀ (w : World) (h : Heap), YP w h → (K w.params).In h)
    (F : ∀ (w : World) (mg : Str → Option Value) (fa : Addr) (h : Heap), (K w.params).In h → h.Ns mainGlobals mg → mg d.name = some (.ref fa) →
      ∃ fd : FuncData, (∀ (s : Shared) (u : Value), BindsTo s fd ⟨[u], []⟩ [("script", u)]) ∧ ∀ base : Heap, (K w.params).In base → base.Ns mainGlobals mg → FnOk l.prog w (K w.params) mg base (L2.CX l.prog w) k fa fd ["script"] (spLaw (K w.params))) :
    PySem.W.WalkO q loose XP YP l.row.toRowW d [] (fun f vs => PySem.call f vs) :=
  L2.walk_of (n := 63) (k := k) (x := "script") (CX := fun w => L2.CX l.prog w) (sp := fun w => spLaw (K w.params)) hn (by decide) hdf hr hY F (fun _ _ a ns hl _ hS => ⟨a, ns, rfl, hS, hl, fun _ => rfl⟩) fun w H s e s' z => by
    obtain ⟨_, _, _, _, _, _, _, _, _, _, _, _, z⟩ := z
    exact z
/-- a def of the module, for its callers -/
theorem fnd_mk {P : Program} {w : World} {K : PySem.W.Frag} {mg : Str → Option Value} {base : Heap} {k : Nat} {x : Str} {ps : List Str} {F : List D → R D} {f : Addr} {fd : FuncData} (hm : mg x = some (.ref f)) (hk : PySem.W.keepIn K (.ref f) = true) (hb : Binds K fd ps [])
    (h : FnOk P w K mg base (L2.CX P w) k f fd ps (spD K mg ps.length F)) : FnD P w K mg base k x ps F := ⟨f, fd, hm, hk, hb, h⟩
end GD

/-! GD, part e: reckoning with mirrors in plain Lean. -/
namespace GD
open PySem PySem.Spec PyProof.Rows L2

/-! ### sizes -/
def Bd (n : Nat) (x : Int) : Prop := x.natAbs < 2 ^ n
instance (n : Nat) (x : Int) : Decidable (Bd n x) := by unfold Bd; infer_instance
theorem Bd.mono {m n : Nat} {x : Int} (h : Bd m x) (l : m ≤ n) : Bd n x := Nat.lt_of_lt_of_le h (Nat.pow_le_pow_right (by decide) l)
theorem Bd.mul {m n : Nat} {x y : Int} (h : Bd m x) (g : Bd n y) : Bd (m + n) (x * y) := wide_lt h g
theorem Bd.add {m n : Nat} {x y : Int} (h : Bd m x) (g : Bd n y) : Bd (max m n + 1) (x + y) := by
  have h1 : Bd (max m n) x := h.mono (by omega)
  have h2 : Bd (max m n) y := g.mono (by omega)
  unfold Bd at *
  have := Int.natAbs_add_le x y
  rw [Nat.pow_succ]
  omega
theorem Bd.sub {m n : Nat} {x y : Int} (h : Bd m x) (g : Bd n y) : Bd (max m n + 1) (x - y) := by
  have h1 : Bd (max m n) x := h.mono (by omega)
  have h2 : Bd (max m n) y := g.mono (by omega)
  unfold Bd at *
  have := Int.natAbs_sub_le x y
  rw [Nat.pow_succ]
  omega
theorem Bd.neg {n : Nat} {x : Int} (h : Bd n x) : Bd n (-x) := by
  unfold Bd at *
  rw [Int.natAbs_neg]
  exact h
theorem Bd.of_range {n : Nat} {x : Int} (h0 : 0 ≤ x) (h : x < 2 ^ n) : Bd n x := by
  unfold Bd
  have : ((x.natAbs : Nat) : Int) < ((2 ^ n : Nat) : Int) := by
    rw [Int.natCast_pow]
    have e : ((x.natAbs : Nat) : Int) = x := Int.natAbs_of_nonneg h0
    rw [e]
    exact h
  exact Int.ofNat_lt.mp this
theorem Bd.of_le {n : Nat} {x y : Int} (h : Bd n y) (l : x.natAbs ≤ y.natAbs) : Bd n x := Nat.lt_of_le_of_lt l h
theorem Bd.log {n : Nat} {x : Int} (h : Bd n x) : x.natAbs.log2 ≤ n := by
  by_cases z : x.natAbs = 0
  · rw [z]; simp
  · have := (Nat.log2_lt z).mpr h
    omega
theorem mok {m n : Nat} {x y : Int} (h : Bd m x) (g : Bd n y) (l : m + n < 1000000) : mulOk x y := by
  have := h.log
  have := g.log
  unfold mulOk
  omega
theorem dok {n : Nat} {y : Int} (h0 : 0 < y) (g : Bd n y) (l : n < 9000) : divOk y := by
  have := g.log
  exact ⟨h0, by omega⟩

/-! ### how mirrors reckon -/
section
variable {α β : Type} {ρ : En}
theorem bind_ok (a : α) (f : α → R β) : (R.ok a).bind f = f a := rfl
theorem bind_er (x : Str) (f : α → R β) : (R.er x : R α).bind f = .er x := rfl
theorem bind_st (f : α → R β) : (R.st : R α).bind f = .st := rfl
theorem ofO_some (a : α) : R.ofO (some a) = .ok a := rfl
theorem ofO_none : R.ofO (none : Option α) = .st := rfl
theorem asB_bl (b : Bool) : asB (.bl b) = some b := rfl
theorem ofR_ok (a : α) (k : α → Out) : ofR (.ok a) ρ k = k a := rfl
theorem ofR_er (x : Str) (k : α → Out) : ofR (.er x : R α) ρ k = .er x ρ := rfl
theorem dAdd_int (i j : Int) : dAdd (.int i) (.int j) = some (.int (i + j)) := rfl
theorem dSub_int (i j : Int) : dSub (.int i) (.int j) = some (.int (i - j)) := rfl
theorem dMul_int {i j : Int} (h : mulOk i j) : dMul (.int i) (.int j) = some (.int (i * j)) := if_pos h
theorem dDiv_int {i j : Int} (h : divOk j) : dDiv (.int i) (.int j) = some (.int (i / j)) := if_pos h
theorem dDiv_lit {i j : Int} (h : 0 < j) (g : j < 18446744073709551616) : dDiv (.int i) (.int j) = some (.int (i / j)) := dDiv_int (dok (n := 64) h (Bd.of_range (by omega) g) (by decide))
theorem dMod_int {i j : Int} (h : 0 < j) : dMod (.int i) (.int j) = some (.int (i % j)) := if_pos h
theorem dPow_int {i j : Int} (h : powOk i j) : dPow (.int i) (.int j) = some (.int (i ^ j.toNat)) := if_pos h
theorem dNeg_int (i : Int) : dNeg (.int i) = some (.int (-i)) := rfl
theorem dLt_int (i j : Int) : dLt (.int i) (.int j) = some (.bl (decide (i < j))) := rfl
theorem dLe_int (i j : Int) : dLe (.int i) (.int j) = some (.bl (decide (i ≤ j))) := rfl
theorem dGt_int (i j : Int) : dGt (.int i) (.int j) = some (.bl (decide (j < i))) := rfl
theorem dGe_int (i j : Int) : dGe (.int i) (.int j) = some (.bl (decide (j ≤ i))) := rfl
theorem dEq_int (i j : Int) : dEq (.int i) (.int j) = some (.bl (decide (i = j))) := by
  show some (D.bl (i == j)) = _
  rw [Bool.beq_eq_decide_eq]
theorem dNe_int (i j : Int) : dNe (.int i) (.int j) = some (.bl (!decide (i = j))) := by
  show some (D.bl (!(i == j))) = _
  rw [Bool.beq_eq_decide_eq]
theorem dEq_bl (i j : Bool) : dEq (.bl i) (.bl j) = some (.bl (i == j)) := rfl
theorem dIs_non (d : D) : dIs d .non = some (.bl d.isNone) := rfl
theorem dIsNot_non (d : D) : dIsNot d .non = some (.bl (!d.isNone)) := rfl
theorem kb_int_int : kitB "int" "int" = some true := by decide +kernel
theorem kb_int_bool : kitB "int" "bool" = some false := by decide +kernel
theorem kb_bool_bool : kitB "bool" "bool" = some true := by decide +kernel
theorem kb_bool_int : kitB "bool" "int" = some true := by decide +kernel
theorem kb_tuple_tuple : kitB "tuple" "tuple" = some true := by decide +kernel
theorem kb_tuple_int : kitB "tuple" "int" = some false := by decide +kernel
theorem kb_tuple_list : kitB "tuple" "list" = some false := by decide +kernel
theorem kb_list_list : kitB "list" "list" = some true := by decide +kernel
theorem kb_list_tuple : kitB "list" "tuple" = some false := by decide +kernel
theorem kb_list_int : kitB "list" "int" = some false := by decide +kernel
theorem kb_str_str : kitB "str" "str" = some true := by decide +kernel
theorem kb_str_int : kitB "str" "int" = some false := by decide +kernel
theorem kb_dict_int : kitB "dict" "int" = some false := by decide +kernel
theorem kb_non_int : kitB "NoneType" "int" = some false := by decide +kernel
theorem line_le {n : Nat} (h : n ≤ 16777216) : (n ≤ sizeLine) = True := eq_true (by rw [sizeLine_eq]; exact h)
theorem isi_int (d : D) (t : String) (b : Bool) (n : String) (h : tyName d = some t) (k : kitB t n = some b) : dIsi [d, .ty n] = some (.bl b) := by
  simp only [dIsi, h, Option.bind_some, k, Option.map_some]
/-- every turn of a loop goes on -/
theorem loop_inv {g : D → En → Option En} {body : SM} (I : En → Prop) : ∀ (ds : List D), (∀ d ∈ ds, ∀ ρ, I ρ → ∃ ρ1 ρ2, g d ρ = some ρ1 ∧ body ρ1 = .nx ρ2 ∧ I ρ2) → ∀ ρ, I ρ → ∃ ρ', loop g body ds ρ = .nx ρ' ∧ I ρ'
  | [], _, ρ, h => ⟨ρ, rfl, h⟩
  | d :: r, hs, ρ, h => by
    obtain ⟨ρ1, ρ2, h1, h2, h3⟩ := hs d List.mem_cons_self ρ h
    obtain ⟨ρ', h4, h5⟩ := loop_inv I r (fun d' hd => hs d' (List.mem_cons_of_mem _ hd)) ρ2 h3
    refine ⟨ρ', ?_, h5⟩
    show (match g d ρ with
      | none => Out.st
      | some ρ' => match body ρ' with
        | .nx ρ2 => loop g body r ρ2
        | .ct ρ2 => loop g body r ρ2
        | .bk ρ2 => .nx ρ2
        | o => o) = _
    rw [h1]
    show (match body ρ1 with
        | .nx ρ2 => loop g body r ρ2
        | .ct ρ2 => loop g body r ρ2
        | .bk ρ2 => .nx ρ2
        | o => o) = _
    rw [h2]
    exact h4
theorem loop_nil {g : D → En → Option En} {body : SM} : loop g body [] ρ = .nx ρ := rfl
theorem loop_cons {g : D → En → Option En} {body : SM} {d : D} {r : List D} {ρ1 ρ2 : En} (h1 : g d ρ = some ρ1) (h2 : body ρ1 = .nx ρ2) : loop g body (d :: r) ρ = loop g body r ρ2 := by
  show (match g d ρ with
      | none => Out.st
      | some ρ' => match body ρ' with
        | .nx ρ2 => loop g body r ρ2
        | .ct ρ2 => loop g body r ρ2
        | .bk ρ2 => .nx ρ2
        | o => o) = _
  rw [h1]
  show (match body ρ1 with
        | .nx ρ2 => loop g body r ρ2
        | .ct ρ2 => loop g body r ρ2
        | .bk ρ2 => .nx ρ2
        | o => o) = _
  rw [h2]
theorem dAt_lst {ds : List D} {j : Nat} {d : D} (h : ds[j]? = some d) : dAt (.lst ds) (.int (j : Int)) = some d := atI_nat h
theorem dAt_tup {ds : List D} {j : Nat} {d : D} (h : ds[j]? = some d) : dAt (.tup ds) (.int (j : Int)) = some d := atI_nat h
theorem dAt_scr {ns : List Int} {j : Nat} {x : Int} (h : ns[j]? = some x) : dAt (.scr ns) (.int (j : Int)) = some (.int x) := by
  show (atI ns (j : Int)).map D.int = _
  rw [atI_nat h]
  rfl
theorem cutL_ints (ns : List Int) (lo hi : Option Int) : cutL (ns.map D.int) lo hi = (cutL ns lo hi).map D.int := by
  unfold cutL
  rw [List.length_map, List.map_take, List.map_drop]
theorem cutL_len {α : Type} (xs : List α) (k : Nat) : (cutL xs none (some (k : Int))).length ≤ k := by
  unfold cutL
  rw [List.length_take, HT.sIx_nat, HT.sIx_none]
  omega
theorem dRange3 {a j c : Int} (h0 : 0 ≤ a) (h1 : a ≤ 1000) (hj : 0 ≤ j) (hj2 : j ≤ 1000) (hc : 0 < c) (hc2 : c ≤ 100) : ∃ n : Nat, dRange [.int a, .int j, .int c] = some (rg a c n) ∧ ∀ i : Nat, i < n → a + (i : Nat) * c < j := by
  have hs : Builtin.Range.rangeSize a j c = if a < j then (j - a - 1) / c + 1 else 0 := by
    unfold Builtin.Range.rangeSize
    rw [if_pos (show c > 0 from hc)]
  have hn : 0 ≤ Builtin.Range.rangeSize a j c := by
    rw [hs]
    split
    · have := Int.ediv_nonneg (show 0 ≤ j - a - 1 by omega) (show 0 ≤ c by omega)
      omega
    · omega
  refine ⟨(Builtin.Range.rangeSize a j c).toNat, ?_, fun i hi => ?_⟩
  · suffices hsm : Builtin.Range.small a j c = true from if_pos ⟨by omega, by omega, hsm, hn⟩
    have hb : (j - a - 1) / c ≤ j - a - 1 ∨ ¬ a < j := by
      by_cases h : a < j
      · exact .inl (Int.ediv_le_self _ (by omega))
      · exact .inr h
    have hb2 : Builtin.Range.rangeSize a j c ≤ 2000 := by
      rw [hs]
      split <;> omega
    have fit : ∀ x : Int, -2000 ≤ x → x ≤ 2000 → Builtin.Range.rangeFitsLong x = true := fun x l u => by
      unfold Builtin.Range.rangeFitsLong
      rw [Bool.and_eq_true]
      exact ⟨decide_eq_true (by omega), decide_eq_true (by omega)⟩
    unfold Builtin.Range.small
    rw [fit a (by omega) (by omega), fit j (by omega) (by omega), fit c (by omega) (by omega), fit _ (by omega) hb2, if_pos (show c > 0 from hc), fit (j + (c - 1)) (by omega) (by omega)]
    simp
  · have hi2 : (i : Int) < Builtin.Range.rangeSize a j c := by omega
    rw [hs] at hi2
    split at hi2
    · have h3 : (i : Int) ≤ (j - a - 1) / c := by omega
      have h4 := (Int.le_ediv_iff_mul_le hc).mp h3
      omega
    · omega
theorem dAt_t0 {a : D} {ds : List D} : dAt (.tup (a :: ds)) (.int 0) = some a := dAt_tup (j := 0) rfl
theorem dAt_t1 {a b : D} {ds : List D} : dAt (.tup (a :: b :: ds)) (.int 1) = some b := dAt_tup (j := 1) rfl
theorem dAt_t2 {a b c : D} {ds : List D} : dAt (.tup (a :: b :: c :: ds)) (.int 2) = some c := dAt_tup (j := 2) rfl
theorem dAt_l0 {a : D} {ds : List D} : dAt (.lst (a :: ds)) (.int 0) = some a := dAt_lst (j := 0) rfl
theorem dAt_l1 {a b : D} {ds : List D} : dAt (.lst (a :: b :: ds)) (.int 1) = some b := dAt_lst (j := 1) rfl
theorem dAt_l2 {a b c : D} {ds : List D} : dAt (.lst (a :: b :: c :: ds)) (.int 2) = some c := dAt_lst (j := 2) rfl
theorem dAt_l3 {a b c d : D} {ds : List D} : dAt (.lst (a :: b :: c :: d :: ds)) (.int 3) = some d := dAt_lst (j := 3) rfl
theorem dAt_l4 {a b c d e : D} {ds : List D} : dAt (.lst (a :: b :: c :: d :: e :: ds)) (.int 4) = some e := dAt_lst (j := 4) rfl
theorem dAt_l5 {a b c d e f : D} {ds : List D} : dAt (.lst (a :: b :: c :: d :: e :: f :: ds)) (.int 5) = some f := dAt_lst (j := 5) rfl
theorem dAt_l6 {a b c d e f g : D} {ds : List D} : dAt (.lst (a :: b :: c :: d :: e :: f :: g :: ds)) (.int 6) = some g := dAt_lst (j := 6) rfl
theorem dAt_l7 {a b c d e f g h : D} {ds : List D} : dAt (.lst (a :: b :: c :: d :: e :: f :: g :: h :: ds)) (.int 7) = some h := dAt_lst (j := 7) rfl
theorem mem_rg {a c : Int} {n : Nat} {d : D} (h : d ∈ rg a c n) : ∃ i : Nat, i < n ∧ d = .int (a + (i : Nat) * c) := by
  unfold rg at h
  obtain ⟨i, hi, e⟩ := List.mem_map.mp h
  exact ⟨i, List.mem_range.mp hi, e.symm⟩
end
end GD

/-! GD, part f: comprehensions. -/
namespace GD
open PySem PySem.Spec PyProof.Rows L2

def wipeE : List Nat → En → En
  | [], ρ => ρ
  | v :: vs, ρ => (wipeE vs ρ).set v .un
def noEr {α : Type} (r : R α) : R α := match r with
  | .er _ => .st
  | o => o
def lcGo (g : D → En → Option En) (t : TM) (m : EM) : List D → En → R (List D)
  | [], _ => .ok []
  | d :: r, ρ => match g d ρ with
    | none => .st
    | some ρ1 => (noEr (t ρ1)).bind fun b => if b = true then (noEr (m ρ1)).bind fun x => (lcGo g t m r ρ).bind fun xs => .ok (x :: xs) else lcGo g t m r ρ
def aLc (f : D → Option (List D)) (vs : List Nat) (g : D → En → Option En) (t : TM) (mi m : EM) : AM := fun ρ => (mi ρ).bind fun d => (R.ofO (f d)).bind fun ds => if ds.length ≤ sizeLine then lcGo g t m ds (wipeE vs ρ) else .st
def aLcR (vs : List Nat) (g : D → En → Option En) (t : TM) (mi : AM) (m : EM) : AM := fun ρ => (mi ρ).bind fun as => (R.ofO (dRange as)).bind fun ds => if ds.length ≤ sizeLine then lcGo g t m ds (wipeE vs ρ) else .st
def mYes : TM := fun _ => .ok true

section
variable {K : PySem.W.Frag} {mg : Str → Option Value} {W : Wd} {B H : Hp} {σ σ2 : L2.St} {ρ : En}
theorem EnvOk.wipe (E : EnvOk K mg W B H σ ρ) : ∀ vs : List Nat, EnvOk K mg W B H (L2.wipe σ vs) (wipeE vs ρ)
  | [] => E
  | v :: vs => (EnvOk.wipe E vs).drop v
theorem wipe_get : ∀ (vs : List Nat) (i : Nat), (L2.wipe σ vs)[i]? = if i ∈ vs ∧ i < σ.length then some none else σ[i]?
  | [], i => by simp [L2.wipe]
  | v :: vs, i => by
    show ((L2.wipe σ vs).set v none)[i]? = _
    by_cases hv : v = i
    · subst hv
      by_cases hl : v < σ.length
      · rw [List.getElem?_set_self (by rw [wipe_length]; exact hl), if_pos ⟨List.mem_cons_self, hl⟩]
      · rw [if_neg (fun z => hl z.2), List.getElem?_eq_none (by rw [List.length_set, wipe_length]; omega), List.getElem?_eq_none (by omega)]
    · rw [List.getElem?_set_ne hv, wipe_get vs i]
      have e : (i ∈ v :: vs) ↔ i ∈ vs := by
        rw [List.mem_cons]
        exact ⟨fun z => z.elim (fun z => absurd z.symm hv) id, Or.inr⟩
      simp only [e]
theorem wipe_agree {vs : List Nat} (hl : σ2.length = σ.length) (h : ∀ j, j ∉ vs → σ2[j]? = (L2.wipe σ vs)[j]?) : L2.wipe σ2 vs = L2.wipe σ vs := by
  apply List.ext_getElem?
  intro i
  rw [wipe_get, wipe_get]
  by_cases hi : i ∈ vs
  · by_cases hs : i < σ.length
    · rw [if_pos ⟨hi, by omega⟩, if_pos ⟨hi, hs⟩]
    · rw [if_neg (fun z => hs (by omega)), if_neg (fun z => hs z.2), List.getElem?_eq_none (by omega), List.getElem?_eq_none (by omega)]
  · rw [if_neg (fun z => hi z.1), if_neg (fun z => hi z.1), h i hi, wipe_get, if_neg (fun z => hi z.1)]
end

section
variable {X : Cx} {Wx : WX} {a b c e : Expr} {es : List Expr} {pos p : Pos} {ma mb m : EM} {mr : AM}
/-- targets of a comprehension: what they store -/
def PGV (X : Cx) (tg : Expr) (vs : List Nat) (g : D → En → Option En) : Prop := ∀ W σ H B ρ ρ' d v, EnvOk X.K X.mg W B H σ ρ → Is X.K X.mg B v d → g d ρ = some ρ' → ∀ Q : L2.St → Hp → Prop,
  (∀ σ', EnvOk X.K X.mg W B H σ' ρ' → σ'.length = σ.length → (∀ j, j ∉ vs → σ'[j]? = σ[j]?) → Q σ' H) → wpG X tg v σ H Q
def PGVs (X : Cx) (tgs : List Expr) (vs : List Nat) (g : List D → En → Option En) : Prop := ∀ W σ H B ρ ρ' ds us, EnvOk X.K X.mg W B H σ ρ → IsL X.K X.mg B us ds → g ds ρ = some ρ' → ∀ Q : L2.St → Hp → Prop,
  (∀ σ', EnvOk X.K X.mg W B H σ' ρ' → σ'.length = σ.length → (∀ j, j ∉ vs → σ'[j]? = σ[j]?) → Q σ' H) → wpGs X tgs us σ H Q
theorem pgv_name {i : Nat} {x : Str} {vs : List Nat} (hN : X.N.Nodup) (hi : X.N[i]? = some x) (hx : Loc X.env.scope x) (hv : i ∈ vs) (hf : X.fn x = true ∨ X.env.scope.names.lookup x = some .local := by first | exact .inl rfl | exact .inr rfl | assumption) : PGV X (.Name x pos) vs (gNm i) := by
  intro W σ H B ρ ρ' d v E r g Q q
  cases g
  exact ⟨_, pg_name hN hi hx hf, q _ (E.set r) (by simp) fun j hj => List.getElem?_set_ne (fun z => hj (by rw [← z]; exact hv))⟩
theorem pgsv_nil {vs : List Nat} : PGVs X [] vs gsNil := by
  intro W σ H B ρ ρ' ds us E r g Q q
  cases r with
  | nil =>
    cases g
    exact ⟨_, pgs_nil, rfl, q _ E rfl fun _ _ => rfl⟩
  | cons _ _ => cases g
theorem pgsv_cons {tg : Expr} {tgs : List Expr} {vs : List Nat} {g : D → En → Option En} {gs : List D → En → Option En} (h1 : PGV X tg vs g) (h2 : PGVs X tgs vs gs)
    (hs : (assignEach (tg :: tgs) X.env).map (·.2) = assign tg X.env :: (assignEach tgs X.env).map (·.2) := by rfl) : PGVs X (tg :: tgs) vs (gsCons g gs) := by
  intro W σ H B ρ ρ' ds us E r gg Q q
  cases r with
  | nil => cases gg
  | cons hv r =>
    simp only [gsCons, Option.bind_eq_some_iff] at gg
    obtain ⟨ρ1, g1, g2⟩ := gg
    exact ⟨_, pgs_cons pg_wp pgs_wp hs, _, _, rfl, h1 W σ H B ρ ρ1 _ _ E hv g1 _ fun σ1 E1 l1 a1 => h2 W σ1 H B ρ1 ρ' _ _ E1 r g2 Q fun σ2 E2 l2 a2 => q σ2 E2 (l2.trans l1) fun j hj => (a2 j hj).trans (a1 j hj)⟩
theorem pgv_tup {tgs : List Expr} {k : Nat} {vs : List Nat} {gs : List D → En → Option En} {n : Nat} (hc : X.calm = true) (h : PGVs X tgs vs gs) (hl : ∀ ds ρ ρ', gs ds ρ = some ρ' → ds.length = n)
    (hn : (assignEach tgs X.env).length = n := by rfl) (hst : (assignEach tgs X.env).findIdx? (·.1) = none := by rfl) : PGV X (.Tuple tgs k pos) vs (gTp gs) := by
  intro W σ H B ρ ρ' d v E r g Q q
  unfold gTp at g
  split at g
  · obtain ⟨a, xs, rfl, h1, r1⟩ := r.tup_inv
    exact ⟨_, pg_tup hc pgs_wp hn hst, a, xs, rfl, seqT E.bh h1, by rw [r1.length]; exact hl _ _ _ g, h W σ H B ρ ρ' _ _ E r1 g Q q⟩
  · cases g
/-- the tests of a comprehension -/
def wpTs (X : Cx) (ifs : List Expr) : TT := fun σ H Q => ∃ t, PTs X ifs t ∧ t σ H Q
theorem pts_wp {ifs : List Expr} : PTs X ifs (wpTs X ifs) := ⟨fun pins s σ H Q I ⟨_, h, q⟩ => h.run pins s σ H Q I q⟩
abbrev W0 : WX := fun _ _ _ _ => False
def PTSD (X : Cx) (ifs : List Expr) (t : TM) : Prop := ∀ W σ H B ρ, EnvOk X.K X.mg W B H σ ρ → ∀ Q, Post (t ρ) (okT B H Q) (erD X W0 σ B H) → wpTs X ifs σ H Q
theorem ptsd_nil : PTSD X [] mYes := fun W σ H B ρ E Q h => ⟨_, pts_nil, (show okT B H Q true from h) B H (Grow.refl E.bh)⟩
theorem ptsd_one {t : TM} (h : PTD X W0 c t) : PTSD X [c] t := fun W σ H B ρ E Q q => ⟨_, pts_one pt_wp, h W σ H B ρ E Q q⟩
theorem Post.noEr {α : Type} {r : R α} {P : α → Prop} {E E' : Str → Prop} (h : Post (GD.noEr r) P E) : Post r P E' := by
  cases r with
  | ok a => exact h
  | er x => exact h.elim
  | st => exact h
theorem Post.noErB {α β : Type} {r : R α} {f : α → R β} {P : β → Prop} {E E' : Str → Prop} (h : Post ((GD.noEr r).bind f) P E) : Post r (fun a => Post (f a) P E) E' := by
  cases r with
  | ok a => exact h
  | er x => exact h.elim
  | st => exact h

variable {elt tg iter : Expr} {ifs : List Expr} {scope : Scope} {own : List (Str × Nat)} {g : D → En → Option En} {t : TM}
/-- the block's readings, whatever its begin -/
def blkG (X : Cx) (scope : Scope) (tg : Expr) : TG := fun v σ H Q => ∀ (s : Shared) (H0 : Hp) (C : Addr) (cl : List (Str × Addr)) (fp : List Addr), wpG (X.blk s H0 scope (compEnvC scope cl C X.env) fp) tg v σ H Q
def blkT (X : Cx) (scope : Scope) (ifs : List Expr) : TT := fun σ H Q => ∀ (s : Shared) (H0 : Hp) (C : Addr) (cl : List (Str × Addr)) (fp : List Addr), wpTs (X.blk s H0 scope (compEnvC scope cl C X.env) fp) ifs σ H Q
def blkE (X : Cx) (scope : Scope) (e : Expr) : TE := fun σ H Q => ∀ (s : Shared) (H0 : Hp) (C : Addr) (cl : List (Str × Addr)) (fp : List Addr), wpE (X.blk s H0 scope (compEnvC scope cl C X.env) fp) e σ H Q
structure Blk (X : Cx) (scope : Scope) (own : List (Str × Nat)) (tg : Expr) (ifs : List Expr) (elt : Expr) (g : D → En → Option En) (t : TM) (m : EM) : Prop where
  g : ∀ (s : Shared) (H : Hp) (C : Addr) (cl : List (Str × Addr)) (fp : List Addr), PGV (X.blk s H scope (compEnvC scope cl C X.env) fp) tg (own.map (·.2)) g
  t : ∀ (s : Shared) (H : Hp) (C : Addr) (cl : List (Str × Addr)) (fp : List Addr), PTSD (X.blk s H scope (compEnvC scope cl C X.env) fp) ifs t
  e : ∀ (s : Shared) (H : Hp) (C : Addr) (cl : List (Str × Addr)) (fp : List Addr), PED (X.blk s H scope (compEnvC scope cl C X.env) fp) W0 elt m
/-- how far a comprehension is -/
def LcPv (X : Cx) (g : D → En → Option En) (t : TM) (m : EM) (vs : List Nat) (B1 H1 : Hp) (ρ : En) (P : List D → Prop) (ds : List D) (D' : Addr) (i : Nat) (H : Hp) : Prop :=
  ∃ B' acc es, Grow B1 H1 B' H ∧ H D' = some (.lst acc) ∧ B' D' = none ∧ IsL X.K X.mg B' acc es ∧ acc.length ≤ i ∧ Post (lcGo g t m (ds.drop i) (wipeE vs ρ)) (fun r => P (es ++ r)) (fun _ => False)
theorem lc_turn {W : Wd} {σ : L2.St} {B1 H1 H : Hp} {ρ : En} {P : List D → Prop} {ds : List D} {D' : Addr} {i : Nat} {d : D} {v : V} (hb : Blk X scope own tg ifs elt g t m) (E : EnvOk X.K X.mg W B1 H1 σ ρ) (hD : H1 D' = none) (hd : ds[i]? = some d) (hl : ds.length ≤ sizeLine)
    (h : LcPv X g t m (own.map (·.2)) B1 H1 ρ P ds D' i H) (hv : ∀ B', Same B1 B' → Is X.K X.mg B' v d) :
    blkG X scope tg v (L2.wipe σ (own.map (·.2))) H fun σ2 H2 => L2.wipe σ2 (own.map (·.2)) = L2.wipe σ (own.map (·.2)) ∧ blkT X scope ifs σ2 H2 fun b H3 =>
      if b = true then blkE X scope elt σ2 H3 fun y H4 => ∃ acc, H4 D' = some (.lst acc) ∧ acc.length < sizeLine ∧ LcPv X g t m (own.map (·.2)) B1 H1 ρ P ds D' (i + 1) (upd H4 D' (.lst (acc ++ [y]))) else LcPv X g t m (own.map (·.2)) B1 H1 ρ P ds D' (i + 1) H3 := by
  obtain ⟨B', acc, es, g1, hacc, nb, ra, la, q⟩ := h
  have hi : i < ds.length := (List.getElem?_eq_some_iff.mp hd).1
  rw [drop_get hd] at q
  unfold lcGo at q
  intro s H0 C cl fp
  cases eg : g d (wipeE (own.map (·.2)) ρ) with
  | none => rw [eg] at q; exact q.elim
  | some ρ1 =>
    rw [eg] at q
    dsimp only at q
    have E1 := (E.grow g1).wipe (own.map (·.2))
    refine hb.g s H0 C cl fp W _ H B' _ ρ1 d v E1 (hv B' g1.bb) eg _ fun σ2 E2 l2 a2 => ⟨wipe_agree (l2.trans (wipe_length _ _)) a2, fun s3 H30 C3 cl3 fp3 => ?_⟩
    refine hb.t s3 H30 C3 cl3 fp3 W σ2 H B' ρ1 E2 _ ((q.noErB (E' := fun _ => False)).mono (fun b _ hb' B3 H3 g3 => ?_) fun _ z => z.elim)
    cases b with
    | true =>
      rw [if_pos rfl] at hb' ⊢
      intro s4 H40 C4 cl4 fp4
      refine hb.e s4 H40 C4 cl4 fp4 W σ2 H3 B3 ρ1 (E2.grow g3) _ ((hb'.noErB (E' := fun _ => False)).mono (fun x _ hx y B4 H4 g4 ry => ?_) fun _ z => z.elim)
      have e4 : H4 D' = some (.lst acc) := g4.hh _ _ (g3.hh _ _ hacc)
      have n4 : B4 D' = none := g4.sep _ _ (g3.hh _ _ hacc) (g3.sep _ _ hacc nb)
      have G := (g1.trans g3).trans g4
      refine ⟨acc, e4, Nat.lt_of_lt_of_le (Nat.lt_of_le_of_lt la hi) hl, B4, acc ++ [y], es ++ [x], ⟨G.bb, fun q u e => ?_, fun q u e => ?_, G.sep⟩, upd_same, n4, ((ra.mono g3.bb).mono g4.bb).snoc ry, by rw [List.length_append, List.length_singleton]; omega, hx.bind.mono (fun r _ hr => ?_) fun _ z => z⟩
      · rw [upd_ne (ne_of_none e hD)]; exact G.hh q u e
      · rw [upd_ne (fun z => by rw [z, n4] at e; cases e)]; exact G.bh q u e
      · rw [List.append_assoc]
        exact hr
    | false =>
      rw [if_neg Bool.false_ne_true] at hb' ⊢
      exact ⟨B3, acc, es, g1.trans g3, g3.hh _ _ hacc, g3.sep _ _ hacc nb, ra.mono g3.bb, by omega, hb'⟩
theorem lc_start {B1 H1 : Hp} {ρ : En} {P : List D → Prop} {ds : List D} {D' : Addr} {vs : List Nat} (b : Same B1 H1) (hD : H1 D' = none) (q : Post (lcGo g t m ds (wipeE vs ρ)) P (fun _ => False)) :
    LcPv X g t m vs B1 H1 ρ P ds D' 0 (upd H1 D' (.lst [])) := by
  refine ⟨B1, [], [], Grow.own b hD, upd_same, ?_, .nil, Nat.le_refl _, q.mono (fun r _ h => h) fun _ z => z⟩
  cases e : B1 D' with
  | none => rfl
  | some o => rw [b _ o e] at hD; cases hD
theorem lc_end {W : Wd} {B H B1 H1 H' : Hp} {Q : VK} {ρ : En} {ds : List D} {D' : Addr} {vs : List Nat} {n : Nat} (g1 : Grow B H B1 H1) (hD : H1 D' = none) (hn : n = ds.length) (h : LcPv X g t m vs B1 H1 ρ (okF X B H Q) ds D' n H') : Q (.ref D') H' := by
  subst hn
  obtain ⟨B', acc, es, g2, hacc, nb, ra, _, q⟩ := h
  rw [List.drop_length] at q
  have q' : okF X B H Q (es ++ []) := q
  rw [List.append_nil] at q'
  exact q' D' acc B' H' (g1.trans g2) (by
    cases e : H D' with
    | none => rfl
    | some o => rw [g1.hh _ o e] at hD; cases hD) hacc nb ra
theorem lcGo_noer : ∀ (ds : List D) (ρ : En) (x : Str), lcGo g t m ds ρ ≠ .er x
  | [], ρ, x => fun h => by cases h
  | d :: r, ρ, x => fun h => by
    unfold lcGo at h
    split at h
    · cases h
    · rename_i ρ1 _
      cases e1 : t ρ1 with
      | ok b =>
        rw [e1] at h
        have h' : (if b = true then (noEr (m ρ1)).bind fun x => (lcGo g t m r ρ).bind fun xs => R.ok (x :: xs) else lcGo g t m r ρ) = .er x := h
        cases b with
        | true =>
          rw [if_pos rfl] at h'
          cases e2 : m ρ1 with
          | ok y =>
            rw [e2] at h'
            have h2 : ((lcGo g t m r ρ).bind fun xs => R.ok (y :: xs)) = .er x := h'
            cases e3 : lcGo g t m r ρ with
            | ok z => rw [e3] at h2; cases h2
            | er z => exact lcGo_noer r ρ z e3
            | st => rw [e3] at h2; cases h2
          | er y => rw [e2] at h'; cases h'
          | st => rw [e2] at h'; cases h'
        | false =>
          rw [if_neg Bool.false_ne_true] at h'
          exact lcGo_noer r ρ x h'
      | er y => rw [e1] at h; cases h
      | st => rw [e1] at h; cases h
theorem post_lc {ds : List D} {ρ : En} {P : List D → Prop} {Er : Str → Prop} (h : Post (if ds.length ≤ sizeLine then lcGo g t m ds ρ else .st) P Er) : ds.length ≤ sizeLine ∧ Post (lcGo g t m ds ρ) P (fun _ => False) := by
  by_cases hl : ds.length ≤ sizeLine
  · rw [if_pos hl] at h
    refine ⟨hl, ?_⟩
    cases e : lcGo g t m ds ρ with
    | ok r => rw [e] at h; exact h
    | er x => exact (lcGo_noer ds ρ x e).elim
    | st => rw [e] at h; exact h
  · rw [if_neg hl] at h
    exact h.elim
/-- a comprehension, wherever it stands -/
def LCD (X : Cx) (Wx : WX) (own : List (Str × Nat)) (elt tg iter : Expr) (ifs : List Expr) (scope : Scope) (m : AM) : Prop :=
  BlkOk X.N X.env.scope scope own ∧ (∀ x, foldedSetIterable iter X.env x = pure x) ∧ ∃ (wi : TI) (g : TG) (tt : TT) (te : TE), PI X tg iter wi ∧
    (∀ (s : Shared) (H : Hp) (C : Addr) (cl : List (Str × Addr)) (fp : List Addr), PG (X.blk s H scope (compEnvC scope cl C X.env) fp) tg g) ∧
    (∀ (s : Shared) (H : Hp) (C : Addr) (cl : List (Str × Addr)) (fp : List Addr), PTs (X.blk s H scope (compEnvC scope cl C X.env) fp) ifs tt) ∧
    (∀ (s : Shared) (H : Hp) (C : Addr) (cl : List (Str × Addr)) (fp : List Addr), PE (X.blk s H scope (compEnvC scope cl C X.env) fp) elt te) ∧
    ∀ W σ H B ρ, EnvOk X.K X.mg W B H σ ρ → ∀ Q, Post (m ρ) (okF X B H Q) (erD X Wx σ B H) → tLc wi g tt te (own.map (·.2)) σ H Q
theorem pfd_lc (hc : X.calm = true) (hN : X.N.Nodup) (h : LCD X Wx own elt tg iter ifs scope mr) : PFD X Wx (.ListComp elt [⟨tg, iter, ifs, 0⟩] scope pos) mr := by
  obtain ⟨ok, hs, wi, g, tt, te, hi, hg, ht, he, q⟩ := h
  exact fun W σ H B ρ E Q hq => ⟨_, pe_lc hc hN hi ok hg ht he hs, q W σ H B ρ E Q hq⟩
theorem psd_ownL {i : Nat} {y : Str} {py spos : Pos} (hc : X.calm = true) (hN : X.N.Nodup) (hy : X.N[i]? = some y) (hyl : X.env.scope.names.lookup y = some .local) (h : LCD X Wx own elt tg iter ifs scope mr)
    (hsw : swapsWith (.ListComp elt [⟨tg, iter, ifs, 0⟩] scope pos) (some (.Name y py)) spos.line X.env = pure true) :
    PSD X Wx (.Assign [.Name y py] (.ListComp elt [⟨tg, iter, ifs, 0⟩] scope pos) spos) (sOwn i mr) := by
  obtain ⟨ok, hs, wi, g, tt, te, hi, hg, ht, he, q⟩ := h
  exact fun W σ H B ρ E D hq => ⟨_, ps_setLc hc hN hy hyl hsw hi ok hg ht he hs, q W σ H B ρ E _ ((PostS.ofR hq E).mono (fun ds _ hd p xs B' H' g n e1 nb r => (show PostS X W Wx (.nx (ρ.set i (.l ds))) D from hd) _ B' H' ((E.grow g).setL e1 nb (by
    cases q : W.H p with
    | none => rfl
    | some o => rw [E.gr.hh p o q] at n; cases n) (fun j fs hj _ z => by
      obtain ⟨p', ys, h1, h2, _⟩ := E.own j fs hj
      rw [z] at h1
      cases h1
      rw [n] at h2
      cases h2) r)) fun _ z => z)⟩
/-- x = [..] as data -/
def sAsgL (i : Nat) (m : AM) : SM := fun ρ => ofR (m ρ) ρ fun ds => .nx (ρ.set i (.v (.lst ds)))
theorem frozen {B H B1 H1 : Hp} {p : Addr} {xs : List V} {ds : List D} (g : Grow B H B1 H1) (n : H p = none) (e1 : H1 p = some (.lst xs)) (nb : B1 p = none) (r : IsL X.K X.mg B1 xs ds) :
    Grow B H (upd B1 p (.lst xs)) H1 ∧ Is X.K X.mg (upd B1 p (.lst xs)) (.ref p) (.lst ds) := by
  have nb' : ∀ q u, B1 q = some u → q ≠ p := fun q u e z => by rw [z, nb] at e; cases e
  have s1 : Same B1 (upd B1 p (.lst xs)) := fun q u e => by rw [upd_ne (nb' q u e)]; exact e
  refine ⟨⟨g.bb.trans s1, g.hh, fun q u e => ?_, fun q u e z => ?_⟩, .lst upd_same (r.mono s1)⟩
  · by_cases hq : q = p
    · subst hq; rw [upd_same] at e; rw [e1, e]
    · rw [upd_ne hq] at e; exact g.bh q u e
  · rw [upd_ne (ne_of_none e n)]
    exact g.sep q u e z
theorem psd_setL {i : Nat} {y : Str} {py spos : Pos} (hc : X.calm = true) (hN : X.N.Nodup) (hy : X.N[i]? = some y) (hyl : X.env.scope.names.lookup y = some .local) (h : LCD X Wx own elt tg iter ifs scope mr)
    (hsw : swapsWith (.ListComp elt [⟨tg, iter, ifs, 0⟩] scope pos) (some (.Name y py)) spos.line X.env = pure true) :
    PSD X Wx (.Assign [.Name y py] (.ListComp elt [⟨tg, iter, ifs, 0⟩] scope pos) spos) (sAsgL i mr) := by
  obtain ⟨ok, hs, wi, g, tt, te, hi, hg, ht, he, q⟩ := h
  exact fun W σ H B ρ E D hq => ⟨_, ps_setLc hc hN hy hyl hsw hi ok hg ht he hs, q W σ H B ρ E _ ((PostS.ofR hq E).mono (fun ds _ hd p xs B' H' g n e1 nb r =>
    let ⟨g2, r2⟩ := frozen g n e1 nb r
    (show PostS X W Wx (.nx (ρ.set i (.v (.lst ds)))) D from hd) _ _ H' ((E.grow g2).set r2)) fun _ z => z)⟩
/-- .. where the name is a cell: a plain assignment -/
theorem psd_setF {i : Nat} {x : Str} {pos' : Pos} (hN : X.N.Nodup) (hi : X.N[i]? = some x) (hx : Loc X.env.scope x) (h : PFD X Wx e mr) (hs : swapsWith e (some (.Name x pos')) pos.line X.env = pure false := by rfl)
    (hf : X.fn x = true ∨ X.env.scope.names.lookup x = some .local := by first | exact .inl rfl | exact .inr rfl | assumption) : PSD X Wx (.Assign [.Name x pos'] e pos) (sAsgL i mr) := fun W σ H B ρ E D q =>
  ⟨_, ps_set hN hi hx pe_wp hs hf, h W σ H B ρ E _ ((PostS.ofR q E).mono (fun ds _ hd p xs B' H' g n e1 nb r =>
    let ⟨g2, r2⟩ := frozen g n e1 nb r
    (show PostS X W Wx (.nx (ρ.set i (.v (.lst ds)))) D from hd) _ _ H' ((E.grow g2).set r2)) fun _ z => z)⟩
theorem lcd_L (hi : PED X Wx iter ma) (ok : BlkOk X.N X.env.scope scope own)
    (hg : ∀ (s : Shared) (H : Hp) (C : Addr) (cl : List (Str × Addr)) (fp : List Addr), PGV (X.blk s H scope (compEnvC scope cl C X.env) fp) tg (own.map (·.2)) g)
    (ht : ∀ (s : Shared) (H : Hp) (C : Addr) (cl : List (Str × Addr)) (fp : List Addr), PTSD (X.blk s H scope (compEnvC scope cl C X.env) fp) ifs t)
    (he : ∀ (s : Shared) (H : Hp) (C : Addr) (cl : List (Str × Addr)) (fp : List Addr), PED (X.blk s H scope (compEnvC scope cl C X.env) fp) W0 elt m)
    (hs : ∀ x, foldedSetIterable iter X.env x = pure x := by intro _; rfl) : LCD X Wx own elt tg iter ifs scope (aLc asL (own.map (·.2)) g t ma m) :=
  ⟨ok, hs, iList X.K (wpE X iter), blkG X scope tg, blkT X scope ifs, blkE X scope elt, pi_list pe_wp, (fun s H C cl fp => ⟨fun pins s' σ' H' v u Q I r q => pg_wp.run pins s' σ' H' v u Q I r (q s H C cl fp)⟩), (fun s H C cl fp => ⟨fun pins s' σ' H' Q I q => pts_wp.run pins s' σ' H' Q I (q s H C cl fp)⟩),
      (fun s H C cl fp => ⟨fun pins s' σ' H' Q I q => pe_wp.run pins s' σ' H' Q I (q s H C cl fp)⟩), fun W σ H B ρ E Q h => by
    refine hi W σ H B ρ E _ ((show Post ((ma ρ).bind fun d => (R.ofO (asL d)).bind fun ds => if ds.length ≤ sizeLine then lcGo g t m ds (wipeE (own.map (·.2)) ρ) else .st) _ _ from h).bind.mono (fun d _ hd v B1 H1 g1 rv => ?_) fun _ z => z)
    obtain ⟨ds, ed, q1⟩ := hd.bind.ofO
    obtain ⟨hl, q2⟩ := post_lc q1
    obtain ⟨a, xs, ev, hsq, r⟩ : ∃ a xs, v = V.ref a ∧ SqL X.K B1 a xs ∧ IsL X.K X.mg B1 xs ds := by
      cases d with
      | lst ds' =>
        cases ed
        obtain ⟨a, xs, ev, h1, r⟩ := rv.lst_inv
        exact ⟨a, xs, ev, SqL.of h1, r⟩
      | scr ns =>
        cases ed
        obtain ⟨a, ev, h1⟩ := rv.scr_inv
        exact ⟨a, _, ev, h1, IsL.ints ns⟩
      | _ => cases ed
    refine ⟨a, ev, ⟨xs, g1.bh.seq hsq⟩, fun D' hD => ?_⟩
    exact lc_list (K := X.K) (a := a) (xs := xs) (LcPv X g t m (own.map (·.2)) B1 H1 ρ (okF X B H Q) ds D') (lc_start g1.bh hD q2) (fun i H' _ ⟨B', _, _, g2, _⟩ => (g2.bb.trans g2.bh).seq hsq)
      (fun i x H' hx p => by
        obtain ⟨d', hd', r'⟩ := r.at hx
        exact lc_turn ⟨hg, ht, he⟩ (E.grow g1) hD hd' hl p fun B' s => r'.mono s)
      (fun H' p => lc_end (W := W) g1 hD r.length p)⟩
theorem lcd_T (hi : PED X Wx iter ma) (ok : BlkOk X.N X.env.scope scope own)
    (hg : ∀ (s : Shared) (H : Hp) (C : Addr) (cl : List (Str × Addr)) (fp : List Addr), PGV (X.blk s H scope (compEnvC scope cl C X.env) fp) tg (own.map (·.2)) g)
    (ht : ∀ (s : Shared) (H : Hp) (C : Addr) (cl : List (Str × Addr)) (fp : List Addr), PTSD (X.blk s H scope (compEnvC scope cl C X.env) fp) ifs t)
    (he : ∀ (s : Shared) (H : Hp) (C : Addr) (cl : List (Str × Addr)) (fp : List Addr), PED (X.blk s H scope (compEnvC scope cl C X.env) fp) W0 elt m)
    (hs : ∀ x, foldedSetIterable iter X.env x = pure x := by intro _; rfl) : LCD X Wx own elt tg iter ifs scope (aLc asT (own.map (·.2)) g t ma m) :=
  ⟨ok, hs, iTup X.K (wpE X iter), blkG X scope tg, blkT X scope ifs, blkE X scope elt, pi_tup pe_wp, (fun s H C cl fp => ⟨fun pins s' σ' H' v u Q I r q => pg_wp.run pins s' σ' H' v u Q I r (q s H C cl fp)⟩), (fun s H C cl fp => ⟨fun pins s' σ' H' Q I q => pts_wp.run pins s' σ' H' Q I (q s H C cl fp)⟩),
      (fun s H C cl fp => ⟨fun pins s' σ' H' Q I q => pe_wp.run pins s' σ' H' Q I (q s H C cl fp)⟩), fun W σ H B ρ E Q h => by
    refine hi W σ H B ρ E _ ((show Post ((ma ρ).bind fun d => (R.ofO (asT d)).bind fun ds => if ds.length ≤ sizeLine then lcGo g t m ds (wipeE (own.map (·.2)) ρ) else .st) _ _ from h).bind.mono (fun d _ hd v B1 H1 g1 rv => ?_) fun _ z => z)
    obtain ⟨ds, ed, q1⟩ := hd.bind.ofO
    obtain ⟨hl, q2⟩ := post_lc q1
    cases d with
    | tup ds' =>
      obtain rfl : ds' = ds := Option.some.inj ed
      obtain ⟨a, xs, ev, hsq, r⟩ := rv.tup_inv
      refine ⟨a, ev, ⟨xs, seqT g1.bh hsq⟩, fun D' hD => ?_⟩
      exact lc_tup (K := X.K) (a := a) (xs := xs) (LcPv X g t m (own.map (·.2)) B1 H1 ρ (okF X B H Q) ds' D') (lc_start g1.bh hD q2) (fun i H' _ ⟨B', _, _, g2, _⟩ => seqT (g2.bb.trans g2.bh) hsq)
        (fun i x H' hx p => by
          obtain ⟨d', hd', r'⟩ := r.at hx
          exact lc_turn ⟨hg, ht, he⟩ (E.grow g1) hD hd' hl p fun B' s => r'.mono s)
        (fun H' p => lc_end (W := W) g1 hD r.length p)
    | _ => cases ed⟩
theorem lc_rg {W : Wd} {σ : L2.St} {B H B1 H1 : Hp} {Q : VK} {ρ : En} {lo : Int} {n : Nat} {D' : Addr} (hb : Blk X scope own tg ifs elt g t m) (E : EnvOk X.K X.mg W B1 H1 σ ρ) (g1 : Grow B H B1 H1) (hD : H1 D' = none) (hl : (rg lo 1 n).length ≤ sizeLine)
    (q : Post (lcGo g t m (rg lo 1 n) (wipeE (own.map (·.2)) ρ)) (okF X B H Q) (fun _ => False)) :
    ∃ W : Nat → Nat → Hp → Prop, (∃ m, W 0 m (upd H1 D' (.lst []))) ∧ ∀ i m H, W i m H →
      ((Itr lo n).stop i H ∧ Q (.ref D') H) ∨ ((Itr lo n).go i H ∧ ∃ Nx : Hp → Prop, (∀ H', Nx H' → ∃ m', m' < m ∧ W (i + 1) m' H') ∧ ∀ x H', (Itr lo n).yld i H x H' → blkG X scope tg x (L2.wipe σ (own.map (·.2))) H' fun σ2 H2 => L2.wipe σ2 (own.map (·.2)) = L2.wipe σ (own.map (·.2)) ∧ blkT X scope ifs σ2 H2 fun b H3 =>
        if b = true then blkE X scope elt σ2 H3 fun y H4 => ∃ acc, H4 D' = some (.lst acc) ∧ acc.length < sizeLine ∧ Nx (upd H4 D' (.lst (acc ++ [y]))) else Nx H3) :=
  lc_range (lo := lo) (n := n) (LcPv X g t m (own.map (·.2)) B1 H1 ρ (okF X B H Q) (rg lo 1 n) D') (lc_start E.bh hD q)
    (fun i H' hi p => by
      have hg := rg_get (i := lo) (c := 1) hi
      rw [Int.mul_one] at hg
      exact lc_turn hb E hD hg hl p fun B' s => .int _)
    (fun H' p => lc_end (W := W) g1 hD rg_len.symm p)
theorem lcd_1 (hgl : Gl X "range") (hm : X.mg "range" = none) (hi : PAD X Wx [a] mr) (hln : ∀ ρ ds, mr ρ = .ok ds → ds.length = 1) (ok : BlkOk X.N X.env.scope scope own)
    (hg : ∀ (s : Shared) (H : Hp) (C : Addr) (cl : List (Str × Addr)) (fp : List Addr), PGV (X.blk s H scope (compEnvC scope cl C X.env) fp) tg (own.map (·.2)) g)
    (ht : ∀ (s : Shared) (H : Hp) (C : Addr) (cl : List (Str × Addr)) (fp : List Addr), PTSD (X.blk s H scope (compEnvC scope cl C X.env) fp) ifs t)
    (he : ∀ (s : Shared) (H : Hp) (C : Addr) (cl : List (Str × Addr)) (fp : List Addr), PED (X.blk s H scope (compEnvC scope cl C X.env) fp) W0 elt m)
    {cpos : Pos} (hs1 : starEach [a] X.env = [(false, eval a X.env)] := by rfl) (hs : ∀ x, foldedSetIterable (.Call (.Name "range" p) [a] [] cpos) X.env x = pure x := by intro _; rfl) :
    LCD X Wx own elt tg (.Call (.Name "range" p) [a] [] cpos) ifs scope (aLcR (own.map (·.2)) g t mr m) :=
  ⟨ok, hs, iRng1 (wpA X [a]), blkG X scope tg, blkT X scope ifs, blkE X scope elt, pi_range1 hgl hm pa_wp hs1, (fun s H C cl fp => ⟨fun pins s' σ' H' v u Q I r q => pg_wp.run pins s' σ' H' v u Q I r (q s H C cl fp)⟩), (fun s H C cl fp => ⟨fun pins s' σ' H' Q I q => pts_wp.run pins s' σ' H' Q I (q s H C cl fp)⟩),
      (fun s H C cl fp => ⟨fun pins s' σ' H' Q I q => pe_wp.run pins s' σ' H' Q I (q s H C cl fp)⟩), fun W σ H B ρ E Q h => by
    refine hi W σ H B ρ E _ ((show Post ((mr ρ).bind fun as => (R.ofO (dRange as)).bind fun ds => if ds.length ≤ sizeLine then lcGo g t m ds (wipeE (own.map (·.2)) ρ) else .st) _ _ from h).bind.mono (fun as eas hd vs B1 H1 g1 rv => ?_) fun _ z => z)
    obtain ⟨ds, ed, q1⟩ := hd.bind.ofO
    obtain ⟨hl, q2⟩ := post_lc q1
    have hl1 := hln ρ as eas
    match as, hl1, ed, rv with
    | [d], _, ed, rv =>
      cases d with
      | int j =>
        obtain ⟨hj, rfl⟩ := some_ite ed
        obtain ⟨v, rfl, r1⟩ := rv.one_inv
        rw [r1.int_inv]
        exact ⟨j, rfl, hj.1, hj.2, fun D' hD => lc_rg ⟨hg, ht, he⟩ (E.grow g1) g1 hD hl q2⟩
      | _ => cases ed⟩
theorem lcd_2 (hgl : Gl X "range") (hm : X.mg "range" = none) (hi : PAD X Wx [a, b] mr) (hln : ∀ ρ ds, mr ρ = .ok ds → ds.length = 2) (ok : BlkOk X.N X.env.scope scope own)
    (hg : ∀ (s : Shared) (H : Hp) (C : Addr) (cl : List (Str × Addr)) (fp : List Addr), PGV (X.blk s H scope (compEnvC scope cl C X.env) fp) tg (own.map (·.2)) g)
    (ht : ∀ (s : Shared) (H : Hp) (C : Addr) (cl : List (Str × Addr)) (fp : List Addr), PTSD (X.blk s H scope (compEnvC scope cl C X.env) fp) ifs t)
    (he : ∀ (s : Shared) (H : Hp) (C : Addr) (cl : List (Str × Addr)) (fp : List Addr), PED (X.blk s H scope (compEnvC scope cl C X.env) fp) W0 elt m)
    {cpos : Pos} (hs1 : starEach [a, b] X.env = [(false, eval a X.env), (false, eval b X.env)] := by rfl) (hs2 : starEach [b] X.env = [(false, eval b X.env)] := by rfl) (hs : ∀ x, foldedSetIterable (.Call (.Name "range" p) [a, b] [] cpos) X.env x = pure x := by intro _; rfl) :
    LCD X Wx own elt tg (.Call (.Name "range" p) [a, b] [] cpos) ifs scope (aLcR (own.map (·.2)) g t mr m) :=
  ⟨ok, hs, iRng2 (wpA X [a, b]), blkG X scope tg, blkT X scope ifs, blkE X scope elt, pi_range2 hgl hm pa_wp hs1 hs2, (fun s H C cl fp => ⟨fun pins s' σ' H' v u Q I r q => pg_wp.run pins s' σ' H' v u Q I r (q s H C cl fp)⟩), (fun s H C cl fp => ⟨fun pins s' σ' H' Q I q => pts_wp.run pins s' σ' H' Q I (q s H C cl fp)⟩),
      (fun s H C cl fp => ⟨fun pins s' σ' H' Q I q => pe_wp.run pins s' σ' H' Q I (q s H C cl fp)⟩), fun W σ H B ρ E Q h => by
    refine hi W σ H B ρ E _ ((show Post ((mr ρ).bind fun as => (R.ofO (dRange as)).bind fun ds => if ds.length ≤ sizeLine then lcGo g t m ds (wipeE (own.map (·.2)) ρ) else .st) _ _ from h).bind.mono (fun as eas hd vs B1 H1 g1 rv => ?_) fun _ z => z)
    obtain ⟨ds, ed, q1⟩ := hd.bind.ofO
    obtain ⟨hl, q2⟩ := post_lc q1
    have hl1 := hln ρ as eas
    match as, hl1, ed, rv with
    | [d, d2], _, ed, rv =>
      cases d with
      | int i =>
        cases d2 with
        | int j =>
          obtain ⟨hj, rfl⟩ := some_ite ed
          obtain ⟨v, u, rfl, r1, r2⟩ := rv.two_inv
          rw [r1.int_inv, r2.int_inv]
          exact ⟨i, j, rfl, hj, fun D' hD => lc_rg ⟨hg, ht, he⟩ (E.grow g1) g1 hD hl q2⟩
        | _ => cases ed
      | _ => cases ed⟩
end
end GD

/-! GD, part g: try .. except .. as e: error = e; what the caught error is. -/
namespace GD
open PySem PySem.Spec PyProof.Rows L2

theorem exK_ok {P : Program} {w : World} {H : Hp} {h : Heap} {a : Addr} {cls : Value} {oe : Obj} {vs : Array Value} (g : h.get? a = some oe) (z : Zc cls none oe) (d : oe.data = .fields vs) : ObjOk P w H h a (ExK cls a) :=
  ⟨⟨oe, vs, g, z, d⟩, ⟨oe, g⟩, fun _ _ y k => y.elim fun o y' => y'.elim fun v y2 => ⟨o, v, k o y2.1, y2.2⟩⟩
section
variable {X : Cx} {pins : List (Addr × Obj)} {σ : L2.St} {H : Hp} {s : Shared}
/-- the caught error becomes an object that we know -/
theorem inv_keeps {a : Addr} {cls : Value} {oe : Obj} {vs : Array Value} (I : Inv X pins σ H s) (g : s.heap.get? a = some oe) (z : Zc cls none oe) (d : oe.data = .fields vs) (nh : H a = none)
    (n0 : ∀ o, X.s_0.heap.get? a = some o → a ∈ X.ex) (nl : a ≠ X.env.locals) (np : ∀ p ∈ X.pn ++ pins, p.1 ≠ a) : Inv X pins σ (upd H a (ExK cls a)) s := by
  have off : ∀ b o, H b = some o → upd H a (ExK cls a) b = some o := fun b o e => by
    rw [upd_ne (ne_of_none e nh)]; exact e
  have non : ∀ b, H b = none → b ≠ a → upd H a (ExK cls a) b = none := fun b e hb => by
    rw [upd_ne hb]; exact e
  refine { ok := I.ok, os := I.os, bare := I.bare, base := ?_, loc := I.loc, cell := I.cell, free := non _ I.free (Ne.symm nl), freeC := fun x c e => ?_, pin := fun p hp => ?_, hok := fun b o e => ?_, len := I.len }
  · have U := I.base
    exact { keep := U.keep, slot := U.slot, there := U.there, free := fun b o e e1 hx => non b (U.free b o e e1 hx) (fun q => by subst q; exact hx (n0 o e)),
            tups := fun b xs e => off _ _ (U.tups b xs e), frzs := fun b o u e => off _ _ (U.frzs b o u e), tbls := fun b ps e => (U.tbls b ps e).imp fun _ q => off _ _ q }
  · refine non c (I.freeC x c e) fun q => ?_
    obtain ⟨v, hv⟩ := I.cell x c e
    obtain ⟨o, ho, hd⟩ := hv
    rw [q, g] at ho
    cases ho
    rw [d] at hd
    cases hd
  · obtain ⟨p1, p2, p3⟩ := I.pin p hp
    exact ⟨p1, non _ p2 (np p hp), p3⟩
  · by_cases hb : b = a
    · subst hb
      rw [upd_same] at e
      cases e
      exact exK_ok g z d
    · rw [upd_ne hb] at e
      exact (I.hok b o e).stay (fun _ _ _ q => q) (fun b' q => off _ _ q) fun b' xs q => off _ _ q

/-- what is wished of the error: it is caught, and the suite goes on with it -/
def wKeep (K : PySem.W.Frag) (c : Value) (i : Nat) (ts : Addr → Value → TS) (D : Ends) : WX := fun cls d σ H =>
  d = none ∧ PySem.W.exmOne K cls c = some true ∧ ∀ a, H a = none → ts a cls { nx := fun σ1 H1 => D.nx (σ1.set i none) (upd H1 a (ExK cls a)), rt := fun _ _ => False, bk := fun _ _ => False, ct := fun _ _ => False } (σ.set i (some (.ref a))) H
theorem catch_run {x n : Str} {c : Value} {i : Nat} {suite : List Stmt} {b₀ : Stmt} {np pos' : Pos} {ts : Addr → Value → TS} {D : Ends} {xe : Value → Shared → Prop} {u : Value} {s' : Shared}
    (ok : X.Ok) (hs : X.stack = X.env :: X.outer) (hf : X.env.frame = some X.env.locals) (hN : X.N.Nodup) (hi : X.N[i]? = some n) (hln : X.env.kindOf n = some .local) (hc : Names X x c)
    (hsu : ∀ (a : Addr) (oe : Obj) (cls : Value) (pn : List (Addr × Obj)), PSs (X.suite a ((a, oe) :: pn)) (b₀ :: suite) (ts a cls))
    (y : XE (X.tr (X.pn ++ pins) xe) (wKeep X.K c i ts D) u s') :
    wpAny (model X.prog X.w) X.A (noteFrame u X.env) (fun _ s2 => wpAny (model X.prog X.w) X.A (setFlight u none) (fun _ s3 =>
      wpAny (model X.prog X.w) X.A (handleBy u X.env [.ExceptHandler (some (.Name x np)) (some n) (b₀ :: suite) pos']) (SP X pins D) X.xe s3) X.xe s2) X.xe s' := by
  rcases y with ⟨a, G, s0, ps, σ1, H1, cls, dd, rfl, J1, ground, ups, sky, nh, eos, bare, dn, em, go⟩
  subst dn
  have J0 : Inv X pins σ1 H1 s0 := J1.ofTry ok
  have fr : X.A.frames = some (X.env :: X.outer) := hs ▸ ok.frames
  have sky2 : Sky G (X.env :: X.outer) a (Zc cls none) X.env.locals s'.heap := hs ▸ sky
  refine Sky.land Zc.steady fr hf sky2 fun hA flA upA => ?_
  have JA : Inv X pins σ1 H1 { s' with heap := hA } := J0.landed ground flA.1 (ups.trans upA) eos bare
  -- where the error is not
  have out : a ∉ frs (X.env :: X.outer) := by
    intro m
    obtain ⟨_, o, eo, no⟩ := flA.2.2.1.mem m
    obtain ⟨oe, vs, e1, _, e2⟩ := flA.there
    cases e1.symm.trans eo
    exact no _ e2
  have aL : a ≠ X.env.locals := fun q => out (List.mem_filterMap.mpr ⟨X.env, List.mem_cons_self, by rw [hf, q]⟩)
  have aF : a ∉ X.fs := fun q => out (by
    obtain ⟨e, h1, h2⟩ := List.mem_filterMap.mp q
    exact List.mem_filterMap.mpr ⟨e, List.mem_cons_of_mem _ h1, h2⟩)
  have new0 : ∀ o, s0.heap.get? a = some o → False := fun o q => by
    have := ground a o q (by rw [show (X.tr (X.pn ++ pins) xe).stack = X.env :: X.outer from hs]; exact out)
    rw [flA.2.1] at this
    cases this
  have n0 : ∀ o, X.s_0.heap.get? a = some o → a ∈ X.ex := fun o q => by
    apply Decidable.byContradiction
    intro hx
    obtain ⟨o', q'⟩ := J0.base.there a o q hx
    exact new0 o' q'
  have npn : ∀ p ∈ X.pn ++ pins, p.1 ≠ a := fun p hp q => new0 p.2 (by rw [← q]; exact (J0.pin p hp).1)
  -- the clause's class
  obtain ⟨oA, vA, eA, zA, dA⟩ := flA.there
  have SA := JA.suite eA dA nh aL aF
  have ty : PySem.W.Looks (model X.prog X.w) hA (typeOf (.ref a)) cls := fun _ _ _ _ k q => wpAny_typeOf_ref (k _ _ eA) (zA.1.symm ▸ q)
  have yes := PySem.W.exm_one (M := model X.prog X.w) JA.kIn ty em
  have ask : ∀ {Q : Value → Shared → Prop} {E : Value → Shared → Prop}, Q c { s' with heap := hA } → wpAny (model X.prog X.w) (X.A.mark (some (.ref a))) (eval (.Name x np) X.env) Q E { s' with heap := hA } := by
    intro Q E q
    rcases hc with ⟨hg, hdb, h1 | ⟨h1, h2, h3⟩⟩
    · exact ld_glob (X := X.suite a ((a, oA) :: (X.pn ++ pins))) SA hg h1 q hdb
    · exact ld_blt (X := X.suite a ((a, oA) :: (X.pn ++ pins))) SA hg h1 h2 q h3 hdb
  refine wpAny_handleBy_cons (codeAny_handlers_test (ask (yes.here ?_))) (by intro q; cases q)
  apply codeAny_handlers_suite_as
  refine HandSPX.lands_againZ flA fun hB flB upB => ?_
  have JB : Inv X pins σ1 H1 { s' with heap := hB } := J0.landed ground flB.1 ((ups.trans upA).trans upB) eos bare
  obtain ⟨oB, vB, eB, zB, dB⟩ := flB.there
  have SB := JB.suite eB dB nh aL aF
  refine store_ok (X := X.suite a ((a, oB) :: (X.pn ++ pins))) (v := .ref a) SB hN hi (Or.inl hln) rfl (fun s5 S5 => ?_) (Or.inr hln)
  have run := (hsu a oB cls (X.pn ++ pins)).run [] s5 _ H1 _ S5 (go a nh)
  refine wpAny_mono run (fun f s6 q => ?_) fun _ _ z => z.elim
  match f, q with
  | .next, ⟨σ6, H6, S6, q6⟩ =>
    refine gone_ok (X := X.suite a ((a, oB) :: (X.pn ++ pins))) S6 hN hi hln fun s7 S7 => ?_
    obtain ⟨g7, n7, _⟩ := S7.pin (a, oB) (List.mem_append.mpr (.inl List.mem_cons_self))
    exact ⟨_, _, inv_keeps (S7.unsuite ok) g7 zB dB n7 n0 aL npn, q6⟩
  | .brk, ⟨_, _, _, q6⟩ => exact q6.elim
  | .cont, ⟨_, _, _, q6⟩ => exact q6.elim
  | .ret _, ⟨_, _, _, _, _, q6⟩ => exact q6.elim
theorem ps_tryKeep {x n : Str} {c : Value} {i : Nat} {body suite : List Stmt} {b₀ : Stmt} {np pos pos' : Pos} {tb : WX → TS} {ts : Addr → Value → TS}
    (hs : X.stack = X.env :: X.outer) (hf : X.env.frame = some X.env.locals) (hN : X.N.Nodup) (hi : X.N[i]? = some n) (hln : X.env.kindOf n = some .local) (hc : Names X x c)
    (hb : ∀ (W : WX) (pn : List (Addr × Obj)) (xe : Value → Shared → Prop), Takes (X.tr pn xe) W → PassesOwn (model X.prog X.w) X.A X.env xe → PSs (X.tr pn xe) body (tb W))
    (hsu : ∀ (a : Addr) (oe : Obj) (cls : Value) (pn : List (Addr × Obj)), PSs (X.suite a ((a, oe) :: pn)) (b₀ :: suite) (ts a cls)) :
    PS X (.Try body [.ExceptHandler (some (.Name x np)) (some n) (b₀ :: suite) pos'] [] [] pos) (fun D σ H => tb (wKeep X.K c i ts D) D σ H) := by
  constructor
  intro pins s σ H D I h
  refine wpAny_Try_except ?_
  have ok := I.ok
  let xe : Value → Shared → Prop := fun e s1 => wpAny (model X.prog X.w) X.A (noteFrame e X.env) (fun _ s2 => wpAny (model X.prog X.w) X.A (setFlight e none) (fun _ s3 =>
    wpAny (model X.prog X.w) X.A (handleBy e X.env [.ExceptHandler (some (.Name x np)) (some n) (b₀ :: suite) pos']) (SP X pins D) X.xe s3) X.xe s2) X.xe s1
  have bd := (hb (wKeep X.K c i ts D) (X.pn ++ pins) xe (fun u s' y => catch_run ok hs hf hN hi hln hc hsu y) PassesOwn.looking).run [] s σ H D (I.toTry _) h
  refine wpAny_mono bd (fun f s1 q => ?_) fun _ _ z => z
  match f, q with
  | .next, ⟨σ', H', J, q⟩ => exact wpAny_execs_nil ⟨σ', H', J.ofTry ok, q⟩
  | .brk, ⟨σ', H', J, q⟩ => exact ⟨σ', H', J.ofTry ok, q⟩
  | .cont, ⟨σ', H', J, q⟩ => exact ⟨σ', H', J.ofTry ok, q⟩
  | .ret u, ⟨v, σ', H', J, r, q⟩ => exact ⟨v, σ', H', J.ofTry ok, r, q⟩
end

/-! ### the statement -/
/-- try: body / except X as e: error = e, where all that is raised is caught; i: e's slot, j: error's -/
def sTry (ct : Str → Bool) (i j : Nat) (body : SM) : SM := fun ρ => match body ρ with
  | .er x ρ1 => if ct x = true ∧ i < ρ1.length then .nx (((ρ1.set i (.v (.exc x))).set j (.v (.exc x))).set i .un) else .st
  | o => o
section
variable {X : Cx} {Wx : WX}
theorem psd_try {ct : Str → Bool} {x n m : Str} {c : Value} {i j : Nat} {body : List Stmt} {mb : SM} {np pos pos' q1 q2 q3 : Pos}
    (hct : ∀ y cls, ct y = true → X.mg y = some cls → PySem.W.exmOne X.K cls c = some true)
    (hs : X.stack = X.env :: X.outer) (hf : X.env.frame = some X.env.locals) (hN : X.N.Nodup) (hi : X.N[i]? = some n) (hln : X.env.kindOf n = some .local) (hc : Names X x c)
    (hv : Vis X.env.scope n) (hj : X.N[j]? = some m) (hx : Loc X.env.scope m)
    (hb : ∀ (W : WX) (pn : List (Addr × Obj)) (xe : Value → Shared → Prop), Takes (X.tr pn xe) W → PassesOwn (model X.prog X.w) X.A X.env xe → PBD (X.tr pn xe) W body mb)
    (hsw : swapsWith (.Name n q2) (some (.Name m q1)) q3.line X.env = pure false := by rfl) (hf2 : X.fn m = true ∨ X.env.scope.names.lookup m = some .local := by first | exact .inl rfl | exact .inr rfl | assumption)
    (hd : (n == ("__debug__" : Str)) = false := by decide) (hcd : (n == ("__classdict__" : Str)) = false := by decide) :
    PSD X Wx (.Try body [.ExceptHandler (some (.Name x np)) (some n) [.Assign [.Name m q1] (.Name n q2) q3] pos'] [] [] pos) (sTry ct i j mb) := by
  intro W σ H B ρ E D q
  refine ⟨_, ps_tryKeep (tb := fun Wn D σ H => ∀ pn xe, Takes (X.tr pn xe) Wn → PassesOwn (model X.prog X.w) X.A X.env xe → wpB (X.tr pn xe) body D σ H)
    (ts := fun a cls D σ H => ∃ v, σ[i]? = some (some v) ∧ D.nx (σ.set j (some v)) H) hs hf hN hi hln hc
    (fun Wn pn xe tk ps => ⟨fun pins s σ H D I h => pb_wp.run pins s σ H D I (h pn xe tk ps)⟩)
    (fun a oe cls pn => pss_one (ps_set (X := X.suite a ((a, oe) :: pn)) hN hj hx (pe_var hi hv hd hcd) hsw hf2)), fun pn xe tk ps => ?_⟩
  refine hb _ pn xe tk ps W σ H B ρ E D ?_
  unfold sTry at q
  cases e : mb ρ with
  | er y ρ1 =>
    rw [e] at q
    have q' : PostS X W Wx (if ct y = true ∧ i < ρ1.length then .nx (((ρ1.set i (.v (.exc y))).set j (.v (.exc y))).set i .un) else .st) D := q
    by_cases hy : ct y = true ∧ i < ρ1.length
    · rw [if_pos hy] at q'
      intro cls σ1 B1 H1 hm E1
      refine ⟨rfl, hct y cls hy.1 hm, fun a na => ?_⟩
      have hl : i < σ1.length := by rw [E1.len]; exact hy.2
      refine ⟨.ref a, List.getElem?_set_self hl, ?_⟩
      have r : Is X.K X.mg (upd B1 a (ExK cls a)) (.ref a) (.exc y) := .exc hm upd_same
      exact (show ∀ σ B H, EnvOk X.K X.mg W B H σ _ → D.nx σ H from q') _ _ _ ((((E1.grow (Grow.new E1.bh na)).set r).set r).drop i)
    · rw [if_neg hy] at q'
      exact q'.elim
  | nx ρ1 => rw [e] at q; exact q
  | rt d => rw [e] at q; exact q
  | bk ρ1 => rw [e] at q; exact q
  | ct ρ1 => rw [e] at q; exact q
  | st => rw [e] at q; exact q.elim
end
/-! ### isinstance of a caught error -/
def lookX (L : List (Str × Str × Bool)) (y c : Str) : Option Bool := (L.find? fun t => t.1 == y && t.2.1 == c).map (·.2.2)
def anyX (L : List (Str × Str × Bool)) (y : Str) : List D → Option Bool
  | [] => some false
  | .cls c :: r => match lookX L y c with
    | some true => (anyX L y r).map fun _ => true
    | some false => anyX L y r
    | none => none
  | _ => none
def isX (Lc : List (Str × Str × Bool)) (Lt : List (Str × String × Bool)) (y : Str) : D → Option Bool
  | .cls c => lookX Lc y c
  | .ty n => (Lt.find? fun t => t.1 == y && t.2.1 == n).map (·.2.2)
  | .tup ds => anyX Lc y ds
  | _ => none
def dIsX (Ly : List Str) (Lc : List (Str × Str × Bool)) (Lt : List (Str × String × Bool)) : List D → Option D
  | [.exc y, u] => if Ly.contains y = true then (isX Lc Lt y u).map .bl else none
  | _ => none
/-- what the classes of errors say of one another -/
structure ExH (K : PySem.W.Frag) (mg : Str → Option Value) (Ly : List Str) (Lc : List (Str × Str × Bool)) (Lt : List (Str × String × Bool)) : Prop where
  c : ∀ t ∈ Lc, ∃ D C, mg t.1 = some (.ref D) ∧ mg t.2.1 = some (.ref C) ∧ PySem.W.kitOne K (.ref D) (.ref C) = some t.2.2
  t : ∀ t ∈ Lt, ∃ D, mg t.1 = some (.ref D) ∧ PySem.W.kitOne K (.ref D) (.type t.2.1) = some t.2.2
  x : ∀ y ∈ Ly, ∃ D, mg y = some (.ref D) ∧ ExcC K D
def rIsX (K : PySem.W.Frag) : List V → Hp → VK → Prop := fun xs H Q => ∃ (a D : Addr) (u : V) (b : Bool), xs = [.ref a, u] ∧ H a = some (ExK (.ref D) a) ∧ ExcC K D ∧
  ((∃ cv, (∀ z, RelV u z → z = cv) ∧ PySem.W.kitOne K (.ref D) cv = some b) ∨ (∃ tp cs ws, u = .ref tp ∧ SqT K H tp cs ∧ (∀ its, Vals cs its → its = ws) ∧ PySem.W.kitAny K (.ref D) ws = some b)) ∧ Q (.bl b) H
section
variable {X : Cx}
theorem call_isX : CallR X (.builtin "isinstance") (rIsX X.K) := by
  intro pins s σ H xs us Q I r h
  obtain ⟨a, D, u, b, rfl, hX, C, hk, q⟩ := h
  obtain ⟨z1, z2, rfl, r1, r2⟩ := vals2 r
  cases (show z1 = Value.ref a from r1)
  obtain ⟨⟨oe, vs, g, z, d⟩, _⟩ := (show ObjOk X.prog X.w H s.heap a (ExK (.ref D) a) from I.hok a _ hX)
  have J : PySem.W.InstAt s.heap a oe D none := by
    obtain ⟨c1, c2, c3, c4⟩ := oe
    obtain ⟨w1, w2⟩ := z
    dsimp only at w1 w2 d
    subst w1 w2 d
    exact ⟨g, rfl, rfl, trivial⟩
  have Z := PySem.W.handS_kitx_exc (x := a) (ox := oe) C.hg C.hk C.hs C.hd C.ha C.hn C.ht C.hm
  have out : ∀ tk, ∃ v H1, Inv X pins σ H1 { s with toks := tk } ∧ RelV v (.bool b) ∧ Q v H1 := fun tk => ⟨.bl b, H, I.tok tk, rfl, q⟩
  rcases hk with ⟨cv, e1, e2⟩ | ⟨tp, cs, ws, rfl, hT, e1, e2⟩
  · have e := e1 _ r2
    subst e
    exact PySem.W.kia_one Z I.kIn J e2 (by intro q; cases q) out
  · cases (show z2 = Value.ref tp from r2)
    obtain ⟨its, rv, ht, _⟩ := I.tuple hT
    have e := e1 _ rv
    subst e
    obtain ⟨o, h1, h2, n, h3⟩ := ht
    obtain ⟨c1, c2, c3, c4⟩ := o
    dsimp only at h2 h3
    subst h2 h3
    exact PySem.W.kia_tup Z I.kIn J h1 e2 (by intro q; cases q) out
theorem any_of {K : PySem.W.Frag} {mg : Str → Option Value} {B : Hp} {Ly Lc Lt} (F : ExH K mg Ly Lc Lt) {y : Str} {D : Addr} (hy : mg y = some (.ref D)) : ∀ {cs : List V} {ds : List GD.D} {b : Bool}, IsL K mg B cs ds → anyX Lc y ds = some b →
    ∃ ws, (∀ its, Vals cs its → its = ws) ∧ PySem.W.kitAny K (.ref D) ws = some b
  | _, _, b, .nil, h => ⟨[], fun its v => by cases v; rfl, h⟩
  | _, _, b, .cons (d := d) h1 r, h => by
    cases h1 with
    | cls hm =>
      rename_i a c
      unfold anyX at h
      cases e : lookX Lc y c with
      | none => rw [e] at h; cases h
      | some k =>
        rw [e] at h
        have kt : PySem.W.kitOne K (.ref D) (.ref a) = some k := by
          unfold lookX at e
          obtain ⟨t, ht, e2⟩ := Option.map_eq_some_iff.mp e
          have hm1 := List.mem_of_find?_eq_some ht
          have hp := List.find?_some ht
          rw [Bool.and_eq_true] at hp
          obtain ⟨D', C, m1, m2, k1⟩ := F.c t hm1
          rw [beq_iff_eq.mp hp.1, hy] at m1
          rw [beq_iff_eq.mp hp.2, hm] at m2
          cases m1
          cases m2
          rw [← e2]
          exact k1
        cases k with
        | true =>
          obtain ⟨k2, h2, rfl⟩ := Option.map_eq_some_iff.mp h
          obtain ⟨ws, hws, _⟩ := any_of F hy r h2
          refine ⟨.ref a :: ws, fun its v => ?_, by unfold PySem.W.kitAny; rw [kt]⟩
          cases v with
          | cons r1 r2 => rw [hws _ r2]; exact congrArg (· :: ws) r1
        | false =>
          obtain ⟨ws, hws, hk⟩ := any_of F hy r h
          refine ⟨.ref a :: ws, fun its v => ?_, by unfold PySem.W.kitAny; rw [kt]; exact hk⟩
          cases v with
          | cons r1 r2 => rw [hws _ r2]; exact congrArg (· :: ws) r1
    | _ => cases h
theorem calld_isX {Ly Lc Lt} (F : ExH X.K X.mg Ly Lc Lt) : CallD X (.builtin "isinstance") (dIsX Ly Lc Lt) := by
  intro B H vs ds d' Q b r g q
  unfold dIsX at g
  split at g
  · rename_i y u0
    split at g
    · rename_i hy
      obtain ⟨k, e, rfl⟩ := Option.map_eq_some_iff.mp g
      obtain ⟨v, u, rfl, h1, h2⟩ := r.two_inv
      obtain ⟨D, mD, hC⟩ := F.x y (List.contains_iff_mem.mp hy)
      cases h1 with
      | exc hc h =>
        rename_i a cls
        rw [mD] at hc
        cases hc
        have fin : ((∃ cv, (∀ z, RelV u z → z = cv) ∧ PySem.W.kitOne X.K (.ref D) cv = some k) ∨ (∃ tp cs ws, u = .ref tp ∧ SqT X.K H tp cs ∧ (∀ its, Vals cs its → its = ws) ∧ PySem.W.kitAny X.K (.ref D) ws = some k)) → ∃ r, CallR X (.builtin "isinstance") r ∧ r [.ref a, u] H Q :=
          fun hk => ⟨_, call_isX, a, D, u, k, rfl, b _ _ h, hC, hk, q.at b (.bl _)⟩
        unfold isX at e
        split at e
        · unfold lookX at e
          obtain ⟨t, ht, e2⟩ := Option.map_eq_some_iff.mp e
          have hp := List.find?_some ht
          rw [Bool.and_eq_true] at hp
          obtain ⟨D', C, m1, m2, k1⟩ := F.c t (List.mem_of_find?_eq_some ht)
          rw [beq_iff_eq.mp hp.1, mD] at m1
          rw [beq_iff_eq.mp hp.2] at m2
          rw [e2] at k1
          cases m1
          cases h2 with
          | cls hm =>
            rw [m2] at hm
            cases hm
            exact fin (.inl ⟨.ref C, fun z hz => hz, k1⟩)
        · rename_i n
          obtain ⟨t, ht, e2⟩ := Option.map_eq_some_iff.mp e
          have hp := List.find?_some ht
          rw [Bool.and_eq_true] at hp
          obtain ⟨D', m1, k1⟩ := F.t t (List.mem_of_find?_eq_some ht)
          rw [beq_iff_eq.mp hp.1, mD] at m1
          rw [beq_iff_eq.mp hp.2] at k1
          rw [e2] at k1
          cases m1
          rw [h2.ty_inv] at fin ⊢
          exact fin (.inl ⟨.type n, fun z hz => hz, k1⟩)
        · obtain ⟨tp, xs, rfl, hT, rl⟩ := h2.tup_inv
          obtain ⟨ws, h3, h4⟩ := any_of F mD rl e
          exact fin (.inr ⟨tp, xs, ws, rfl, seqT b hT, h3, h4⟩)
        · cases e
    · cases g
  · cases g
end
theorem all_cons {α : Type} {p : α → Prop} {a : α} {l : List α} (h : p a) (t : ∀ x ∈ l, p x) : ∀ x ∈ a :: l, p x := List.forall_mem_cons.mpr ⟨h, t⟩
theorem bb_ValueError : bootBuiltins "ValueError" = some (.type "ValueError") := by rfl
theorem kit_sub {K : PySem.W.Frag} {x c : Addr} {r : Bool} (h : PySem.W.subIn K (.ref x) (.ref c) = some r) (hd : PySem.W.hasDictIn K c = true) (ht : PySem.W.typeIn K (.ref c) = some (.type "type")) (hs : PySem.W.subIn K (.ref c) (.ref c) = some true) : PySem.W.kitOne K (.ref x) (.ref c) = some r := by
  unfold PySem.W.kitOne
  split
  · rename_i e
    have e2 : x = c := Value.ref.inj (beq_iff_eq.mp e)
    rw [e2, hs] at h
    exact h
  · obtain ⟨cd, h2, _⟩ := PySem.W.any_some hd
    show (if ((PySem.W.clsIn K c).isSome && PySem.W.typeIn K (.ref c) == some (.type "type")) = true then PySem.W.subIn K (.ref x) (.ref c) else none) = some r
    rw [if_pos (by rw [h2, ht]; rfl)]
    exact h
theorem kit_meta_ve : PySem.W.kitMeta "ValueError" = true := by decide +kernel
theorem kit_ve {K : PySem.W.Frag} {x : Addr} (h : PySem.W.subIn K (.ref x) (.type "ValueError") = some true) : PySem.W.kitOne K (.ref x) (.type "ValueError") = some true := by
  unfold PySem.W.kitOne
  split
  · rfl
  · show (if PySem.W.kitMeta "ValueError" = true then PySem.W.subIn K (.ref x) (.type "ValueError") else none) = some true
    rw [if_pos kit_meta_ve]
    exact h
end GD

/-! GD, part h: lists of one's own: append, pop, clear, insert, xs[i] = e, xs[i], len(xs); a, b, c = a list. -/
namespace GD
open PySem PySem.Spec PyProof.Rows L2

def sClr (i : Nat) : SM := fun ρ => match ρ[i]? with
  | some (.l _) => .nx (ρ.set i (.l []))
  | _ => .st
def putD (ds : List D) (k d : D) : Option (List D) := match k with
  | .int j => (ixN ds.length j).map fun j => ds.set j d
  | _ => none
def sPut (i : Nat) (mk m : EM) : SM := fun ρ => match ρ[i]? with
  | some (.l ds) => ofR ((m ρ).bind fun d => (mk ρ).bind fun k => R.ofO (putD ds k d)) ρ fun es => .nx (ρ.set i (.l es))
  | _ => .st
def eOwnAt (i : Nat) (m : EM) : EM := fun ρ => match ρ[i]? with
  | some (.l ds) => (m ρ).bind fun k => match k with
    | .int j => R.ofO (L2.atI ds j)
    | _ => .st
  | _ => .st
def eOwnLen (i : Nat) : EM := fun ρ => match ρ[i]? with
  | some (.l ds) => .ok (.int ds.length)
  | _ => .st
def gLs (gs : List D → En → Option En) : D → En → Option En := fun d ρ => match asL d with
  | some ds => gs ds ρ
  | _ => none
section
variable {X : Cx} {Wx : WX} {a b c e : Expr} {es : List Expr} {pos p cp ap : Pos} {ma mb m : EM} {mr : AM} {i : Nat} {x : Str}
theorem own_at {W : Wd} {B H B' H' : Hp} {σ : L2.St} {ρ : En} {ds : List D} (E : EnvOk X.K X.mg W B H σ ρ) (g : Grow B H B' H') (h : ρ[i]? = some (.l ds)) :
    ∃ l xs, σ[i]? = some (some (.ref l)) ∧ H' l = some (.lst xs) ∧ IsL X.K X.mg B' xs ds ∧ H l = some (.lst xs) := by
  obtain ⟨l, xs, h1, h2, _, _, h5⟩ := E.own i ds h
  exact ⟨l, xs, h1, g.hh _ _ h2, h5.mono g.bb, h2⟩
theorem tyL {l : Addr} {xs : List V} {H : Hp} (h : H l = some (.lst xs)) : tyV X.K "list" (.ref l) H := .inl ⟨rfl, xs, .inl (.inl h)⟩
theorem psd_app (hi : X.N[i]? = some x) (hv : Vis X.env.scope x) (ha : PED X Wx e m) (hd : (x == ("__debug__" : Str)) = false := by decide) (hcd : (x == ("__classdict__" : Str)) = false := by decide)
    (hbase : attributeBase (.Name x p) "append" X.env (eval (.Name x p) X.env) = eval (.Name x p) X.env := by rfl)
    (hfew : ((backTo cp (starEach [e] X.env)).all (fun x => !x.1) && (backToKw cp (keywordEach [] X.env)).all (fun x => x.1.isSome)
      && decide (([e] : List Expr).length + ([] : List Keyword).length + (if ([] : List Keyword).isEmpty then 0 else 1) < 30)) = true := by rfl)
    (hline : (ap.endLine == cp.line) = true := by rfl) (hs : starEach [e] X.env = (false, eval e X.env) :: starEach [] X.env := by rfl) (hpl : (backTo cp (starEach [] X.env)).any (·.1) = false := by rfl)
    (hsw : swapsWith (.Call (.Attribute (.Name x p) "append" ap) [e] [] cp) none pos.line X.env = pure false := by rfl) :
    PSD X Wx (.Expr (.Call (.Attribute (.Name x p) "append" ap) [e] [] cp) pos) (sApp i m) := by
  intro W σ H B ρ E D q
  unfold sApp at q
  split at q
  · rename_i ds hr
    refine ⟨_, ps_expr (pe_bm F.plainAttrs_list F.slot_list_append F.type_list_append mt_append (pe_var hi hv hd hcd) pa_wp hbase hfew hline hs hpl) hsw, ?_⟩
    obtain ⟨l, xs, h1, h2, _⟩ := own_at E (Grow.refl E.bh) hr
    refine ⟨.ref l, h1, tyL h2, ?_⟩
    refine (pad_cons ha pad_nil hs) W σ H B ρ E _ ?_
    have q2 := PostS.ofR q E
    unfold aCons aNil
    refine (?_ : Post ((m ρ).bind fun u => (R.ok ([] : List GD.D)).bind fun xs => .ok (u :: xs)) _ _)
    cases em : m ρ with
    | ok u =>
      rw [em] at q2
      intro vs B' H' g r
      cases r with
      | cons r1 r =>
        cases r
        have q3 : PostS X W Wx (if ds.length < sizeLine then .nx (ρ.set i (.l (ds ++ [u]))) else .st) D := q2
        split at q3
        · rename_i hz
          obtain ⟨l', xs', k1, k2, k3, k4⟩ := own_at E g hr
          rw [h1] at k1
          cases k1
          rw [h2] at k4
          cases k4
          refine ⟨l, xs, _, rfl, rfl, k2, by rw [k3.length]; exact hz, ?_⟩
          exact (show PostS X W Wx (.nx _) D from q3) _ _ _ ((E.grow g).mut (xs := xs) hr h1 (k3.snoc r1))
        · exact q3.elim
    | er z => rw [em] at q2; exact q2
    | st => rw [em] at q2; exact q2
  · exact q.elim
theorem psd_pop (hi : X.N[i]? = some x) (hv : Vis X.env.scope x) (hd : (x == ("__debug__" : Str)) = false := by decide) (hcd : (x == ("__classdict__" : Str)) = false := by decide)
    (hbase : attributeBase (.Name x p) "pop" X.env (eval (.Name x p) X.env) = eval (.Name x p) X.env := by rfl) (hline : (ap.endLine == cp.line) = true := by rfl)
    (hsw : swapsWith (.Call (.Attribute (.Name x p) "pop" ap) [] [] cp) none pos.line X.env = pure false := by rfl) :
    PSD X Wx (.Expr (.Call (.Attribute (.Name x p) "pop" ap) [] [] cp) pos) (sPop i) := by
  intro W σ H B ρ E D q
  unfold sPop at q
  split at q
  · rename_i ds hr
    split at q
    · exact q.elim
    · rename_i hne
      obtain ⟨l, xs, h1, h2, h3, _⟩ := own_at E (Grow.refl E.bh) hr
      have hl := h3.length
      have hn : ds.length ≠ 0 := fun z => hne (List.length_eq_zero_iff.mp z)
      have hlt : xs.length - 1 < xs.length := by omega
      refine ⟨_, ps_expr (pe_bm0 F.plainAttrs_list F.slot_list_pop F.type_list_pop mt_pop (pe_var hi hv hd hcd) hbase hline) hsw, ?_⟩
      refine ⟨.ref l, h1, tyL h2, l, xs, xs[xs.length - 1], rfl, rfl, h2, List.getElem?_eq_getElem hlt, ?_⟩
      refine (show PostS X W Wx (.nx _) D from q) _ _ _ (E.mut (xs := xs) hr h1 ?_)
      rw [List.dropLast_eq_take, List.dropLast_eq_take, hl]
      exact h3.take _
  · exact q.elim
theorem psd_clr (hi : X.N[i]? = some x) (hv : Vis X.env.scope x) (hd : (x == ("__debug__" : Str)) = false := by decide) (hcd : (x == ("__classdict__" : Str)) = false := by decide)
    (hbase : attributeBase (.Name x p) "clear" X.env (eval (.Name x p) X.env) = eval (.Name x p) X.env := by rfl) (hline : (ap.endLine == cp.line) = true := by rfl)
    (hsw : swapsWith (.Call (.Attribute (.Name x p) "clear" ap) [] [] cp) none pos.line X.env = pure false := by rfl) :
    PSD X Wx (.Expr (.Call (.Attribute (.Name x p) "clear" ap) [] [] cp) pos) (sClr i) := by
  intro W σ H B ρ E D q
  unfold sClr at q
  split at q
  · rename_i ds hr
    obtain ⟨l, xs, h1, h2, h3, _⟩ := own_at E (Grow.refl E.bh) hr
    refine ⟨_, ps_expr (pe_bm0 F.plainAttrs_list F.slot_list_clear F.type_list_clear mt_clear (pe_var hi hv hd hcd) hbase hline) hsw, ?_⟩
    exact ⟨.ref l, h1, tyL h2, l, xs, rfl, rfl, h2, (show PostS X W Wx (.nx _) D from q) _ _ _ (E.mut (xs := xs) hr h1 .nil)⟩
  · exact q.elim
theorem psd_put {k : Expr} {mk : EM} {sp : Pos} (hi : X.N[i]? = some x) (hv : Vis X.env.scope x) (hk : PED X Wx k mk) (ha : PED X Wx e m) (hd : (x == ("__debug__" : Str)) = false := by decide) (hcd : (x == ("__classdict__" : Str)) = false := by decide)
    (hs : swapsWithSole [.Subscript (.Name x p) k sp] e pos.line X.env = pure false := by rfl) (hw : swappedStores [.Subscript (.Name x p) k sp] e X.env = pure none := by rfl)
    (h1 : (assignEach [.Subscript (.Name x p) k sp] X.env).map (·.2) = [assign (.Subscript (.Name x p) k sp) X.env] := by rfl)
    (has : ∀ v, assign (.Subscript (.Name x p) k sp) X.env v = (do
      let ov ← holding [v] (eval (.Name x p) X.env)
      let iv ← holding [v, ov] (eval k X.env)
      standAt sp
      holding [v, ov, iv] (setItem ov iv v)
      release [v, ov, iv] []) := by intro _; rfl) : PSD X Wx (.Assign [.Subscript (.Name x p) k sp] e pos) (sPut i mk m) := by
  intro W σ H B ρ E D q
  unfold sPut at q
  split at q
  · rename_i ds hr
    refine ⟨_, ps_asg pe_wp (pg_sub (pe_var hi hv hd hcd) pe_wp set_list has) hs hw h1, ?_⟩
    refine ha W σ H B ρ E _ ((PostS.ofR q E).bind.mono (fun d _ q2 v B1 H1 g1 r1 => ?_) fun _ z => z)
    obtain ⟨l, xs, s1, h2, h3, _⟩ := own_at E g1 hr
    refine ⟨.ref l, s1, ?_⟩
    refine hk W σ H1 B1 ρ (E.grow g1) _ (q2.bind.mono (fun kk hkk q3 u B2 H2 g2 r2 => ?_) fun _ z => z.later g1)
    obtain ⟨fs, e1, q4⟩ := Post.ofO q3
    unfold putD at e1
    split at e1
    · rename_i j
      obtain ⟨n, e2, rfl⟩ := Option.map_eq_some_iff.mp e1
      have h3' := h3.mono g2.bb
      refine ⟨l, xs, j, n, rfl, r2.int_inv, g2.hh _ _ h2, by rw [h3'.length]; exact e2, ?_⟩
      exact (show PostS X W Wx (.nx _) D from q4) _ _ _ (((E.grow g1).grow g2).mut (xs := xs) hr s1 (IsL.set (r1.mono g2.bb) n h3'))
    · cases e1
  · exact q.elim
theorem ped_ownAt (hi : X.N[i]? = some x) (hv : Vis X.env.scope x) (hb : PED X Wx b mb) (hs : PlainIx b) (hd : (x == ("__debug__" : Str)) = false := by decide) (hcd : (x == ("__classdict__" : Str)) = false := by decide) :
    PED X Wx (.Subscript (.Name x p) b pos) (eOwnAt i mb) := by
  intro W σ H B ρ E Q q
  unfold eOwnAt at q
  split at q
  · rename_i ds hr
    obtain ⟨l, xs, h1, h2, _⟩ := own_at E (Grow.refl E.bh) hr
    refine ⟨_, pe_ix ix_list (pe_var hi hv hd hcd) pe_wp hs, .ref l, h1, ?_⟩
    refine hb W σ H B ρ E _ (q.bind.mono (fun kk _ q2 u B2 H2 g2 r2 => ?_) fun _ z => z)
    cases kk with
    | int j =>
      obtain ⟨d, e1, q3⟩ := Post.ofO q2
      obtain ⟨l', xs', k1, k2, k3, k4⟩ := own_at E g2 hr
      rw [h1] at k1
      cases k1
      obtain ⟨v, e2, r⟩ := k3.atI e1
      exact ⟨l, xs', j, v, rfl, r2.int_inv, .inl (.inl k2), e2, okD.at (q3.later g2) g2.bh r⟩
    | _ => exact q2.elim
  · exact q.elim
theorem ped_ownLen {lp : Pos} (hi : X.N[i]? = some x) (hv : Vis X.env.scope x) (hg : Gl X "len") (hm : X.mg "len" = none) (hd : (x == ("__debug__" : Str)) = false := by decide) (hcd : (x == ("__classdict__" : Str)) = false := by decide)
    (he : starEach [.Name x p] X.env = (false, eval (.Name x p) X.env) :: starEach [] X.env := by rfl) (hpl : (backTo pos (starEach [] X.env)).any (·.1) = false := by rfl) :
    PED X Wx (.Call (.Name "len" lp) [.Name x p] [] pos) (eOwnLen i) := by
  intro W σ H B ρ E Q q
  unfold eOwnLen at q
  split at q
  · rename_i ds hr
    obtain ⟨l, xs, h1, h2, h3, _⟩ := own_at E (Grow.refl E.bh) hr
    refine ⟨_, pe_callB call_len_seq hg hm bb_len (pa_cons (pe_var hi hv hd hcd) pa_nil he) (by decide) (by decide) he hpl, .ref l, h1, ?_⟩
    have := h3.length
    exact ⟨l, xs, rfl, .inl (.inl (.inl h2)), by rw [this]; exact okD.at q E.bh (.int _)⟩
  · exact q.elim
theorem pgd_lst {tgs : List Expr} {k : Nat} {gs : List GD.D → En → Option En} {n : Nat} (hc : X.calm = true) (h : PGsD X tgs gs) (hl : ∀ ds ρ ρ', gs ds ρ = some ρ' → ds.length = n)
    (hn : (assignEach tgs X.env).length = n := by rfl) (hst : (assignEach tgs X.env).findIdx? (·.1) = none := by rfl) : PGD X (.Tuple tgs k pos) (gLs gs) := by
  intro W σ H B ρ ρ' d v E r g Q q
  unfold gLs at g
  split at g
  · rename_i ds e1
    unfold asL at e1
    split at e1
    · cases e1
      obtain ⟨a, xs, rfl, h1, r1⟩ := r.lst_inv
      exact ⟨_, pg_lst hc pgs_wp hn hst, a, xs, rfl, seqL_of E.bh h1, by rw [r1.length]; exact hl _ _ _ g, h W σ H B ρ ρ' _ _ E r1 g Q q⟩
    · cases e1
      obtain ⟨a, rfl, h1⟩ := r.scr_inv
      have r1 := IsL.ints (K := X.K) (mg := X.mg) (B := B) ‹List Int›
      exact ⟨_, pg_lst hc pgs_wp hn hst, a, _, rfl, E.bh.seq h1, by rw [r1.length]; exact hl _ _ _ g, h W σ H B ρ ρ' _ _ E r1 g Q q⟩
    · cases e1
  · cases g
end
end GD

namespace Law
open PySem PySem.Spec PyProof.Rows L2 GD
def b_is_whole : SM := sRet (eAnd (eB dIsi (aCons (eVar 0) (aCons (eC (.ty "int")) (aNil)))) (eNot (eB dIsi (aCons (eVar 0) (aCons (eC (.ty "bool")) (aNil))))))
def F_is_whole : List D → R D := runF 1 b_is_whole
def l1_divisor : SM := sPar 0 1 (eVar 1) (e2 dMod (eVar 0) (eVar 1))
def b_divisor : SM := sSeq (sAsg 0 (eB dAbs (aCons (eVar 0) (aNil)))) (sSeq (sAsg 1 (eB dAbs (aCons (eVar 1) (aNil)))) (sSeq (sWhile (fuelI 1) (mB (e2 dGt (eVar 1) (eC (.int 0)))) (l1_divisor)) (sRet (eVar 0))))
def F_divisor : List D → R D := runF 2 b_divisor
def l1__law_cell : SM := sAsg 2 (e2 dAdd (e2 dMul (eVar 2) (eC (.int 1009))) (e2 dMod (eVar 3) (eC (.int 1000003))))
def b__law_cell : SM := sSeq (sIf (mB (e2 dLt (eVar 1) (eB dLen (aCons (eVar 0) (aNil))))) (sRet (e2 dMod (e2 dAt (eVar 0) (eVar 1)) (eC (.int 1000000000000000000000000000000000000000000000000000000000000)))) (sNil)) (sSeq (sAsg 2 (e2 dAdd (e2 dMul (eVar 1) (eC (.int 7907))) (eC (.int 3571)))) (sSeq (sFor (gNm 3) asL (eL (aCut (eVar 0) (oNone) (oSome (eC (.int 3))))) (l1__law_cell)) (sSeq (sAsg 2 (e2 dMod (eVar 2) (eC (.int 2147483647)))) (sRet (e2 dMod (e2 dMul (eVar 2) (eVar 2)) (eC (.int 2147483629)))))))
def F__law_cell : List D → R D := runF 4 b__law_cell
def b__law_whole : SM := sRet (eAnd (eB dIsi (aCons (eVar 0) (aCons (eC (.ty "int")) (aNil)))) (eNot (eB dIsi (aCons (eVar 0) (aCons (eC (.ty "bool")) (aNil))))))
def F__law_whole : List D → R D := runF 1 b__law_whole
def l1__law_common : SM := sPar 0 1 (e2 dMod (eVar 1) (eVar 0)) (eVar 0)
def b__law_common : SM := sSeq (sAsg 0 (eB dAbs (aCons (eVar 0) (aNil)))) (sSeq (sAsg 1 (eB dAbs (aCons (eVar 1) (aNil)))) (sSeq (sWhile (fuelI 0) (mB (e2 dGt (eVar 0) (eC (.int 0)))) (l1__law_common)) (sRet (eVar 1))))
def F__law_common : List D → R D := runF 2 b__law_common
def b__law_number : SM := sSeq (sIf (mB (e2 dEq (e2 dMod (eVar 0) (eC (.int 3))) (eC (.int 0)))) (sRet (e2 dSub (e2 dMod (e2 dDiv (eVar 0) (eC (.int 3))) (eC (.int 9))) (eC (.int 4)))) (sNil)) (sRet (e2 dSub (e2 dMod (e2 dDiv (eVar 0) (eC (.int 3))) (eC (.int 20000000000000000000000000000000000000000000000000000000001))) (eC (.int 10000000000000000000000000000000000000000000000000000000000))))
def F__law_number : List D → R D := runF 1 b__law_number
def b__law_middling : SM := sRet (e2 dSub (e2 dMod (eVar 0) (eC (.int 2000000000000000001))) (eC (.int 1000000000000000000)))
def F__law_middling : List D → R D := runF 1 b__law_middling
def b__law_two_right : SM := sSeq (sAsg 2 (eF F_divisor (aCons (eVar 0) (aCons (eVar 1) (aNil))))) (sSeq (sIf (mOr (mNot (mB (eF F__law_whole (aCons (eVar 2) (aNil))))) (mOr (mB (e2 dLt (eVar 2) (eC (.int 0)))) (mB (e2 dNe (eVar 2) (eF F__law_common (aCons (eVar 0) (aCons (eVar 1) (aNil)))))))) (sRet (eC (.bl false))) (sNil)) (sSeq (sIf (mB (e2 dEq (eVar 2) (eC (.int 0)))) (sRet (eAnd (e2 dEq (eVar 0) (eC (.int 0))) (e2 dEq (eVar 1) (eC (.int 0))))) (sNil)) (sRet (eAnd (e2 dEq (e2 dMod (eVar 0) (eVar 2)) (eC (.int 0))) (e2 dEq (e2 dMod (eVar 1) (eVar 2)) (eC (.int 0)))))))
def F__law_two_right : List D → R D := runF 3 b__law_two_right
def b__law_kinds_right : SM := sSeq (sAsg 1 (eL (aLst (aCons (eC (.bl true)) (aCons (eC (.bl false)) (aCons (eC .non) (aCons (eC (.str "")) (aCons (eC (.str "3")) (aCons (eTup (aCons (eC (.int 3)) (aNil))) (aCons (eL (aLst (aCons (eC (.int 3)) (aNil)))) (aCons (eC (.dct [] [])) (aCons (eDct1 (eC (.int 3)) (eC (.int 3))) (aCons (eTup (aNil)) (aNil)))))))))))))) (sSeq (sAsg 2 (eF F_is_whole (aCons (e2 dAt (eVar 1) (e2 dMod (eVar 0) (eC (.int 10)))) (aNil)))) (sSeq (sIf (mOr (mNot (mB (eB dIsi (aCons (eVar 2) (aCons (eC (.ty "bool")) (aNil)))))) (mB (eVar 2))) (sRet (eC (.bl false))) (sNil)) (sSeq (sAsg 2 (eF F_is_whole (aCons (e2 dSub (e2 dDiv (eVar 0) (eC (.int 10))) (eC (.int 10000000000000000000000000000000000000000000000000000000000))) (aNil)))) (sRet (eAnd (eB dIsi (aCons (eVar 2) (aCons (eC (.ty "bool")) (aNil)))) (eVar 2))))))
def F__law_kinds_right : List D → R D := runF 3 b__law_kinds_right
def b_portion : SM := sSeq (sIf (mB (e2 dEq (eVar 1) (eC (.int 0)))) (sRaise "NoNumber") (sNil)) (sSeq (sIf (mB (e2 dLt (eVar 1) (eC (.int 0)))) (sSeq (sAsg 0 (e1 dNeg (eVar 0))) (sAsg 1 (e1 dNeg (eVar 1)))) (sNil)) (sSeq (sAsg 2 (eF F_divisor (aCons (eVar 0) (aCons (eVar 1) (aNil))))) (sRet (eTup (aCons (e2 dDiv (eVar 0) (eVar 2)) (aCons (e2 dDiv (eVar 1) (eVar 2)) (aNil)))))))
def F_portion : List D → R D := runF 3 b_portion
def b_plus : SM := sRet (eF F_portion (aCons (e2 dAdd (e2 dMul (e2 dAt (eVar 0) (eC (.int 0))) (e2 dAt (eVar 1) (eC (.int 1)))) (e2 dMul (e2 dAt (eVar 1) (eC (.int 0))) (e2 dAt (eVar 0) (eC (.int 1))))) (aCons (e2 dMul (e2 dAt (eVar 0) (eC (.int 1))) (e2 dAt (eVar 1) (eC (.int 1)))) (aNil))))
def F_plus : List D → R D := runF 2 b_plus
def b_minus : SM := sRet (eF F_portion (aCons (e2 dSub (e2 dMul (e2 dAt (eVar 0) (eC (.int 0))) (e2 dAt (eVar 1) (eC (.int 1)))) (e2 dMul (e2 dAt (eVar 1) (eC (.int 0))) (e2 dAt (eVar 0) (eC (.int 1))))) (aCons (e2 dMul (e2 dAt (eVar 0) (eC (.int 1))) (e2 dAt (eVar 1) (eC (.int 1)))) (aNil))))
def F_minus : List D → R D := runF 2 b_minus
def b_times : SM := sRet (eF F_portion (aCons (e2 dMul (e2 dAt (eVar 0) (eC (.int 0))) (e2 dAt (eVar 1) (eC (.int 0)))) (aCons (e2 dMul (e2 dAt (eVar 0) (eC (.int 1))) (e2 dAt (eVar 1) (eC (.int 1)))) (aNil))))
def F_times : List D → R D := runF 2 b_times
def b_under : SM := sRet (e2 dLt (e2 dMul (e2 dAt (eVar 0) (eC (.int 0))) (e2 dAt (eVar 1) (eC (.int 1)))) (e2 dMul (e2 dAt (eVar 1) (eC (.int 0))) (e2 dAt (eVar 0) (eC (.int 1)))))
def F_under : List D → R D := runF 2 b_under
def b__law_fraction : SM := sSeq (sAsg 2 (eF F__law_number (aCons (eVar 0) (aNil)))) (sSeq (sAsg 3 (e2 dAdd (eC (.int 1)) (e2 dMod (e2 dDiv (eVar 1) (eC (.int 2))) (eC (.int 9))))) (sSeq (sIf (mB (e2 dEq (e2 dMod (eVar 1) (eC (.int 2))) (eC (.int 1)))) (sAsg 3 (e2 dAdd (eC (.int 1)) (e2 dMod (e2 dDiv (eVar 1) (eC (.int 2))) (eC (.int 10000000000000000000000000000000000000000000000000000000000))))) (sNil)) (sSeq (sAsg 4 (eF F__law_common (aCons (eVar 2) (aCons (eVar 3) (aNil))))) (sRet (eTup (aCons (e2 dDiv (eVar 2) (eVar 4)) (aCons (e2 dDiv (eVar 3) (eVar 4)) (aNil))))))))
def F__law_fraction : List D → R D := runF 5 b__law_fraction
def b__law_worth : SM := sSeq (sIf (mOr (mNot (mB (eB dIsi (aCons (eVar 0) (aCons (eC (.ty "tuple")) (aNil)))))) (mOr (mB (e2 dNe (eB dLen (aCons (eVar 0) (aNil))) (eC (.int 2)))) (mOr (mNot (mB (eF F__law_whole (aCons (e2 dAt (eVar 0) (eC (.int 0))) (aNil))))) (mNot (mB (eF F__law_whole (aCons (e2 dAt (eVar 0) (eC (.int 1))) (aNil)))))))) (sRet (eC (.bl false))) (sNil)) (sSeq (sIf (mOr (mB (e2 dLt (e2 dAt (eVar 0) (eC (.int 1))) (eC (.int 1)))) (mB (e2 dNe (eF F__law_common (aCons (e2 dAt (eVar 0) (eC (.int 0))) (aCons (e2 dAt (eVar 0) (eC (.int 1))) (aNil)))) (eC (.int 1))))) (sRet (eC (.bl false))) (sNil)) (sRet (e2 dEq (e2 dMul (e2 dAt (eVar 0) (eC (.int 0))) (eVar 2)) (e2 dMul (eVar 1) (e2 dAt (eVar 0) (eC (.int 1)))))))
def F__law_worth : List D → R D := runF 3 b__law_worth
def b__law_right : SM := sSeq (sAsg 2 (e2 dMul (e2 dAt (eVar 0) (eC (.int 1))) (e2 dAt (eVar 1) (eC (.int 1))))) (sSeq (sAsg 3 (e2 dMul (e2 dAt (eVar 0) (eC (.int 0))) (e2 dAt (eVar 1) (eC (.int 1))))) (sSeq (sAsg 4 (e2 dMul (e2 dAt (eVar 1) (eC (.int 0))) (e2 dAt (eVar 0) (eC (.int 1))))) (sSeq (sIf (mNot (mB (eF F__law_worth (aCons (eF F_plus (aCons (eVar 0) (aCons (eVar 1) (aNil)))) (aCons (e2 dAdd (eVar 3) (eVar 4)) (aCons (eVar 2) (aNil))))))) (sRet (eC (.bl false))) (sNil)) (sSeq (sIf (mNot (mB (eF F__law_worth (aCons (eF F_minus (aCons (eVar 0) (aCons (eVar 1) (aNil)))) (aCons (e2 dSub (eVar 3) (eVar 4)) (aCons (eVar 2) (aNil))))))) (sRet (eC (.bl false))) (sNil)) (sSeq (sIf (mNot (mB (eF F__law_worth (aCons (eF F_times (aCons (eVar 0) (aCons (eVar 1) (aNil)))) (aCons (e2 dMul (e2 dAt (eVar 0) (eC (.int 0))) (e2 dAt (eVar 1) (eC (.int 0)))) (aCons (eVar 2) (aNil))))))) (sRet (eC (.bl false))) (sNil)) (sSeq (sAsg 5 (eF F_under (aCons (eVar 0) (aCons (eVar 1) (aNil))))) (sRet (eAnd (eB dIsi (aCons (eVar 5) (aCons (eC (.ty "bool")) (aNil)))) (e2 dEq (eVar 5) (e2 dLt (e2 dSub (eVar 3) (eVar 4)) (eC (.int 0))))))))))))
def F__law_right : List D → R D := runF 6 b__law_right
def b_spot : SM := sSeq (sIf (mB (e2 dEq (eVar 2) (eC (.int 0)))) (sRaise "NoNumber") (sNil)) (sSeq (sIf (mB (e2 dLt (eVar 2) (eC (.int 0)))) (sSeq (sAsg 0 (e1 dNeg (eVar 0))) (sSeq (sAsg 1 (e1 dNeg (eVar 1))) (sAsg 2 (e1 dNeg (eVar 2))))) (sNil)) (sSeq (sAsg 3 (eF F_divisor (aCons (eF F_divisor (aCons (eVar 0) (aCons (eVar 1) (aNil)))) (aCons (eVar 2) (aNil))))) (sRet (eTup (aCons (e2 dDiv (eVar 0) (eVar 3)) (aCons (e2 dDiv (eVar 1) (eVar 3)) (aCons (e2 dDiv (eVar 2) (eVar 3)) (aNil))))))))
def F_spot : List D → R D := runF 4 b_spot
def b_put_at : SM := sSeq (sAsg 2 (e2 dAt (eVar 1) (eC (.int 2)))) (sRet (eF F_spot (aCons (e2 dAdd (e2 dMul (e2 dAt (eVar 0) (eC (.int 0))) (eVar 2)) (e2 dAt (eVar 1) (eC (.int 0)))) (aCons (e2 dAdd (e2 dMul (e2 dAt (eVar 0) (eC (.int 1))) (eVar 2)) (e2 dAt (eVar 1) (eC (.int 1)))) (aCons (eVar 2) (aNil))))))
def F_put_at : List D → R D := runF 3 b_put_at
def b_gone_on : SM := sSeq (sAsg 3 (e2 dAt (eVar 0) (eC (.int 2)))) (sSeq (sAsg 4 (e2 dAdd (e2 dMul (e2 dAt (eVar 0) (eC (.int 0))) (e2 dAt (eVar 2) (eC (.int 1)))) (e2 dMul (e2 dMul (e2 dAt (eVar 1) (eC (.int 0))) (e2 dAt (eVar 2) (eC (.int 0)))) (eVar 3)))) (sSeq (sAsg 5 (e2 dAdd (e2 dMul (e2 dAt (eVar 0) (eC (.int 1))) (e2 dAt (eVar 2) (eC (.int 1)))) (e2 dMul (e2 dMul (e2 dAt (eVar 1) (eC (.int 1))) (e2 dAt (eVar 2) (eC (.int 0)))) (eVar 3)))) (sRet (eF F_spot (aCons (eVar 4) (aCons (eVar 5) (aCons (e2 dMul (eVar 3) (e2 dAt (eVar 2) (eC (.int 1)))) (aNil))))))))
def F_gone_on : List D → R D := runF 6 b_gone_on
def b_way_from : SM := sSeq (sAsg 2 (e2 dSub (e2 dMul (e2 dAt (eVar 1) (eC (.int 0))) (e2 dAt (eVar 0) (eC (.int 2)))) (e2 dMul (e2 dAt (eVar 0) (eC (.int 0))) (e2 dAt (eVar 1) (eC (.int 2)))))) (sSeq (sAsg 3 (e2 dSub (e2 dMul (e2 dAt (eVar 1) (eC (.int 1))) (e2 dAt (eVar 0) (eC (.int 2)))) (e2 dMul (e2 dAt (eVar 0) (eC (.int 1))) (e2 dAt (eVar 1) (eC (.int 2)))))) (sRet (eF F_spot (aCons (eVar 2) (aCons (eVar 3) (aCons (e2 dMul (e2 dAt (eVar 0) (eC (.int 2))) (e2 dAt (eVar 1) (eC (.int 2)))) (aNil)))))))
def F_way_from : List D → R D := runF 4 b_way_from
def b_ahead : SM := sSeq (sIf (mB (e2 dNe (e2 dMul (e2 dAt (eVar 0) (eC (.int 0))) (e2 dAt (eVar 1) (eC (.int 2)))) (e2 dMul (e2 dAt (eVar 1) (eC (.int 0))) (e2 dAt (eVar 0) (eC (.int 2)))))) (sRet (e2 dLt (e2 dMul (e2 dAt (eVar 0) (eC (.int 0))) (e2 dAt (eVar 1) (eC (.int 2)))) (e2 dMul (e2 dAt (eVar 1) (eC (.int 0))) (e2 dAt (eVar 0) (eC (.int 2)))))) (sNil)) (sRet (e2 dLt (e2 dMul (e2 dAt (eVar 0) (eC (.int 1))) (e2 dAt (eVar 1) (eC (.int 2)))) (e2 dMul (e2 dAt (eVar 1) (eC (.int 1))) (e2 dAt (eVar 0) (eC (.int 2))))))
def F_ahead : List D → R D := runF 2 b_ahead
def b__law_number_v2 : SM := sSeq (sIf (mB (e2 dEq (e2 dMod (eVar 0) (eC (.int 3))) (eC (.int 0)))) (sRet (e2 dSub (e2 dMod (e2 dDiv (eVar 0) (eC (.int 3))) (eC (.int 9))) (eC (.int 4)))) (sNil)) (sRet (e2 dSub (e2 dMod (e2 dDiv (eVar 0) (eC (.int 3))) (eC (.int 2000000000000000000000000000000000000000000000000000000001))) (eC (.int 1000000000000000000000000000000000000000000000000000000000))))
def F__law_number_v2 : List D → R D := runF 1 b__law_number_v2
def b__law_bottom : SM := sSeq (sIf (mB (e2 dEq (e2 dMod (eVar 0) (eC (.int 2))) (eC (.int 0)))) (sRet (e2 dAdd (eC (.int 1)) (e2 dMod (e2 dDiv (eVar 0) (eC (.int 2))) (eC (.int 9))))) (sNil)) (sRet (e2 dAdd (eC (.int 1)) (e2 dMod (e2 dDiv (eVar 0) (eC (.int 2))) (eC (.int 1000000000000000000000000000000000000000000000000000000000)))))
def F__law_bottom : List D → R D := runF 1 b__law_bottom
def b__law_least_terms : SM := sSeq (sAsg 3 (eF F__law_common (aCons (eF F__law_common (aCons (eVar 0) (aCons (eVar 1) (aNil)))) (aCons (eVar 2) (aNil))))) (sRet (eTup (aCons (e2 dDiv (eVar 0) (eVar 3)) (aCons (e2 dDiv (eVar 1) (eVar 3)) (aCons (e2 dDiv (eVar 2) (eVar 3)) (aNil))))))
def F__law_least_terms : List D → R D := runF 4 b__law_least_terms
def l1__law_lies : SM := sIf (mNot (mB (eF F__law_whole (aCons (eVar 4) (aNil))))) (sRet (eC (.bl false))) (sNil)
def b__law_lies : SM := sSeq (sIf (mOr (mNot (mB (eB dIsi (aCons (eVar 0) (aCons (eC (.ty "tuple")) (aNil)))))) (mB (e2 dNe (eB dLen (aCons (eVar 0) (aNil))) (eC (.int 3))))) (sRet (eC (.bl false))) (sNil)) (sSeq (sFor (gNm 4) asT (eVar 0) (l1__law_lies)) (sSeq (sIf (mOr (mB (e2 dLt (e2 dAt (eVar 0) (eC (.int 2))) (eC (.int 1)))) (mB (e2 dNe (eF F__law_common (aCons (eF F__law_common (aCons (e2 dAt (eVar 0) (eC (.int 0))) (aCons (e2 dAt (eVar 0) (eC (.int 1))) (aNil)))) (aCons (e2 dAt (eVar 0) (eC (.int 2))) (aNil)))) (eC (.int 1))))) (sRet (eC (.bl false))) (sNil)) (sRet (eAnd (e2 dEq (e2 dMul (e2 dAt (eVar 0) (eC (.int 0))) (eVar 3)) (e2 dMul (eVar 1) (e2 dAt (eVar 0) (eC (.int 2))))) (e2 dEq (e2 dMul (e2 dAt (eVar 0) (eC (.int 1))) (eVar 3)) (e2 dMul (eVar 2) (e2 dAt (eVar 0) (eC (.int 2)))))))))
def F__law_lies : List D → R D := runF 5 b__law_lies
def b__law_order_right : SM := sSeq (sAsg 2 (e2 dSub (e2 dMul (e2 dAt (eVar 1) (eC (.int 0))) (e2 dAt (eVar 0) (eC (.int 2)))) (e2 dMul (e2 dAt (eVar 0) (eC (.int 0))) (e2 dAt (eVar 1) (eC (.int 2)))))) (sSeq (sAsg 3 (e2 dSub (e2 dMul (e2 dAt (eVar 1) (eC (.int 1))) (e2 dAt (eVar 0) (eC (.int 2)))) (e2 dMul (e2 dAt (eVar 0) (eC (.int 1))) (e2 dAt (eVar 1) (eC (.int 2)))))) (sSeq (sAsg 4 (eOr (e2 dGt (eVar 2) (eC (.int 0))) (eAnd (e2 dEq (eVar 2) (eC (.int 0))) (e2 dGt (eVar 3) (eC (.int 0)))))) (sSeq (sAsg 5 (eF F_ahead (aCons (eVar 0) (aCons (eVar 1) (aNil))))) (sRet (eAnd (eB dIsi (aCons (eVar 5) (aCons (eC (.ty "bool")) (aNil)))) (e2 dEq (eVar 5) (eVar 4)))))))
def F__law_order_right : List D → R D := runF 6 b__law_order_right
def b__law_moves_right : SM := sSeq (sAsg 5 (e2 dAt (eVar 0) (eC (.int 2)))) (sSeq (sIf (mNot (mB (eF F__law_lies (aCons (eF F_put_at (aCons (eVar 2) (aCons (eVar 0) (aNil)))) (aCons (e2 dAdd (e2 dMul (e2 dAt (eVar 2) (eC (.int 0))) (eVar 5)) (e2 dAt (eVar 0) (eC (.int 0)))) (aCons (e2 dAdd (e2 dMul (e2 dAt (eVar 2) (eC (.int 1))) (eVar 5)) (e2 dAt (eVar 0) (eC (.int 1)))) (aCons (eVar 5) (aNil)))))))) (sRet (eC (.bl false))) (sNil)) (sSeq (sAsg 6 (e2 dAdd (e2 dMul (e2 dAt (eVar 0) (eC (.int 0))) (e2 dAt (eVar 4) (eC (.int 1)))) (e2 dMul (e2 dMul (e2 dAt (eVar 4) (eC (.int 0))) (e2 dAt (eVar 3) (eC (.int 0)))) (eVar 5)))) (sSeq (sAsg 7 (e2 dAdd (e2 dMul (e2 dAt (eVar 0) (eC (.int 1))) (e2 dAt (eVar 4) (eC (.int 1)))) (e2 dMul (e2 dMul (e2 dAt (eVar 4) (eC (.int 0))) (e2 dAt (eVar 3) (eC (.int 1)))) (eVar 5)))) (sSeq (sIf (mNot (mB (eF F__law_lies (aCons (eF F_gone_on (aCons (eVar 0) (aCons (eVar 3) (aCons (eVar 4) (aNil))))) (aCons (eVar 6) (aCons (eVar 7) (aCons (e2 dMul (eVar 5) (e2 dAt (eVar 4) (eC (.int 1)))) (aNil)))))))) (sRet (eC (.bl false))) (sNil)) (sSeq (sAsg 6 (e2 dSub (e2 dMul (e2 dAt (eVar 1) (eC (.int 0))) (eVar 5)) (e2 dMul (e2 dAt (eVar 0) (eC (.int 0))) (e2 dAt (eVar 1) (eC (.int 2)))))) (sSeq (sAsg 7 (e2 dSub (e2 dMul (e2 dAt (eVar 1) (eC (.int 1))) (eVar 5)) (e2 dMul (e2 dAt (eVar 0) (eC (.int 1))) (e2 dAt (eVar 1) (eC (.int 2)))))) (sSeq (sAsg 8 (eF F_way_from (aCons (eVar 0) (aCons (eVar 1) (aNil))))) (sSeq (sIf (mNot (mB (eF F__law_lies (aCons (eVar 8) (aCons (eVar 6) (aCons (eVar 7) (aCons (e2 dMul (eVar 5) (e2 dAt (eVar 1) (eC (.int 2)))) (aNil)))))))) (sRet (eC (.bl false))) (sNil)) (sSeq (sAsg 6 (e2 dAdd (e2 dMul (e2 dAt (eVar 0) (eC (.int 0))) (e2 dAt (eVar 8) (eC (.int 2)))) (e2 dMul (e2 dAt (eVar 8) (eC (.int 0))) (eVar 5)))) (sSeq (sAsg 7 (e2 dAdd (e2 dMul (e2 dAt (eVar 0) (eC (.int 1))) (e2 dAt (eVar 8) (eC (.int 2)))) (e2 dMul (e2 dAt (eVar 8) (eC (.int 1))) (eVar 5)))) (sSeq (sAsg 5 (e2 dMul (eVar 5) (e2 dAt (eVar 8) (eC (.int 2))))) (sRet (eAnd (e2 dEq (e2 dMul (eVar 6) (e2 dAt (eVar 1) (eC (.int 2)))) (e2 dMul (e2 dAt (eVar 1) (eC (.int 0))) (eVar 5))) (e2 dEq (e2 dMul (eVar 7) (e2 dAt (eVar 1) (eC (.int 2)))) (e2 dMul (e2 dAt (eVar 1) (eC (.int 1))) (eVar 5))))))))))))))))
def F__law_moves_right : List D → R D := runF 9 b__law_moves_right
end Law

namespace Law
open PySem PySem.Spec PyProof.Rows L2 GD
def xCt1 : Str → Bool := fun y => (["NoNumber"] : List Str).contains y
def xLy1 : List Str := ["NoNumber"]
def xLc1 : List (Str × Str × Bool) := [("NoNumber", "Crowded", false), ("NoNumber", "Flat", false), ("NoNumber", "NoName", false), ("NoNumber", "NoNumber", true), ("NoNumber", "NoRow", false), ("NoNumber", "NoText", false), ("NoNumber", "Past", false), ("NoNumber", "Twice", false)]
def xLt1 : List (Str × String × Bool) := [("NoNumber", "ValueError", true)]
def b__law_refused : SM := sSeq (sAsg 2 (eC .non)) (sSeq (sTry xCt1 3 2 (sExpr (eF F_portion (aCons (eVar 0) (aCons (eVar 1) (aNil)))))) (sSeq (sAsg 4 (eAnd (eB (dIsX xLy1 xLc1 xLt1) (aCons (eVar 2) (aCons (eC (.ty "ValueError")) (aNil)))) (eB (dIsX xLy1 xLc1 xLt1) (aCons (eVar 2) (aCons (eC (.cls "NoNumber")) (aNil)))))) (sRet (eAnd (eVar 4) (eNot (eB (dIsX xLy1 xLc1 xLt1) (aCons (eVar 2) (aCons (eTup (aCons (eC (.cls "Flat")) (aCons (eC (.cls "Crowded")) (aCons (eC (.cls "NoName")) (aCons (eC (.cls "Twice")) (aCons (eC (.cls "Past")) (aCons (eC (.cls "NoText")) (aCons (eC (.cls "NoRow")) (aNil))))))))) (aNil)))))))))
def F__law_refused : List D → R D := runF 5 b__law_refused
def b__law_lowest : SM := sSeq (sIf (mOr (mNot (mB (eB dIsi (aCons (eVar 0) (aCons (eC (.ty "tuple")) (aNil)))))) (mOr (mB (e2 dNe (eB dLen (aCons (eVar 0) (aNil))) (eC (.int 2)))) (mOr (mNot (mB (eF F__law_whole (aCons (e2 dAt (eVar 0) (eC (.int 0))) (aNil))))) (mNot (mB (eF F__law_whole (aCons (e2 dAt (eVar 0) (eC (.int 1))) (aNil)))))))) (sRet (eC (.bl false))) (sNil)) (sRet (eAnd (e2 dGt (e2 dAt (eVar 0) (eC (.int 1))) (eC (.int 0))) (e2 dEq (eF F__law_common (aCons (e2 dAt (eVar 0) (eC (.int 0))) (aCons (e2 dAt (eVar 0) (eC (.int 1))) (aNil)))) (eC (.int 1)))))
def F__law_lowest : List D → R D := runF 1 b__law_lowest
def b__law_refused_v2 : SM := sSeq (sAsg 3 (eC .non)) (sSeq (sTry xCt1 4 3 (sExpr (eF F_spot (aCons (eVar 0) (aCons (eVar 1) (aCons (eVar 2) (aNil))))))) (sSeq (sAsg 5 (eAnd (eB (dIsX xLy1 xLc1 xLt1) (aCons (eVar 3) (aCons (eC (.ty "ValueError")) (aNil)))) (eB (dIsX xLy1 xLc1 xLt1) (aCons (eVar 3) (aCons (eC (.cls "NoNumber")) (aNil)))))) (sRet (eAnd (eVar 5) (eNot (eB (dIsX xLy1 xLc1 xLt1) (aCons (eVar 3) (aCons (eTup (aCons (eC (.cls "Flat")) (aCons (eC (.cls "Crowded")) (aCons (eC (.cls "NoName")) (aCons (eC (.cls "Twice")) (aCons (eC (.cls "Past")) (aCons (eC (.cls "NoText")) (aCons (eC (.cls "NoRow")) (aNil))))))))) (aNil)))))))))
def F__law_refused_v2 : List D → R D := runF 6 b__law_refused_v2
def l1__law_is_spot : SM := sIf (mNot (mB (eF F__law_whole (aCons (eVar 1) (aNil))))) (sRet (eC (.bl false))) (sNil)
def b__law_is_spot : SM := sSeq (sIf (mOr (mNot (mB (eB dIsi (aCons (eVar 0) (aCons (eC (.ty "tuple")) (aNil)))))) (mB (e2 dNe (eB dLen (aCons (eVar 0) (aNil))) (eC (.int 3))))) (sRet (eC (.bl false))) (sNil)) (sSeq (sFor (gNm 1) asT (eVar 0) (l1__law_is_spot)) (sRet (eAnd (e2 dGt (e2 dAt (eVar 0) (eC (.int 2))) (eC (.int 0))) (e2 dEq (eF F__law_common (aCons (eF F__law_common (aCons (e2 dAt (eVar 0) (eC (.int 0))) (aCons (e2 dAt (eVar 0) (eC (.int 1))) (aNil)))) (aCons (e2 dAt (eVar 0) (eC (.int 2))) (aNil)))) (eC (.int 1))))))
def F__law_is_spot : List D → R D := runF 2 b__law_is_spot
end Law

namespace Law
open PySem PySem.Spec PyProof.Rows L2 GD
local macro_rules | `(tactic| walk_at "gd") => `(tactic| simp (config := {failIfUnchanged := false}) only [runF, sSeq, sIf, sAsg, sRet, sRetN, sExpr, sNil, sRaise, sPar, sTgt, sFor, sForR, sWhile, eVar, eC, e1, e2, mB, aNil, aCons, eF, eB, eTup, aLst, eL, mNot, mAnd, mOr, eNot, eAnd, eOr, gNm, gTp, gsNil, gsCons, asL, asT,
  bind_ok, bind_er, bind_st, ofO_some, asB_bl, ofR_ok, ofR_er, dAdd_int, dSub_int, dNeg_int, dLt_int, dLe_int, dGt_int, dGe_int, dEq_int, dNe_int, dEq_bl, dMod_int, dDiv_lit, dMul_int, Int.reduceLT, Int.reduceEq, Int.cast_ofNat_Int, eq_self, line_le, Nat.reduceLeDiff,  dIs_non, dIsNot_non, dAt_t0, dAt_t1, dAt_t2, dAt_l0, dAt_l1, dAt_l2, dAt_l3, dAt_l4, dAt_l5, dAt_l6, dAt_l7, dAbs, dMax2, dMin2, dLen,
  List.getElem?_cons_zero, List.getElem?_cons_succ, List.set_cons_zero, List.set_cons_succ, List.map_cons, List.map_nil, List.length_cons, List.length_nil, List.cons_append, List.nil_append, List.replicate_succ, List.replicate_zero, Nat.reduceSub, Nat.reduceAdd,
  decide_eq_true_eq, Bool.not_eq_true', if_true, if_false, ite_true, ite_false, Option.bind_some, Option.map_some, Bool.not_true, Bool.not_false, reduceIte, Bool.false_eq_true, Bool.true_eq_false, decide_true, decide_false])
local macro_rules | `(tactic| walk_at "gdh") => `(tactic| simp (config := {failIfUnchanged := false}) only [runF, sSeq, sIf, sAsg, sRet, sRetN, sExpr, sNil, sRaise, sPar, sTgt, sFor, sForR, sWhile, eVar, eC, e1, e2, mB, aNil, aCons, eF, eB, eTup, aLst, eL, mNot, mAnd, mOr, eNot, eAnd, eOr, gNm, gTp, gsNil, gsCons, asL, asT,
  bind_ok, bind_er, bind_st, ofO_some, asB_bl, ofR_ok, ofR_er, dAdd_int, dSub_int, dNeg_int, dLt_int, dLe_int, dGt_int, dGe_int, dEq_int, dNe_int, dEq_bl, dMod_int, dDiv_lit, dMul_int, Int.reduceLT, Int.reduceEq, Int.cast_ofNat_Int, eq_self, line_le, Nat.reduceLeDiff,  dIs_non, dIsNot_non, dAt_t0, dAt_t1, dAt_t2, dAt_l0, dAt_l1, dAt_l2, dAt_l3, dAt_l4, dAt_l5, dAt_l6, dAt_l7, dAbs, dMax2, dMin2, dLen,
  List.getElem?_cons_zero, List.getElem?_cons_succ, List.set_cons_zero, List.set_cons_succ, List.map_cons, List.map_nil, List.length_cons, List.length_nil, List.cons_append, List.nil_append, List.replicate_succ, List.replicate_zero, Nat.reduceSub, Nat.reduceAdd,
  decide_eq_true_eq, Bool.not_eq_true', if_true, if_false, ite_true, ite_false, Option.bind_some, Option.map_some, Bool.not_true, Bool.not_false, reduceIte, Bool.false_eq_true, Bool.true_eq_false, decide_true, decide_false, *])
/-! ### the greatest common divisor -/
theorem while_divisor : ∀ (n : Nat) (a b : Nat), b < n → whileN (mB (e2 dGt (eVar 1) (eC (.int 0)))) l1_divisor n [.v (.int a), .v (.int b)] = .nx [.v (.int (Nat.gcd a b)), .v (.int 0)]
  | 0, a, b, h => absurd h (by omega)
  | n + 1, a, b, h => by
    unfold whileN
    walk_at "gd"
    by_cases hb : (0 : Int) < (b : Int)
    · rw [if_pos hb]
      unfold l1_divisor
      walk_at "gd"
      rw [dMod_int hb]
      walk_at "gd"
      have e : ((a : Int) % (b : Int)) = ((a % b : Nat) : Int) := by simp
      have w := while_divisor n b (a % b) (by have := Nat.mod_lt a (show 0 < b by omega); omega)
      unfold l1_divisor at w
      rw [e, w, Nat.gcd_comm b (a % b), ← Nat.gcd_rec b a, Nat.gcd_comm b a]
    · rw [if_neg hb]
      have : b = 0 := by omega
      subst this
      simp
theorem divisor_eq (a b : Int) : F_divisor [.int a, .int b] = .ok (.int (Int.gcd a b)) := by
  unfold F_divisor b_divisor
  walk_at "gd"
  unfold fuelI
  walk_at "gd"
  rw [while_divisor _ _ _ (by simp)]
  walk_at "gd"
  rfl
theorem while_common : ∀ (n : Nat) (a b : Nat), a < n → whileN (mB (e2 dGt (eVar 0) (eC (.int 0)))) l1__law_common n [.v (.int a), .v (.int b)] = .nx [.v (.int 0), .v (.int (Nat.gcd a b))]
  | 0, a, b, h => absurd h (by omega)
  | n + 1, a, b, h => by
    unfold whileN
    walk_at "gd"
    by_cases hb : (0 : Int) < (a : Int)
    · rw [if_pos hb]
      unfold l1__law_common
      walk_at "gd"
      rw [dMod_int hb]
      walk_at "gd"
      have e : ((b : Int) % (a : Int)) = ((b % a : Nat) : Int) := by simp
      have w := while_common n (b % a) a (by have := Nat.mod_lt b (show 0 < a by omega); omega)
      unfold l1__law_common at w
      rw [e, w, Nat.gcd_rec a b]
    · rw [if_neg hb]
      have : a = 0 := by omega
      subst this
      simp
theorem common_eq (a b : Int) : F__law_common [.int a, .int b] = .ok (.int (Int.gcd a b)) := by
  unfold F__law_common b__law_common
  walk_at "gd"
  unfold fuelI
  walk_at "gd"
  rw [while_common _ _ _ (by simp)]
  walk_at "gd"
  rfl
theorem whole_int (i : Int) : F__law_whole [.int i] = .ok (.bl true) := by
  unfold F__law_whole b__law_whole
  walk_at "gd"
  rw [isi_int _ _ _ _ rfl kb_int_int, isi_int _ _ _ _ rfl kb_int_bool]
  walk_at "gd"
/-! ### cells -/
theorem cell_loop (ns : List Int) (k : D) : ∀ (l : List Int) (n : Nat) (x : Int) (y : Sl), n + 12 * l.length < 900000 → Bd n x → 32 ≤ n →
    ∃ x' y', loop (gNm 3) l1__law_cell (l.map D.int) [.v (.scr ns), .v k, .v (.int x), y] = .nx [.v (.scr ns), .v k, .v (.int x'), y'] ∧ Bd (n + 12 * l.length) x'
  | [], n, x, y, _, h, _ => ⟨x, y, rfl, h⟩
  | z :: l, n, x, y, hn, h, h32 => by
    have b1 : Bd 10 1009 := by decide
    have b2 : Bd 20 (z % 1000003) := Bd.of_range (Int.emod_nonneg _ (by decide)) (Int.lt_trans (Int.emod_lt_of_pos z (by decide)) (by decide))
    have b3 : Bd (n + 11) (x * 1009 + z % 1000003) := ((h.mul b1).add b2).mono (by omega)
    obtain ⟨x', y', e, hb⟩ := cell_loop ns k l (n + 12) (x * 1009 + z % 1000003) (.v (.int z)) (by rw [List.length_cons] at hn; omega) (b3.mono (by omega)) (by omega)
    refine ⟨x', y', ?_, hb.mono (by rw [List.length_cons]; omega)⟩
    rw [List.map_cons, loop_cons (ρ1 := [.v (.scr ns), .v k, .v (.int x), .v (.int z)]) (ρ2 := [.v (.scr ns), .v k, .v (.int (x * 1009 + z % 1000003)), .v (.int z)]) rfl ?_]
    · exact e
    · unfold l1__law_cell
      walk_at "gd"
      rw [dMul_int (mok h b1 (by omega))]
      walk_at "gd"
theorem cell_spec (ns : List Int) (k : Int) (h0 : 0 ≤ k) (hk : k < 1000) : ∃ c : Int, 0 ≤ c ∧ c < 10 ^ 60 ∧ F__law_cell [.scr ns, .int k] = .ok (.int c) := by
  obtain ⟨j, rfl⟩ := Int.eq_ofNat_of_zero_le h0
  unfold F__law_cell b__law_cell
  by_cases hl : (j : Int) < ns.length
  · have hj : j < ns.length := by omega
    refine ⟨ns[j] % 10 ^ 60, Int.emod_nonneg _ (by decide), Int.emod_lt_of_pos _ (by decide), ?_⟩
    walk_at "gd"
    rw [if_pos hl, dAt_scr (List.getElem?_eq_getElem hj)]
    walk_at "gd"
    rfl
  · walk_at "gd"
    rw [if_neg hl]
    walk_at "gd"
    rw [dMul_int (mok (Bd.of_range (n := 10) h0 (by omega)) (show Bd 13 7907 by decide) (by decide))]
    walk_at "gd"
    simp only [aCut, oNone, oSome, eVar, eC]
    walk_at "gd"
    rw [cutL_ints]
    have b0 : Bd 32 ((j : Int) * 7907 + 3571) := Bd.of_range (by omega) (by omega)
    have hl3 := cutL_len ns 3
    obtain ⟨x', y', e, hb⟩ := cell_loop ns (.int j) (cutL ns none (some 3)) 32 _ .un (by have : (cutL ns none (some 3)).length ≤ 3 := hl3; omega) b0 (by decide)
    rw [e]
    walk_at "gd"
    have b1 : Bd 31 (x' % 2147483647) := Bd.of_range (Int.emod_nonneg _ (by decide)) (Int.lt_trans (Int.emod_lt_of_pos x' (by decide)) (by decide))
    rw [dMul_int (mok b1 b1 (by decide))]
    walk_at "gd"
    exact ⟨_, Int.emod_nonneg _ (by decide), Int.lt_trans (Int.emod_lt_of_pos _ (by decide)) (by decide), rfl⟩
theorem number_spec (c : Int) : ∃ r, Bd 200 r ∧ F__law_number [.int c] = .ok (.int r) := by
  unfold F__law_number b__law_number
  walk_at "gd"
  by_cases h : c % 3 = 0
  · rw [if_pos h]
    walk_at "gd"
    exact ⟨_, (Bd.of_range (n := 10) (Int.emod_nonneg _ (by decide)) (Int.lt_trans (Int.emod_lt_of_pos _ (by decide)) (by decide))).sub (show Bd 10 4 by decide) |>.mono (by decide), rfl⟩
  · rw [if_neg h]
    walk_at "gd"
    exact ⟨_, (Bd.of_range (n := 198) (Int.emod_nonneg _ (by decide)) (Int.lt_trans (Int.emod_lt_of_pos _ (by decide)) (by decide))).sub (show Bd 198 (10 ^ 58) by decide) |>.mono (by decide), rfl⟩
end Law

namespace Law
open PySem PySem.Spec PyProof.Rows L2 GD
local macro_rules | `(tactic| walk_at "gd") => `(tactic| simp (config := {failIfUnchanged := false}) only [runF, sSeq, sIf, sAsg, sRet, sRetN, sExpr, sNil, sRaise, sPar, sTgt, sFor, sForR, sWhile, eVar, eC, e1, e2, mB, aNil, aCons, eF, eB, eTup, aLst, eL, mNot, mAnd, mOr, eNot, eAnd, eOr, gNm, gTp, gsNil, gsCons, asL, asT,
  bind_ok, bind_er, bind_st, ofO_some, asB_bl, ofR_ok, ofR_er, dAdd_int, dSub_int, dNeg_int, dLt_int, dLe_int, dGt_int, dGe_int, dEq_int, dNe_int, dEq_bl, dMod_int, dDiv_lit, dMul_int, Int.reduceLT, Int.reduceEq, Int.cast_ofNat_Int, eq_self, line_le, Nat.reduceLeDiff,  dIs_non, dIsNot_non, dAt_t0, dAt_t1, dAt_t2, dAt_l0, dAt_l1, dAt_l2, dAt_l3, dAt_l4, dAt_l5, dAt_l6, dAt_l7, dAbs, dMax2, dMin2, dLen,
  List.getElem?_cons_zero, List.getElem?_cons_succ, List.set_cons_zero, List.set_cons_succ, List.map_cons, List.map_nil, List.length_cons, List.length_nil, List.cons_append, List.nil_append, List.replicate_succ, List.replicate_zero, Nat.reduceSub, Nat.reduceAdd,
  decide_eq_true_eq, Bool.not_eq_true', if_true, if_false, ite_true, ite_false, Option.bind_some, Option.map_some, Bool.not_true, Bool.not_false, reduceIte, Bool.false_eq_true, Bool.true_eq_false, decide_true, decide_false])
local macro_rules | `(tactic| walk_at "gdh") => `(tactic| simp (config := {failIfUnchanged := false}) only [runF, sSeq, sIf, sAsg, sRet, sRetN, sExpr, sNil, sRaise, sPar, sTgt, sFor, sForR, sWhile, eVar, eC, e1, e2, mB, aNil, aCons, eF, eB, eTup, aLst, eL, mNot, mAnd, mOr, eNot, eAnd, eOr, gNm, gTp, gsNil, gsCons, asL, asT,
  bind_ok, bind_er, bind_st, ofO_some, asB_bl, ofR_ok, ofR_er, dAdd_int, dSub_int, dNeg_int, dLt_int, dLe_int, dGt_int, dGe_int, dEq_int, dNe_int, dEq_bl, dMod_int, dDiv_lit, dMul_int, Int.reduceLT, Int.reduceEq, Int.cast_ofNat_Int, eq_self, line_le, Nat.reduceLeDiff,  dIs_non, dIsNot_non, dAt_t0, dAt_t1, dAt_t2, dAt_l0, dAt_l1, dAt_l2, dAt_l3, dAt_l4, dAt_l5, dAt_l6, dAt_l7, dAbs, dMax2, dMin2, dLen,
  List.getElem?_cons_zero, List.getElem?_cons_succ, List.set_cons_zero, List.set_cons_succ, List.map_cons, List.map_nil, List.length_cons, List.length_nil, List.cons_append, List.nil_append, List.replicate_succ, List.replicate_zero, Nat.reduceSub, Nat.reduceAdd,
  decide_eq_true_eq, Bool.not_eq_true', if_true, if_false, ite_true, ite_false, Option.bind_some, Option.map_some, Bool.not_true, Bool.not_false, reduceIte, Bool.false_eq_true, Bool.true_eq_false, decide_true, decide_false, *])
/-! ### lowest terms -/
theorem gcd_split (a b : Int) (h : 0 < Int.gcd a b) : ∃ p q : Int, a = Int.gcd a b * p ∧ b = Int.gcd a b * q ∧ Int.gcd p q = 1 := by
  obtain ⟨p, hp⟩ := Int.gcd_dvd_left a b
  obtain ⟨q, hq⟩ := Int.gcd_dvd_right a b
  refine ⟨p, q, hp, hq, ?_⟩
  have e : Int.gcd (Int.gcd a b * p) (Int.gcd a b * q) = Int.gcd a b * Int.gcd p q := by
    rw [Int.gcd_mul_left]
    simp
  rw [← hp, ← hq] at e
  have h2 : Int.gcd a b * 1 = Int.gcd a b * Int.gcd p q := by rw [Nat.mul_one]; exact e
  exact (Nat.eq_of_mul_eq_mul_left h h2).symm
/-- top and bottom of the fraction of two whole numbers -/
def fT (t b : Int) : Int := (if b < 0 then -t else t) / (Int.gcd t b : Int)
def fB (t b : Int) : Int := (b.natAbs : Int) / (Int.gcd t b : Int)
theorem gcd_posR {t b : Int} (h : b ≠ 0) : 0 < Int.gcd t b := by
  have : Int.gcd t b ≠ 0 := fun z => h (Int.gcd_eq_zero_iff.mp z).2
  omega
theorem gcd_leR {t b : Int} (h : b ≠ 0) : Int.gcd t b ≤ b.natAbs := Nat.le_of_dvd (by omega) (by have := Int.natAbs_dvd_natAbs.mpr (Int.gcd_dvd_right t b); simpa using this)
theorem fr_of {t b p q : Int} (h : b ≠ 0) (hp : t = Int.gcd t b * p) (hq : b = Int.gcd t b * q) : fT t b = (if b < 0 then -p else p) ∧ fB t b = q.natAbs := by
  have hg := gcd_posR (t := t) h
  have hg' : ((Int.gcd t b : Nat) : Int) ≠ 0 := by omega
  constructor
  · unfold fT
    split
    · conv => lhs; lhs; rw [hp]
      rw [← Int.mul_neg, Int.mul_ediv_cancel_left _ hg']
    · conv => lhs; lhs; rw [hp]
      rw [Int.mul_ediv_cancel_left _ hg']
  · unfold fB
    have e : (b.natAbs : Int) = Int.gcd t b * (q.natAbs : Int) := by
      conv => lhs; rw [hq]
      rw [Int.natAbs_mul]
      simp
    rw [e, Int.mul_ediv_cancel_left _ hg']
theorem fB_pos {t b : Int} (h : b ≠ 0) : 0 < fB t b := by
  obtain ⟨p, q, hp, hq, _⟩ := gcd_split t b (gcd_posR h)
  rw [(fr_of h hp hq).2]
  have : q ≠ 0 := fun z => h (by rw [hq, z, Int.mul_zero])
  omega
theorem f_gcd {t b : Int} (h : b ≠ 0) : Int.gcd (fT t b) (fB t b) = 1 := by
  obtain ⟨p, q, hp, hq, hg⟩ := gcd_split t b (gcd_posR h)
  rw [(fr_of h hp hq).1, (fr_of h hp hq).2]
  have e : Int.gcd p (q.natAbs : Int) = Int.gcd p q := by simp [Int.gcd]
  split
  · rw [Int.neg_gcd, e]
    exact hg
  · rw [e]
    exact hg
theorem f_eq {t b : Int} (h : b ≠ 0) : fT t b * b = t * fB t b := by
  obtain ⟨p, q, hp, hq, hg⟩ := gcd_split t b (gcd_posR h)
  rw [(fr_of h hp hq).1, (fr_of h hp hq).2]
  have hgp := gcd_posR (t := t) h
  split
  · rename_i hb
    have hq0 : q < 0 := by
      apply Decidable.byContradiction
      intro z
      have : 0 ≤ (Int.gcd t b : Int) * q := Int.mul_nonneg (by omega) (by omega)
      omega
    have e : (q.natAbs : Int) = -q := by omega
    rw [e]
    conv => lhs; rw [hq]
    conv => rhs; rw [hp]
    grind
  · rename_i hb
    have hq0 : 0 ≤ q := by
      apply Decidable.byContradiction
      intro z
      have : (Int.gcd t b : Int) * q < 0 := Int.mul_neg_of_pos_of_neg (by omega) (by omega)
      omega
    have e : (q.natAbs : Int) = q := by omega
    rw [e]
    conv => lhs; rw [hq]
    conv => rhs; rw [hp]
    grind
theorem fT_le (t b : Int) : (fT t b).natAbs ≤ t.natAbs := by
  unfold fT
  have := Int.natAbs_ediv_le_natAbs (if b < 0 then -t else t) (Int.gcd t b)
  split at this <;> split <;> omega
theorem fB_le (t b : Int) : (fB t b).natAbs ≤ b.natAbs := by
  unfold fB
  have := Int.natAbs_ediv_le_natAbs (b.natAbs : Int) (Int.gcd t b)
  omega
theorem bd_fT {n : Nat} {t b : Int} (h : Bd n t) : Bd n (fT t b) := h.of_le (fT_le t b)
theorem bd_fB {n : Nat} {t b : Int} (h : Bd n b) : Bd n (fB t b) := h.of_le (fB_le t b)
/-- the fraction as data -/
def fr (t b : Int) : D := .tup [.int (fT t b), .int (fB t b)]
theorem portion_zero (t : Int) : F_portion [.int t, .int 0] = .er "NoNumber" := by
  unfold F_portion b_portion
  walk_at "gd"
theorem portion_eq {t b : Int} (h : b ≠ 0) (hb : Bd 8900 b) : F_portion [.int t, .int b] = .ok (fr t b) := by
  have hg := gcd_posR (t := t) h
  have hd : divOk (Int.gcd t b : Int) := dok (by omega) (hb.of_le (by have := gcd_leR (t := t) h; omega)) (by decide)
  unfold F_portion b_portion
  walk_at "gd"
  rw [if_neg h]
  walk_at "gd"
  by_cases hn : b < 0
  · rw [if_pos hn]
    walk_at "gd"
    rw [divisor_eq, Int.gcd_neg, Int.neg_gcd]
    walk_at "gd"
    rw [dDiv_int hd, dDiv_int hd]
    walk_at "gd"
    unfold fr fT fB
    rw [if_pos hn, show ((b.natAbs : Nat) : Int) = -b by omega]
  · rw [if_neg hn]
    walk_at "gd"
    rw [divisor_eq]
    walk_at "gd"
    rw [dDiv_int hd, dDiv_int hd]
    walk_at "gd"
    unfold fr fT fB
    rw [if_neg hn, show ((b.natAbs : Nat) : Int) = b by omega]
def D2 (x y : Int) : D := .tup [.int x, .int y]
def D3 (x y z : Int) : D := .tup [.int x, .int y, .int z]
theorem plus_eq {a b c d : Int} {n : Nat} (ha : Bd n a) (hb : Bd n b) (hc : Bd n c) (hd : Bd n d) (hn : n ≤ 4000) (hb0 : b ≠ 0) (hd0 : d ≠ 0) : F_plus [D2 a b, D2 c d] = .ok (fr (a * d + c * b) (b * d)) := by
  have m1 : mulOk a d := mok ha hd (by omega)
  have m2 : mulOk c b := mok hc hb (by omega)
  have m3 : mulOk b d := mok hb hd (by omega)
  unfold F_plus b_plus D2
  walk_at "gdh"
  rw [portion_eq (Int.mul_ne_zero hb0 hd0) ((hb.mul hd).mono (by omega))]
  rfl
theorem minus_eq {a b c d : Int} {n : Nat} (ha : Bd n a) (hb : Bd n b) (hc : Bd n c) (hd : Bd n d) (hn : n ≤ 4000) (hb0 : b ≠ 0) (hd0 : d ≠ 0) : F_minus [D2 a b, D2 c d] = .ok (fr (a * d - c * b) (b * d)) := by
  have m1 : mulOk a d := mok ha hd (by omega)
  have m2 : mulOk c b := mok hc hb (by omega)
  have m3 : mulOk b d := mok hb hd (by omega)
  unfold F_minus b_minus D2
  walk_at "gdh"
  rw [portion_eq (Int.mul_ne_zero hb0 hd0) ((hb.mul hd).mono (by omega))]
  rfl
theorem times_eq {a b c d : Int} {n : Nat} (ha : Bd n a) (hb : Bd n b) (hc : Bd n c) (hd : Bd n d) (hn : n ≤ 4000) (hb0 : b ≠ 0) (hd0 : d ≠ 0) : F_times [D2 a b, D2 c d] = .ok (fr (a * c) (b * d)) := by
  have m1 : mulOk a c := mok ha hc (by omega)
  have m3 : mulOk b d := mok hb hd (by omega)
  unfold F_times b_times D2
  walk_at "gdh"
  rw [portion_eq (Int.mul_ne_zero hb0 hd0) ((hb.mul hd).mono (by omega))]
  rfl
theorem under_eq {a b c d : Int} {n : Nat} (ha : Bd n a) (hb : Bd n b) (hc : Bd n c) (hd : Bd n d) (hn : n ≤ 400000) : F_under [D2 a b, D2 c d] = .ok (.bl (decide (a * d < c * b))) := by
  have m1 : mulOk a d := mok ha hd (by omega)
  have m2 : mulOk c b := mok hc hb (by omega)
  unfold F_under b_under D2
  walk_at "gdh"
end Law

namespace Law
open PySem PySem.Spec PyProof.Rows L2 GD
local macro_rules | `(tactic| walk_at "gd") => `(tactic| simp (config := {failIfUnchanged := false}) only [runF, sSeq, sIf, sAsg, sRet, sRetN, sExpr, sNil, sRaise, sPar, sTgt, sFor, sForR, sWhile, eVar, eC, e1, e2, mB, aNil, aCons, eF, eB, eTup, aLst, eL, mNot, mAnd, mOr, eNot, eAnd, eOr, gNm, gTp, gsNil, gsCons, asL, asT,
  bind_ok, bind_er, bind_st, ofO_some, asB_bl, ofR_ok, ofR_er, dAdd_int, dSub_int, dNeg_int, dLt_int, dLe_int, dGt_int, dGe_int, dEq_int, dNe_int, dEq_bl, dMod_int, dDiv_lit, dMul_int, Int.reduceLT, Int.reduceEq, Int.cast_ofNat_Int, eq_self, line_le, Nat.reduceLeDiff,  dIs_non, dIsNot_non, dAt_t0, dAt_t1, dAt_t2, dAt_l0, dAt_l1, dAt_l2, dAt_l3, dAt_l4, dAt_l5, dAt_l6, dAt_l7, dAbs, dMax2, dMin2, dLen,
  List.getElem?_cons_zero, List.getElem?_cons_succ, List.set_cons_zero, List.set_cons_succ, List.map_cons, List.map_nil, List.length_cons, List.length_nil, List.cons_append, List.nil_append, List.replicate_succ, List.replicate_zero, Nat.reduceSub, Nat.reduceAdd,
  decide_eq_true_eq, Bool.not_eq_true', if_true, if_false, ite_true, ite_false, Option.bind_some, Option.map_some, Bool.not_true, Bool.not_false, reduceIte, Bool.false_eq_true, Bool.true_eq_false, decide_true, decide_false])
local macro_rules | `(tactic| walk_at "gdh") => `(tactic| simp (config := {failIfUnchanged := false}) only [runF, sSeq, sIf, sAsg, sRet, sRetN, sExpr, sNil, sRaise, sPar, sTgt, sFor, sForR, sWhile, eVar, eC, e1, e2, mB, aNil, aCons, eF, eB, eTup, aLst, eL, mNot, mAnd, mOr, eNot, eAnd, eOr, gNm, gTp, gsNil, gsCons, asL, asT,
  bind_ok, bind_er, bind_st, ofO_some, asB_bl, ofR_ok, ofR_er, dAdd_int, dSub_int, dNeg_int, dLt_int, dLe_int, dGt_int, dGe_int, dEq_int, dNe_int, dEq_bl, dMod_int, dDiv_lit, dMul_int, Int.reduceLT, Int.reduceEq, Int.cast_ofNat_Int, eq_self, line_le, Nat.reduceLeDiff,  dIs_non, dIsNot_non, dAt_t0, dAt_t1, dAt_t2, dAt_l0, dAt_l1, dAt_l2, dAt_l3, dAt_l4, dAt_l5, dAt_l6, dAt_l7, dAbs, dMax2, dMin2, dLen,
  List.getElem?_cons_zero, List.getElem?_cons_succ, List.set_cons_zero, List.set_cons_succ, List.map_cons, List.map_nil, List.length_cons, List.length_nil, List.cons_append, List.nil_append, List.replicate_succ, List.replicate_zero, Nat.reduceSub, Nat.reduceAdd,
  decide_eq_true_eq, Bool.not_eq_true', if_true, if_false, ite_true, ite_false, Option.bind_some, Option.map_some, Bool.not_true, Bool.not_false, reduceIte, Bool.false_eq_true, Bool.true_eq_false, decide_true, decide_false, *])
/-! ### spots in lowest terms -/
def g3 (x y w : Int) : Nat := Int.gcd (Int.gcd x y : Int) w
def sg (w t : Int) : Int := if w < 0 then -t else t
def sX (x y w : Int) : Int := sg w x / (g3 x y w : Int)
def sY (x y w : Int) : Int := sg w y / (g3 x y w : Int)
def sW (x y w : Int) : Int := (w.natAbs : Int) / (g3 x y w : Int)
theorem g3_pos {x y w : Int} (h : w ≠ 0) : 0 < g3 x y w := gcd_posR h
theorem g3_le {x y w : Int} (h : w ≠ 0) : g3 x y w ≤ w.natAbs := gcd_leR h
theorem g3_split (x y w : Int) (h : w ≠ 0) : ∃ p q r : Int, x = g3 x y w * p ∧ y = g3 x y w * q ∧ w = g3 x y w * r ∧ g3 p q r = 1 := by
  have hd : ((g3 x y w : Nat) : Int) ∣ (Int.gcd x y : Int) := Int.gcd_dvd_left _ _
  obtain ⟨p, hp⟩ : ((g3 x y w : Nat) : Int) ∣ x := Int.dvd_trans hd (Int.gcd_dvd_left x y)
  obtain ⟨q, hq⟩ : ((g3 x y w : Nat) : Int) ∣ y := Int.dvd_trans hd (Int.gcd_dvd_right x y)
  obtain ⟨r, hr⟩ : ((g3 x y w : Nat) : Int) ∣ w := Int.gcd_dvd_right _ _
  refine ⟨p, q, r, hp, hq, hr, ?_⟩
  have hg := g3_pos (x := x) (y := y) h
  generalize hG : g3 x y w = G at *
  have e1 : Int.gcd x y = G * Int.gcd p q := by rw [hp, hq, Int.gcd_mul_left]; simp
  have e2 : g3 x y w = G * g3 p q r := by
    unfold g3
    rw [e1, hr]
    show Int.gcd ((G * Int.gcd p q : Nat) : Int) (G * r) = _
    rw [Int.natCast_mul, Int.gcd_mul_left]
    simp
  rw [hG] at e2
  have h2 : G * 1 = G * g3 p q r := by omega
  exact (Nat.eq_of_mul_eq_mul_left hg h2).symm
theorem sg_mul (w G p : Int) : sg w (G * p) = G * sg w p := by
  unfold sg
  split
  · rw [Int.mul_neg]
  · rfl
theorem sp_of {x y w p q r : Int} (h : w ≠ 0) (hp : x = g3 x y w * p) (hq : y = g3 x y w * q) (hr : w = g3 x y w * r) : sX x y w = sg w p ∧ sY x y w = sg w q ∧ sW x y w = r.natAbs := by
  have hg := g3_pos (x := x) (y := y) h
  have hg' : ((g3 x y w : Nat) : Int) ≠ 0 := by omega
  refine ⟨?_, ?_, ?_⟩
  · unfold sX
    conv => lhs; lhs; rw [hp, sg_mul]
    rw [Int.mul_ediv_cancel_left _ hg']
  · unfold sY
    conv => lhs; lhs; rw [hq, sg_mul]
    rw [Int.mul_ediv_cancel_left _ hg']
  · unfold sW
    have e : (w.natAbs : Int) = g3 x y w * (r.natAbs : Int) := by
      conv => lhs; rw [hr]
      rw [Int.natAbs_mul]
      simp
    rw [e, Int.mul_ediv_cancel_left _ hg']
theorem sW_pos {x y w : Int} (h : w ≠ 0) : 0 < sW x y w := by
  obtain ⟨p, q, r, hp, hq, hr, _⟩ := g3_split x y w h
  rw [(sp_of h hp hq hr).2.2]
  have : r ≠ 0 := fun z => h (by rw [hr, z, Int.mul_zero])
  omega
theorem gcd_sg (w p q : Int) : Int.gcd (sg w p) (sg w q) = Int.gcd p q := by
  unfold sg
  split
  · rw [Int.neg_gcd, Int.gcd_neg]
  · rfl
theorem s_gcd {x y w : Int} (h : w ≠ 0) : g3 (sX x y w) (sY x y w) (sW x y w) = 1 := by
  obtain ⟨p, q, r, hp, hq, hr, hg⟩ := g3_split x y w h
  obtain ⟨e1, e2, e3⟩ := sp_of h hp hq hr
  rw [e1, e2, e3]
  unfold g3 at hg ⊢
  rw [gcd_sg]
  have e : ∀ a, Int.gcd a (r.natAbs : Int) = Int.gcd a r := fun a => by simp [Int.gcd]
  rw [e]
  exact hg
theorem s_eq {x y w : Int} (h : w ≠ 0) : sX x y w * w = x * sW x y w ∧ sY x y w * w = y * sW x y w := by
  obtain ⟨p, q, r, hp, hq, hr, hg⟩ := g3_split x y w h
  obtain ⟨e1, e2, e3⟩ := sp_of h hp hq hr
  have hgp := g3_pos (x := x) (y := y) h
  have e4 : (r.natAbs : Int) = sg w r := by
    unfold sg
    split
    · rename_i hb
      have hq0 : r < 0 := by
        apply Decidable.byContradiction
        intro z
        have : 0 ≤ (g3 x y w : Int) * r := Int.mul_nonneg (by omega) (by omega)
        omega
      omega
    · rename_i hb
      have hq0 : 0 ≤ r := by
        apply Decidable.byContradiction
        intro z
        have : (g3 x y w : Int) * r < 0 := Int.mul_neg_of_pos_of_neg (by omega) (by omega)
        omega
      omega
  rw [e1, e2, e3, e4]
  generalize (g3 x y w : Int) = G at hp hq hr
  constructor
  · unfold sg
    split
    · grind
    · grind
  · unfold sg
    split
    · grind
    · grind
theorem sg_abs (w t : Int) : (sg w t).natAbs = t.natAbs := by
  unfold sg
  split <;> omega
theorem bd_sX {n : Nat} {x y w : Int} (h : Bd n x) : Bd n (sX x y w) := h.of_le (by have := Int.natAbs_ediv_le_natAbs (sg w x) (g3 x y w); rw [sg_abs] at this; exact this)
theorem bd_sY {n : Nat} {x y w : Int} (h : Bd n y) : Bd n (sY x y w) := h.of_le (by have := Int.natAbs_ediv_le_natAbs (sg w y) (g3 x y w); rw [sg_abs] at this; exact this)
theorem bd_sW {n : Nat} {x y w : Int} (h : Bd n w) : Bd n (sW x y w) := h.of_le (by have := Int.natAbs_ediv_le_natAbs (w.natAbs : Int) (g3 x y w); exact this)
def sp (x y w : Int) : D := D3 (sX x y w) (sY x y w) (sW x y w)
theorem spot_zero (x y : Int) : F_spot [.int x, .int y, .int 0] = .er "NoNumber" := by
  unfold F_spot b_spot
  walk_at "gd"
theorem spot_eq {x y w : Int} (h : w ≠ 0) (hb : Bd 8900 w) : F_spot [.int x, .int y, .int w] = .ok (sp x y w) := by
  have hg := g3_pos (x := x) (y := y) h
  have hd : divOk (g3 x y w : Int) := dok (by omega) (hb.of_le (by have := g3_le (x := x) (y := y) h; omega)) (by decide)
  unfold F_spot b_spot
  walk_at "gd"
  rw [if_neg h]
  walk_at "gd"
  by_cases hn : w < 0
  · rw [if_pos hn]
    walk_at "gd"
    rw [divisor_eq]
    walk_at "gd"
    rw [divisor_eq]
    walk_at "gd"
    rw [Int.gcd_neg, Int.neg_gcd, Int.gcd_neg, show Int.gcd (Int.gcd x y : Int) w = g3 x y w from rfl]
    rw [dDiv_int hd, dDiv_int hd, dDiv_int hd]
    walk_at "gd"
    unfold sp D3 sX sY sW sg
    rw [if_pos hn, if_pos hn, show ((w.natAbs : Nat) : Int) = -w by omega]
  · rw [if_neg hn]
    walk_at "gd"
    rw [divisor_eq]
    walk_at "gd"
    rw [divisor_eq]
    walk_at "gd"
    rw [show Int.gcd (Int.gcd x y : Int) w = g3 x y w from rfl]
    rw [dDiv_int hd, dDiv_int hd, dDiv_int hd]
    walk_at "gd"
    unfold sp D3 sX sY sW sg
    rw [if_neg hn, if_neg hn, show ((w.natAbs : Nat) : Int) = w by omega]
theorem put_at_eq {a b x y w : Int} {n : Nat} (ha : Bd n a) (hb : Bd n b) (hw : Bd n w) (hn : n ≤ 4000) (h0 : w ≠ 0) : F_put_at [D2 a b, D3 x y w] = .ok (sp (a * w + x) (b * w + y) w) := by
  have m1 : mulOk a w := mok ha hw (by omega)
  have m2 : mulOk b w := mok hb hw (by omega)
  unfold F_put_at b_put_at D2 D3
  walk_at "gdh"
  rw [spot_eq h0 (hw.mono (by omega))]
  rfl
theorem gone_on_eq {x y w a b t u : Int} {n : Nat} (hx : Bd n x) (hy : Bd n y) (hw : Bd n w) (ha : Bd n a) (hb : Bd n b) (ht : Bd n t) (hu : Bd n u) (hn : n ≤ 4000) (h0 : w ≠ 0) (h1 : u ≠ 0) : F_gone_on [D3 x y w, D2 a b, D2 t u] = .ok (sp (x * u + a * t * w) (y * u + b * t * w) (w * u)) := by
  have m1 : mulOk x u := mok hx hu (by omega)
  have m2 : mulOk y u := mok hy hu (by omega)
  have m3 : mulOk a t := mok ha ht (by omega)
  have m4 : mulOk b t := mok hb ht (by omega)
  have m5 : mulOk (a * t) w := mok (ha.mul ht) hw (by omega)
  have m6 : mulOk (b * t) w := mok (hb.mul ht) hw (by omega)
  have m7 : mulOk w u := mok hw hu (by omega)
  unfold F_gone_on b_gone_on D2 D3
  walk_at "gdh"
  rw [spot_eq (Int.mul_ne_zero h0 h1) ((hw.mul hu).mono (by omega))]
  rfl
theorem way_from_eq {x y w a b c : Int} {n : Nat} (hx : Bd n x) (hy : Bd n y) (hw : Bd n w) (ha : Bd n a) (hb : Bd n b) (hc : Bd n c) (hn : n ≤ 4000) (h0 : w ≠ 0) (h1 : c ≠ 0) : F_way_from [D3 x y w, D3 a b c] = .ok (sp (a * w - x * c) (b * w - y * c) (w * c)) := by
  have m1 : mulOk a w := mok ha hw (by omega)
  have m2 : mulOk x c := mok hx hc (by omega)
  have m3 : mulOk b w := mok hb hw (by omega)
  have m4 : mulOk y c := mok hy hc (by omega)
  have m7 : mulOk w c := mok hw hc (by omega)
  unfold F_way_from b_way_from D3
  walk_at "gdh"
  rw [spot_eq (Int.mul_ne_zero h0 h1) ((hw.mul hc).mono (by omega))]
  rfl
theorem ahead_eq {x y w a b c : Int} {n : Nat} (hx : Bd n x) (hy : Bd n y) (hw : Bd n w) (ha : Bd n a) (hb : Bd n b) (hc : Bd n c) (hn : n ≤ 4000) : F_ahead [D3 x y w, D3 a b c] = .ok (.bl (if x * c = a * w then decide (y * c < b * w) else decide (x * c < a * w))) := by
  have m1 : mulOk x c := mok hx hc (by omega)
  have m2 : mulOk a w := mok ha hw (by omega)
  have m3 : mulOk y c := mok hy hc (by omega)
  have m4 : mulOk b w := mok hb hw (by omega)
  unfold F_ahead b_ahead D3
  by_cases h : x * c = a * w
  · rw [if_pos h]
    walk_at "gdh"
  · rw [if_neg h]
    walk_at "gdh"
/-! ### comprehensions whose every turn is good -/
theorem lc_ex {g : D → En → Option En} {m : EM} {ρ : En} {P : D → D → Prop} : ∀ ds : List D, (∀ d ∈ ds, ∃ ρ1 x, g d ρ = some ρ1 ∧ m ρ1 = .ok x ∧ P d x) → ∃ xs : List D, lcGo g mYes m ds ρ = .ok xs ∧ xs.length = ds.length ∧ ∀ (i : Nat) (d x : D), ds[i]? = some d → xs[i]? = some x → P d x
  | [], _ => ⟨[], rfl, rfl, fun i d x h => by simp at h⟩
  | d :: r, hs => by
    obtain ⟨ρ1, x, h1, h2, h3⟩ := hs d List.mem_cons_self
    obtain ⟨xs, e, l, hp⟩ := lc_ex r (fun d' hd => hs d' (List.mem_cons_of_mem _ hd))
    refine ⟨x :: xs, ?_, by simp [l], fun i d' x' hd hx => ?_⟩
    · unfold lcGo
      rw [h1]
      show (noEr (R.ok true)).bind (fun b => if b = true then (noEr (m ρ1)).bind fun x => (lcGo g mYes m r ρ).bind fun xs => .ok (x :: xs) else lcGo g mYes m r ρ) = _
      rw [h2, e]
      rfl
    · cases i with
      | zero => simp at hd hx; subst hd; subst hx; exact h3
      | succ i => exact hp i d' x' (by simpa using hd) (by simpa using hx)
end Law

namespace Law
open PySem PySem.Spec PyProof.Rows L2 GD
def topS (i : Nat) : Stmt := PySem.Challenge.pw_glide_k04_a_spot.main.body.getD i (.Pass ⟨0, 0, 0, 0⟩)
structure Txt (K : PySem.W.Frag) (mg : Str → Option Value) (C_Crowded : Addr) (C_Flat : Addr) (C_GlideError : Addr) (C_NoName : Addr) (C_NoNumber : Addr) (C_NoRow : Addr) (C_NoText : Addr) (C_Past : Addr) (C_Twice : Addr) : Prop where
  z_ValueError : mg "ValueError" = none
  z_abs : mg "abs" = none
  z_bool : mg "bool" = none
  z_int : mg "int" = none
  z_isinstance : mg "isinstance" = none
  z_len : mg "len" = none
  z_max : mg "max" = none
  z_range : mg "range" = none
  z_tuple : mg "tuple" = none
  g_Crowded : mg "Crowded" = some (.ref C_Crowded)
  kc_Crowded : PySem.W.keepIn K (.ref C_Crowded) = true
  b_Crowded : PySem.W.subIn K (.ref C_Crowded) (.type "BaseException") = some true
  t_Crowded : PySem.W.typeIn K (.ref C_Crowded) = some (.type "type")
  g_Flat : mg "Flat" = some (.ref C_Flat)
  kc_Flat : PySem.W.keepIn K (.ref C_Flat) = true
  b_Flat : PySem.W.subIn K (.ref C_Flat) (.type "BaseException") = some true
  t_Flat : PySem.W.typeIn K (.ref C_Flat) = some (.type "type")
  g_GlideError : mg "GlideError" = some (.ref C_GlideError)
  kc_GlideError : PySem.W.keepIn K (.ref C_GlideError) = true
  b_GlideError : PySem.W.subIn K (.ref C_GlideError) (.type "BaseException") = some true
  t_GlideError : PySem.W.typeIn K (.ref C_GlideError) = some (.type "type")
  g_NoName : mg "NoName" = some (.ref C_NoName)
  kc_NoName : PySem.W.keepIn K (.ref C_NoName) = true
  b_NoName : PySem.W.subIn K (.ref C_NoName) (.type "BaseException") = some true
  t_NoName : PySem.W.typeIn K (.ref C_NoName) = some (.type "type")
  g_NoNumber : mg "NoNumber" = some (.ref C_NoNumber)
  x_NoNumber : PySem.W.excIn K C_NoNumber [.type "ValueError", .type "Exception", .type "BaseException", .type "object"] "ValueError.__new__" = true
  kc_NoNumber : PySem.W.keepIn K (.ref C_NoNumber) = true
  b_NoNumber : PySem.W.subIn K (.ref C_NoNumber) (.type "BaseException") = some true
  t_NoNumber : PySem.W.typeIn K (.ref C_NoNumber) = some (.type "type")
  g_NoRow : mg "NoRow" = some (.ref C_NoRow)
  kc_NoRow : PySem.W.keepIn K (.ref C_NoRow) = true
  b_NoRow : PySem.W.subIn K (.ref C_NoRow) (.type "BaseException") = some true
  t_NoRow : PySem.W.typeIn K (.ref C_NoRow) = some (.type "type")
  g_NoText : mg "NoText" = some (.ref C_NoText)
  kc_NoText : PySem.W.keepIn K (.ref C_NoText) = true
  b_NoText : PySem.W.subIn K (.ref C_NoText) (.type "BaseException") = some true
  t_NoText : PySem.W.typeIn K (.ref C_NoText) = some (.type "type")
  g_Past : mg "Past" = some (.ref C_Past)
  kc_Past : PySem.W.keepIn K (.ref C_Past) = true
  b_Past : PySem.W.subIn K (.ref C_Past) (.type "BaseException") = some true
  t_Past : PySem.W.typeIn K (.ref C_Past) = some (.type "type")
  g_Twice : mg "Twice" = some (.ref C_Twice)
  kc_Twice : PySem.W.keepIn K (.ref C_Twice) = true
  b_Twice : PySem.W.subIn K (.ref C_Twice) (.type "BaseException") = some true
  t_Twice : PySem.W.typeIn K (.ref C_Twice) = some (.type "type")
  m_NoNumber : PySem.W.exmOne K (.ref C_NoNumber) (.ref C_GlideError) = some true
  v_NoNumber : ExcC K C_NoNumber
  w_NoNumber : PySem.W.kitOne K (.ref C_NoNumber) (.type "ValueError") = some true
  q_NoNumber_Crowded : PySem.W.kitOne K (.ref C_NoNumber) (.ref C_Crowded) = some false
  q_NoNumber_Flat : PySem.W.kitOne K (.ref C_NoNumber) (.ref C_Flat) = some false
  q_NoNumber_NoName : PySem.W.kitOne K (.ref C_NoNumber) (.ref C_NoName) = some false
  q_NoNumber_NoNumber : PySem.W.kitOne K (.ref C_NoNumber) (.ref C_NoNumber) = some true
  q_NoNumber_NoRow : PySem.W.kitOne K (.ref C_NoNumber) (.ref C_NoRow) = some false
  q_NoNumber_NoText : PySem.W.kitOne K (.ref C_NoNumber) (.ref C_NoText) = some false
  q_NoNumber_Past : PySem.W.kitOne K (.ref C_NoNumber) (.ref C_Past) = some false
  q_NoNumber_Twice : PySem.W.kitOne K (.ref C_NoNumber) (.ref C_Twice) = some false
section
variable {K : PySem.W.Frag} {mg : Str → Option Value} {C_Crowded : Addr} {C_Flat : Addr} {C_GlideError : Addr} {C_NoName : Addr} {C_NoNumber : Addr} {C_NoRow : Addr} {C_NoText : Addr} {C_Past : Addr} {C_Twice : Addr}
theorem xct (T : Txt K mg C_Crowded C_Flat C_GlideError C_NoName C_NoNumber C_NoRow C_NoText C_Past C_Twice) : ∀ y cls, xCt1 y = true → mg y = some cls → PySem.W.exmOne K cls (.ref C_GlideError) = some true := by
  intro y cls h e
  unfold xCt1 at h
  have h2 := List.contains_iff_mem.mp h
  simp only [List.mem_cons, List.not_mem_nil, or_false] at h2
  rcases h2 with rfl
  · cases e.symm.trans T.g_NoNumber; exact T.m_NoNumber
theorem exh (T : Txt K mg C_Crowded C_Flat C_GlideError C_NoName C_NoNumber C_NoRow C_NoText C_Past C_Twice) : ExH K mg xLy1 xLc1 xLt1 where
  c := (all_cons ⟨C_NoNumber, C_Crowded, T.g_NoNumber, T.g_Crowded, T.q_NoNumber_Crowded⟩ (all_cons ⟨C_NoNumber, C_Flat, T.g_NoNumber, T.g_Flat, T.q_NoNumber_Flat⟩ (all_cons ⟨C_NoNumber, C_NoName, T.g_NoNumber, T.g_NoName, T.q_NoNumber_NoName⟩ (all_cons ⟨C_NoNumber, C_NoNumber, T.g_NoNumber, T.g_NoNumber, T.q_NoNumber_NoNumber⟩ (all_cons ⟨C_NoNumber, C_NoRow, T.g_NoNumber, T.g_NoRow, T.q_NoNumber_NoRow⟩ (all_cons ⟨C_NoNumber, C_NoText, T.g_NoNumber, T.g_NoText, T.q_NoNumber_NoText⟩ (all_cons ⟨C_NoNumber, C_Past, T.g_NoNumber, T.g_Past, T.q_NoNumber_Past⟩ (all_cons ⟨C_NoNumber, C_Twice, T.g_NoNumber, T.g_Twice, T.q_NoNumber_Twice⟩ (fun _ h => nomatch h)))))))))
  t := (all_cons ⟨C_NoNumber, T.g_NoNumber, T.w_NoNumber⟩ (fun _ h => nomatch h))
  x := (all_cons ⟨C_NoNumber, T.g_NoNumber, T.v_NoNumber⟩ (fun _ h => nomatch h))
end
abbrev s_divisor : Stmt := topS 11
abbrev N_divisor : List Str := ["one", "other"]
theorem sc_divisor : FnScope N_divisor ["one", "other"] (defScope s_divisor) := ⟨rfl, rfl, rfl, by decide +kernel, rfl, by decide +kernel, by decide +kernel⟩
abbrev s_spot : Stmt := topS 13
abbrev N_spot : List Str := ["x", "y", "w", "many"]
theorem sc_spot : FnScope N_spot ["x", "y", "w"] (defScope s_spot) := ⟨rfl, rfl, rfl, by decide +kernel, rfl, by decide +kernel, by decide +kernel⟩
abbrev s__law_cell : Stmt := topS 15
abbrev N__law_cell : List Str := ["script", "k", "number", "cell"]
theorem sc__law_cell : FnScope N__law_cell ["script", "k"] (defScope s__law_cell) := ⟨rfl, rfl, rfl, by decide +kernel, rfl, by decide +kernel, by decide +kernel⟩
abbrev s__law_whole : Stmt := topS 16
abbrev N__law_whole : List Str := ["found"]
theorem sc__law_whole : FnScope N__law_whole ["found"] (defScope s__law_whole) := ⟨rfl, rfl, rfl, by decide +kernel, rfl, by decide +kernel, by decide +kernel⟩
abbrev s__law_common : Stmt := topS 17
abbrev N__law_common : List Str := ["one", "other"]
theorem sc__law_common : FnScope N__law_common ["one", "other"] (defScope s__law_common) := ⟨rfl, rfl, rfl, by decide +kernel, rfl, by decide +kernel, by decide +kernel⟩
abbrev s__law_number : Stmt := topS 18
abbrev N__law_number : List Str := ["cell"]
theorem sc__law_number : FnScope N__law_number ["cell"] (defScope s__law_number) := ⟨rfl, rfl, rfl, by decide +kernel, rfl, by decide +kernel, by decide +kernel⟩
abbrev s__law_refused : Stmt := topS 19
abbrev N__law_refused : List Str := ["x", "y", "w", "error", "e", "right"]
theorem sc__law_refused : FnScope N__law_refused ["x", "y", "w"] (defScope s__law_refused) := ⟨rfl, rfl, rfl, by decide +kernel, rfl, by decide +kernel, by decide +kernel⟩
abbrev s__law_is_spot : Stmt := topS 20
abbrev N__law_is_spot : List Str := ["found", "number"]
theorem sc__law_is_spot : FnScope N__law_is_spot ["found"] (defScope s__law_is_spot) := ⟨rfl, rfl, rfl, by decide +kernel, rfl, by decide +kernel, by decide +kernel⟩
abbrev s_law : Stmt := topS 21
abbrev N_law : List Str := ["script", "at", "three", "k", "fourth", "many", "number", "x", "y", "w", "found"]
theorem sc_law : FnScope N_law ["script"] (defScope s_law) := ⟨rfl, rfl, rfl, by decide +kernel, rfl, by decide +kernel, by decide +kernel⟩
def l1_law : SM := sSeq (sOwn 2 (aLcR [3] (gNm 3) (mYes) (aCons (eC (.int 3)) (aNil)) (eF F__law_number (aCons (eF F__law_cell (aCons (eVar 0) (aCons (e2 dAdd (eVar 1) (eVar 3)) (aNil)))) (aNil))))) (sSeq (sAsg 4 (eF F__law_cell (aCons (eVar 0) (aCons (e2 dAdd (eVar 1) (eC (.int 3))) (aNil))))) (sSeq (sIf (mB (e2 dEq (e2 dMod (eVar 4) (eC (.int 3))) (eC (.int 1)))) (sSeq (sAsg 5 (e2 dAdd (e2 dMod (e2 dDiv (eVar 4) (eC (.int 21))) (eC (.int 1000000000000000000))) (eC (.int 1)))) (sFrz 2 (sOwn 2 (aLc asL [6] (gNm 6) (mYes) (eVar 2) (e2 dMul (e2 dMod (eVar 6) (eC (.int 10000000000000000000000000000000000000000))) (eVar 5)))))) (sNil)) (sSeq (sIf (mB (e2 dEq (e2 dMod (e2 dDiv (eVar 4) (eC (.int 3))) (eC (.int 7))) (eC (.int 1)))) (sPut 2 (eC (.int 2)) (eC (.int 0))) (sNil)) (sSeq (sFrz 2 (sTgt (gLs (gsCons (gNm 7) (gsCons (gNm 8) (gsCons (gNm 9) (gsNil))))) (eVar 2))) (sIf (mB (e2 dEq (eVar 9) (eC (.int 0)))) (sIf (mNot (mB (eF F__law_refused_v2 (aCons (eVar 7) (aCons (eVar 8) (aCons (eVar 9) (aNil))))))) (sRet (eC (.bl false))) (sNil)) (sSeq (sAsg 10 (eF F_spot (aCons (eVar 7) (aCons (eVar 8) (aCons (eVar 9) (aNil)))))) (sIf (mOr (mNot (mB (eF F__law_is_spot (aCons (eVar 10) (aNil))))) (mOr (mB (e2 dNe (e2 dMul (e2 dAt (eVar 10) (eC (.int 0))) (eVar 9)) (e2 dMul (eVar 7) (e2 dAt (eVar 10) (eC (.int 2)))))) (mB (e2 dNe (e2 dMul (e2 dAt (eVar 10) (eC (.int 1))) (eVar 9)) (e2 dMul (eVar 8) (e2 dAt (eVar 10) (eC (.int 2)))))))) (sRet (eC (.bl false))) (sNil))))))))
def b_law : SM := sSeq (sForR (gNm 1) (aCons (eC (.int 0)) (aCons (eB dMax2 (aCons (eC (.int 1)) (aCons (eB dLen (aCons (eVar 0) (aNil))) (aNil)))) (aCons (eC (.int 4)) (aNil)))) (l1_law)) (sRet (eC (.bl true)))
def F_law : List D → R D := runF 11 b_law
section
variable {P : Program} {w : World} {K : PySem.W.Frag} {mg : Str → Option Value} {base : Heap} {C_Crowded : Addr} {C_Flat : Addr} {C_GlideError : Addr} {C_NoName : Addr} {C_NoNumber : Addr} {C_NoRow : Addr} {C_NoText : Addr} {C_Past : Addr} {C_Twice : Addr}
theorem ok_divisor {f : Addr} {fd : FuncData} (F : Fun K "divisor" "divisor" s_divisor f fd) (T : Txt K mg C_Crowded C_Flat C_GlideError C_NoName C_NoNumber C_NoRow C_NoText C_Past C_Twice) : FnOk P w K mg base (L2.CX P w) 1 f fd ["one", "other"] (spD K mg 2 F_divisor) :=
  fnOk_mk F sc_divisor fun cdv A outer s H E hr => pbd_cons (psd_set (i := 0) sc_divisor.nd rfl (Or.inl rfl) (ped_callB calld_abs (by rfl) T.z_abs bb_abs (pad_cons (ped_var (i := 0) rfl (Or.inl rfl)) (pad_nil)))) (pbd_cons (psd_set (i := 1) sc_divisor.nd rfl (Or.inl rfl) (ped_callB calld_abs (by rfl) T.z_abs bb_abs (pad_cons (ped_var (i := 1) rfl (Or.inl rfl)) (pad_nil)))) (pbd_cons (psd_while (passes_of rfl) (ptd_cmp (opd_gt) (ped_var (i := 1) rfl (Or.inl rfl)) (ped_int) (nomark _)) (pbd_one (psd_par (i := 0) (j := 1) rfl sc_divisor.nd rfl rfl (by decide) rfl rfl (ped_var (i := 1) rfl (Or.inl rfl)) (ped_op opd_mod (ped_var (i := 0) rfl (Or.inl rfl)) (ped_var (i := 1) rfl (Or.inl rfl)))))) (pbd_one (psd_ret (ped_var (i := 0) rfl (Or.inl rfl))))))
theorem ok_spot {f : Addr} {fd : FuncData} (F : Fun K "spot" "spot" s_spot f fd) (T : Txt K mg C_Crowded C_Flat C_GlideError C_NoName C_NoNumber C_NoRow C_NoText C_Past C_Twice) (h_divisor : FnD P w K mg base 1 "divisor" ["one", "other"] F_divisor) : FnOk P w K mg base (L2.CX P w) 2 f fd ["x", "y", "w"] (spD K mg 3 F_spot) :=
  fnOk_mk F sc_spot fun cdv A outer s H E hr => pbd_cons (psd_if (ptd_cmp (opd_eq hr.units) (ped_var (i := 2) rfl (Or.inl rfl)) (ped_int) (nomark _)) (pbd_one (psd_raise rfl (takes_of rfl rfl rfl rfl) PySem.F.excBase_ValueError T.x_NoNumber T.g_NoNumber T.kc_NoNumber (raises_own T.b_NoNumber T.t_NoNumber) rfl)) (pbd_nil)) (pbd_cons (psd_if (ptd_cmp (opd_lt hr.units0) (ped_var (i := 2) rfl (Or.inl rfl)) (ped_int) (nomark _)) (pbd_cons (psd_set (i := 0) sc_spot.nd rfl (Or.inl rfl) (ped_neg (ped_var (i := 0) rfl (Or.inl rfl)))) (pbd_cons (psd_set (i := 1) sc_spot.nd rfl (Or.inl rfl) (ped_neg (ped_var (i := 1) rfl (Or.inl rfl)))) (pbd_one (psd_set (i := 2) sc_spot.nd rfl (Or.inl rfl) (ped_neg (ped_var (i := 2) rfl (Or.inl rfl))))))) (pbd_nil)) (pbd_cons (psd_set (i := 3) sc_spot.nd rfl (Or.inl rfl) (ped_call h_divisor (hr.mono (by decide)) (takes_of rfl rfl rfl rfl) (by rfl) (pad_cons (ped_call h_divisor (hr.mono (by decide)) (takes_of rfl rfl rfl rfl) (by rfl) (pad_cons (ped_var (i := 0) rfl (Or.inl rfl)) (pad_cons (ped_var (i := 1) rfl (Or.inl rfl)) (pad_nil))) (aCons_len (aCons_len aNil_len))) (pad_cons (ped_var (i := 2) rfl (Or.inl rfl)) (pad_nil))) (aCons_len (aCons_len aNil_len)))) (pbd_one (psd_ret (ped_tup (pad_cons (ped_op opd_div (ped_var (i := 0) rfl (Or.inl rfl)) (ped_var (i := 3) rfl (Or.inl rfl))) (pad_cons (ped_op opd_div (ped_var (i := 1) rfl (Or.inl rfl)) (ped_var (i := 3) rfl (Or.inl rfl))) (pad_cons (ped_op opd_div (ped_var (i := 2) rfl (Or.inl rfl)) (ped_var (i := 3) rfl (Or.inl rfl))) (pad_nil)))))))))
theorem ok__law_cell {f : Addr} {fd : FuncData} (F : Fun K "_law_cell" "_law_cell" s__law_cell f fd) (T : Txt K mg C_Crowded C_Flat C_GlideError C_NoName C_NoNumber C_NoRow C_NoText C_Past C_Twice) : FnOk P w K mg base (L2.CX P w) 1 f fd ["script", "k"] (spD K mg 2 F__law_cell) :=
  fnOk_mk F sc__law_cell fun cdv A outer s H E hr => pbd_cons (psd_if (ptd_cmp (opd_lt hr.units0) (ped_var (i := 1) rfl (Or.inl rfl)) (ped_callB calld_len (by rfl) T.z_len bb_len (pad_cons (ped_var (i := 0) rfl (Or.inl rfl)) (pad_nil))) (nomark _)) (pbd_one (psd_ret (ped_op opd_mod (ped_ix (ped_var (i := 0) rfl (Or.inl rfl)) (ped_var (i := 1) rfl (Or.inl rfl)) (fun _ _ => rfl)) (ped_const (ped_op opd_pow (ped_int) (ped_int)) (fun _ => rfl))))) (pbd_nil)) (pbd_cons (psd_set (i := 2) sc__law_cell.nd rfl (Or.inl rfl) (ped_op opd_add (ped_op opd_mul (ped_var (i := 1) rfl (Or.inl rfl)) (ped_int)) (ped_int))) (pbd_cons (psd_forL (passes_of rfl) rfl (ped_new (pfd_cut (ped_var (i := 0) rfl (Or.inl rfl)) (pod_none) (pod_some (ped_int)))) (pgd_name (i := 3) sc__law_cell.nd rfl (Or.inl rfl)) (pbd_one (psd_set (i := 2) sc__law_cell.nd rfl (Or.inl rfl) (ped_op opd_add (ped_op opd_mul (ped_var (i := 2) rfl (Or.inl rfl)) (ped_int)) (ped_op opd_mod (ped_var (i := 3) rfl (Or.inl rfl)) (ped_int)))))) (pbd_cons (psd_set (i := 2) sc__law_cell.nd rfl (Or.inl rfl) (ped_op opd_mod (ped_var (i := 2) rfl (Or.inl rfl)) (ped_int))) (pbd_one (psd_ret (ped_op opd_mod (ped_op opd_mul (ped_var (i := 2) rfl (Or.inl rfl)) (ped_var (i := 2) rfl (Or.inl rfl))) (ped_int)))))))
theorem ok__law_whole {f : Addr} {fd : FuncData} (F : Fun K "_law_whole" "_law_whole" s__law_whole f fd) (T : Txt K mg C_Crowded C_Flat C_GlideError C_NoName C_NoNumber C_NoRow C_NoText C_Past C_Twice) : FnOk P w K mg base (L2.CX P w) 1 f fd ["found"] (spD K mg 1 F__law_whole) :=
  fnOk_mk F sc__law_whole fun cdv A outer s H E hr => pbd_one (psd_ret (ped_and (ped_callB calld_isi (by rfl) T.z_isinstance bb_isinstance (pad_cons (ped_var (i := 0) rfl (Or.inl rfl)) (pad_cons (ped_bltn (v := .ty "int") rfl T.z_int bb_int rfl (fun _ => .ty _)) (pad_nil)))) (ped_one (ped_not (ped_callB calld_isi (by rfl) T.z_isinstance bb_isinstance (pad_cons (ped_var (i := 0) rfl (Or.inl rfl)) (pad_cons (ped_bltn (v := .ty "bool") rfl T.z_bool bb_bool rfl (fun _ => .ty _)) (pad_nil))))))))
theorem ok__law_common {f : Addr} {fd : FuncData} (F : Fun K "_law_common" "_law_common" s__law_common f fd) (T : Txt K mg C_Crowded C_Flat C_GlideError C_NoName C_NoNumber C_NoRow C_NoText C_Past C_Twice) : FnOk P w K mg base (L2.CX P w) 1 f fd ["one", "other"] (spD K mg 2 F__law_common) :=
  fnOk_mk F sc__law_common fun cdv A outer s H E hr => pbd_cons (psd_set (i := 0) sc__law_common.nd rfl (Or.inl rfl) (ped_callB calld_abs (by rfl) T.z_abs bb_abs (pad_cons (ped_var (i := 0) rfl (Or.inl rfl)) (pad_nil)))) (pbd_cons (psd_set (i := 1) sc__law_common.nd rfl (Or.inl rfl) (ped_callB calld_abs (by rfl) T.z_abs bb_abs (pad_cons (ped_var (i := 1) rfl (Or.inl rfl)) (pad_nil)))) (pbd_cons (psd_while (passes_of rfl) (ptd_cmp (opd_gt) (ped_var (i := 0) rfl (Or.inl rfl)) (ped_int) (nomark _)) (pbd_one (psd_par (i := 0) (j := 1) rfl sc__law_common.nd rfl rfl (by decide) rfl rfl (ped_op opd_mod (ped_var (i := 1) rfl (Or.inl rfl)) (ped_var (i := 0) rfl (Or.inl rfl))) (ped_var (i := 0) rfl (Or.inl rfl))))) (pbd_one (psd_ret (ped_var (i := 1) rfl (Or.inl rfl))))))
theorem ok__law_number {f : Addr} {fd : FuncData} (F : Fun K "_law_number" "_law_number" s__law_number f fd) (T : Txt K mg C_Crowded C_Flat C_GlideError C_NoName C_NoNumber C_NoRow C_NoText C_Past C_Twice) : FnOk P w K mg base (L2.CX P w) 1 f fd ["cell"] (spD K mg 1 F__law_number) :=
  fnOk_mk F sc__law_number fun cdv A outer s H E hr => pbd_cons (psd_if (ptd_cmp (opd_eq hr.units) (ped_op opd_mod (ped_var (i := 0) rfl (Or.inl rfl)) (ped_int)) (ped_int) (nomark _)) (pbd_one (psd_ret (ped_op opd_sub (ped_op opd_mod (ped_op opd_div (ped_var (i := 0) rfl (Or.inl rfl)) (ped_int)) (ped_int)) (ped_int)))) (pbd_nil)) (pbd_one (psd_ret (ped_op opd_sub (ped_op opd_mod (ped_op opd_div (ped_var (i := 0) rfl (Or.inl rfl)) (ped_int)) (ped_const (ped_op opd_add (ped_const (ped_op opd_mul (ped_int) (ped_const (ped_op opd_pow (ped_int) (ped_int)) (fun _ => rfl))) (fun _ => rfl)) (ped_int)) (fun _ => rfl))) (ped_const (ped_op opd_pow (ped_int) (ped_int)) (fun _ => rfl)))))
theorem ok__law_refused {f : Addr} {fd : FuncData} (F : Fun K "_law_refused" "_law_refused" s__law_refused f fd) (T : Txt K mg C_Crowded C_Flat C_GlideError C_NoName C_NoNumber C_NoRow C_NoText C_Past C_Twice) (h_spot : FnD P w K mg base 2 "spot" ["x", "y", "w"] F_spot) : FnOk P w K mg base (L2.CX P w) 3 f fd ["x", "y", "w"] (spD K mg 3 F__law_refused_v2) :=
  fnOk_mk F sc__law_refused fun cdv A outer s H E hr => pbd_cons (psd_set (i := 3) sc__law_refused.nd rfl (Or.inl rfl) (ped_non)) (pbd_cons (psd_try (i := 4) (j := 3) (xct T) rfl rfl sc__law_refused.nd rfl rfl ⟨by rfl, by decide, .inl T.g_GlideError⟩ (Or.inl rfl) rfl (Or.inl rfl) (fun Wn pn xe tk ps => pbd_one (psd_expr (ped_call h_spot (hr.mono (by decide)) tk (by rfl) (pad_cons (ped_var (i := 0) rfl (Or.inl rfl)) (pad_cons (ped_var (i := 1) rfl (Or.inl rfl)) (pad_cons (ped_var (i := 2) rfl (Or.inl rfl)) (pad_nil)))) (aCons_len (aCons_len (aCons_len aNil_len))))))) (pbd_cons (psd_set (i := 5) sc__law_refused.nd rfl (Or.inl rfl) (ped_and (ped_callB (calld_isX (exh T)) (by rfl) T.z_isinstance bb_isinstance (pad_cons (ped_var (i := 3) rfl (Or.inl rfl)) (pad_cons (ped_bltn (v := .ty "ValueError") rfl T.z_ValueError bb_ValueError rfl (fun _ => .ty _)) (pad_nil)))) (ped_one (ped_callB (calld_isX (exh T)) (by rfl) T.z_isinstance bb_isinstance (pad_cons (ped_var (i := 3) rfl (Or.inl rfl)) (pad_cons (ped_glob (v := .ref C_NoNumber) rfl T.g_NoNumber rfl (fun _ => .cls T.g_NoNumber)) (pad_nil))))))) (pbd_one (psd_ret (ped_and (ped_var (i := 5) rfl (Or.inl rfl)) (ped_one (ped_not (ped_callB (calld_isX (exh T)) (by rfl) T.z_isinstance bb_isinstance (pad_cons (ped_var (i := 3) rfl (Or.inl rfl)) (pad_cons (ped_tup (pad_cons (ped_glob (v := .ref C_Flat) rfl T.g_Flat rfl (fun _ => .cls T.g_Flat)) (pad_cons (ped_glob (v := .ref C_Crowded) rfl T.g_Crowded rfl (fun _ => .cls T.g_Crowded)) (pad_cons (ped_glob (v := .ref C_NoName) rfl T.g_NoName rfl (fun _ => .cls T.g_NoName)) (pad_cons (ped_glob (v := .ref C_Twice) rfl T.g_Twice rfl (fun _ => .cls T.g_Twice)) (pad_cons (ped_glob (v := .ref C_Past) rfl T.g_Past rfl (fun _ => .cls T.g_Past)) (pad_cons (ped_glob (v := .ref C_NoText) rfl T.g_NoText rfl (fun _ => .cls T.g_NoText)) (pad_cons (ped_glob (v := .ref C_NoRow) rfl T.g_NoRow rfl (fun _ => .cls T.g_NoRow)) (pad_nil))))))))) (pad_nil)))))))))))
theorem ok__law_is_spot {f : Addr} {fd : FuncData} (F : Fun K "_law_is_spot" "_law_is_spot" s__law_is_spot f fd) (T : Txt K mg C_Crowded C_Flat C_GlideError C_NoName C_NoNumber C_NoRow C_NoText C_Past C_Twice) (h__law_whole : FnD P w K mg base 1 "_law_whole" ["found"] F__law_whole) (h__law_common : FnD P w K mg base 1 "_law_common" ["one", "other"] F__law_common) : FnOk P w K mg base (L2.CX P w) 2 f fd ["found"] (spD K mg 1 F__law_is_spot) :=
  fnOk_mk F sc__law_is_spot fun cdv A outer s H E hr => pbd_cons (psd_if (pwd_pt (pwd_or (ptd_not (ptd_val (ped_callB calld_isi (by rfl) T.z_isinstance bb_isinstance (pad_cons (ped_var (i := 0) rfl (Or.inl rfl)) (pad_cons (ped_bltn (v := .ty "tuple") rfl T.z_tuple bb_tuple rfl (fun _ => .ty _)) (pad_nil)))) (by intro _; rfl))) (pwd_or1 (ptd_cmp (opd_ne hr.units) (ped_callB calld_len (by rfl) T.z_len bb_len (pad_cons (ped_var (i := 0) rfl (Or.inl rfl)) (pad_nil))) (ped_int) (nomark _))))) (pbd_one (psd_ret (ped_bl))) (pbd_nil)) (pbd_cons (psd_forT (passes_of rfl) rfl (ped_var (i := 0) rfl (Or.inl rfl)) (pgd_name (i := 1) sc__law_is_spot.nd rfl (Or.inl rfl)) (pbd_one (psd_if (ptd_not (ptd_val (ped_call h__law_whole (hr.mono (by decide)) (takes_of rfl rfl rfl rfl) (by rfl) (pad_cons (ped_var (i := 1) rfl (Or.inl rfl)) (pad_nil)) (aCons_len aNil_len)) (by intro _; rfl))) (pbd_one (psd_ret (ped_bl))) (pbd_nil)))) (pbd_one (psd_ret (ped_and (ped_cmp (opd_gt) (ped_ix (ped_var (i := 0) rfl (Or.inl rfl)) (ped_int) (fun _ _ => rfl)) (ped_int) (nomark _)) (ped_one (ped_cmp (opd_eq hr.units) (ped_call h__law_common (hr.mono (by decide)) (takes_of rfl rfl rfl rfl) (by rfl) (pad_cons (ped_call h__law_common (hr.mono (by decide)) (takes_of rfl rfl rfl rfl) (by rfl) (pad_cons (ped_ix (ped_var (i := 0) rfl (Or.inl rfl)) (ped_int) (fun _ _ => rfl)) (pad_cons (ped_ix (ped_var (i := 0) rfl (Or.inl rfl)) (ped_int) (fun _ _ => rfl)) (pad_nil))) (aCons_len (aCons_len aNil_len))) (pad_cons (ped_ix (ped_var (i := 0) rfl (Or.inl rfl)) (ped_int) (fun _ _ => rfl)) (pad_nil))) (aCons_len (aCons_len aNil_len))) (ped_int) (nomark _)))))))
theorem ok_law {f : Addr} {fd : FuncData} (F : Fun K "law" "law" s_law f fd) (T : Txt K mg C_Crowded C_Flat C_GlideError C_NoName C_NoNumber C_NoRow C_NoText C_Past C_Twice) (h__law_cell : FnD P w K mg base 1 "_law_cell" ["script", "k"] F__law_cell) (h__law_number : FnD P w K mg base 1 "_law_number" ["cell"] F__law_number) (h_spot : FnD P w K mg base 2 "spot" ["x", "y", "w"] F_spot) (h__law_refused : FnD P w K mg base 3 "_law_refused" ["x", "y", "w"] F__law_refused_v2) (h__law_is_spot : FnD P w K mg base 2 "_law_is_spot" ["found"] F__law_is_spot) : FnOk P w K mg base (L2.CX P w) 4 f fd ["script"] (spD K mg 1 F_law) :=
  fnOk_mk F sc_law fun cdv A outer s H E hr => pbd_cons (psd_for3 (passes_of rfl) rfl (by rfl) T.z_range (pad_cons (ped_int) (pad_cons (ped_callB (calld_max2 rfl) (by rfl) T.z_max bb_max (pad_cons (ped_int) (pad_cons (ped_callB calld_len (by rfl) T.z_len bb_len (pad_cons (ped_var (i := 0) rfl (Or.inr (Or.inl rfl))) (pad_nil))) (pad_nil)))) (pad_cons (ped_int) (pad_nil)))) (pgd_name (i := 1) sc_law.nd rfl (Or.inr rfl)) (pbd_cons (psd_ownL (i := 2) rfl sc_law.nd rfl rfl (lcd_1 (own := [("k", 3)]) (by rfl) T.z_range (pad_cons (ped_int) (pad_nil)) (aCons_len aNil_len) (blkOk_by (own := [("k", 3)]) (N := N_law) (sc := defScope s_law) (by decide +kernel)) (fun _ _ _ _ _ => pgv_name (i := 3) sc_law.nd rfl (Or.inl rfl) (by decide)) (fun _ _ _ _ _ => ptsd_nil) (fun _ _ _ _ _ => ped_call h__law_number (hr.mono (by decide)) takes0 (by rfl) (pad_cons (ped_call h__law_cell (hr.mono (by decide)) takes0 (by rfl) (pad_cons (ped_var (i := 0) rfl (Or.inr (Or.inl rfl))) (pad_cons (ped_op opd_add (ped_var (i := 1) rfl (Or.inr (Or.inl rfl))) (ped_var (i := 3) rfl (Or.inl rfl))) (pad_nil))) (aCons_len (aCons_len aNil_len))) (pad_nil)) (aCons_len aNil_len))) (sw_true rfl rfl rfl (by decide +kernel))) (pbd_cons (psd_set (i := 4) sc_law.nd rfl (Or.inl rfl) (ped_call h__law_cell (hr.mono (by decide)) (takes_of rfl rfl rfl rfl) (by rfl) (pad_cons (ped_var (i := 0) rfl (Or.inr (Or.inl rfl))) (pad_cons (ped_op opd_add (ped_var (i := 1) rfl (Or.inr (Or.inl rfl))) (ped_int)) (pad_nil))) (aCons_len (aCons_len aNil_len)))) (pbd_cons (psd_if (ptd_cmp (opd_eq hr.units) (ped_op opd_mod (ped_var (i := 4) rfl (Or.inl rfl)) (ped_int)) (ped_int) (nomark _)) (pbd_cons (psd_set (i := 5) sc_law.nd rfl (Or.inr rfl) (ped_op opd_add (ped_op opd_mod (ped_op opd_div (ped_var (i := 4) rfl (Or.inl rfl)) (ped_int)) (ped_const (ped_op opd_pow (ped_int) (ped_int)) (fun _ => rfl))) (ped_int))) (pbd_one (psd_frz 2 (psd_ownL (i := 2) rfl sc_law.nd rfl rfl (lcd_L (own := [("number", 6)]) (ped_var (i := 2) rfl (Or.inl rfl)) (blkOk_by (own := [("number", 6)]) (N := N_law) (sc := defScope s_law) (by decide +kernel)) (fun _ _ _ _ _ => pgv_name (i := 6) sc_law.nd rfl (Or.inl rfl) (by decide)) (fun _ _ _ _ _ => ptsd_nil) (fun _ _ _ _ _ => ped_op opd_mul (ped_op opd_mod (ped_var (i := 6) rfl (Or.inl rfl)) (ped_const (ped_op opd_pow (ped_int) (ped_int)) (fun _ => rfl))) (ped_var (i := 5) rfl (Or.inr (Or.inl rfl))))) (sw_true rfl rfl rfl (by decide +kernel)))))) (pbd_nil)) (pbd_cons (psd_if (ptd_cmp (opd_eq hr.units) (ped_op opd_mod (ped_op opd_div (ped_var (i := 4) rfl (Or.inl rfl)) (ped_int)) (ped_int)) (ped_int) (nomark _)) (pbd_one (psd_put (i := 2) rfl (Or.inl rfl) (ped_int) (ped_int))) (pbd_nil)) (pbd_cons (psd_frz 2 (psd_tgt (ped_var (i := 2) rfl (Or.inl rfl)) (pgd_lst rfl (pgsd_cons (pgd_name (i := 7) sc_law.nd rfl (Or.inl rfl)) (pgsd_cons (pgd_name (i := 8) sc_law.nd rfl (Or.inl rfl)) (pgsd_cons (pgd_name (i := 9) sc_law.nd rfl (Or.inl rfl)) (pgsd_nil)))) (gs_len 2 (gs_len 1 (gs_len 0 gs_len0)))))) (pbd_one (psd_if (ptd_cmp (opd_eq hr.units) (ped_var (i := 9) rfl (Or.inl rfl)) (ped_int) (nomark _)) (pbd_one (psd_if (ptd_not (ptd_val (ped_call h__law_refused (hr.mono (by decide)) (takes_of rfl rfl rfl rfl) (by rfl) (pad_cons (ped_var (i := 7) rfl (Or.inl rfl)) (pad_cons (ped_var (i := 8) rfl (Or.inl rfl)) (pad_cons (ped_var (i := 9) rfl (Or.inl rfl)) (pad_nil)))) (aCons_len (aCons_len (aCons_len aNil_len)))) (by intro _; rfl))) (pbd_one (psd_ret (ped_bl))) (pbd_nil))) (pbd_cons (psd_set (i := 10) sc_law.nd rfl (Or.inl rfl) (ped_call h_spot (hr.mono (by decide)) (takes_of rfl rfl rfl rfl) (by rfl) (pad_cons (ped_var (i := 7) rfl (Or.inl rfl)) (pad_cons (ped_var (i := 8) rfl (Or.inl rfl)) (pad_cons (ped_var (i := 9) rfl (Or.inl rfl)) (pad_nil)))) (aCons_len (aCons_len (aCons_len aNil_len))))) (pbd_one (psd_if (pwd_pt (pwd_or (ptd_not (ptd_val (ped_call h__law_is_spot (hr.mono (by decide)) (takes_of rfl rfl rfl rfl) (by rfl) (pad_cons (ped_var (i := 10) rfl (Or.inl rfl)) (pad_nil)) (aCons_len aNil_len)) (by intro _; rfl))) (pwd_or (ptd_cmp (opd_ne hr.units) (ped_op opd_mul (ped_ix (ped_var (i := 10) rfl (Or.inl rfl)) (ped_int) (fun _ _ => rfl)) (ped_var (i := 9) rfl (Or.inl rfl))) (ped_op opd_mul (ped_var (i := 7) rfl (Or.inl rfl)) (ped_ix (ped_var (i := 10) rfl (Or.inl rfl)) (ped_int) (fun _ _ => rfl))) (nomark _)) (pwd_or1 (ptd_cmp (opd_ne hr.units) (ped_op opd_mul (ped_ix (ped_var (i := 10) rfl (Or.inl rfl)) (ped_int) (fun _ _ => rfl)) (ped_var (i := 9) rfl (Or.inl rfl))) (ped_op opd_mul (ped_var (i := 8) rfl (Or.inl rfl)) (ped_ix (ped_var (i := 10) rfl (Or.inl rfl)) (ped_int) (fun _ _ => rfl))) (nomark _)))))) (pbd_one (psd_ret (ped_bl))) (pbd_nil))))))))))) (aCons_len (aCons_len (aCons_len aNil_len)))) (pbd_one (psd_ret (ped_bl)))
end
theorem all_mk {l : PySem.W.OpenLaw} {w : World} {K : PySem.W.Frag} {h : Heap} {mg : Str → Option Value} {fa f0 f1 f2 f3 f4 f5 f6 f7 f8 C_Crowded C_Flat C_GlideError C_NoName C_NoNumber C_NoRow C_NoText C_Past C_Twice : Addr} (X : K.In h) (G : h.Ns mainGlobals mg) (hfa : mg "law" = some (.ref fa))
    {od0 an0 od1 an1 od2 an2 od3 an3 od4 an4 od5 an5 od6 an6 od7 an7 od8 an8 : Option Addr} {sl0 sl1 sl2 sl3 sl4 sl5 sl6 sl7 sl8 : Array (Option Value)} {oc0 kV0 dc0 pm0 cd0 ct0 oc1 kV1 dc1 pm1 cd1 ct1 oc2 kV2 dc2 pm2 cd2 ct2 oc3 kV3 dc3 pm3 cd3 ct3 oc4 kV4 dc4 pm4 cd4 ct4 oc5 kV5 dc5 pm5 cd5 ct5 oc6 kV6 dc6 pm6 cd6 ct6 oc7 kV7 dc7 pm7 cd7 ct7 oc8 kV8 dc8 pm8 cd8 ct8 : Value}
    (gC_Crowded : PySem.W.nsIn K mainGlobals "Crowded" = some (some (.ref C_Crowded)))
    (kC_Crowded : PySem.W.keepIn K (.ref C_Crowded) = true)
    (bC_Crowded : PySem.W.subIn K (.ref C_Crowded) (.type "BaseException") = some true)
    (tC_Crowded : PySem.W.typeIn K (.ref C_Crowded) = some (.type "type"))
    (gC_Flat : PySem.W.nsIn K mainGlobals "Flat" = some (some (.ref C_Flat)))
    (kC_Flat : PySem.W.keepIn K (.ref C_Flat) = true)
    (bC_Flat : PySem.W.subIn K (.ref C_Flat) (.type "BaseException") = some true)
    (tC_Flat : PySem.W.typeIn K (.ref C_Flat) = some (.type "type"))
    (gC_GlideError : PySem.W.nsIn K mainGlobals "GlideError" = some (some (.ref C_GlideError)))
    (kC_GlideError : PySem.W.keepIn K (.ref C_GlideError) = true)
    (bC_GlideError : PySem.W.subIn K (.ref C_GlideError) (.type "BaseException") = some true)
    (tC_GlideError : PySem.W.typeIn K (.ref C_GlideError) = some (.type "type"))
    (gC_NoName : PySem.W.nsIn K mainGlobals "NoName" = some (some (.ref C_NoName)))
    (kC_NoName : PySem.W.keepIn K (.ref C_NoName) = true)
    (bC_NoName : PySem.W.subIn K (.ref C_NoName) (.type "BaseException") = some true)
    (tC_NoName : PySem.W.typeIn K (.ref C_NoName) = some (.type "type"))
    (gC_NoNumber : PySem.W.nsIn K mainGlobals "NoNumber" = some (some (.ref C_NoNumber)))
    (xC_NoNumber : PySem.W.excIn K C_NoNumber [.type "ValueError", .type "Exception", .type "BaseException", .type "object"] "ValueError.__new__" = true)
    (kC_NoNumber : PySem.W.keepIn K (.ref C_NoNumber) = true)
    (bC_NoNumber : PySem.W.subIn K (.ref C_NoNumber) (.type "BaseException") = some true)
    (tC_NoNumber : PySem.W.typeIn K (.ref C_NoNumber) = some (.type "type"))
    (gC_NoRow : PySem.W.nsIn K mainGlobals "NoRow" = some (some (.ref C_NoRow)))
    (kC_NoRow : PySem.W.keepIn K (.ref C_NoRow) = true)
    (bC_NoRow : PySem.W.subIn K (.ref C_NoRow) (.type "BaseException") = some true)
    (tC_NoRow : PySem.W.typeIn K (.ref C_NoRow) = some (.type "type"))
    (gC_NoText : PySem.W.nsIn K mainGlobals "NoText" = some (some (.ref C_NoText)))
    (kC_NoText : PySem.W.keepIn K (.ref C_NoText) = true)
    (bC_NoText : PySem.W.subIn K (.ref C_NoText) (.type "BaseException") = some true)
    (tC_NoText : PySem.W.typeIn K (.ref C_NoText) = some (.type "type"))
    (gC_Past : PySem.W.nsIn K mainGlobals "Past" = some (some (.ref C_Past)))
    (kC_Past : PySem.W.keepIn K (.ref C_Past) = true)
    (bC_Past : PySem.W.subIn K (.ref C_Past) (.type "BaseException") = some true)
    (tC_Past : PySem.W.typeIn K (.ref C_Past) = some (.type "type"))
    (gC_Twice : PySem.W.nsIn K mainGlobals "Twice" = some (some (.ref C_Twice)))
    (kC_Twice : PySem.W.keepIn K (.ref C_Twice) = true)
    (bC_Twice : PySem.W.subIn K (.ref C_Twice) (.type "BaseException") = some true)
    (tC_Twice : PySem.W.typeIn K (.ref C_Twice) = some (.type "type"))
    (sg_NoNumber : PySem.W.subIn K (.ref C_NoNumber) (.ref C_GlideError) = some true)
    (hd_Crowded : PySem.W.hasDictIn K C_Crowded = true)
    (hd_Flat : PySem.W.hasDictIn K C_Flat = true)
    (hd_GlideError : PySem.W.hasDictIn K C_GlideError = true)
    (hd_NoName : PySem.W.hasDictIn K C_NoName = true)
    (hd_NoNumber : PySem.W.hasDictIn K C_NoNumber = true)
    (hd_NoRow : PySem.W.hasDictIn K C_NoRow = true)
    (hd_NoText : PySem.W.hasDictIn K C_NoText = true)
    (hd_Past : PySem.W.hasDictIn K C_Past = true)
    (hd_Twice : PySem.W.hasDictIn K C_Twice = true)
    (oN : PySem.W.specialIn K (.builtin "object.__class__") "__get__" = some (some (.builtin "getset_descriptor.__get__")))
    (oT : PySem.W.takesIn K (.builtin "object.__class__") = some true)
    (vg_NoNumber : PySem.W.findIn K (.ref C_NoNumber) "__getattribute__" = some (some (.builtin "BaseException.__getattribute__")))
    (vk_NoNumber : PySem.W.findIn K (.ref C_NoNumber) "__getattr__" = some none)
    (va_NoNumber : PySem.W.findIn K (.ref C_NoNumber) "__class__" = some (some (.builtin "object.__class__")))
    (vm_NoNumber : PySem.W.mroIn K C_NoNumber (.type "object") = some true)
    (sv_NoNumber : PySem.W.subIn K (.ref C_NoNumber) (.type "ValueError") = some true)
    (su_NoNumber_Crowded : PySem.W.subIn K (.ref C_NoNumber) (.ref C_Crowded) = some false)
    (su_NoNumber_Flat : PySem.W.subIn K (.ref C_NoNumber) (.ref C_Flat) = some false)
    (su_NoNumber_NoName : PySem.W.subIn K (.ref C_NoNumber) (.ref C_NoName) = some false)
    (su_NoNumber_NoNumber : PySem.W.subIn K (.ref C_NoNumber) (.ref C_NoNumber) = some true)
    (su_NoNumber_NoRow : PySem.W.subIn K (.ref C_NoNumber) (.ref C_NoRow) = some false)
    (su_NoNumber_NoText : PySem.W.subIn K (.ref C_NoNumber) (.ref C_NoText) = some false)
    (su_NoNumber_Past : PySem.W.subIn K (.ref C_NoNumber) (.ref C_Past) = some false)
    (su_NoNumber_Twice : PySem.W.subIn K (.ref C_NoNumber) (.ref C_Twice) = some false)
    (ss_Crowded : PySem.W.subIn K (.ref C_Crowded) (.ref C_Crowded) = some true)
    (ss_Flat : PySem.W.subIn K (.ref C_Flat) (.ref C_Flat) = some true)
    (ss_NoName : PySem.W.subIn K (.ref C_NoName) (.ref C_NoName) = some true)
    (ss_NoNumber : PySem.W.subIn K (.ref C_NoNumber) (.ref C_NoNumber) = some true)
    (ss_NoRow : PySem.W.subIn K (.ref C_NoRow) (.ref C_NoRow) = some true)
    (ss_NoText : PySem.W.subIn K (.ref C_NoText) (.ref C_NoText) = some true)
    (ss_Past : PySem.W.subIn K (.ref C_Past) (.ref C_Past) = some true)
    (ss_Twice : PySem.W.subIn K (.ref C_Twice) (.ref C_Twice) = some true)
    (a0 : PySem.W.nsIn K mainGlobals "divisor" = some (some (.ref f0)))
    (l0 : K.lookup f0 = some ⟨oc0, od0, .func (PySem.W.fnOf "divisor" "divisor" (defArgs s_divisor) (defBody s_divisor) (defScope s_divisor) .none kV0 dc0 pm0 an0 cd0 ct0), sl0⟩)
    (c0 : PySem.W.codeIn K cd0 "divisor" = true)
    (k0 : PySem.W.keepIn K (.ref f0) = true)
    (a1 : PySem.W.nsIn K mainGlobals "spot" = some (some (.ref f1)))
    (l1 : K.lookup f1 = some ⟨oc1, od1, .func (PySem.W.fnOf "spot" "spot" (defArgs s_spot) (defBody s_spot) (defScope s_spot) .none kV1 dc1 pm1 an1 cd1 ct1), sl1⟩)
    (c1 : PySem.W.codeIn K cd1 "spot" = true)
    (k1 : PySem.W.keepIn K (.ref f1) = true)
    (a2 : PySem.W.nsIn K mainGlobals "_law_cell" = some (some (.ref f2)))
    (l2 : K.lookup f2 = some ⟨oc2, od2, .func (PySem.W.fnOf "_law_cell" "_law_cell" (defArgs s__law_cell) (defBody s__law_cell) (defScope s__law_cell) .none kV2 dc2 pm2 an2 cd2 ct2), sl2⟩)
    (c2 : PySem.W.codeIn K cd2 "_law_cell" = true)
    (k2 : PySem.W.keepIn K (.ref f2) = true)
    (a3 : PySem.W.nsIn K mainGlobals "_law_whole" = some (some (.ref f3)))
    (l3 : K.lookup f3 = some ⟨oc3, od3, .func (PySem.W.fnOf "_law_whole" "_law_whole" (defArgs s__law_whole) (defBody s__law_whole) (defScope s__law_whole) .none kV3 dc3 pm3 an3 cd3 ct3), sl3⟩)
    (c3 : PySem.W.codeIn K cd3 "_law_whole" = true)
    (k3 : PySem.W.keepIn K (.ref f3) = true)
    (a4 : PySem.W.nsIn K mainGlobals "_law_common" = some (some (.ref f4)))
    (l4 : K.lookup f4 = some ⟨oc4, od4, .func (PySem.W.fnOf "_law_common" "_law_common" (defArgs s__law_common) (defBody s__law_common) (defScope s__law_common) .none kV4 dc4 pm4 an4 cd4 ct4), sl4⟩)
    (c4 : PySem.W.codeIn K cd4 "_law_common" = true)
    (k4 : PySem.W.keepIn K (.ref f4) = true)
    (a5 : PySem.W.nsIn K mainGlobals "_law_number" = some (some (.ref f5)))
    (l5 : K.lookup f5 = some ⟨oc5, od5, .func (PySem.W.fnOf "_law_number" "_law_number" (defArgs s__law_number) (defBody s__law_number) (defScope s__law_number) .none kV5 dc5 pm5 an5 cd5 ct5), sl5⟩)
    (c5 : PySem.W.codeIn K cd5 "_law_number" = true)
    (k5 : PySem.W.keepIn K (.ref f5) = true)
    (a6 : PySem.W.nsIn K mainGlobals "_law_refused" = some (some (.ref f6)))
    (l6 : K.lookup f6 = some ⟨oc6, od6, .func (PySem.W.fnOf "_law_refused" "_law_refused" (defArgs s__law_refused) (defBody s__law_refused) (defScope s__law_refused) .none kV6 dc6 pm6 an6 cd6 ct6), sl6⟩)
    (c6 : PySem.W.codeIn K cd6 "_law_refused" = true)
    (k6 : PySem.W.keepIn K (.ref f6) = true)
    (a7 : PySem.W.nsIn K mainGlobals "_law_is_spot" = some (some (.ref f7)))
    (l7 : K.lookup f7 = some ⟨oc7, od7, .func (PySem.W.fnOf "_law_is_spot" "_law_is_spot" (defArgs s__law_is_spot) (defBody s__law_is_spot) (defScope s__law_is_spot) .none kV7 dc7 pm7 an7 cd7 ct7), sl7⟩)
    (c7 : PySem.W.codeIn K cd7 "_law_is_spot" = true)
    (k7 : PySem.W.keepIn K (.ref f7) = true)
    (a8 : PySem.W.nsIn K mainGlobals "law" = some (some (.ref f8)))
    (l8 : K.lookup f8 = some ⟨oc8, od8, .func (PySem.W.fnOf "law" "law" (defArgs s_law) (defBody s_law) (defScope s_law) .none kV8 dc8 pm8 an8 cd8 ct8), sl8⟩)
    (c8 : PySem.W.codeIn K cd8 "law" = true)
    (k8 : PySem.W.keepIn K (.ref f8) = true)
    (zz_ValueError : PySem.W.nsIn K mainGlobals "ValueError" = some none)
    (zz_abs : PySem.W.nsIn K mainGlobals "abs" = some none)
    (zz_bool : PySem.W.nsIn K mainGlobals "bool" = some none)
    (zz_int : PySem.W.nsIn K mainGlobals "int" = some none)
    (zz_isinstance : PySem.W.nsIn K mainGlobals "isinstance" = some none)
    (zz_len : PySem.W.nsIn K mainGlobals "len" = some none)
    (zz_max : PySem.W.nsIn K mainGlobals "max" = some none)
    (zz_range : PySem.W.nsIn K mainGlobals "range" = some none)
    (zz_tuple : PySem.W.nsIn K mainGlobals "tuple" = some none)
    (hF : ∀ ns : List Int, ns.length ≤ 63 → F_law [.scr ns] = .ok (.bl true)) :
    ∃ fd : FuncData, (∀ (s : Shared) (v : Value), BindsTo s fd ⟨[v], []⟩ [("script", v)]) ∧ ∀ base : Heap, K.In base → base.Ns mainGlobals mg → FnOk l.prog w K mg base (L2.CX l.prog w) 4 fa fd ["script"] (spLaw K) := by
  have e := hfa.symm.trans (PySem.W.mg_of X G a8)
  cases e
  have T : Txt K mg C_Crowded C_Flat C_GlideError C_NoName C_NoNumber C_NoRow C_NoText C_Past C_Twice := ⟨PySem.W.mg_none_of X G zz_ValueError, PySem.W.mg_none_of X G zz_abs, PySem.W.mg_none_of X G zz_bool, PySem.W.mg_none_of X G zz_int, PySem.W.mg_none_of X G zz_isinstance, PySem.W.mg_none_of X G zz_len, PySem.W.mg_none_of X G zz_max, PySem.W.mg_none_of X G zz_range, PySem.W.mg_none_of X G zz_tuple, PySem.W.mg_of X G gC_Crowded, kC_Crowded, bC_Crowded, tC_Crowded, PySem.W.mg_of X G gC_Flat, kC_Flat, bC_Flat, tC_Flat, PySem.W.mg_of X G gC_GlideError, kC_GlideError, bC_GlideError, tC_GlideError, PySem.W.mg_of X G gC_NoName, kC_NoName, bC_NoName, tC_NoName, PySem.W.mg_of X G gC_NoNumber, xC_NoNumber, kC_NoNumber, bC_NoNumber, tC_NoNumber, PySem.W.mg_of X G gC_NoRow, kC_NoRow, bC_NoRow, tC_NoRow, PySem.W.mg_of X G gC_NoText, kC_NoText, bC_NoText, tC_NoText, PySem.W.mg_of X G gC_Past, kC_Past, bC_Past, tC_Past, PySem.W.mg_of X G gC_Twice, kC_Twice, bC_Twice, tC_Twice, PySem.W.exm_ref bC_GlideError hd_GlideError tC_GlideError sg_NoNumber, ⟨vg_NoNumber, vk_NoNumber, bC_NoNumber, hd_NoNumber, va_NoNumber, oN, oT, vm_NoNumber⟩, kit_ve sv_NoNumber, kit_sub su_NoNumber_Crowded hd_Crowded tC_Crowded ss_Crowded, kit_sub su_NoNumber_Flat hd_Flat tC_Flat ss_Flat, kit_sub su_NoNumber_NoName hd_NoName tC_NoName ss_NoName, kit_sub su_NoNumber_NoNumber hd_NoNumber tC_NoNumber ss_NoNumber, kit_sub su_NoNumber_NoRow hd_NoRow tC_NoRow ss_NoRow, kit_sub su_NoNumber_NoText hd_NoText tC_NoText ss_NoText, kit_sub su_NoNumber_Past hd_Past tC_Past ss_Past, kit_sub su_NoNumber_Twice hd_Twice tC_Twice ss_Twice⟩
  refine ⟨PySem.W.fnOf "law" "law" (defArgs s_law) (defBody s_law) (defScope s_law) .none kV8 dc8 pm8 an8 cd8 ct8, fun s v => .of_eq rfl, fun base _ _ => ?_⟩
  have h_divisor : FnD l.prog w K mg base 1 "divisor" ["one", "other"] F_divisor := fnd_mk (PySem.W.mg_of X G a0) k0 ((fun_mk (st := s_divisor) l0 c0 k0).binds (ps := ["one", "other"]) fun _ _ _ _ _ _ us hl => match us, hl with | [_, _], _ => rfl) (ok_divisor (fun_mk (st := s_divisor) l0 c0 k0) T)
  have h_spot : FnD l.prog w K mg base 2 "spot" ["x", "y", "w"] F_spot := fnd_mk (PySem.W.mg_of X G a1) k1 ((fun_mk (st := s_spot) l1 c1 k1).binds (ps := ["x", "y", "w"]) fun _ _ _ _ _ _ us hl => match us, hl with | [_, _, _], _ => rfl) (ok_spot (fun_mk (st := s_spot) l1 c1 k1) T h_divisor)
  have h__law_cell : FnD l.prog w K mg base 1 "_law_cell" ["script", "k"] F__law_cell := fnd_mk (PySem.W.mg_of X G a2) k2 ((fun_mk (st := s__law_cell) l2 c2 k2).binds (ps := ["script", "k"]) fun _ _ _ _ _ _ us hl => match us, hl with | [_, _], _ => rfl) (ok__law_cell (fun_mk (st := s__law_cell) l2 c2 k2) T)
  have h__law_whole : FnD l.prog w K mg base 1 "_law_whole" ["found"] F__law_whole := fnd_mk (PySem.W.mg_of X G a3) k3 ((fun_mk (st := s__law_whole) l3 c3 k3).binds (ps := ["found"]) fun _ _ _ _ _ _ us hl => match us, hl with | [_], _ => rfl) (ok__law_whole (fun_mk (st := s__law_whole) l3 c3 k3) T)
  have h__law_common : FnD l.prog w K mg base 1 "_law_common" ["one", "other"] F__law_common := fnd_mk (PySem.W.mg_of X G a4) k4 ((fun_mk (st := s__law_common) l4 c4 k4).binds (ps := ["one", "other"]) fun _ _ _ _ _ _ us hl => match us, hl with | [_, _], _ => rfl) (ok__law_common (fun_mk (st := s__law_common) l4 c4 k4) T)
  have h__law_number : FnD l.prog w K mg base 1 "_law_number" ["cell"] F__law_number := fnd_mk (PySem.W.mg_of X G a5) k5 ((fun_mk (st := s__law_number) l5 c5 k5).binds (ps := ["cell"]) fun _ _ _ _ _ _ us hl => match us, hl with | [_], _ => rfl) (ok__law_number (fun_mk (st := s__law_number) l5 c5 k5) T)
  have h__law_refused : FnD l.prog w K mg base 3 "_law_refused" ["x", "y", "w"] F__law_refused_v2 := fnd_mk (PySem.W.mg_of X G a6) k6 ((fun_mk (st := s__law_refused) l6 c6 k6).binds (ps := ["x", "y", "w"]) fun _ _ _ _ _ _ us hl => match us, hl with | [_, _, _], _ => rfl) (ok__law_refused (fun_mk (st := s__law_refused) l6 c6 k6) T h_spot)
  have h__law_is_spot : FnD l.prog w K mg base 2 "_law_is_spot" ["found"] F__law_is_spot := fnd_mk (PySem.W.mg_of X G a7) k7 ((fun_mk (st := s__law_is_spot) l7 c7 k7).binds (ps := ["found"]) fun _ _ _ _ _ _ us hl => match us, hl with | [_], _ => rfl) (ok__law_is_spot (fun_mk (st := s__law_is_spot) l7 c7 k7) T h__law_whole h__law_common)
  exact law_of (ok_law (fun_mk (st := s_law) l8 c8 k8) T h__law_cell h__law_number h_spot h__law_refused h__law_is_spot) hF
end Law

namespace Law
open PySem PySem.Spec PyProof.Rows L2 GD
local macro_rules | `(tactic| walk_at "gd") => `(tactic| simp (config := {failIfUnchanged := false}) only [runF, sSeq, sIf, sAsg, sRet, sRetN, sExpr, sNil, sRaise, sPar, sTgt, sFor, sForR, sWhile, eVar, eC, e1, e2, mB, aNil, aCons, eF, eB, eTup, aLst, eL, mNot, mAnd, mOr, eNot, eAnd, eOr, gNm, gTp, gsNil, gsCons, asL, asT,
  bind_ok, bind_er, bind_st, ofO_some, asB_bl, ofR_ok, ofR_er, dAdd_int, dSub_int, dNeg_int, dLt_int, dLe_int, dGt_int, dGe_int, dEq_int, dNe_int, dEq_bl, dMod_int, dDiv_lit, dMul_int, Int.reduceLT, Int.reduceEq, Int.cast_ofNat_Int, eq_self, line_le, Nat.reduceLeDiff,  dIs_non, dIsNot_non, dAt_t0, dAt_t1, dAt_t2, dAt_l0, dAt_l1, dAt_l2, dAt_l3, dAt_l4, dAt_l5, dAt_l6, dAt_l7, dAbs, dMax2, dMin2, dLen,
  List.getElem?_cons_zero, List.getElem?_cons_succ, List.set_cons_zero, List.set_cons_succ, List.map_cons, List.map_nil, List.length_cons, List.length_nil, List.cons_append, List.nil_append, List.replicate_succ, List.replicate_zero, Nat.reduceSub, Nat.reduceAdd,
  decide_eq_true_eq, Bool.not_eq_true', if_true, if_false, ite_true, ite_false, Option.bind_some, Option.map_some, Bool.not_true, Bool.not_false, reduceIte, Bool.false_eq_true, Bool.true_eq_false, decide_true, decide_false])
local macro_rules | `(tactic| walk_at "gdh") => `(tactic| simp (config := {failIfUnchanged := false}) only [runF, sSeq, sIf, sAsg, sRet, sRetN, sExpr, sNil, sRaise, sPar, sTgt, sFor, sForR, sWhile, eVar, eC, e1, e2, mB, aNil, aCons, eF, eB, eTup, aLst, eL, mNot, mAnd, mOr, eNot, eAnd, eOr, gNm, gTp, gsNil, gsCons, asL, asT,
  bind_ok, bind_er, bind_st, ofO_some, asB_bl, ofR_ok, ofR_er, dAdd_int, dSub_int, dNeg_int, dLt_int, dLe_int, dGt_int, dGe_int, dEq_int, dNe_int, dEq_bl, dMod_int, dDiv_lit, dMul_int, Int.reduceLT, Int.reduceEq, Int.cast_ofNat_Int, eq_self, line_le, Nat.reduceLeDiff,  dIs_non, dIsNot_non, dAt_t0, dAt_t1, dAt_t2, dAt_l0, dAt_l1, dAt_l2, dAt_l3, dAt_l4, dAt_l5, dAt_l6, dAt_l7, dAbs, dMax2, dMin2, dLen,
  List.getElem?_cons_zero, List.getElem?_cons_succ, List.set_cons_zero, List.set_cons_succ, List.map_cons, List.map_nil, List.length_cons, List.length_nil, List.cons_append, List.nil_append, List.replicate_succ, List.replicate_zero, Nat.reduceSub, Nat.reduceAdd,
  decide_eq_true_eq, Bool.not_eq_true', if_true, if_false, ite_true, ite_false, Option.bind_some, Option.map_some, Bool.not_true, Bool.not_false, reduceIte, Bool.false_eq_true, Bool.true_eq_false, decide_true, decide_false, *])
theorem refused_spec (x y : Int) : F__law_refused_v2 [.int x, .int y, .int 0] = .ok (.bl true) := by
  have e := spot_zero x y
  unfold F__law_refused_v2 b__law_refused_v2 sTry
  walk_at "gdh"
  rfl
theorem is_spot_spec {X Y V : Int} (hV : 0 < V) (hg : g3 X Y V = 1) : F__law_is_spot [D3 X Y V] = .ok (.bl true) := by
  unfold F__law_is_spot b__law_is_spot D3
  walk_at "gd"
  rw [isi_int _ _ _ _ rfl kb_tuple_tuple]
  walk_at "gd"
  have turn : ∀ (z : Int), l1__law_is_spot [.v (.tup [.int X, .int Y, .int V]), .v (.int z)] = .nx [.v (.tup [.int X, .int Y, .int V]), .v (.int z)] := by
    intro z
    unfold l1__law_is_spot
    walk_at "gd"
    rw [whole_int]
    walk_at "gd"
  rw [loop_cons rfl (turn X), loop_cons rfl (turn Y), loop_cons rfl (turn V), loop_nil]
  walk_at "gd"
  rw [common_eq]
  walk_at "gd"
  rw [common_eq, show Int.gcd (Int.gcd X Y : Int) V = g3 X Y V from rfl, hg]
  walk_at "gdh"
def InvL (ns : List Int) (ρ : En) : Prop := ∃ b c d e f g h i j k, ρ = [.v (.scr ns), b, c, d, e, f, g, h, i, j, k]
theorem rest_spec (ns : List Int) (b d e f g h i j k : Sl) (x y w : Int) (hx : Bd 400 x) (hy : Bd 400 y) (hw : Bd 400 w) :
    ∃ ρ2, (sSeq (sFrz 2 (sTgt (gLs (gsCons (gNm 7) (gsCons (gNm 8) (gsCons (gNm 9) (gsNil))))) (eVar 2))) (sIf (mB (e2 dEq (eVar 9) (eC (.int 0)))) (sIf (mNot (mB (eF F__law_refused_v2 (aCons (eVar 7) (aCons (eVar 8) (aCons (eVar 9) (aNil))))))) (sRet (eC (.bl false))) (sNil)) (sSeq (sAsg 10 (eF F_spot (aCons (eVar 7) (aCons (eVar 8) (aCons (eVar 9) (aNil)))))) (sIf (mOr (mNot (mB (eF F__law_is_spot (aCons (eVar 10) (aNil))))) (mOr (mB (e2 dNe (e2 dMul (e2 dAt (eVar 10) (eC (.int 0))) (eVar 9)) (e2 dMul (eVar 7) (e2 dAt (eVar 10) (eC (.int 2)))))) (mB (e2 dNe (e2 dMul (e2 dAt (eVar 10) (eC (.int 1))) (eVar 9)) (e2 dMul (eVar 8) (e2 dAt (eVar 10) (eC (.int 2)))))))) (sRet (eC (.bl false))) (sNil))))) [.v (.scr ns), b, .l [.int x, .int y, .int w], d, e, f, g, h, i, j, k] = .nx ρ2 ∧ InvL ns ρ2 := by
  have r0 := refused_spec x y
  unfold sFrz frz gLs
  by_cases h0 : w = 0
  · subst h0
    refine ⟨_, by walk_at "gdh"; rfl, ?_⟩
    exact ⟨_, _, _, _, _, _, _, _, _, _, rfl⟩
  · have e := spot_eq (x := x) (y := y) h0 (hw.mono (by decide))
    have l := is_spot_spec (sW_pos (x := x) (y := y) h0) (s_gcd h0)
    obtain ⟨q1, q2⟩ := s_eq (x := x) (y := y) h0
    have m1 : mulOk (sX x y w) w := mok (bd_sX hx) hw (by decide)
    have m2 : mulOk x (sW x y w) := mok hx (bd_sW hw) (by decide)
    have m3 : mulOk (sY x y w) w := mok (bd_sY hy) hw (by decide)
    have m4 : mulOk y (sW x y w) := mok hy (bd_sW hw) (by decide)
    have a0 : dAt (sp x y w) (.int 0) = some (.int (sX x y w)) := rfl
    have a1 : dAt (sp x y w) (.int 1) = some (.int (sY x y w)) := rfl
    have a2 : dAt (sp x y w) (.int 2) = some (.int (sW x y w)) := rfl
    change F__law_is_spot [sp x y w] = _ at l
    refine ⟨_, by walk_at "gdh"; rfl, ?_⟩
    exact ⟨_, _, _, _, _, _, _, _, _, _, rfl⟩
theorem three_spec (ns : List Int) (k : Int) (h0 : 0 ≤ k) (hk : k < 100) {ρ : En} (e0 : ρ[0]? = some (.v (.scr ns))) (e1 : ρ[1]? = some (.v (.int k))) (hl : ρ.length = 11) : ∃ a b c : Int, Bd 200 a ∧ Bd 200 b ∧ Bd 200 c ∧ lcGo (gNm 3) mYes (eF F__law_number (aCons (eF F__law_cell (aCons (eVar 0) (aCons (e2 dAdd (eVar 1) (eVar 3)) (aNil)))) (aNil))) (rg 0 1 3) ρ = .ok [.int a, .int b, .int c] := by
  obtain ⟨xs, e, l, hp⟩ := lc_ex (g := gNm 3) (ρ := ρ) (m := eF F__law_number (aCons (eF F__law_cell (aCons (eVar 0) (aCons (e2 dAdd (eVar 1) (eVar 3)) (aNil)))) (aNil))) (P := fun _ x => ∃ c : Int, Bd 200 c ∧ x = .int c) (rg 0 1 3) (fun d hd => by
    obtain ⟨i, h1, rfl⟩ := mem_rg hd
    obtain ⟨c, _, _, ec⟩ := cell_spec ns (k + (0 + (i : Nat) * 1)) (by omega) (by omega)
    obtain ⟨n, bn, en⟩ := number_spec c
    refine ⟨_, .int n, rfl, ?_, n, bn, rfl⟩
    have s0 : (List.set ρ 3 (Sl.v (.int (0 + (i : Nat) * 1))))[0]? = some (.v (.scr ns)) := by
      rw [List.getElem?_set_ne (by decide)]; exact e0
    have s1 : (List.set ρ 3 (Sl.v (.int (0 + (i : Nat) * 1))))[1]? = some (.v (.int k)) := by
      rw [List.getElem?_set_ne (by decide)]; exact e1
    have s3 : (List.set ρ 3 (Sl.v (.int (0 + (i : Nat) * 1))))[3]? = some (.v (.int (0 + (i : Nat) * 1))) := by
      rw [List.getElem?_set_self (by omega)]
    simp only [eF, aCons, aNil, eVar, e2, s0, s1, s3, bind_ok, ofO_some, dAdd_int, ec]
    exact en)
  have l8 : xs.length = 3 := l
  match xs, l8 with
  | [a, b, c], _ =>
    obtain ⟨a, ba, rfl⟩ := hp 0 _ _ rfl rfl
    obtain ⟨b, bb, rfl⟩ := hp 1 _ _ rfl rfl
    obtain ⟨c, bc, rfl⟩ := hp 2 _ _ rfl rfl
    exact ⟨a, b, c, ba, bb, bc, by assumption⟩
theorem lc_cons {g : D → En → Option En} {m : EM} {ρ ρ1 : En} {d x : D} {r xs : List D} (h1 : g d ρ = some ρ1) (h2 : m ρ1 = .ok x) (h3 : lcGo g mYes m r ρ = .ok xs) : lcGo g mYes m (d :: r) ρ = .ok (x :: xs) := by
  unfold lcGo
  rw [h1]
  show (noEr (R.ok true)).bind (fun b => if b = true then (noEr (m ρ1)).bind fun x => (lcGo g mYes m r ρ).bind fun xs => .ok (x :: xs) else lcGo g mYes m r ρ) = _
  rw [h2, h3]
  rfl
theorem turn (ns : List Int) (k : Int) (h0 : 0 ≤ k) (hk : k < 100) (b c d e f g h i j : Sl) : ∃ ρ2, l1_law [.v (.scr ns), .v (.int k), b, c, d, e, f, g, h, i, j] = .nx ρ2 ∧ InvL ns ρ2 := by
  obtain ⟨x, y, w, bx, bY, bw, ec⟩ := three_spec ns k h0 hk (ρ := [.v (.scr ns), .v (.int k), b, .un, d, e, f, g, h, i, j]) rfl rfl rfl
  obtain ⟨c3, _, _, e3⟩ := cell_spec ns (k + 3) (by omega) (by omega)
  have hr : dRange [.int 3] = some (rg 0 1 3) := rfl
  have hr8 : ((rg 0 1 3).length ≤ sizeLine) = True := eq_true (by rw [sizeLine_eq]; decide)
  have hwp : wipeE [3] [.v (.scr ns), .v (.int k), b, c, d, e, f, g, h, i, j] = [.v (.scr ns), .v (.int k), b, .un, d, e, f, g, h, i, j] := rfl
  have bm : Bd 64 (c3 / 21 % 1000000000000000000 + 1) := Bd.of_range (by have := Int.emod_nonneg (c3 / 21) (show (1000000000000000000 : Int) ≠ 0 by decide); omega) (by have := Int.emod_lt_of_pos (c3 / 21) (show (0 : Int) < 1000000000000000000 by decide); omega)
  have b40 : ∀ z : Int, Bd 140 (z % 10000000000000000000000000000000000000000) := fun z => Bd.of_range (Int.emod_nonneg _ (by decide)) (Int.lt_trans (Int.emod_lt_of_pos z (by decide)) (by decide))
  have key : ∀ (f' g' : Sl) (x y w : Int), Bd 400 x → Bd 400 y → Bd 400 w → ∃ ρ2, (sSeq (sIf (mB (e2 dEq (e2 dMod (e2 dDiv (eVar 4) (eC (.int 3))) (eC (.int 7))) (eC (.int 1)))) (sPut 2 (eC (.int 2)) (eC (.int 0))) (sNil)) (sSeq (sFrz 2 (sTgt (gLs (gsCons (gNm 7) (gsCons (gNm 8) (gsCons (gNm 9) (gsNil))))) (eVar 2))) (sIf (mB (e2 dEq (eVar 9) (eC (.int 0)))) (sIf (mNot (mB (eF F__law_refused_v2 (aCons (eVar 7) (aCons (eVar 8) (aCons (eVar 9) (aNil))))))) (sRet (eC (.bl false))) (sNil)) (sSeq (sAsg 10 (eF F_spot (aCons (eVar 7) (aCons (eVar 8) (aCons (eVar 9) (aNil)))))) (sIf (mOr (mNot (mB (eF F__law_is_spot (aCons (eVar 10) (aNil))))) (mOr (mB (e2 dNe (e2 dMul (e2 dAt (eVar 10) (eC (.int 0))) (eVar 9)) (e2 dMul (eVar 7) (e2 dAt (eVar 10) (eC (.int 2)))))) (mB (e2 dNe (e2 dMul (e2 dAt (eVar 10) (eC (.int 1))) (eVar 9)) (e2 dMul (eVar 8) (e2 dAt (eVar 10) (eC (.int 2)))))))) (sRet (eC (.bl false))) (sNil)))))) [.v (.scr ns), .v (.int k), .l [.int x, .int y, .int w], c, .v (.int c3), f', g', g, h, i, j] = .nx ρ2 ∧ InvL ns ρ2 := by
    intro f' g' x y w hx hy hw
    by_cases h7 : c3 / 3 % 7 = 1
    · obtain ⟨ρ2, q1, q2⟩ := rest_spec ns (.v (.int k)) c (.v (.int c3)) f' g' g h i j x y 0 hx hy ((show Bd 1 0 by decide).mono (by decide))
      refine ⟨ρ2, ?_, q2⟩
      rw [← q1]
      have ix : putD [.int x, .int y, .int w] (.int 2) (.int 0) = some [.int x, .int y, .int 0] := rfl
      rw [show ∀ (a b : SM) (ρ : En), sSeq a b ρ = match a ρ with | .nx ρ' => b ρ' | o => o from fun _ _ _ => rfl]
      clear q1 hx hy hw bm b40
      simp only [sIf, mB, e2, eVar, eC, bind_ok, ofO_some, ofR_ok, dEq_int, dMod_int, dDiv_lit, Int.reduceLT, h7, asB_bl, decide_true, if_true, sPut, ix, List.getElem?_cons_zero, List.getElem?_cons_succ, List.set_cons_zero, List.set_cons_succ]
    · obtain ⟨ρ2, q1, q2⟩ := rest_spec ns (.v (.int k)) c (.v (.int c3)) f' g' g h i j x y w hx hy hw
      refine ⟨ρ2, ?_, q2⟩
      rw [← q1]
      rw [show ∀ (a b : SM) (ρ : En), sSeq a b ρ = match a ρ with | .nx ρ' => b ρ' | o => o from fun _ _ _ => rfl]
      clear q1 hx hy hw bm b40
      simp only [sIf, mB, e2, eVar, eC, bind_ok, ofO_some, ofR_ok, dEq_int, dMod_int, dDiv_lit, Int.reduceLT, h7, asB_bl, decide_false, Bool.false_eq_true, if_false, sNil, List.getElem?_cons_zero, List.getElem?_cons_succ]
  unfold l1_law
  by_cases h1 : c3 % 3 = 1
  · have m1 : ∀ z : Int, mulOk (z % 10000000000000000000000000000000000000000) (c3 / 21 % 1000000000000000000 + 1) := fun z => mok (b40 z) bm (by decide)
    obtain ⟨ρ2, q1, q2⟩ := key (.v (.int (c3 / 21 % 1000000000000000000 + 1))) f _ _ _ (((b40 x).mul bm).mono (by decide)) (((b40 y).mul bm).mono (by decide)) (((b40 w).mul bm).mono (by decide))
    refine ⟨ρ2, ?_, q2⟩
    rw [← q1]
    have one : ∀ (z : Int) (ρ : En), ρ.length = 11 → ρ[5]? = some (.v (.int (c3 / 21 % 1000000000000000000 + 1))) → gNm 6 (.int z) ρ = some (ρ.set 6 (.v (.int z))) ∧ (e2 dMul (e2 dMod (eVar 6) (eC (.int 10000000000000000000000000000000000000000))) (eVar 5)) (ρ.set 6 (.v (.int z))) = .ok (.int (z % 10000000000000000000000000000000000000000 * (c3 / 21 % 1000000000000000000 + 1))) := by
      intro z ρ hρ h5
      refine ⟨rfl, ?_⟩
      have s5 : (List.set ρ 6 (Sl.v (.int z)))[5]? = some (.v (.int (c3 / 21 % 1000000000000000000 + 1))) := by
        rw [List.getElem?_set_ne (by decide)]; exact h5
      have s6 : (List.set ρ 6 (Sl.v (.int z)))[6]? = some (.v (.int z)) := by
        rw [List.getElem?_set_self (by omega)]
      have := m1 z
      simp only [e2, eVar, eC, s5, s6, bind_ok, ofO_some, dMod_int, Int.reduceLT, dMul_int, this]
    have lc3 : ∀ (ρ : En), ρ.length = 11 → ρ[5]? = some (.v (.int (c3 / 21 % 1000000000000000000 + 1))) → lcGo (gNm 6) mYes (e2 dMul (e2 dMod (eVar 6) (eC (.int 10000000000000000000000000000000000000000))) (eVar 5)) [.int x, .int y, .int w] ρ = .ok [.int (x % 10000000000000000000000000000000000000000 * (c3 / 21 % 1000000000000000000 + 1)), .int (y % 10000000000000000000000000000000000000000 * (c3 / 21 % 1000000000000000000 + 1)), .int (w % 10000000000000000000000000000000000000000 * (c3 / 21 % 1000000000000000000 + 1))] := fun ρ hρ h5 =>
      lc_cons (one x ρ hρ h5).1 (one x ρ hρ h5).2 (lc_cons (one y ρ hρ h5).1 (one y ρ hρ h5).2 (lc_cons (one w ρ hρ h5).1 (one w ρ hρ h5).2 rfl))
    have e9 := lc3 [.v (.scr ns), .v (.int k), .v (.lst [.int x, .int y, .int w]), c, .v (.int c3), .v (.int (c3 / 21 % 1000000000000000000 + 1)), .un, g, h, i, j] rfl rfl
    have hw6 : wipeE [6] [.v (.scr ns), .v (.int k), .v (.lst [.int x, .int y, .int w]), c, .v (.int c3), .v (.int (c3 / 21 % 1000000000000000000 + 1)), f, g, h, i, j] = [.v (.scr ns), .v (.int k), .v (.lst [.int x, .int y, .int w]), c, .v (.int c3), .v (.int (c3 / 21 % 1000000000000000000 + 1)), .un, g, h, i, j] := rfl
    have hl3 : ([D.int x, D.int y, D.int w].length ≤ sizeLine) = True := eq_true (by rw [sizeLine_eq]; exact (by decide : 3 ≤ 16777216))
    clear q1 key bx bY bw bm b40 m1 one lc3
    generalize rg 0 1 3 = rr at *
    rw [show ∀ (a b : SM) (ρ : En), sSeq a b ρ = match a ρ with | .nx ρ' => b ρ' | o => o from fun _ _ _ => rfl]
    simp only [sOwn, aLcR, aCons, aNil, eC, bind_ok, ofO_some, hr, hr8, if_true, hwp, ec, ofR_ok, List.set_cons_zero, List.set_cons_succ]
    rw [show ∀ (a b : SM) (ρ : En), sSeq a b ρ = match a ρ with | .nx ρ' => b ρ' | o => o from fun _ _ _ => rfl]
    simp only [sAsg, eF, aCons, aNil, e2, eVar, eC, bind_ok, ofO_some, dAdd_int, e3, ofR_ok, List.set_cons_zero, List.set_cons_succ, List.getElem?_cons_zero, List.getElem?_cons_succ]
    rw [show ∀ (a b : SM) (ρ : En), sSeq a b ρ = match a ρ with | .nx ρ' => b ρ' | o => o from fun _ _ _ => rfl]
    have d3 : dMod (.int c3) (.int 3) = some (.int (c3 % 3)) := dMod_int (by decide)
    have d4 : dDiv (.int c3) (.int 21) = some (.int (c3 / 21)) := dDiv_lit (by decide) (by decide)
    have d5 : dMod (.int (c3 / 21)) (.int 1000000000000000000) = some (.int (c3 / 21 % 1000000000000000000)) := dMod_int (by decide)
    simp only [sIf, mB, e2, eVar, eC, bind_ok, ofO_some, ofR_ok, dEq_int, d3, h1, asB_bl, decide_true, if_true, List.getElem?_cons_zero, List.getElem?_cons_succ]
    rw [show ∀ (a b : SM) (ρ : En), sSeq a b ρ = match a ρ with | .nx ρ' => b ρ' | o => o from fun _ _ _ => rfl]
    simp only [sAsg, e2, eVar, eC, d4, d5, dAdd_int, bind_ok, ofO_some, ofR_ok, List.set_cons_zero, List.set_cons_succ, List.getElem?_cons_zero, List.getElem?_cons_succ]
    simp only [sFrz, frz, sOwn, aLc, eVar, asL, bind_ok, ofO_some, ofR_ok, List.set_cons_zero, List.set_cons_succ, List.getElem?_cons_zero, List.getElem?_cons_succ, hl3, if_true, hw6]
    simp only [e9, ofR_ok, List.set_cons_zero, List.set_cons_succ]
  · obtain ⟨ρ2, q1, q2⟩ := key e f _ _ _ (bx.mono (by decide)) (bY.mono (by decide)) (bw.mono (by decide))
    refine ⟨ρ2, ?_, q2⟩
    rw [← q1]
    clear q1 key bx bY bw bm b40
    generalize rg 0 1 3 = rr at *
    rw [show ∀ (a b : SM) (ρ : En), sSeq a b ρ = match a ρ with | .nx ρ' => b ρ' | o => o from fun _ _ _ => rfl]
    simp only [sOwn, aLcR, aCons, aNil, eC, bind_ok, ofO_some, hr, hr8, if_true, hwp, ec, ofR_ok, List.set_cons_zero, List.set_cons_succ]
    rw [show ∀ (a b : SM) (ρ : En), sSeq a b ρ = match a ρ with | .nx ρ' => b ρ' | o => o from fun _ _ _ => rfl]
    simp only [sAsg, eF, aCons, aNil, e2, eVar, eC, bind_ok, ofO_some, dAdd_int, e3, ofR_ok, List.set_cons_zero, List.set_cons_succ, List.getElem?_cons_zero, List.getElem?_cons_succ]
    rw [show ∀ (a b : SM) (ρ : En), sSeq a b ρ = match a ρ with | .nx ρ' => b ρ' | o => o from fun _ _ _ => rfl]
    have d3 : dMod (.int c3) (.int 3) = some (.int (c3 % 3)) := dMod_int (by decide)
    simp only [sIf, mB, e2, eVar, eC, bind_ok, ofO_some, ofR_ok, dEq_int, d3, h1, asB_bl, decide_false, Bool.false_eq_true, if_false, sNil, List.getElem?_cons_zero, List.getElem?_cons_succ]
theorem law_true (ns : List Int) (hl : ns.length ≤ 63) : F_law [.scr ns] = .ok (.bl true) := by
  unfold F_law b_law
  walk_at "gd"
  obtain ⟨n, hn, hi⟩ := dRange3 (a := 0) (j := max 1 (ns.length : Int)) (c := 4) (by decide) (by decide) (by omega) (by omega) (by decide) (by decide)
  rw [hn]
  walk_at "gd"
  obtain ⟨ρ', e, _⟩ := loop_inv (g := gNm 1) (body := l1_law) (InvL ns) (rg 0 4 n) (fun d hd ρ hρ => by
    obtain ⟨i, h1, rfl⟩ := mem_rg hd
    obtain ⟨_, _, _, _, _, _, _, _, _, _, rfl⟩ := hρ
    have := hi i h1
    obtain ⟨ρ2, h2, h3⟩ := turn ns (0 + (i : Nat) * 4) (by omega) (by omega) _ _ _ _ _ _ _ _ _
    exact ⟨_, ρ2, rfl, h2, h3⟩) [.v (.scr ns), .un, .un, .un, .un, .un, .un, .un, .un, .un, .un] ⟨_, _, _, _, _, _, _, _, _, _, rfl⟩
  rw [e]
end Law

open PySem PySem.W PyProof.Rows in
set_option maxRecDepth 100000 in
set_option maxHeartbeats 0 in
theorem PySem.Challenge.cw_glide_k04_a_spot_holds : PySem.Challenge.rw_glide_k04_a_spot.Holds := by
  w_on; o_law; k_head; (case hw => w_witness2)
  k_fill
  refine GD.walk (l := PySem.Challenge.rw_glide_k04_a_spot) (k := 4) rfl rfl ⟨rfl, by decide, by decide⟩ (fun w h Y => PySem.W.kIn_of Y) ?F
  case F =>
    intro w mg fa h KX G hmg
    refine' Law.all_mk KX G hmg ?gC_Crowded ?kC_Crowded ?bC_Crowded ?tC_Crowded ?gC_Flat ?kC_Flat ?bC_Flat ?tC_Flat ?gC_GlideError ?kC_GlideError ?bC_GlideError ?tC_GlideError ?gC_NoName ?kC_NoName ?bC_NoName ?tC_NoName ?gC_NoNumber ?xC_NoNumber ?kC_NoNumber ?bC_NoNumber ?tC_NoNumber ?gC_NoRow ?kC_NoRow ?bC_NoRow ?tC_NoRow ?gC_NoText ?kC_NoText ?bC_NoText ?tC_NoText ?gC_Past ?kC_Past ?bC_Past ?tC_Past ?gC_Twice ?kC_Twice ?bC_Twice ?tC_Twice ?sg_NoNumber ?hd_Crowded ?hd_Flat ?hd_GlideError ?hd_NoName ?hd_NoNumber ?hd_NoRow ?hd_NoText ?hd_Past ?hd_Twice ?oN ?oT ?vg_NoNumber ?vk_NoNumber ?va_NoNumber ?vm_NoNumber ?sv_NoNumber ?su_NoNumber_Crowded ?su_NoNumber_Flat ?su_NoNumber_NoName ?su_NoNumber_NoNumber ?su_NoNumber_NoRow ?su_NoNumber_NoText ?su_NoNumber_Past ?su_NoNumber_Twice ?ss_Crowded ?ss_Flat ?ss_NoName ?ss_NoNumber ?ss_NoRow ?ss_NoText ?ss_Past ?ss_Twice ?a0 ?l0 ?c0 ?k0 ?a1 ?l1 ?c1 ?k1 ?a2 ?l2 ?c2 ?k2 ?a3 ?l3 ?c3 ?k3 ?a4 ?l4 ?c4 ?k4 ?a5 ?l5 ?c5 ?k5 ?a6 ?l6 ?c6 ?k6 ?a7 ?l7 ?c7 ?k7 ?a8 ?l8 ?c8 ?k8 ?zz_ValueError ?zz_abs ?zz_bool ?zz_int ?zz_isinstance ?zz_len ?zz_max ?zz_range ?zz_tuple Law.law_true
    (case gC_Crowded => k_is)
    (case kC_Crowded => k_is)
    (case bC_Crowded => k_is)
    (case tC_Crowded => k_is)
    (case gC_Flat => k_is)
    (case kC_Flat => k_is)
    (case bC_Flat => k_is)
    (case tC_Flat => k_is)
    (case gC_GlideError => k_is)
    (case kC_GlideError => k_is)
    (case bC_GlideError => k_is)
    (case tC_GlideError => k_is)
    (case gC_NoName => k_is)
    (case kC_NoName => k_is)
    (case bC_NoName => k_is)
    (case tC_NoName => k_is)
    (case gC_NoNumber => k_is)
    (case xC_NoNumber => k_exc)
    (case kC_NoNumber => k_is)
    (case bC_NoNumber => k_is)
    (case tC_NoNumber => k_is)
    (case gC_NoRow => k_is)
    (case kC_NoRow => k_is)
    (case bC_NoRow => k_is)
    (case tC_NoRow => k_is)
    (case gC_NoText => k_is)
    (case kC_NoText => k_is)
    (case bC_NoText => k_is)
    (case tC_NoText => k_is)
    (case gC_Past => k_is)
    (case kC_Past => k_is)
    (case bC_Past => k_is)
    (case tC_Past => k_is)
    (case gC_Twice => k_is)
    (case kC_Twice => k_is)
    (case bC_Twice => k_is)
    (case tC_Twice => k_is)
    (case sg_NoNumber => k_is)
    (case hd_Crowded => k_is)
    (case hd_Flat => k_is)
    (case hd_GlideError => k_is)
    (case hd_NoName => k_is)
    (case hd_NoNumber => k_is)
    (case hd_NoRow => k_is)
    (case hd_NoText => k_is)
    (case hd_Past => k_is)
    (case hd_Twice => k_is)
    (case oN => k_is)
    (case oT => k_is)
    (case vg_NoNumber => k_is)
    (case vk_NoNumber => k_is)
    (case va_NoNumber => k_is)
    (case vm_NoNumber => k_is)
    (case sv_NoNumber => k_is)
    (case su_NoNumber_Crowded => k_is)
    (case su_NoNumber_Flat => k_is)
    (case su_NoNumber_NoName => k_is)
    (case su_NoNumber_NoNumber => k_is)
    (case su_NoNumber_NoRow => k_is)
    (case su_NoNumber_NoText => k_is)
    (case su_NoNumber_Past => k_is)
    (case su_NoNumber_Twice => k_is)
    (case ss_Crowded => k_is)
    (case ss_Flat => k_is)
    (case ss_NoName => k_is)
    (case ss_NoNumber => k_is)
    (case ss_NoRow => k_is)
    (case ss_NoText => k_is)
    (case ss_Past => k_is)
    (case ss_Twice => k_is)
    (case a0 => k_is)
    (case l0 => k_is)
    (case c0 => k_is)
    (case k0 => k_is)
    (case a1 => k_is)
    (case l1 => k_is)
    (case c1 => k_is)
    (case k1 => k_is)
    (case a2 => k_is)
    (case l2 => k_is)
    (case c2 => k_is)
    (case k2 => k_is)
    (case a3 => k_is)
    (case l3 => k_is)
    (case c3 => k_is)
    (case k3 => k_is)
    (case a4 => k_is)
    (case l4 => k_is)
    (case c4 => k_is)
    (case k4 => k_is)
    (case a5 => k_is)
    (case l5 => k_is)
    (case c5 => k_is)
    (case k5 => k_is)
    (case a6 => k_is)
    (case l6 => k_is)
    (case c6 => k_is)
    (case k6 => k_is)
    (case a7 => k_is)
    (case l7 => k_is)
    (case c7 => k_is)
    (case k7 => k_is)
    (case a8 => k_is)
    (case l8 => k_is)
    (case c8 => k_is)
    (case k8 => k_is)
    (case zz_ValueError => k_is)
    (case zz_abs => k_is)
    (case zz_bool => k_is)
    (case zz_int => k_is)
    (case zz_isinstance => k_is)
    (case zz_len => k_is)
    (case zz_max => k_is)
    (case zz_range => k_is)
    (case zz_tuple => k_is)
