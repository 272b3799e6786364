import PyProof.Rows.All
import Wide.All
import OpenK.AllK
import Wide.FinOn
import HandS.ForMost
import HandS.ForExc
import HandS.Wide
import HandS.IsInst
import HandS.ExcValue
import HandS.ExcIs
import HandS.Flow
import HandS.More
import HandS.TryOnly
import HandS.SortRule
import HandS.Conv
import HandS.Small
import KE.KDictSum
import HandS.Rev
import HandS.Iter
import HandS.Deep
import HandS.TupLe
import HandS.Text
import HandS.Walk
import PyProof.Rows.StrMul
import KE.IntTextText
import PySem.Challenge.RW_glide_k46_numbers_and_portions_read
set_option Elab.async false
set_option linter.all false
set_option maxRecDepth 100000
set_option maxHeartbeats 4000000
/-! GD, part a: plain data over the hand layer; what an environment holds; the judgements; expressions and statements. -/
namespace GD
open PySem PySem.Spec PyProof.Rows L2

/-! ### data -/
/-- what a Python value is worth, without addresses; scr: the script; exc: an error of the program's class of that name; obj: an instance that stays as it was made -/
inductive D where
  | non
  | bl (b : Bool)
  | int (i : Int)
  | str (x : Str)
  | tup (ds : List D)
  | lst (ds : List D)
  | scr (ns : List Int)
  | dct (ks : List Key) (ds : List D)
  | exc (x : Str)
  | ty (n : String)
  | cls (x : Str)
  | obj (x : Str) (ns : List Str) (ds : List D)

/-- an error that was caught, of the class cls, at a -/
def ExK (cls : Value) (a : Addr) : HO := .ext fun h => ∃ (oe : Obj) (vs : Array Value), h.get? a = some oe ∧ Zc cls none oe ∧ oe.data = .fields vs
/-- a tuple that the start knows, of three ints -/
def KT3 (K : PySem.W.Frag) (a : Addr) (x y z : Int) : Prop := ∃ (o : Obj) (its : Array Value) (n : Nat), K.lookup a = some o ∧ o.cls = .type "tuple" ∧ o.data = .seq its n ∧ its.size ≤ sizeLine ∧ Vals [.int x, .int y, .int z] its.toList
section
variable (K : PySem.W.Frag) (mg : Str → Option Value) (B : Hp)
mutual
/-- the value stands for the data, by the clean heap B -/
inductive Is : V → D → Prop
  | non : Is .non .non
  | bl (b : Bool) : Is (.bl b) (.bl b)
  | int (i : Int) : Is (.int i) (.int i)
  | str (x : Str) : Is (.str x) (.str x)
  | tup {a : Addr} {xs : List V} {ds : List D} (h : B a = some (.tup xs)) (r : IsL xs ds) : Is (.ref a) (.tup ds)
  | tup3 {a : Addr} {x y z : Int} (h : KT3 K a x y z) : Is (.ref a) (.tup [.int x, .int y, .int z])
  | lst {a : Addr} {xs : List V} {ds : List D} (h : B a = some (.lst xs)) (r : IsL xs ds) : Is (.ref a) (.lst ds)
  | scr {a : Addr} {ns : List Int} (h : SqL K B a (ns.map V.int)) : Is (.ref a) (.scr ns)
  | dct {a : Addr} {kvs : List (Key × V)} {ks : List Key} {ds : List D} (h : B a = some (.dK kvs)) (hk : kvs.map (·.1) = ks) (r : IsL (kvs.map (·.2)) ds) : Is (.ref a) (.dct ks ds)
  | exc {a : Addr} {x : Str} {cls : Value} (hc : mg x = some cls) (h : B a = some (ExK cls a)) : Is (.ref a) (.exc x)
  | ty (n : String) : Is (.ty n) (.ty n)
  | cls {a : Addr} {x : Str} (h : mg x = some (.ref a)) : Is (.ref a) (.cls x)
  | obj {a C dx : Addr} {x : Str} {fs : List (Str × V)} {ns : List Str} {ds : List D} (hc : mg x = some (.ref C)) (h : B a = some (.ins C dx fs)) (hk : fs.map (·.1) = ns) (r : IsL (fs.map (·.2)) ds) : Is (.ref a) (.obj x ns ds)
inductive IsL : List V → List D → Prop
  | nil : IsL [] []
  | cons {v : V} {vs : List V} {d : D} {ds : List D} (h : Is v d) (r : IsL vs ds) : IsL (v :: vs) (d :: ds)
end
end

theorem seqT {K : PySem.W.Frag} {H H' : Hp} {a : Addr} {xs : List V} (e : Same H H') (h : SqT K H a xs) : SqT K H' a xs := by
  rcases h with (h | ⟨o, h⟩) | h
  · exact .inl (.inl (e _ _ h))
  · exact .inl (.inr ⟨o, e _ _ h⟩)
  · exact .inr h

section
variable {K : PySem.W.Frag} {mg : Str → Option Value} {B B' : Hp}
mutual
theorem Is.mono (e : Same B B') : ∀ {v : V} {d : D}, Is K mg B v d → Is K mg B' v d
  | _, _, .non => .non
  | _, _, .bl b => .bl b
  | _, _, .int i => .int i
  | _, _, .str x => .str x
  | _, _, .tup h r => .tup (e _ _ h) (IsL.mono e r)
  | _, _, .tup3 h => .tup3 h
  | _, _, .lst h r => .lst (e _ _ h) (IsL.mono e r)
  | _, _, .scr h => .scr (e.seq h)
  | _, _, .dct h k r => .dct (e _ _ h) k (IsL.mono e r)
  | _, _, .exc c h => .exc c (e _ _ h)
  | _, _, .ty n => .ty n
  | _, _, .cls h => .cls h
  | _, _, .obj c h k r => .obj c (e _ _ h) k (IsL.mono e r)
theorem IsL.mono (e : Same B B') : ∀ {vs : List V} {ds : List D}, IsL K mg B vs ds → IsL K mg B' vs ds
  | _, _, .nil => .nil
  | _, _, .cons h r => .cons (Is.mono e h) (IsL.mono e r)
end
theorem IsL.length : ∀ {vs : List V} {ds : List D}, IsL K mg B vs ds → vs.length = ds.length
  | _, _, .nil => rfl
  | _, _, .cons _ r => congrArg (· + 1) (IsL.length r)
theorem IsL.get : ∀ {vs : List V} {ds : List D} {i : Nat} {d : D}, IsL K mg B vs ds → ds[i]? = some d → ∃ v, vs[i]? = some v ∧ Is K mg B v d
  | _, _, _, _, .nil, e => by simp at e
  | _, _, 0, d, .cons h _, e => by
    simp at e
    subst e
    exact ⟨_, rfl, h⟩
  | _, _, i + 1, d, .cons _ r, e => by
    obtain ⟨v, h1, h2⟩ := IsL.get (i := i) (d := d) r (by simpa using e)
    exact ⟨v, by simpa using h1, h2⟩
theorem IsL.at : ∀ {vs : List V} {ds : List D} {i : Nat} {v : V}, IsL K mg B vs ds → vs[i]? = some v → ∃ d, ds[i]? = some d ∧ Is K mg B v d
  | _, _, _, _, .nil, e => by simp at e
  | _, _, 0, v, .cons h _, e => by
    simp at e
    subst e
    exact ⟨_, rfl, h⟩
  | _, _, i + 1, v, .cons _ r, e => by
    obtain ⟨d, h1, h2⟩ := IsL.at (i := i) (v := v) r (by simpa using e)
    exact ⟨d, by simpa using h1, h2⟩
theorem IsL.append : ∀ {vs ws : List V} {ds es : List D}, IsL K mg B vs ds → IsL K mg B ws es → IsL K mg B (vs ++ ws) (ds ++ es)
  | _, _, _, _, .nil, s => s
  | _, _, _, _, .cons h r, s => .cons h (IsL.append r s)
theorem IsL.take : ∀ {vs : List V} {ds : List D} (n : Nat), IsL K mg B vs ds → IsL K mg B (vs.take n) (ds.take n)
  | _, _, 0, _ => .nil
  | _, _, _ + 1, .nil => .nil
  | _, _, n + 1, .cons h r => .cons h (IsL.take n r)
theorem IsL.drop : ∀ {vs : List V} {ds : List D} (n : Nat), IsL K mg B vs ds → IsL K mg B (vs.drop n) (ds.drop n)
  | _, _, 0, r => r
  | _, _, _ + 1, .nil => .nil
  | _, _, n + 1, .cons _ r => IsL.drop n r
theorem IsL.set {v : V} {d : D} (h : Is K mg B v d) : ∀ {vs : List V} {ds : List D} (i : Nat), IsL K mg B vs ds → IsL K mg B (vs.set i v) (ds.set i d)
  | _, _, _, .nil => .nil
  | _, _, 0, .cons _ r => .cons h r
  | _, _, i + 1, .cons h' r => .cons h' (IsL.set h i r)
theorem IsL.snoc {v : V} {d : D} {vs : List V} {ds : List D} (r : IsL K mg B vs ds) (h : Is K mg B v d) : IsL K mg B (vs ++ [v]) (ds ++ [d]) := r.append (.cons h .nil)
theorem IsL.rev : ∀ {vs : List V} {ds : List D}, IsL K mg B vs ds → IsL K mg B vs.reverse ds.reverse
  | _, _, .nil => .nil
  | _, _, .cons h r => by
    rw [List.reverse_cons, List.reverse_cons]
    exact (IsL.rev r).snoc h
theorem IsL.ints : ∀ (ns : List Int), IsL K mg B (ns.map V.int) (ns.map D.int)
  | [] => .nil
  | n :: ns => .cons (.int n) (IsL.ints ns)
end

/-! ### how heaps grow -/
/-- no tuple: what is told of one's own -/
def nt (o : HO) : Prop := ∀ xs, o ≠ .tup xs
theorem nt_lst {xs : List V} : nt (.lst xs) := fun _ q => nomatch q
theorem nt_dK {xs : List (Key × V)} : nt (.dK xs) := fun _ q => nomatch q
/-- the clean heap and the heap have grown; what the clean one did not know of the old heap it does not know now -/
structure Grow (B H B' H' : Hp) : Prop where
  bb : Same B B'
  hh : Same H H'
  bh : Same B' H'
  sep : ∀ p o, H p = some o → nt o → B p = none → B' p = none
section
variable {B H B' H' B2 H2 : Hp}
theorem Grow.refl (h : Same B H) : Grow B H B H := ⟨Same.refl _, Same.refl _, h, fun _ _ _ _ n => n⟩
theorem Grow.trans (a : Grow B H B' H') (b : Grow B' H' B2 H2) : Grow B H B2 H2 :=
  ⟨a.bb.trans b.bb, a.hh.trans b.hh, b.bh, fun p o e t n => b.sep p o (a.hh p o e) t (a.sep p o e t n)⟩
/-- a new object, clean -/
theorem Grow.new {p : Addr} {o : HO} (h : Same B H) (n : H p = none) : Grow B H (upd B p o) (upd H p o) := by
  have nb : ∀ q u, B q = some u → q ≠ p := fun q u e => ne_of_none (h q u e) n
  refine ⟨fun q u e => ?_, fun q u e => ?_, fun q u e => ?_, fun q u e _ z => ?_⟩
  · rw [upd_ne (nb q u e)]; exact e
  · rw [upd_ne (ne_of_none e n)]; exact e
  · by_cases hq : q = p
    · subst hq; rw [upd_same] at e ⊢; exact e
    · rw [upd_ne hq] at e ⊢; exact h q u e
  · rw [upd_ne (ne_of_none e n)]; exact z
/-- a new object, one's own -/
theorem Grow.own {p : Addr} {o : HO} (h : Same B H) (n : H p = none) : Grow B H B (upd H p o) := by
  refine ⟨Same.refl _, fun q u e => ?_, fun q u e => ?_, fun _ _ _ _ z => z⟩
  · rw [upd_ne (ne_of_none e n)]; exact e
  · rw [upd_ne (ne_of_none (h q u e) n)]; exact h q u e
theorem Grow.freeB (g : Grow B H B' H') {p : Addr} (n : H' p = none) : B' p = none := by
  cases e : B' p with
  | none => rfl
  | some o =>
    rw [g.bh p o e] at n
    cases n
end

/-! ### environments -/
/-- a slot: unknown, data, a list of one's own -/
inductive Sl where
  | un
  | v (d : D)
  | l (ds : List D)
abbrev En := List Sl
/-- the entry: its clean heap, its heap -/
structure Wd where
  B : Hp
  H : Hp
structure EnvOk (K : PySem.W.Frag) (mg : Str → Option Value) (W : Wd) (B H : Hp) (σ : L2.St) (ρ : En) : Prop where
  gr : Grow W.B W.H B H
  len : σ.length = ρ.length
  val : ∀ (i : Nat) (d : D), ρ[i]? = some (.v d) → ∃ v, σ[i]? = some (some v) ∧ Is K mg B v d
  own : ∀ (i : Nat) (ds : List D), ρ[i]? = some (.l ds) → ∃ p xs, σ[i]? = some (some (.ref p)) ∧ H p = some (.lst xs) ∧ B p = none ∧ W.H p = none ∧ IsL K mg B xs ds
  dis : ∀ (i j : Nat) (ds es : List D) (p : Addr), ρ[i]? = some (.l ds) → ρ[j]? = some (.l es) → σ[i]? = some (some (.ref p)) → σ[j]? = some (some (.ref p)) → i = j
section
variable {K : PySem.W.Frag} {mg : Str → Option Value} {W : Wd} {B H B' H' : Hp} {σ : L2.St} {ρ : En}
theorem EnvOk.bh (E : EnvOk K mg W B H σ ρ) : Same B H := E.gr.bh
theorem EnvOk.grow (E : EnvOk K mg W B H σ ρ) (g : Grow B H B' H') : EnvOk K mg W B' H' σ ρ :=
  ⟨E.gr.trans g, E.len, fun i d e => let ⟨v, h1, h2⟩ := E.val i d e; ⟨v, h1, h2.mono g.bb⟩,
    fun i ds e => let ⟨p, xs, h1, h2, h3, h4, h5⟩ := E.own i ds e; ⟨p, xs, h1, g.hh _ _ h2, g.sep _ _ h2 nt_lst h3, h4, h5.mono g.bb⟩, E.dis⟩
/-- the clean heap taken for the entry's -/
theorem EnvOk.here (E : EnvOk K mg W B H σ ρ) : EnvOk K mg ⟨B, W.H⟩ B H σ ρ :=
  ⟨⟨Same.refl _, E.gr.hh, E.gr.bh, fun _ _ _ _ n => n⟩, E.len, E.val, E.own, E.dis⟩
theorem EnvOk.back {B1 : Hp} (g : Grow W.B W.H B H) (E : EnvOk K mg ⟨B, W.H⟩ B' H' σ ρ) : EnvOk K mg W B' H' σ ρ :=
  ⟨⟨g.bb.trans E.gr.bb, E.gr.hh, E.gr.bh, fun p o e t n => E.gr.sep p o e t (g.sep p o e t n)⟩, E.len, E.val, E.own, E.dis⟩
theorem get_set {α : Type} {l : List α} {i j : Nat} {x y : α} (h : (l.set i x)[j]? = some y) : (j = i ∧ y = x ∧ i < l.length) ∨ (j ≠ i ∧ l[j]? = some y) := by
  by_cases e : i = j
  · subst e
    by_cases hl : i < l.length
    · rw [List.getElem?_set_self hl] at h
      exact .inl ⟨rfl, (Option.some.inj h).symm, hl⟩
    · rw [List.getElem?_eq_none (by simpa using hl)] at h
      cases h
  · rw [List.getElem?_set_ne e] at h
    exact .inr ⟨fun z => e z.symm, h⟩
/-- a name gets a clean value -/
theorem EnvOk.set (E : EnvOk K mg W B H σ ρ) {i : Nat} {v : V} {d : D} (h : Is K mg B v d) : EnvOk K mg W B H (σ.set i (some v)) (ρ.set i (.v d)) := by
  refine ⟨E.gr, by simp [E.len], fun j e hj => ?_, fun j ds hj => ?_, fun j k ds es p hj hk h1 h2 => ?_⟩
  · rcases get_set hj with ⟨rfl, e1, hl⟩ | ⟨hne, e1⟩
    · cases e1
      exact ⟨v, by rw [List.getElem?_set_self (by rw [E.len]; exact hl)], h⟩
    · obtain ⟨u, h1, h2⟩ := E.val j e e1
      exact ⟨u, by rw [List.getElem?_set_ne (Ne.symm hne)]; exact h1, h2⟩
  · rcases get_set hj with ⟨_, e1, _⟩ | ⟨hne, e1⟩
    · cases e1
    · obtain ⟨p, xs, h1, h2⟩ := E.own j ds e1
      exact ⟨p, xs, by rw [List.getElem?_set_ne (Ne.symm hne)]; exact h1, h2⟩
  · rcases get_set hj with ⟨_, e1, _⟩ | ⟨n1, e1⟩
    · cases e1
    · rcases get_set hk with ⟨_, e2, _⟩ | ⟨n2, e2⟩
      · cases e2
      · rw [List.getElem?_set_ne (Ne.symm n1)] at h1
        rw [List.getElem?_set_ne (Ne.symm n2)] at h2
        exact E.dis j k ds es p e1 e2 h1 h2
/-- a name gets a new list of its own -/
theorem EnvOk.setL (E : EnvOk K mg W B H σ ρ) {i : Nat} {p : Addr} {xs : List V} {ds : List D} (hp : H p = some (.lst xs)) (nb : B p = none) (nw : W.H p = none)
    (nn : ∀ (j : Nat) (es : List D), ρ[j]? = some (.l es) → j ≠ i → σ[j]? ≠ some (some (.ref p))) (h : IsL K mg B xs ds) : EnvOk K mg W B H (σ.set i (some (.ref p))) (ρ.set i (.l ds)) := by
  refine ⟨E.gr, by simp [E.len], fun j e hj => ?_, fun j es hj => ?_, fun j k es fs q hj hk h1 h2 => ?_⟩
  · rcases get_set hj with ⟨_, e1, _⟩ | ⟨hne, e1⟩
    · cases e1
    · obtain ⟨u, h1, h2⟩ := E.val j e e1
      exact ⟨u, by rw [List.getElem?_set_ne (Ne.symm hne)]; exact h1, h2⟩
  · rcases get_set hj with ⟨rfl, e1, hl⟩ | ⟨hne, e1⟩
    · cases e1
      exact ⟨p, xs, by rw [List.getElem?_set_self (by rw [E.len]; exact hl)], hp, nb, nw, h⟩
    · obtain ⟨q, ys, h1, h2⟩ := E.own j es e1
      exact ⟨q, ys, by rw [List.getElem?_set_ne (Ne.symm hne)]; exact h1, h2⟩
  · rcases get_set hj with ⟨rfl, e1, hl⟩ | ⟨n1, e1⟩
    · rcases get_set hk with ⟨rfl, e2, _⟩ | ⟨n2, e2⟩
      · rfl
      · rw [List.getElem?_set_self (by rw [E.len]; exact hl)] at h1
        rw [List.getElem?_set_ne (Ne.symm n2)] at h2
        cases h1
        exact absurd h2 (nn k fs e2 n2)
    · rcases get_set hk with ⟨rfl, e2, hl⟩ | ⟨n2, e2⟩
      · rw [List.getElem?_set_self (by rw [E.len]; exact hl)] at h2
        rw [List.getElem?_set_ne (Ne.symm n1)] at h1
        cases h2
        exact absurd h1 (nn j es e1 n1)
      · rw [List.getElem?_set_ne (Ne.symm n1)] at h1
        rw [List.getElem?_set_ne (Ne.symm n2)] at h2
        exact E.dis j k es fs q e1 e2 h1 h2
/-- one's own list changes -/
theorem EnvOk.mut (E : EnvOk K mg W B H σ ρ) {i : Nat} {p : Addr} {xs ys : List V} {ds es : List D} (hi : ρ[i]? = some (.l ds)) (hs : σ[i]? = some (some (.ref p))) (h : IsL K mg B ys es) :
    EnvOk K mg W B (upd H p (.lst ys)) σ (ρ.set i (.l es)) := by
  obtain ⟨p', zs, h1, h2, h3, h4, h5⟩ := E.own i ds hi
  have ep : p' = p := by
    rw [hs] at h1
    cases h1
    rfl
  subst ep
  have nb : ∀ q u, B q = some u → q ≠ p' := fun q u e z => by rw [z, h3] at e; cases e
  have nw : ∀ q u, W.H q = some u → q ≠ p' := fun q u e z => by rw [z, h4] at e; cases e
  have hl : i < ρ.length := (List.getElem?_eq_some_iff.mp hi).1
  refine ⟨⟨E.gr.bb, fun q u e => ?_, fun q u e => ?_, E.gr.sep⟩, by simp [E.len], fun j e hj => ?_, fun j fs hj => ?_, fun j k fs gs q hj hk h1 h2 => ?_⟩
  · rw [upd_ne (nw q u e)]; exact E.gr.hh q u e
  · rw [upd_ne (nb q u e)]; exact E.gr.bh q u e
  · rcases get_set hj with ⟨_, e1, _⟩ | ⟨hne, e1⟩
    · cases e1
    · exact E.val j e e1
  · rcases get_set hj with ⟨rfl, e1, _⟩ | ⟨hne, e1⟩
    · cases e1
      exact ⟨p', ys, hs, upd_same, h3, h4, h⟩
    · obtain ⟨q, zs', g1, g2, g3⟩ := E.own j fs e1
      have hq : q ≠ p' := fun z => hne (E.dis j i fs ds p' e1 hi (by rw [g1, z]) hs)
      exact ⟨q, zs', g1, by rw [upd_ne hq]; exact g2, g3⟩
  · have hj' : ∃ es, ρ[j]? = some (.l es) := by
      rcases get_set hj with ⟨rfl, _, _⟩ | ⟨_, e1⟩
      · exact ⟨_, hi⟩
      · exact ⟨_, e1⟩
    have hk' : ∃ es, ρ[k]? = some (.l es) := by
      rcases get_set hk with ⟨rfl, _, _⟩ | ⟨_, e1⟩
      · exact ⟨_, hi⟩
      · exact ⟨_, e1⟩
    obtain ⟨_, e1⟩ := hj'
    obtain ⟨_, e2⟩ := hk'
    exact E.dis j k _ _ q e1 e2 h1 h2
/-- one's own list becomes data -/
def frz (i : Nat) (ρ : En) : En := match ρ[i]? with
  | some (.l ds) => ρ.set i (.v (.lst ds))
  | _ => ρ
theorem EnvOk.frz (E : EnvOk K mg W B H σ ρ) (i : Nat) : ∃ B', EnvOk K mg W B' H σ (frz i ρ) := by
  unfold GD.frz
  split
  · rename_i ds hi
    obtain ⟨p, xs, h1, h2, h3, h4, h5⟩ := E.own i ds hi
    have nb : ∀ q u, B q = some u → q ≠ p := fun q u e z => by rw [z, h3] at e; cases e
    have bb : Same B (upd B p (.lst xs)) := fun q u e => by rw [upd_ne (nb q u e)]; exact e
    have hl : i < ρ.length := (List.getElem?_eq_some_iff.mp hi).1
    refine ⟨upd B p (.lst xs), ⟨⟨E.gr.bb.trans bb, E.gr.hh, fun q u e => ?_, fun q u e tt n => ?_⟩, by simp [E.len], fun j e hj => ?_, fun j fs hj => ?_, fun j k fs gs q hj hk g1 g2 => ?_⟩⟩
    · by_cases hq : q = p
      · subst hq; rw [upd_same] at e; rw [h2, e]
      · rw [upd_ne hq] at e; exact E.gr.bh q u e
    · rw [upd_ne (fun z => by rw [z, h4] at e; cases e)]
      exact E.gr.sep q u e tt n
    · rcases get_set hj with ⟨rfl, e1, _⟩ | ⟨hne, e1⟩
      · cases e1
        exact ⟨_, h1, .lst upd_same (h5.mono bb)⟩
      · obtain ⟨u, g1, g2⟩ := E.val j e e1
        exact ⟨u, g1, g2.mono bb⟩
    · rcases get_set hj with ⟨_, e1, _⟩ | ⟨hne, e1⟩
      · cases e1
      · obtain ⟨q, zs', g1, g2, g3, g4, g5⟩ := E.own j fs e1
        have hq : q ≠ p := fun z => hne (E.dis j i fs ds p e1 hi (by rw [g1, z]) h1)
        exact ⟨q, zs', g1, g2, by rw [upd_ne hq]; exact g3, g4, g5.mono bb⟩
    · rcases get_set hj with ⟨_, e1, _⟩ | ⟨_, e1⟩
      · cases e1
      · rcases get_set hk with ⟨_, e2, _⟩ | ⟨_, e2⟩
        · cases e2
        · exact E.dis j k _ _ q e1 e2 g1 g2
  · exact ⟨B, E⟩
/-- a slot is forgotten -/
theorem EnvOk.drop (E : EnvOk K mg W B H σ ρ) (i : Nat) {o : Option V} : EnvOk K mg W B H (σ.set i o) (ρ.set i .un) := by
  refine ⟨E.gr, by simp [E.len], fun j e hj => ?_, fun j ds hj => ?_, fun j k ds es p hj hk h1 h2 => ?_⟩
  · rcases get_set hj with ⟨_, e1, _⟩ | ⟨hne, e1⟩
    · cases e1
    · obtain ⟨u, h1, h2⟩ := E.val j e e1
      exact ⟨u, by rw [List.getElem?_set_ne (Ne.symm hne)]; exact h1, h2⟩
  · rcases get_set hj with ⟨_, e1, _⟩ | ⟨hne, e1⟩
    · cases e1
    · obtain ⟨p, xs, h1, h2⟩ := E.own j ds e1
      exact ⟨p, xs, by rw [List.getElem?_set_ne (Ne.symm hne)]; exact h1, h2⟩
  · rcases get_set hj with ⟨_, e1, _⟩ | ⟨n1, e1⟩
    · cases e1
    · rcases get_set hk with ⟨_, e2, _⟩ | ⟨n2, e2⟩
      · cases e2
      · rw [List.getElem?_set_ne (Ne.symm n1)] at h1
        rw [List.getElem?_set_ne (Ne.symm n2)] at h2
        exact E.dis j k ds es p e1 e2 h1 h2
end

/-! ### answers -/
inductive R (α : Type) where
  | ok (a : α)
  | er (x : Str)
  | st
def R.bind {α β : Type} (r : R α) (f : α → R β) : R β := match r with
  | .ok a => f a
  | .er x => .er x
  | .st => .st
def Post {α : Type} (r : R α) (P : α → Prop) (E : Str → Prop) : Prop := match r with
  | .ok a => P a
  | .er x => E x
  | .st => False
theorem Post.bind {α β : Type} {r : R α} {f : α → R β} {P : β → Prop} {E : Str → Prop} (h : Post (r.bind f) P E) : Post r (fun a => Post (f a) P E) E := by
  cases r <;> exact h
theorem Post.mono {α : Type} {r : R α} {P P' : α → Prop} {E E' : Str → Prop} (h : Post r P E) (hp : ∀ a, r = .ok a → P a → P' a) (he : ∀ x, E x → E' x) : Post r P' E' := by
  cases r with
  | ok a => exact hp a rfl h
  | er x => exact he x h
  | st => exact h
inductive Out where
  | nx (ρ : En)
  | rt (d : D)
  | bk (ρ : En)
  | ct (ρ : En)
  | er (x : Str) (ρ : En)
  | st
abbrev EM := En → R D
abbrev TM := En → R Bool
abbrev AM := En → R (List D)
abbrev SM := En → Out

/-! ### the judgements -/
def wpE (X : Cx) (e : Expr) : TE := fun σ H Q => ∃ t, PE X e t ∧ t σ H Q
def wpT (X : Cx) (e : Expr) : TT := fun σ H Q => ∃ t, PT X e t ∧ t σ H Q
def wpA (X : Cx) (es : List Expr) : TA := fun σ H Q => ∃ t, PA X es t ∧ t σ H Q
def wpS (X : Cx) (s : Stmt) : TS := fun D σ H => ∃ t, PS X s t ∧ t D σ H
def wpB (X : Cx) (ss : List Stmt) : TS := fun D σ H => ∃ t, PSs X ss t ∧ t D σ H
theorem pe_wp {X : Cx} {e : Expr} : PE X e (wpE X e) := ⟨fun pins s σ H Q I ⟨_, h, q⟩ => h.run pins s σ H Q I q⟩
theorem pt_wp {X : Cx} {e : Expr} : PT X e (wpT X e) := ⟨fun pins s σ H Q I ⟨_, h, q⟩ => h.run pins s σ H Q I q⟩
theorem pa_wp {X : Cx} {es : List Expr} : PA X es (wpA X es) := ⟨fun pos pins s σ H Q I ⟨_, h, q⟩ => h.run pos pins s σ H Q I q⟩
theorem ps_wp {X : Cx} {s : Stmt} : PS X s (wpS X s) := ⟨fun pins s σ H D I ⟨_, h, q⟩ => h.run pins s σ H D I q⟩
theorem pb_wp {X : Cx} {ss : List Stmt} : PSs X ss (wpB X ss) := ⟨fun pins s σ H D I ⟨_, h, q⟩ => h.run pins s σ H D I q⟩

def okD (X : Cx) (B H : Hp) (Q : VK) (d : D) : Prop := ∀ v B' H', Grow B H B' H' → Is X.K X.mg B' v d → Q v H'
def okT (B H : Hp) (Q : Bool → Hp → Prop) (b : Bool) : Prop := ∀ B' H', Grow B H B' H' → Q b H'
def okA (X : Cx) (B H : Hp) (Q : List V → Hp → Prop) (ds : List D) : Prop := ∀ vs B' H', Grow B H B' H' → IsL X.K X.mg B' vs ds → Q vs H'
/-- a new list of one's own -/
def okF (X : Cx) (B H : Hp) (Q : VK) (ds : List D) : Prop := ∀ p xs B' H', Grow B H B' H' → H p = none → H' p = some (.lst xs) → B' p = none → IsL X.K X.mg B' xs ds → Q (.ref p) H'
def erD (X : Cx) (Wx : WX) (σ : L2.St) (B H : Hp) (x : Str) : Prop := ∀ cls B' H', X.mg x = some cls → Grow B H B' H' → Wx cls none σ H'
def PED (X : Cx) (Wx : WX) (e : Expr) (m : EM) : Prop := ∀ W σ H B ρ, EnvOk X.K X.mg W B H σ ρ → ∀ Q, Post (m ρ) (okD X B H Q) (erD X Wx σ B H) → wpE X e σ H Q
def PTD (X : Cx) (Wx : WX) (e : Expr) (m : TM) : Prop := ∀ W σ H B ρ, EnvOk X.K X.mg W B H σ ρ → ∀ Q, Post (m ρ) (okT B H Q) (erD X Wx σ B H) → wpT X e σ H Q
def PAD (X : Cx) (Wx : WX) (es : List Expr) (m : AM) : Prop := ∀ W σ H B ρ, EnvOk X.K X.mg W B H σ ρ → ∀ Q, Post (m ρ) (okA X B H Q) (erD X Wx σ B H) → wpA X es σ H Q
def PFD (X : Cx) (Wx : WX) (e : Expr) (m : AM) : Prop := ∀ W σ H B ρ, EnvOk X.K X.mg W B H σ ρ → ∀ Q, Post (m ρ) (okF X B H Q) (erD X Wx σ B H) → wpE X e σ H Q
def PostS (X : Cx) (W : Wd) (Wx : WX) (o : Out) (D : Ends) : Prop := match o with
  | .nx ρ => ∀ σ B H, EnvOk X.K X.mg W B H σ ρ → D.nx σ H
  | .rt d => ∀ v B H, Grow W.B W.H B H → Is X.K X.mg B v d → D.rt v H
  | .bk ρ => ∀ σ B H, EnvOk X.K X.mg W B H σ ρ → D.bk σ H
  | .ct ρ => ∀ σ B H, EnvOk X.K X.mg W B H σ ρ → D.ct σ H
  | .er x ρ => ∀ cls σ B H, X.mg x = some cls → EnvOk X.K X.mg W B H σ ρ → Wx cls none σ H
  | .st => False
def PSD (X : Cx) (Wx : WX) (s : Stmt) (m : SM) : Prop := ∀ W σ H B ρ, EnvOk X.K X.mg W B H σ ρ → ∀ D, PostS X W Wx (m ρ) D → wpS X s D σ H
def PBD (X : Cx) (Wx : WX) (ss : List Stmt) (m : SM) : Prop := ∀ W σ H B ρ, EnvOk X.K X.mg W B H σ ρ → ∀ D, PostS X W Wx (m ρ) D → wpB X ss D σ H

section
variable {X : Cx} {Wx : WX} {W : Wd} {σ : L2.St} {B H B1 H1 : Hp}
theorem okD.later {Q : VK} {d : D} (h : okD X B H Q d) (g : Grow B H B1 H1) : okD X B1 H1 Q d := fun v B' H' g' r => h v B' H' (g.trans g') r
theorem okT.later {Q : Bool → Hp → Prop} {b : Bool} (h : okT B H Q b) (g : Grow B H B1 H1) : okT B1 H1 Q b := fun B' H' g' => h B' H' (g.trans g')
theorem okA.later {Q : List V → Hp → Prop} {ds : List D} (h : okA X B H Q ds) (g : Grow B H B1 H1) : okA X B1 H1 Q ds := fun v B' H' g' r => h v B' H' (g.trans g') r
theorem okF.later {Q : VK} {ds : List D} (h : okF X B H Q ds) (g : Grow B H B1 H1) : okF X B1 H1 Q ds := fun p xs B' H' g' n e n' r => h p xs B' H' (g.trans g') (by
  cases q : H p with
  | none => rfl
  | some o => rw [g.hh p o q] at n; cases n) e n' r
theorem erD.later {x : Str} (h : erD X Wx σ B H x) (g : Grow B H B1 H1) : erD X Wx σ B1 H1 x := fun cls B' H' e g' => h cls B' H' e (g.trans g')
end
end GD

/-! GD, part b: expressions. -/
namespace GD
open PySem PySem.Spec PyProof.Rows L2

def R.ofO {α : Type} (o : Option α) : R α := match o with
  | some a => .ok a
  | none => .st
theorem Post.ofO {α : Type} {o : Option α} {P : α → Prop} {E : Str → Prop} (h : Post (R.ofO o) P E) : ∃ a, o = some a ∧ P a := by
  cases o with
  | none => exact h.elim
  | some a => exact ⟨a, rfl, h⟩
/-! ### the operations on data -/
def mulOk (i j : Int) : Prop := i.natAbs.log2 + j.natAbs.log2 < 1000000
instance (i j : Int) : Decidable (mulOk i j) := by unfold mulOk; infer_instance
def divOk (j : Int) : Prop := 0 < j ∧ j.natAbs.log2 < 9000
instance (j : Int) : Decidable (divOk j) := by unfold divOk; infer_instance
def powOk (i j : Int) : Prop := 0 ≤ j ∧ j ≤ 1000000 ∧ i.natAbs < 2 ^ 64
instance (i j : Int) : Decidable (powOk i j) := by unfold powOk; infer_instance
def catOk (m n : Nat) : Prop := m + n ≤ sizeLine
instance (m n : Nat) : Decidable (catOk m n) := by unfold catOk; infer_instance
def dAdd : D → D → Option D
  | .int i, .int j => some (.int (i + j))
  | .str x, .str y => if catOk x.length y.length then some (.str (x ++ y)) else none
  | .lst xs, .lst ys => if catOk xs.length ys.length then some (.lst (xs ++ ys)) else none
  | .tup xs, .tup ys => if xs.isEmpty = false ∧ ys.isEmpty = false ∧ catOk xs.length ys.length then some (.tup (xs ++ ys)) else none
  | _, _ => none
def dSub : D → D → Option D
  | .int i, .int j => some (.int (i - j))
  | _, _ => none
def dMul : D → D → Option D
  | .int i, .int j => if mulOk i j then some (.int (i * j)) else none
  | _, _ => none
def dDiv : D → D → Option D
  | .int i, .int j => if divOk j then some (.int (i / j)) else none
  | _, _ => none
def dMod : D → D → Option D
  | .int i, .int j => if 0 < j then some (.int (i % j)) else none
  | _, _ => none
def dPow : D → D → Option D
  | .int i, .int j => if powOk i j then some (.int (i ^ j.toNat)) else none
  | _, _ => none
def dNeg : D → Option D
  | .int i => some (.int (-i))
  | _ => none
def intsOf : List D → Option (List Int)
  | [] => some []
  | .int i :: ds => (intsOf ds).map (i :: ·)
  | _ => none
def dLt : D → D → Option D
  | .int i, .int j => some (.bl (decide (i < j)))
  | .str x, .str y => some (.bl (decide (x.cps.toList < y.cps.toList)))
  | .tup xs, .tup ys => (intsOf xs).bind fun ns => (intsOf ys).map fun ms => .bl (HT.lexLt ns ms)
  | _, _ => none
def dLe : D → D → Option D
  | .int i, .int j => some (.bl (decide (i ≤ j)))
  | .str x, .str y => some (.bl (!decide (y.cps.toList < x.cps.toList)))
  | _, _ => none
def dGt : D → D → Option D
  | .int i, .int j => some (.bl (decide (j < i)))
  | .str x, .str y => some (.bl (decide (y.cps.toList < x.cps.toList)))
  | _, _ => none
def dGe : D → D → Option D
  | .int i, .int j => some (.bl (decide (j ≤ i)))
  | .str x, .str y => some (.bl (!decide (x.cps.toList < y.cps.toList)))
  | _, _ => none
mutual
def toP : D → PyData
  | .non => .none
  | .bl b => .bool b
  | .int i => .int i
  | .str x => .str x
  | .tup ds => .tuple (toPs ds)
  | .lst ds => .list (toPs ds)
  | .scr ns => .list (ns.map .int)
  | _ => .dict []
def toPs : List D → List PyData
  | [] => []
  | d :: ds => toP d :: toPs ds
end
/-- the two are compared by == -/
def dEq (d e : D) : Option D := if SeqAt.shaped (toP d) = true ∧ SeqAt.shaped (toP e) = true then some (.bl (PyData.eqv (toP d) (toP e))) else none
def dNe (d e : D) : Option D := if SeqAt.shaped (toP d) = true ∧ SeqAt.shaped (toP e) = true then some (.bl (!PyData.eqv (toP d) (toP e))) else none
def D.isNone : D → Bool
  | .non => true
  | _ => false
/-- is, is not: of None alone -/
def dIs (d e : D) : Option D := match e with
  | .non => some (.bl d.isNone)
  | _ => none
def dIsNot (d e : D) : Option D := match e with
  | .non => some (.bl (!d.isNone))
  | _ => none
def dAt : D → D → Option D
  | .tup ds, .int k => atI ds k
  | .lst ds, .int k => atI ds k
  | .scr ns, .int k => (atI ns k).map D.int
  | .str x, .int k => if x.length ≤ sizeLine then (atI x.cps.toList k).map fun c => .str ⟨#[c]⟩ else none
  | _, _ => none

/-! ### combinators -/
def eVar (i : Nat) : EM := fun ρ => match ρ[i]? with
  | some (.v d) => .ok d
  | _ => .st
def eC (d : D) : EM := fun _ => .ok d
def e1 (g : D → Option D) (ma : EM) : EM := fun ρ => (ma ρ).bind fun x => R.ofO (g x)
def e2 (g : D → D → Option D) (ma mb : EM) : EM := fun ρ => (ma ρ).bind fun x => (mb ρ).bind fun y => R.ofO (g x y)
def asB : D → Option Bool
  | .bl b => some b
  | _ => none
def mB (ma : EM) : TM := fun ρ => (ma ρ).bind fun x => R.ofO (asB x)
def aNil : AM := fun _ => .ok []
def aCons (ma : EM) (mr : AM) : AM := fun ρ => (ma ρ).bind fun x => (mr ρ).bind fun xs => .ok (x :: xs)
/-- a call: of a def, of a built-in -/
def eF (F : List D → R D) (ma : AM) : EM := fun ρ => (ma ρ).bind F
def eB (g : List D → Option D) (ma : AM) : EM := fun ρ => (ma ρ).bind fun ds => R.ofO (g ds)
def eTup (ma : AM) : EM := fun ρ => (ma ρ).bind fun ds => if ds.length ≤ sizeLine then .ok (.tup ds) else .st
def aLst (ma : AM) : AM := fun ρ => (ma ρ).bind fun ds => if ds.length ≤ sizeLine then .ok ds else .st
/-- a new list, as data -/
def eL (mf : AM) : EM := fun ρ => (mf ρ).bind fun ds => .ok (.lst ds)
def mNot (t : TM) : TM := fun ρ => (t ρ).bind fun b => .ok (!b)
def mAnd (t u : TM) : TM := fun ρ => (t ρ).bind fun b => if b = true then u ρ else .ok false
def mOr (t u : TM) : TM := fun ρ => (t ρ).bind fun b => if b = true then .ok true else u ρ
def eNot (a : EM) : EM := fun ρ => (mB a ρ).bind fun b => .ok (.bl (!b))
def eAnd (a b : EM) : EM := fun ρ => (mB a ρ).bind fun c => if c = true then b ρ else .ok (.bl false)
def eOr (a b : EM) : EM := fun ρ => (mB a ρ).bind fun c => if c = true then .ok (.bl true) else b ρ
/-- a op b op' c -/
def eCh (g g' : D → D → Option D) (ma mb mc : EM) : EM := fun ρ => (ma ρ).bind fun x => (mb ρ).bind fun y => (R.ofO (g x y)).bind fun z => (R.ofO (asB z)).bind fun k =>
  if k = true then (mc ρ).bind fun w => R.ofO (g' y w) else .ok (.bl false)

/-! ### inversion -/
section
variable {K : PySem.W.Frag} {mg : Str → Option Value} {B : Hp} {v : V}
theorem Is.int_inv {i : Int} (h : Is K mg B v (.int i)) : v = .int i := by cases h; rfl
theorem Is.bl_inv {b : Bool} (h : Is K mg B v (.bl b)) : v = .bl b := by cases h; rfl
theorem Is.str_inv {x : Str} (h : Is K mg B v (.str x)) : v = .str x := by cases h; rfl
theorem Is.non_inv (h : Is K mg B v .non) : v = .non := by cases h; rfl
theorem Is.ty_inv {n : String} (h : Is K mg B v (.ty n)) : v = .ty n := by cases h; rfl
theorem Is.tup_inv {ds : List D} (h : Is K mg B v (.tup ds)) : ∃ a xs, v = .ref a ∧ SqT K B a xs ∧ IsL K mg B xs ds := by
  cases h with
  | tup h r => exact ⟨_, _, rfl, SqT.of h, r⟩
  | tup3 h => exact ⟨_, _, rfl, .inr h, .cons (.int _) (.cons (.int _) (.cons (.int _) .nil))⟩
theorem Is.tup_at {ds : List D} (h : Is K mg B v (.tup ds)) (n3 : ds.length ≠ 3) : ∃ a xs, v = .ref a ∧ B a = some (.tup xs) ∧ IsL K mg B xs ds := by
  cases h with
  | tup h r => exact ⟨_, _, rfl, h, r⟩
  | tup3 h => exact absurd rfl n3
theorem Is.lst_inv {ds : List D} (h : Is K mg B v (.lst ds)) : ∃ a xs, v = .ref a ∧ B a = some (.lst xs) ∧ IsL K mg B xs ds := by
  cases h with
  | lst h r => exact ⟨_, _, rfl, h, r⟩
theorem Is.scr_inv {ns : List Int} (h : Is K mg B v (.scr ns)) : ∃ a, v = .ref a ∧ SqL K B a (ns.map V.int) := by
  cases h with
  | scr h => exact ⟨_, rfl, h⟩
theorem Is.none_iff {d : D} (h : Is K mg B v d) : decide (v = V.non) = d.isNone := by
  cases h <;> simp [D.isNone]
theorem IsL.ints_inv : ∀ {ds : List D} {ns : List Int} {xs : List V}, intsOf ds = some ns → IsL K mg B xs ds → xs = ns.map V.int
  | [], ns, xs, e, h => by
    cases h
    simp [intsOf] at e
    subst e
    rfl
  | d :: ds, ns, xs, e, h => by
    cases h with
    | cons h r =>
      cases d with
      | int i =>
        simp only [intsOf, Option.map_eq_some_iff] at e
        obtain ⟨ms, e1, rfl⟩ := e
        rw [h.int_inv, IsL.ints_inv e1 r]
        rfl
      | _ => simp [intsOf] at e
theorem seqL_of {H : Hp} {a : Addr} {xs : List V} (e : Same B H) (h : B a = some (.lst xs)) : SqL K H a xs := SqL.of (e _ _ h)
theorem dps_ints {H : Hp} : ∀ ns : List Int, DpAll K H (ns.map V.int) (ns.map PyData.int)
  | [] => .nil
  | n :: ns => .cons (.int n) (dps_ints ns)
mutual
theorem Is.dp {H : Hp} (e : Same B H) : ∀ {v : V} {d : D}, Is K mg B v d → (SeqAt.shaped (toP d) = true ∨ PyData.canLay0 (toP d) = true) → Dp K H v (toP d)
  | _, _, .non, _ => .non
  | _, _, .bl b, _ => .bl b
  | _, _, .int i, _ => .int i
  | _, _, .str x, _ => .str x
  | _, _, .tup h r, c => by
    simp only [toP]
    refine .tup (SqT.of (e _ _ h)) (IsL.dp e r ?_)
    rcases c with c | c
    · have := SeqAt.canLay_of_shaped c
      simpa [toP, PyData.canLay0] using this
    · simpa [toP, PyData.canLay0] using c
  | _, _, .tup3 (x := x) (y := y) (z := z) h, c => by
    simp only [toP, toPs]
    exact .tup (.inr h) (dps_ints [x, y, z])
  | _, _, .lst h r, c => by
    simp only [toP]
    refine .lst (seqL_of e h) (IsL.dp e r ?_)
    rcases c with c | c
    · have := SeqAt.canLay_of_shaped c
      simpa [toP, PyData.canLay0] using this
    · simpa [toP, PyData.canLay0] using c
  | _, _, .scr (ns := ns) h, _ => by
    simp only [toP]
    refine .lst (e.seq h) ?_
    exact dps_ints ns
  | _, _, .dct h k r, c => by
    rcases c with c | c
    · have := SeqAt.canLay_of_shaped c
      simp [toP, PyData.canLay0] at this
    · simp [toP, PyData.canLay0] at c
  | _, _, .exc h k, c => by
    rcases c with c | c
    · have := SeqAt.canLay_of_shaped c
      simp [toP, PyData.canLay0] at this
    · simp [toP, PyData.canLay0] at c
  | _, _, .ty n, c => by
    rcases c with c | c
    · have := SeqAt.canLay_of_shaped c
      simp [toP, PyData.canLay0] at this
    · simp [toP, PyData.canLay0] at c
  | _, _, .cls h, c => by
    rcases c with c | c
    · have := SeqAt.canLay_of_shaped c
      simp [toP, PyData.canLay0] at this
    · simp [toP, PyData.canLay0] at c
  | _, _, .obj hc h k r, c => by
    rcases c with c | c
    · have := SeqAt.canLay_of_shaped c
      simp [toP, PyData.canLay0] at this
    · simp [toP, PyData.canLay0] at c
theorem IsL.dp {H : Hp} (e : Same B H) : ∀ {vs : List V} {ds : List D}, IsL K mg B vs ds → PyData.canLayAll0 (toPs ds) = true → DpAll K H vs (toPs ds)
  | _, _, .nil, _ => .nil
  | _, _, .cons h r, c => by
    simp only [toPs] at c ⊢
    simp only [PyData.canLayAll0, Bool.and_eq_true] at c
    exact .cons (Is.dp e h (.inr c.1)) (IsL.dp e r c.2)
end
end

/-! ### operators -/
def wpO (X : Cx) (f : Value → Value → Sem Value) : R2 := fun x y H Q => ∃ r, OpR X f r ∧ r x y H Q
theorem op_wp {X : Cx} {f : Value → Value → Sem Value} : OpR X f (wpO X f) := fun pins s σ H x y v u Q I rx ry ⟨_, ho, q⟩ => ho pins s σ H x y v u Q I rx ry q
def OpD (X : Cx) (f : Value → Value → Sem Value) (g : D → D → Option D) : Prop :=
  ∀ B H x y d e d' Q, Same B H → Is X.K X.mg B x d → Is X.K X.mg B y e → g d e = some d' → okD X B H Q d' → wpO X f x y H Q
section
variable {X : Cx} {B H : Hp} {Q : VK} {d : D}
theorem okD.at {v : V} (h : okD X B H Q d) (e : Same B H) (r : Is X.K X.mg B v d) : Q v H := h v B H (Grow.refl e) r
theorem okD.nt {ds : List D} {xs : List V} {p : Addr} (h : okD X B H Q (.tup ds)) (e : Same B H) (n : H p = none) (r : IsL X.K X.mg B xs ds) : Q (.ref p) (upd H p (.tup xs)) :=
  h _ _ _ (Grow.new e n) (.tup upd_same (r.mono (Grow.new (o := .tup xs) e n).bb))
theorem okD.nl {ds : List D} {xs : List V} {p : Addr} (h : okD X B H Q (.lst ds)) (e : Same B H) (n : H p = none) (r : IsL X.K X.mg B xs ds) : Q (.ref p) (upd H p (.lst xs)) :=
  h _ _ _ (Grow.new e n) (.lst upd_same (r.mono (Grow.new (o := .lst xs) e n).bb))
theorem some_ite {α : Type} {c : Prop} [Decidable c] {a b : α} (h : (if c then some a else none) = some b) : c ∧ a = b := by
  by_cases hc : c
  · rw [if_pos hc] at h; exact ⟨hc, Option.some.inj h⟩
  · rw [if_neg hc] at h; cases h
theorem opd_add : OpD X (binaryOp .Add) dAdd := by
  intro B H x y d e d' Q b rx ry g q
  unfold dAdd at g
  split at g
  · cases g
    rw [rx.int_inv, ry.int_inv]
    exact ⟨_, op_add, _, _, rfl, rfl, q.at b (.int _)⟩
  · obtain ⟨hc, rfl⟩ := some_ite g
    rw [rx.str_inv, ry.str_inv]
    exact ⟨_, op_add_str, _, _, rfl, rfl, hc, q.at b (.str _)⟩
  · obtain ⟨hc, rfl⟩ := some_ite g
    obtain ⟨a1, xs, rfl, h1, r1⟩ := rx.lst_inv
    obtain ⟨a2, ys, rfl, h2, r2⟩ := ry.lst_inv
    exact ⟨_, op_cat, a1, a2, xs, ys, rfl, rfl, b _ _ h1, b _ _ h2, by rw [r1.length, r2.length]; exact hc, fun p hp => q.nl b hp (r1.append r2)⟩
  · obtain ⟨⟨h1, h2, hc⟩, rfl⟩ := some_ite g
    obtain ⟨a1, xs, rfl, g1, r1⟩ := rx.tup_inv
    obtain ⟨a2, ys, rfl, g2, r2⟩ := ry.tup_inv
    rename_i ds es
    have n1 : xs ≠ [] := by
      intro z
      subst z
      cases r1
      simp at h1
    have n2 : ys ≠ [] := by
      intro z
      subst z
      cases r2
      simp at h2
    exact ⟨_, op_catT, a1, a2, xs, ys, rfl, rfl, seqT b g1, seqT b g2, n1, by rw [r1.length, r2.length]; exact hc, fun z => absurd z n2, fun _ p hp => q.nt b hp (r1.append r2)⟩
  · cases g
theorem opd_sub : OpD X (binaryOp .Sub) dSub := by
  intro B H x y d e d' Q b rx ry g q
  unfold dSub at g
  split at g
  · cases g
    rw [rx.int_inv, ry.int_inv]
    exact ⟨_, op_sub, _, _, rfl, rfl, q.at b (.int _)⟩
  · cases g
theorem opd_mul : OpD X (binaryOp .Mult) dMul := by
  intro B H x y d e d' Q b rx ry g q
  unfold dMul at g
  split at g
  · obtain ⟨hc, rfl⟩ := some_ite g
    rw [rx.int_inv, ry.int_inv]
    exact ⟨_, op_mulW, _, _, rfl, rfl, hc, q.at b (.int _)⟩
  · cases g
theorem opd_div : OpD X (binaryOp .FloorDiv) dDiv := by
  intro B H x y d e d' Q b rx ry g q
  unfold dDiv at g
  split at g
  · obtain ⟨hc, rfl⟩ := some_ite g
    rw [rx.int_inv, ry.int_inv]
    exact ⟨_, op_fdivW, _, _, rfl, rfl, hc, q.at b (.int _)⟩
  · cases g
theorem opd_mod : OpD X (binaryOp .Mod) dMod := by
  intro B H x y d e d' Q b rx ry g q
  unfold dMod at g
  split at g
  · obtain ⟨hc, rfl⟩ := some_ite g
    rw [rx.int_inv, ry.int_inv]
    exact ⟨_, op_mod, _, _, rfl, rfl, hc, q.at b (.int _)⟩
  · cases g
theorem opd_pow : OpD X (binaryOp .Pow) dPow := by
  intro B H x y d e d' Q b rx ry g q
  unfold dPow at g
  split at g
  · obtain ⟨hc, rfl⟩ := some_ite g
    rw [rx.int_inv, ry.int_inv]
    exact ⟨_, op_pow, _, _, rfl, rfl, hc, q.at b (.int _)⟩
  · cases g
theorem opd_lt (hu : X.A.units < cLine) : OpD X (compareOp .Lt) dLt := by
  intro B H x y d e d' Q b rx ry g q
  unfold dLt at g
  split at g
  · cases g
    rw [rx.int_inv, ry.int_inv]
    exact ⟨_, op_lt, _, _, rfl, rfl, q.at b (.bl _)⟩
  · cases g
    rw [rx.str_inv, ry.str_inv]
    exact ⟨_, op_lt_str, _, _, rfl, rfl, q.at b (.bl _)⟩
  · simp only [Option.bind_eq_some_iff, Option.map_eq_some_iff] at g
    obtain ⟨ns, g1, ms, g2, rfl⟩ := g
    obtain ⟨a1, xs, rfl, h1, r1⟩ := rx.tup_inv
    obtain ⟨a2, ys, rfl, h2, r2⟩ := ry.tup_inv
    have e1 := IsL.ints_inv g1 r1
    have e2 := IsL.ints_inv g2 r2
    subst e1 e2
    exact ⟨_, op_ltT hu, _, _, _, _, rfl, rfl, seqT b h1, seqT b h2, q.at b (.bl _)⟩
  · cases g
theorem opd_le : OpD X (compareOp .LtE) dLe := by
  intro B H x y d e d' Q b rx ry g q
  unfold dLe at g
  split at g
  · cases g
    rw [rx.int_inv, ry.int_inv]
    exact ⟨_, op_le, _, _, rfl, rfl, q.at b (.bl _)⟩
  · cases g
    rw [rx.str_inv, ry.str_inv]
    exact ⟨_, op_le_str, _, _, rfl, rfl, q.at b (.bl _)⟩
  · cases g
theorem opd_gt : OpD X (compareOp .Gt) dGt := by
  intro B H x y d e d' Q b rx ry g q
  unfold dGt at g
  split at g
  · cases g
    rw [rx.int_inv, ry.int_inv]
    exact ⟨_, op_gt, _, _, rfl, rfl, q.at b (.bl _)⟩
  · cases g
    rw [rx.str_inv, ry.str_inv]
    exact ⟨_, op_gt_str, _, _, rfl, rfl, q.at b (.bl _)⟩
  · cases g
theorem opd_ge : OpD X (compareOp .GtE) dGe := by
  intro B H x y d e d' Q b rx ry g q
  unfold dGe at g
  split at g
  · cases g
    rw [rx.int_inv, ry.int_inv]
    exact ⟨_, op_ge, _, _, rfl, rfl, q.at b (.bl _)⟩
  · cases g
    rw [rx.str_inv, ry.str_inv]
    exact ⟨_, op_ge_str, _, _, rfl, rfl, q.at b (.bl _)⟩
  · cases g
theorem opd_eq (hu : X.A.units + 64 < cLine) : OpD X (compareOp .Eq) dEq := by
  intro B H x y d e d' Q b rx ry g q
  obtain ⟨⟨h1, h2⟩, rfl⟩ := some_ite g
  exact ⟨_, op_eqD hu, _, _, rx.dp b (.inl h1), ry.dp b (.inl h2), h1, h2, q.at b (.bl _)⟩
theorem opd_ne (hu : X.A.units + 64 < cLine) : OpD X (compareOp .NotEq) dNe := by
  intro B H x y d e d' Q b rx ry g q
  obtain ⟨⟨h1, h2⟩, rfl⟩ := some_ite g
  exact ⟨_, op_neD hu, _, _, rx.dp b (.inl h1), ry.dp b (.inl h2), h1, h2, q.at b (.bl _)⟩
theorem opd_is : OpD X (compareOp .Is) dIs := by
  intro B H x y d e d' Q b rx ry g q
  unfold dIs at g
  split at g
  · cases g
    rw [ry.non_inv]
    exact ⟨_, op_isN, rfl, by rw [rx.none_iff]; exact q.at b (.bl _)⟩
  · cases g
theorem opd_isNot : OpD X (compareOp .IsNot) dIsNot := by
  intro B H x y d e d' Q b rx ry g q
  unfold dIsNot at g
  split at g
  · cases g
    rw [ry.non_inv]
    exact ⟨_, op_notN, rfl, by rw [rx.none_iff]; exact q.at b (.bl _)⟩
  · cases g
/-- a subscript -/
def wpIx (X : Cx) : R2 := fun x y H Q => ∃ r, IxR X r ∧ r x y H Q
theorem ix_wp : IxR X (wpIx X) := fun value slice pins s σ H x y v u Q I rx ry ⟨_, ho, q⟩ => ho value slice pins s σ H x y v u Q I rx ry q
theorem IsL.atI {K : PySem.W.Frag} {mg : Str → Option Value} {xs : List V} {ds : List D} {k : Int} (r : IsL K mg B xs ds) (h : atI ds k = some d) : ∃ v, L2.atI xs k = some v ∧ Is K mg B v d := by
  unfold L2.atI at h ⊢
  rw [r.length]
  cases e : ixN ds.length k with
  | none => rw [e] at h; cases h
  | some j =>
    rw [e] at h
    exact r.get h
theorem ixd {x y : V} {d e d' : D} (b : Same B H) (rx : Is X.K X.mg B x d) (ry : Is X.K X.mg B y e) (g : dAt d e = some d') (q : okD X B H Q d') : wpIx X x y H Q := by
  unfold dAt at g
  split at g
  · obtain ⟨a1, xs, rfl, h1, r1⟩ := rx.tup_inv
    rw [ry.int_inv]
    obtain ⟨v, e1, r⟩ := r1.atI g
    exact ⟨_, ix_tup, _, _, _, _, rfl, rfl, seqT b h1, e1, q.at b r⟩
  · obtain ⟨a1, xs, rfl, h1, r1⟩ := rx.lst_inv
    rw [ry.int_inv]
    obtain ⟨v, e1, r⟩ := r1.atI g
    exact ⟨_, ix_list, _, _, _, _, rfl, rfl, seqL_of b h1, e1, q.at b r⟩
  · obtain ⟨a1, rfl, h1⟩ := rx.scr_inv
    rw [ry.int_inv]
    simp only [Option.map_eq_some_iff] at g
    obtain ⟨i, g1, rfl⟩ := g
    refine ⟨_, ix_list, _, _, _, .int i, rfl, rfl, b.seq h1, ?_, q.at b (.int i)⟩
    unfold L2.atI at g1 ⊢
    rw [List.length_map]
    rename_i ns k
    cases e : ixN ns.length k with
    | none => rw [e] at g1; cases g1
    | some j =>
      rw [e] at g1
      show (ns.map V.int)[j]? = _
      rw [List.getElem?_map, show ns[j]? = some i from g1]
      rfl
  · rw [rx.str_inv, ry.int_inv]
    split at g
    · rename_i hl
      simp only [Option.map_eq_some_iff] at g
      obtain ⟨c, g1, rfl⟩ := g
      exact ⟨_, ix_str, _, _, _, rfl, rfl, hl, g1, q.at b (.str _)⟩
    · cases g
  · cases g
end

/-! ### expressions -/
section
variable {X : Cx} {Wx : WX} {a b c e : Expr} {es : List Expr} {pos p : Pos} {ma mb mc m : EM} {mr : AM}
theorem two {α : Type} {W : Wd} {σ : L2.St} {B H : Hp} {ρ : En} {k : D → D → R α} {P : α → Prop} {Rr : V → V → Hp → Prop} (ha : PED X Wx a ma) (hb : PED X Wx b mb) (E : EnvOk X.K X.mg W B H σ ρ)
    (h : Post ((ma ρ).bind fun d => (mb ρ).bind fun e => k d e) P (erD X Wx σ B H))
    (f : ∀ d e x y B2 H2, Grow B H B2 H2 → Is X.K X.mg B2 x d → Is X.K X.mg B2 y e → Post (k d e) P (erD X Wx σ B H) → Rr x y H2) : wpE X a σ H fun x H1 => wpE X b σ H1 fun y H2 => Rr x y H2 := by
  refine ha W σ H B ρ E _ (h.bind.mono (fun d _ hd x B1 H1 g1 rx => ?_) fun x h => h)
  exact hb W σ H1 B1 ρ (E.grow g1) _ (hd.bind.mono (fun e _ he y B2 H2 g2 ry => f d e x y B2 H2 (g1.trans g2) (rx.mono g2.bb) ry he) fun x h => h.later g1)
theorem ped_var {i : Nat} {x : Str} (hN : X.N[i]? = some x) (hv : Vis X.env.scope x) (hd : (x == ("__debug__" : Str)) = false := by decide) (hcd : (x == ("__classdict__" : Str)) = false := by decide) : PED X Wx (.Name x pos) (eVar i) := by
  intro W σ H B ρ E Q h
  unfold eVar at h
  split at h
  · rename_i d hd'
    obtain ⟨v, h1, h2⟩ := E.val i d hd'
    exact ⟨_, pe_var hN hv hd hcd, v, h1, okD.at h E.bh h2⟩
  · exact h.elim
theorem ped_int {i j} : PED X Wx (.Constant (.int i) j pos) (eC (.int i)) := fun W σ H B ρ E Q h => ⟨_, pe_int, okD.at h E.bh (.int i)⟩
theorem ped_bl {i j} : PED X Wx (.Constant (.bool i) j pos) (eC (.bl i)) := fun W σ H B ρ E Q h => ⟨_, pe_bl, okD.at h E.bh (.bl i)⟩
theorem ped_non {j} : PED X Wx (.Constant .none j pos) (eC .non) := fun W σ H B ρ E Q h => ⟨_, pe_non, okD.at h E.bh .non⟩
theorem ped_str {x j} : PED X Wx (.Constant (.str x) j pos) (eC (.str x)) := fun W σ H B ρ E Q h => ⟨_, pe_str, okD.at h E.bh (.str x)⟩
/-- a name of the module -/
theorem ped_glob {x : Str} {v : V} {u : Value} {d : D} (hg : Gl X x) (hm : X.mg x = some u) (r : RelV v u) (hd : ∀ B, Is X.K X.mg B v d) (hdb : (x == ("__debug__" : Str)) = false := by decide) : PED X Wx (.Name x pos) (eC d) :=
  fun W σ H B ρ E Q h => ⟨_, pe_glob hg hm r hdb, okD.at h E.bh (hd B)⟩
theorem ped_bltn {x : Str} {v : V} {u : Value} {d : D} (hg : Gl X x) (hm : X.mg x = none) (hv : bootBuiltins x = some u) (r : RelV v u) (hd : ∀ B, Is X.K X.mg B v d) (hn : x ≠ "__name__" := by decide) (hdb : (x == ("__debug__" : Str)) = false := by decide) :
    PED X Wx (.Name x pos) (eC d) := fun W σ H B ρ E Q h => ⟨_, pe_bltn hg hm hv r hn hdb, okD.at h E.bh (hd B)⟩
theorem ped_op {op : Operator} {g : D → D → Option D} (ho : OpD X (binaryOp op) g) (ha : PED X Wx a ma) (hb : PED X Wx b mb) : PED X Wx (.BinOp a op b pos) (e2 g ma mb) :=
  fun W σ H B ρ E Q h => ⟨_, pe_op op_wp pe_wp pe_wp, two ha hb E h fun d e x y B2 H2 gr rx ry hk => by
    obtain ⟨d', e1, q⟩ := hk.ofO
    exact ho B2 H2 x y d e d' Q gr.bh rx ry e1 (q.later gr)⟩
theorem ped_const {d : D} (h : PED X Wx e m) (hd : ∀ ρ, m ρ = .ok d) : PED X Wx e (eC d) := fun W σ H B ρ E Q q => h W σ H B ρ E Q (by rw [hd ρ]; exact q)
theorem ped_cmp {op : CmpOp} {g : D → D → Option D} (ho : OpD X (compareOp op) g) (ha : PED X Wx a ma) (hb : PED X Wx b mb) (hm : behindInMarks op b = false) : PED X Wx (.Compare a [op] [b] pos) (e2 g ma mb) :=
  fun W σ H B ρ E Q h => ⟨_, pe_cmpR op_wp pe_wp pe_wp hm, two ha hb E h fun d e x y B2 H2 gr rx ry hk => by
    obtain ⟨d', e1, q⟩ := hk.ofO
    exact ho B2 H2 x y d e d' Q gr.bh rx ry e1 (q.later gr)⟩
theorem ptd_cmp {op : CmpOp} {g : D → D → Option D} (ho : OpD X (compareOp op) g) (ha : PED X Wx a ma) (hb : PED X Wx b mb) (hm : behindInMarks op b = false) : PTD X Wx (.Compare a [op] [b] pos) (mB (e2 g ma mb)) :=
  fun W σ H B ρ E Q h => ⟨_, pt_cmpR op_wp pe_wp pe_wp hm, by
    have h' : Post ((ma ρ).bind fun d => (mb ρ).bind fun e => (R.ofO (g d e)).bind fun x => R.ofO (asB x)) (okT B H Q) (erD X Wx σ B H) := by
      have := h
      unfold GD.mB e2 at this
      cases hm : ma ρ with
      | ok d =>
        rw [hm] at this
        cases hn : mb ρ with
        | ok e => rw [hn] at this; exact this
        | er x => rw [hn] at this; exact this
        | st => rw [hn] at this; exact this
      | er x => rw [hm] at this; exact this
      | st => rw [hm] at this; exact this
    exact two ha hb E h' fun d e x y B2 H2 gr rx ry hk => by
      obtain ⟨d', e1, q⟩ := hk.bind.ofO
      refine ho B2 H2 x y d e d' _ gr.bh rx ry e1 fun v B3 H3 g3 r3 => ?_
      obtain ⟨k, e2, q2⟩ := q.ofO
      cases d' with
      | bl k' =>
        obtain rfl : k' = k := Option.some.inj e2
        exact ⟨k', r3.bl_inv, q2 B3 H3 (gr.trans g3)⟩
      | _ => cases e2⟩
theorem ped_un {op : UnaryOp} {r : V → Hp → VK → Prop} {g : D → Option D} (hu : UnR X (unaryOp op) r) (ho : ∀ B H x d d' Q, Same B H → Is X.K X.mg B x d → g d = some d' → okD X B H Q d' → r x H Q) (ha : PED X Wx a ma) : PED X Wx (.UnaryOp op a pos) (e1 g ma) :=
  fun W σ H B ρ E Q h => ⟨_, pe_un hu pe_wp, ha W σ H B ρ E _ ((show Post ((ma ρ).bind fun x => R.ofO (g x)) _ _ from h).bind.mono (fun d _ hd x B1 H1 g1 rx => by
    obtain ⟨d', e1, q⟩ := hd.ofO
    exact ho B1 H1 x d d' Q g1.bh rx e1 (q.later g1)) fun x h => h)⟩
theorem ped_neg (ha : PED X Wx a ma) : PED X Wx (.UnaryOp .USub a pos) (e1 dNeg ma) := ped_un un_neg (fun B H x d d' Q b r g q => by
  unfold dNeg at g
  split at g
  · cases g
    rw [r.int_inv]
    exact ⟨_, rfl, q.at b (.int _)⟩
  · cases g) ha
theorem ped_ix (ha : PED X Wx a ma) (hb : PED X Wx b mb) (hs : PlainIx b) : PED X Wx (.Subscript a b pos) (e2 dAt ma mb) :=
  fun W σ H B ρ E Q h => ⟨_, pe_ix ix_wp pe_wp pe_wp hs, two ha hb E h fun d e x y B2 H2 gr rx ry hk => by
    obtain ⟨d', e1, q⟩ := hk.ofO
    exact ixd gr.bh rx ry e1 (q.later gr)⟩
theorem ped_chain {op op' : CmpOp} {g g' : D → D → Option D} (ho : OpD X (compareOp op) g) (ho' : OpD X (compareOp op') g') (ha : PED X Wx a ma) (hb : PED X Wx b mb) (hc : PED X Wx c mc)
    (hm : lastMarks [op, op'] [b, c] = false) : PED X Wx (.Compare a [op, op'] [b, c] pos) (eCh g g' ma mb mc) :=
  fun W σ H B ρ E Q h => ⟨_, pe_chain op_wp op_wp pe_wp pe_wp pe_wp hm, two ha hb E h fun d e x y B2 H2 gr rx ry hk => by
    obtain ⟨z, e1, q⟩ := hk.bind.ofO
    refine ho B2 H2 x y d e z _ gr.bh rx ry e1 fun v B3 H3 g3 r3 => ?_
    obtain ⟨k, e2, q2⟩ := q.bind.ofO
    cases z with
    | bl k' =>
      obtain rfl : k' = k := Option.some.inj e2
      refine ⟨k', r3.bl_inv, ?_⟩
      cases k' with
      | true =>
        rw [if_pos rfl] at q2 ⊢
        refine hc W σ H3 B3 ρ ((E.grow gr).grow g3) _ (q2.bind.mono (fun w _ hw u B4 H4 g4 ru => ?_) fun x h => (h.later gr).later g3)
        obtain ⟨d', e3, q3⟩ := hw.ofO
        exact ho' B4 H4 y u e w d' Q g4.bh ((ry.mono g3.bb).mono g4.bb) ru e3 (((q3.later gr).later g3).later g4)
      | false =>
        rw [if_neg Bool.false_ne_true] at q2 ⊢
        exact okD.at (((show okD X B H Q (.bl false) from q2).later gr).later g3) g3.bh (.bl false)
    | _ => cases e2⟩
/-- a comparison's value, or any True | False, as a test -/
theorem ptd_val (ha : PED X Wx a ma) (he : ∀ whole, isTrue a X.env whole = (do let v ← whole; standAt a.pos; holding [v] (truthy v))) : PTD X Wx a (GD.mB ma) :=
  fun W σ H B ρ E Q h => ⟨_, pt_val pe_wp he, ha W σ H B ρ E _ ((show Post ((ma ρ).bind fun x => R.ofO (asB x)) _ _ from h).bind.mono (fun d _ hd x B1 H1 g1 rx => by
    obtain ⟨k, e1, q⟩ := hd.ofO
    cases d with
    | bl k' =>
      obtain rfl : k' = k := Option.some.inj e1
      exact ⟨k', rx.bl_inv, q B1 H1 g1⟩
    | _ => cases e1) fun x h => h)⟩
variable {t u : TM} {rest : List Expr}
theorem ptd_not (ha : PTD X Wx a t) : PTD X Wx (.UnaryOp .Not a pos) (GD.mNot t) :=
  fun W σ H B ρ E Q h => ⟨_, pt_not pt_wp, ha W σ H B ρ E _ ((show Post ((t ρ).bind fun b => R.ok (!b)) _ _ from h).bind.mono (fun b _ hb B1 H1 g1 => (show okT B H Q (!b) from hb) B1 H1 g1) fun x h => h)⟩
/-- and, or as tests -/
def wpW (X : Cx) (e : Expr) : TT := fun σ H Q => ∃ t, PW X e t ∧ t σ H Q
theorem pw_wp : PW X e (wpW X e) := ⟨fun wh pins s σ H Q I ⟨_, h, q⟩ => h.run wh pins s σ H Q I q⟩
def PWD (X : Cx) (Wx : WX) (e : Expr) (m : TM) : Prop := ∀ W σ H B ρ, EnvOk X.K X.mg W B H σ ρ → ∀ Q, Post (m ρ) (okT B H Q) (erD X Wx σ B H) → wpW X e σ H Q
theorem pwd_pt (h : PWD X Wx e t) : PTD X Wx e t := fun W σ H B ρ E Q q => let ⟨r, h1, h2⟩ := h W σ H B ρ E Q q; ⟨r, h1.pt, h2⟩
theorem pwd_and1 (ha : PTD X Wx a t) : PWD X Wx (.BoolOp .And [a] pos) t := fun W σ H B ρ E Q h => ⟨_, pw_and1 pt_wp, ha W σ H B ρ E Q h⟩
theorem pwd_or1 (ha : PTD X Wx a t) : PWD X Wx (.BoolOp .Or [a] pos) t := fun W σ H B ρ E Q h => ⟨_, pw_or1 pt_wp, ha W σ H B ρ E Q h⟩
theorem pwd_and (ha : PTD X Wx a t) (hb : PWD X Wx (.BoolOp .And (b :: rest) pos) u) : PWD X Wx (.BoolOp .And (a :: b :: rest) pos) (GD.mAnd t u) :=
  fun W σ H B ρ E Q h => ⟨_, pw_and pt_wp pw_wp, ha W σ H B ρ E _ ((show Post ((t ρ).bind fun b => if b = true then u ρ else .ok false) _ _ from h).bind.mono (fun k _ hk B1 H1 g1 => by
    cases k with
    | true =>
      rw [if_pos rfl] at hk ⊢
      exact hb W σ H1 B1 ρ (E.grow g1) Q (hk.mono (fun _ _ q => q.later g1) fun _ q => q.later g1)
    | false =>
      rw [if_neg Bool.false_ne_true] at hk ⊢
      exact (show okT B H Q false from hk) B1 H1 g1) fun x h => h)⟩
theorem pwd_or (ha : PTD X Wx a t) (hb : PWD X Wx (.BoolOp .Or (b :: rest) pos) u) : PWD X Wx (.BoolOp .Or (a :: b :: rest) pos) (GD.mOr t u) :=
  fun W σ H B ρ E Q h => ⟨_, pw_or pt_wp pw_wp, ha W σ H B ρ E _ ((show Post ((t ρ).bind fun b => if b = true then .ok true else u ρ) _ _ from h).bind.mono (fun k _ hk B1 H1 g1 => by
    cases k with
    | false =>
      rw [if_neg Bool.false_ne_true] at hk ⊢
      exact hb W σ H1 B1 ρ (E.grow g1) Q (hk.mono (fun _ _ q => q.later g1) fun _ q => q.later g1)
    | true =>
      rw [if_pos rfl] at hk ⊢
      exact (show okT B H Q true from hk) B1 H1 g1) fun x h => h)⟩
/-- a True | False read off -/
theorem postB {W : Wd} {σ : L2.St} {B H : Hp} {α : Type} {k : Bool → R α} {P : α → Prop} {ρ : En} (h : Post ((GD.mB ma ρ).bind k) P (erD X Wx σ B H)) :
    Post (ma ρ) (fun d => ∃ b, d = .bl b ∧ Post (k b) P (erD X Wx σ B H)) (erD X Wx σ B H) := by
  unfold GD.mB at h
  cases e : ma ρ with
  | ok d =>
    rw [e] at h
    cases d with
    | bl b => exact ⟨b, rfl, h⟩
    | _ => exact False.elim h
  | er x => rw [e] at h; exact h
  | st => rw [e] at h; exact h
theorem ped_not (ha : PED X Wx a ma) : PED X Wx (.UnaryOp .Not a pos) (eNot ma) :=
  fun W σ H B ρ E Q h => ⟨_, pe_not pe_wp, ha W σ H B ρ E _ ((postB (W := W) h).mono (fun d _ ⟨b, e, q⟩ x B1 H1 g1 rx => by
    subst e
    exact ⟨b, rx.bl_inv, okD.at ((show okD X B H Q (.bl (!b)) from q).later g1) g1.bh (.bl _)⟩) fun x h => h)⟩
theorem ped_one {op} (ha : PED X Wx a ma) : PED X Wx (.BoolOp op [a] pos) ma := fun W σ H B ρ E Q h => ⟨_, pe_one pe_wp, ha W σ H B ρ E Q h⟩
theorem ped_and (ha : PED X Wx a ma) (hb : PED X Wx (.BoolOp .And (b :: rest) pos) mb) : PED X Wx (.BoolOp .And (a :: b :: rest) pos) (eAnd ma mb) :=
  fun W σ H B ρ E Q h => ⟨_, pe_and pe_wp pe_wp, ha W σ H B ρ E _ ((postB (W := W) h).mono (fun d _ ⟨k, e, q⟩ x B1 H1 g1 rx => by
    subst e
    refine ⟨k, rx.bl_inv, ?_⟩
    cases k with
    | true =>
      rw [if_pos rfl] at q ⊢
      exact hb W σ H1 B1 ρ (E.grow g1) Q (q.mono (fun _ _ q => q.later g1) fun _ q => q.later g1)
    | false =>
      rw [if_neg Bool.false_ne_true] at q ⊢
      exact okD.at ((show okD X B H Q (.bl false) from q).later g1) g1.bh (.bl _)) fun x h => h)⟩
theorem ped_or (ha : PED X Wx a ma) (hb : PED X Wx (.BoolOp .Or (b :: rest) pos) mb) : PED X Wx (.BoolOp .Or (a :: b :: rest) pos) (eOr ma mb) :=
  fun W σ H B ρ E Q h => ⟨_, pe_or pe_wp pe_wp, ha W σ H B ρ E _ ((postB (W := W) h).mono (fun d _ ⟨k, e, q⟩ x B1 H1 g1 rx => by
    subst e
    refine ⟨k, rx.bl_inv, ?_⟩
    cases k with
    | false =>
      rw [if_neg Bool.false_ne_true] at q ⊢
      exact hb W σ H1 B1 ρ (E.grow g1) Q (q.mono (fun _ _ q => q.later g1) fun _ q => q.later g1)
    | true =>
      rw [if_pos rfl] at q ⊢
      exact okD.at ((show okD X B H Q (.bl true) from q).later g1) g1.bh (.bl _)) fun x h => h)⟩

/-! ### argument lists, displays, calls -/
theorem pad_nil : PAD X Wx [] aNil := fun W σ H B ρ E Q h => ⟨_, pa_nil, h [] B H (Grow.refl E.bh) .nil⟩
theorem pad_cons (ha : PED X Wx a ma) (hr : PAD X Wx es mr) (hs : starEach (a :: es) X.env = (false, eval a X.env) :: starEach es X.env := by rfl) : PAD X Wx (a :: es) (aCons ma mr) :=
  fun W σ H B ρ E Q h => ⟨_, pa_cons pe_wp pa_wp hs, ha W σ H B ρ E _ ((show Post ((ma ρ).bind fun x => (mr ρ).bind fun xs => R.ok (x :: xs)) _ _ from h).bind.mono (fun d _ hd x B1 H1 g1 rx =>
    hr W σ H1 B1 ρ (E.grow g1) _ (hd.bind.mono (fun ds _ hds vs B2 H2 g2 r2 => (show okA X B H Q (d :: ds) from hds) _ B2 H2 (g1.trans g2) (.cons (rx.mono g2.bb) r2)) fun x h => h.later g1)) fun x h => h)⟩
theorem ped_tup {k} (h : PAD X Wx es mr) : PED X Wx (.Tuple es k pos) (eTup mr) :=
  fun W σ H B ρ E Q hq => ⟨_, pe_tup pa_wp, h W σ H B ρ E _ ((show Post ((mr ρ).bind fun ds => if ds.length ≤ sizeLine then R.ok (D.tup ds) else R.st) _ _ from hq).bind.mono (fun ds _ hd vs B1 H1 g1 r1 => by
    by_cases hl : ds.length ≤ sizeLine
    · rw [if_pos hl] at hd
      exact ⟨by rw [r1.length]; exact hl, fun p hp => okD.nt ((show okD X B H Q (.tup ds) from hd).later g1) g1.bh hp r1⟩
    · rw [if_neg hl] at hd
      exact hd.elim) fun x h => h)⟩
theorem okF.nl {B H : Hp} {Q : VK} {ds : List D} {xs : List V} {p : Addr} (h : okF X B H Q ds) (e : Same B H) (n : H p = none) (r : IsL X.K X.mg B xs ds) : Q (.ref p) (upd H p (.lst xs)) :=
  h p xs B _ (Grow.own e n) n upd_same (by
    cases q : B p with
    | none => rfl
    | some o => rw [e p o q] at n; cases n) r
theorem pfd_lst (h : PAD X Wx es mr) : PFD X Wx (.List es pos) (aLst mr) :=
  fun W σ H B ρ E Q hq => ⟨_, pe_lst pa_wp, h W σ H B ρ E _ ((show Post ((mr ρ).bind fun ds => if ds.length ≤ sizeLine then R.ok ds else R.st) _ _ from hq).bind.mono (fun ds _ hd vs B1 H1 g1 r1 => by
    by_cases hl : ds.length ≤ sizeLine
    · rw [if_pos hl] at hd
      exact ⟨by rw [r1.length]; exact hl, fun p hp => okF.nl ((show okF X B H Q ds from hd).later g1) g1.bh hp r1⟩
    · rw [if_neg hl] at hd
      exact hd.elim) fun x h => h)⟩
/-- a new list taken as data -/
theorem ped_new {mf : AM} (h : PFD X Wx e mf) : PED X Wx e (eL mf) :=
  fun W σ H B ρ E Q hq => h W σ H B ρ E Q ((show Post ((mf ρ).bind fun ds => R.ok (D.lst ds)) _ _ from hq).bind.mono (fun ds _ hd p xs B1 H1 g n e1 nb r => by
    have nb' : ∀ q u, B1 q = some u → q ≠ p := fun q u e z => by rw [z, nb] at e; cases e
    have s1 : Same B1 (upd B1 p (.lst xs)) := fun q u e => by rw [upd_ne (nb' q u e)]; exact e
    refine (show okD X B H Q (.lst ds) from hd) _ (upd B1 p (.lst xs)) H1 ⟨g.bb.trans s1, g.hh, fun q u e => ?_, fun q u e tt z => ?_⟩ (.lst upd_same (r.mono s1))
    · by_cases hq : q = p
      · subst hq; rw [upd_same] at e; rw [e1, e]
      · rw [upd_ne hq] at e; exact g.bh q u e
    · rw [upd_ne (ne_of_none e n)]
      exact g.sep q u e tt z) fun x h => h)
theorem ped_lst (h : PAD X Wx es mr) : PED X Wx (.List es pos) (eL (aLst mr)) := ped_new (pfd_lst h)
/-- what a def promises, over data -/
def spD (K : PySem.W.Frag) (mg : Str → Option Value) (n : Nat) (F : List D → R D) : Sp := fun vs H Q E => ∃ B ds, Same B H ∧ ds.length = n ∧ IsL K mg B vs ds ∧
  Post (F ds) (fun d => ∀ v B' H', Grow B H B' H' → Is K mg B' v d → Q v H') (fun x => ∀ cls B' H', mg x = some cls → Grow B H B' H' → E cls none H')
/-- a def of the module that keeps such a promise -/
def FnD (P : Program) (w : World) (K : PySem.W.Frag) (mg : Str → Option Value) (base : Heap) (k : Nat) (x : Str) (ps : List Str) (F : List D → R D) : Prop :=
  ∃ f fd, mg x = some (.ref f) ∧ PySem.W.keepIn K (.ref f) = true ∧ Binds K fd ps [] ∧ FnOk P w K mg base (L2.CX P w) k f fd ps (spD K mg ps.length F)
theorem ped_call {k : Nat} {x : Str} {ps : List Str} {F : List D → R D} (hF : FnD X.prog X.w X.K X.mg X.base k x ps F) (hr : Room k X.A) (tk : Takes X Wx) (hg : Gl X x) (ha : PAD X Wx (a :: es) (aCons ma mr)) (hn : ∀ ρ ds, aCons ma mr ρ = .ok ds → ds.length = ps.length)
    (hdb : (x == ("__debug__" : Str)) = false := by decide) (he : starEach (a :: es) X.env = (false, eval a X.env) :: starEach es X.env := by rfl) (hpl : (backTo pos (starEach es X.env)).any (·.1) = false := by rfl) :
    PED X Wx (.Call (.Name x p) (a :: es) [] pos) (eF F (aCons ma mr)) := by
  obtain ⟨f, fd, hm, hk, hb, hf⟩ := hF
  intro W σ H B ρ E Q h
  refine ⟨_, pe_callS hf hr hg hm hk hb (fun σ => passAt tk σ) pa_wp hdb he hpl, ?_⟩
  refine ha W σ H B ρ E _ ((show Post ((aCons ma mr ρ).bind F) _ _ from h).bind.mono (fun ds hds hd vs B1 H1 g1 r1 => ?_) fun x h => h)
  exact ⟨B1, ds, g1.bh, hn ρ ds hds, r1, hd.mono (fun d _ q v B2 H2 g2 r2 => q v B2 H2 (g1.trans g2) r2) fun x q cls B2 H2 e g2 => q cls B2 H2 e (g1.trans g2)⟩
theorem aCons_len {n : Nat} (h : ∀ ρ ds, mr ρ = .ok ds → ds.length = n) : ∀ ρ ds, aCons ma mr ρ = .ok ds → ds.length = n + 1 := by
  intro ρ ds e
  unfold aCons at e
  cases h1 : ma ρ with
  | ok d =>
    rw [h1] at e
    cases h2 : mr ρ with
    | ok xs =>
      rw [h2] at e
      cases e
      rw [List.length_cons, h ρ xs h2]
    | er x => rw [h2] at e; cases e
    | st => rw [h2] at e; cases e
  | er x => rw [h1] at e; cases e
  | st => rw [h1] at e; cases e
theorem aNil_len : ∀ (ρ : En) ds, aNil ρ = .ok ds → ds.length = 0 := by
  intro ρ ds e
  cases e
  rfl
/-- a built-in called by its name -/
def CallD (X : Cx) (f : Value) (g : List D → Option D) : Prop := ∀ B H vs ds d' Q, Same B H → IsL X.K X.mg B vs ds → g ds = some d' → okD X B H Q d' → ∃ r, CallR X f r ∧ r vs H Q
def wpC (X : Cx) (f : Value) : List V → Hp → VK → Prop := fun vs H Q => ∃ r, CallR X f r ∧ r vs H Q
theorem call_wp {f : Value} : CallR X f (wpC X f) := fun pins s σ H xs us Q I r ⟨_, h, q⟩ => h pins s σ H xs us Q I r q
theorem ped_callB {x : Str} {id : String} {g : List D → Option D} (hc : CallD X (.builtin id) g) (hg : Gl X x) (hm : X.mg x = none) (hv : bootBuiltins x = some (.builtin id)) (ha : PAD X Wx (a :: es) mr) (hn : x ≠ "__name__" := by decide) (hdb : (x == ("__debug__" : Str)) = false := by decide)
    (he : starEach (a :: es) X.env = (false, eval a X.env) :: starEach es X.env := by rfl) (hpl : (backTo pos (starEach es X.env)).any (·.1) = false := by rfl) : PED X Wx (.Call (.Name x p) (a :: es) [] pos) (eB g mr) :=
  fun W σ H B ρ E Q h => ⟨_, pe_callB call_wp hg hm hv pa_wp hn hdb he hpl, ha W σ H B ρ E _ ((show Post ((mr ρ).bind fun ds => R.ofO (g ds)) _ _ from h).bind.mono (fun ds _ hd vs B1 H1 g1 r1 => by
    obtain ⟨d', e1, q⟩ := hd.ofO
    exact hc B1 H1 vs ds d' Q g1.bh r1 e1 (q.later g1)) fun x h => h)⟩
theorem ped_callT {x : Str} {T : String} {g : List D → Option D} (hc : CallD X (.type T) g) (hg : Gl X x) (hm : X.mg x = none) (hv : bootBuiltins x = some (.type T)) (ha : PAD X Wx (a :: es) mr) (hn : x ≠ "__name__" := by decide) (hdb : (x == ("__debug__" : Str)) = false := by decide)
    (he : starEach (a :: es) X.env = (false, eval a X.env) :: starEach es X.env := by rfl) (hpl : (backTo pos (starEach es X.env)).any (·.1) = false := by rfl) : PED X Wx (.Call (.Name x p) (a :: es) [] pos) (eB g mr) :=
  fun W σ H B ρ E Q h => ⟨_, pe_callTy call_wp hg hm hv pa_wp hn hdb he hpl, ha W σ H B ρ E _ ((show Post ((mr ρ).bind fun ds => R.ofO (g ds)) _ _ from h).bind.mono (fun ds _ hd vs B1 H1 g1 r1 => by
    obtain ⟨d', e1, q⟩ := hd.ofO
    exact hc B1 H1 vs ds d' Q g1.bh r1 e1 (q.later g1)) fun x h => h)⟩
end
end GD

/-! GD, part c: statements, loops, defs. -/
namespace GD
open PySem PySem.Spec PyProof.Rows L2

/-! ### combinators -/
def sNil : SM := fun ρ => .nx ρ
def sSeq (a b : SM) : SM := fun ρ => match a ρ with
  | .nx ρ' => b ρ'
  | o => o
/-- with an answer: a value goes on, an error leaves -/
def ofR {α : Type} (r : R α) (ρ : En) (k : α → Out) : Out := match r with
  | .ok a => k a
  | .er x => .er x ρ
  | .st => .st
def sIf (t : TM) (a b : SM) : SM := fun ρ => ofR (t ρ) ρ fun c => if c = true then a ρ else b ρ
def sAsg (i : Nat) (m : EM) : SM := fun ρ => ofR (m ρ) ρ fun d => .nx (ρ.set i (.v d))
def sRet (m : EM) : SM := fun ρ => ofR (m ρ) ρ .rt
def sRetN : SM := fun _ => .rt .non
def sExpr (m : EM) : SM := fun ρ => ofR (m ρ) ρ fun _ => .nx ρ
def sRaise (x : Str) : SM := fun ρ => .er x ρ
def sBreak : SM := fun ρ => .bk ρ
def sCont : SM := fun ρ => .ct ρ
/-- a list of one's own made -/
def sOwn (i : Nat) (m : AM) : SM := fun ρ => ofR (m ρ) ρ fun ds => .nx (ρ.set i (.l ds))
/-- a list of one's own becomes data, ahead of a statement -/
def sFrz (i : Nat) (a : SM) : SM := fun ρ => a (frz i ρ)
/-- targets: a name; a tuple of targets -/
def gNm (i : Nat) : D → En → Option En := fun d ρ => some (ρ.set i (.v d))
def gsNil : List D → En → Option En := fun ds ρ => match ds with
  | [] => some ρ
  | _ => none
def gsCons (g : D → En → Option En) (gs : List D → En → Option En) : List D → En → Option En := fun ds ρ => match ds with
  | d :: r => (g d ρ).bind fun ρ' => gs r ρ'
  | [] => none
def gTp (gs : List D → En → Option En) : D → En → Option En := fun d ρ => match d with
  | .tup ds => gs ds ρ
  | _ => none
def sTgt (g : D → En → Option En) (m : EM) : SM := fun ρ => ofR (m ρ) ρ fun d => match g d ρ with
  | some ρ' => .nx ρ'
  | none => .st
def sPar (i j : Nat) (ma mb : EM) : SM := fun ρ => ofR ((ma ρ).bind fun x => (mb ρ).bind fun y => .ok (x, y)) ρ fun p => .nx ((ρ.set i (.v p.1)).set j (.v p.2))
/-- a loop over given items -/
def loop (g : D → En → Option En) (body : SM) : List D → En → Out
  | [], ρ => .nx ρ
  | d :: r, ρ => match g d ρ with
    | none => .st
    | some ρ' => match body ρ' with
      | .nx ρ2 => loop g body r ρ2
      | .ct ρ2 => loop g body r ρ2
      | .bk ρ2 => .nx ρ2
      | o => o
def asL : D → Option (List D)
  | .lst ds => some ds
  | .scr ns => some (ns.map D.int)
  | _ => none
def asT : D → Option (List D)
  | .tup ds => some ds
  | _ => none
def sFor (g : D → En → Option En) (f : D → Option (List D)) (m : EM) (body : SM) : SM := fun ρ => ofR ((m ρ).bind fun d => R.ofO (f d)) ρ fun ds => loop g body ds ρ
/-- range(a), range(a, b), range(a, b, c) -/
def rg (a c : Int) (n : Nat) : List D := (List.range n).map fun i => D.int (a + (i : Nat) * c)
def dRange : List D → Option (List D)
  | [.int j] => if -(2 ^ 62) ≤ j ∧ j < 2 ^ 62 then some (rg 0 1 j.toNat) else none
  | [.int i, .int j] => if -(2 ^ 62) ≤ i ∧ i < 2 ^ 62 ∧ -(2 ^ 62) ≤ j ∧ j < 2 ^ 62 then some (rg i 1 (j - i).toNat) else none
  | [.int i, .int j, .int c] => if c ≠ 0 ∧ c.natAbs < 1073741824 ∧ Builtin.Range.small i j c = true ∧ 0 ≤ Builtin.Range.rangeSize i j c then some (rg i c (Builtin.Range.rangeSize i j c).toNat) else none
  | _ => none
def sForR (g : D → En → Option En) (m : AM) (body : SM) : SM := fun ρ => ofR ((m ρ).bind fun ds => R.ofO (dRange ds)) ρ fun ds => loop g body ds ρ
def whileN (t : TM) (body : SM) : Nat → En → Out
  | 0, _ => .st
  | n + 1, ρ => ofR (t ρ) ρ fun c => if c = true then (match body ρ with
      | .nx ρ2 => whileN t body n ρ2
      | .ct ρ2 => whileN t body n ρ2
      | .bk ρ2 => .nx ρ2
      | o => o) else .nx ρ
def sWhile (fuel : En → Nat) (t : TM) (body : SM) : SM := fun ρ => whileN t body (fuel ρ) ρ
/-- xs.append(e), a list of one's own; xs.pop(); xs.insert(i, e); xs[i] = e; xs.clear() -/
def sApp (i : Nat) (m : EM) : SM := fun ρ => match ρ[i]? with
  | some (.l ds) => ofR (m ρ) ρ fun d => if ds.length < sizeLine then .nx (ρ.set i (.l (ds ++ [d]))) else .st
  | _ => .st
def sPop (i : Nat) : SM := fun ρ => match ρ[i]? with
  | some (.l ds) => if ds = [] then .st else .nx (ρ.set i (.l ds.dropLast))
  | _ => .st
/-- a def's answer -/
def runF (n : Nat) (m : SM) (ds : List D) : R D := match m (ds.map Sl.v ++ List.replicate (n - ds.length) Sl.un) with
  | .rt d => .ok d
  | .nx _ => .ok .non
  | .er x _ => .er x
  | _ => .st

/-! ### rules -/
section
variable {X : Cx} {Wx : WX} {W : Wd} {a b c e : Expr} {es : List Expr} {st : Stmt} {ss ts : List Stmt} {pos p : Pos} {ma mb m : EM} {mr mf : AM} {t : TM} {sa sb sc : SM} {σ : L2.St} {B H : Hp} {ρ : En} {D : Ends}
theorem PostS.ofR {α : Type} {r : R α} {k : α → Out} (h : PostS X W Wx (GD.ofR r ρ k) D) (E : EnvOk X.K X.mg W B H σ ρ) : Post r (fun x => PostS X W Wx (k x) D) (erD X Wx σ B H) := by
  cases r with
  | ok x => exact h
  | er x => exact fun cls B' H' e g => h cls σ B' H' e (E.grow g)
  | st => exact h
theorem pbd_nil : PBD X Wx [] sNil := fun W σ H B ρ E D h => ⟨_, pss_nil, (show PostS X W Wx (.nx ρ) D from h) σ B H E⟩
theorem pbd_cons (h1 : PSD X Wx st sa) (h2 : PBD X Wx ss sb) : PBD X Wx (st :: ss) (sSeq sa sb) :=
  fun W σ H B ρ E D h => ⟨_, pss_cons ps_wp pb_wp, h1 W σ H B ρ E { D with nx := wpB X ss D } (by
    unfold sSeq at h
    cases e : sa ρ with
    | nx ρ' =>
      rw [e] at h
      exact fun σ' B' H' E' => h2 W σ' H' B' ρ' E' D h
    | rt d => rw [e] at h; exact h
    | bk ρ' => rw [e] at h; exact h
    | ct ρ' => rw [e] at h; exact h
    | er x ρ' => rw [e] at h; exact h
    | st => rw [e] at h; exact h)⟩
theorem pbd_one (h1 : PSD X Wx st sa) : PBD X Wx [st] sa := fun W σ H B ρ E D h => ⟨_, pss_one ps_wp, h1 W σ H B ρ E D h⟩
theorem psd_frz (i : Nat) (h : PSD X Wx st sa) : PSD X Wx st (sFrz i sa) := fun W σ H B ρ E D q =>
  let ⟨B', E'⟩ := E.frz i
  h W σ H B' _ E' D q
theorem psd_pass : PSD X Wx (.Pass pos) sNil := fun W σ H B ρ E D h => ⟨_, ps_pass, (show PostS X W Wx (.nx ρ) D from h) σ B H E⟩
theorem psd_break : PSD X Wx (.Break pos) sBreak := fun W σ H B ρ E D h => ⟨_, ps_break, (show PostS X W Wx (.bk ρ) D from h) σ B H E⟩
theorem psd_cont : PSD X Wx (.Continue pos) sCont := fun W σ H B ρ E D h => ⟨_, ps_continue, (show PostS X W Wx (.ct ρ) D from h) σ B H E⟩
theorem psd_doc {x j pos'} : PSD X Wx (.Expr (.Constant (.str x) j pos) pos') sNil := fun W σ H B ρ E D h => ⟨_, ps_doc, (show PostS X W Wx (.nx ρ) D from h) σ B H E⟩
theorem psd_expr (h : PED X Wx e m) (hs : swapsWith e none pos.line X.env = pure false := by rfl) : PSD X Wx (.Expr e pos) (sExpr m) := fun W σ H B ρ E D q =>
  ⟨_, ps_expr pe_wp hs, h W σ H B ρ E _ ((PostS.ofR q E).mono (fun d _ hd v B' H' g _ => hd σ B' H' (E.grow g)) fun _ z => z)⟩
theorem psd_ret (h : PED X Wx e m) : PSD X Wx (.Return (some e) pos) (sRet m) := fun W σ H B ρ E D q =>
  ⟨_, ps_ret pe_wp, h W σ H B ρ E _ ((PostS.ofR q E).mono (fun d _ hd v B' H' g r => (show PostS X W Wx (.rt d) D from hd) v B' H' (E.gr.trans g) r) fun _ z => z)⟩
theorem psd_retN : PSD X Wx (.Return none pos) sRetN := fun W σ H B ρ E D q => ⟨_, ps_retN, (show PostS X W Wx (.rt .non) D from q) _ B H E.gr .non⟩
theorem psd_if (hc : PTD X Wx c t) (ha : PBD X Wx ss sa) (hb : PBD X Wx ts sb) : PSD X Wx (.If c ss ts pos) (sIf t sa sb) := fun W σ H B ρ E D q =>
  ⟨_, ps_if pt_wp pb_wp pb_wp, hc W σ H B ρ E _ ((PostS.ofR q E).mono (fun k _ hk B' H' g => by
    cases k with
    | true =>
      rw [if_pos rfl] at hk ⊢
      exact ha W σ H' B' ρ (E.grow g) D hk
    | false =>
      rw [if_neg Bool.false_ne_true] at hk ⊢
      exact hb W σ H' B' ρ (E.grow g) D hk) fun _ z => z)⟩
theorem psd_set {i : Nat} {x : Str} {pos' : Pos} (hN : X.N.Nodup) (hi : X.N[i]? = some x) (hx : Loc X.env.scope x) (h : PED X Wx e m) (hs : swapsWith e (some (.Name x pos')) pos.line X.env = pure false := by rfl)
    (hf : X.fn x = true ∨ X.env.scope.names.lookup x = some .local := by first | exact .inl rfl | exact .inr rfl | assumption) : PSD X Wx (.Assign [.Name x pos'] e pos) (sAsg i m) := fun W σ H B ρ E D q =>
  ⟨_, ps_set hN hi hx pe_wp hs hf, h W σ H B ρ E _ ((PostS.ofR q E).mono (fun d _ hd v B' H' g r => (show PostS X W Wx (.nx (ρ.set i (.v d))) D from hd) _ B' H' ((E.grow g).set r)) fun _ z => z)⟩
theorem psd_own {i : Nat} {x : Str} {pos' : Pos} (hN : X.N.Nodup) (hi : X.N[i]? = some x) (hx : Loc X.env.scope x) (h : PFD X Wx e mf) (hs : swapsWith e (some (.Name x pos')) pos.line X.env = pure false := by rfl)
    (hf : X.fn x = true ∨ X.env.scope.names.lookup x = some .local := by first | exact .inl rfl | exact .inr rfl | assumption) : PSD X Wx (.Assign [.Name x pos'] e pos) (sOwn i mf) := fun W σ H B ρ E D q =>
  ⟨_, ps_set hN hi hx pe_wp hs hf, h W σ H B ρ E _ ((PostS.ofR q E).mono (fun ds _ hd p xs B' H' g n e1 nb r => (show PostS X W Wx (.nx (ρ.set i (.l ds))) D from hd) _ B' H' ((E.grow g).setL e1 nb (by
    cases q : W.H p with
    | none => rfl
    | some o => rw [E.gr.hh p o q] at n; cases n) (fun j fs hj _ z => by
      obtain ⟨p', ys, h1, h2, _⟩ := E.own j fs hj
      rw [z] at h1
      cases h1
      rw [n] at h2
      cases h2) r)) fun _ z => z)⟩
/-- targets -/
def wpG (X : Cx) (tg : Expr) : TG := fun v σ H Q => ∃ t, PG X tg t ∧ t v σ H Q
theorem pg_wp {tg : Expr} : PG X tg (wpG X tg) := ⟨fun pins s σ H v u Q I r ⟨_, h, q⟩ => h.run pins s σ H v u Q I r q⟩
def wpGs (X : Cx) (tgs : List Expr) : TGs := fun v σ H Q => ∃ t, PGs X tgs t ∧ t v σ H Q
theorem pgs_wp {tgs : List Expr} : PGs X tgs (wpGs X tgs) := ⟨fun pins s σ H v u Q I r ⟨_, h, q⟩ => h.run pins s σ H v u Q I r q⟩
def PGD (X : Cx) (tg : Expr) (g : GD.D → En → Option En) : Prop := ∀ W σ H B ρ ρ' d v, EnvOk X.K X.mg W B H σ ρ → Is X.K X.mg B v d → g d ρ = some ρ' → ∀ Q : L2.St → Hp → Prop, (∀ σ', EnvOk X.K X.mg W B H σ' ρ' → Q σ' H) → wpG X tg v σ H Q
def PGsD (X : Cx) (tgs : List Expr) (g : List GD.D → En → Option En) : Prop := ∀ W σ H B ρ ρ' ds vs, EnvOk X.K X.mg W B H σ ρ → IsL X.K X.mg B vs ds → g ds ρ = some ρ' → ∀ Q : L2.St → Hp → Prop, (∀ σ', EnvOk X.K X.mg W B H σ' ρ' → Q σ' H) → wpGs X tgs vs σ H Q
theorem pgd_name {i : Nat} {x : Str} (hN : X.N.Nodup) (hi : X.N[i]? = some x) (hx : Loc X.env.scope x) (hf : X.fn x = true ∨ X.env.scope.names.lookup x = some .local := by first | exact .inl rfl | exact .inr rfl | assumption) : PGD X (.Name x pos) (gNm i) := by
  intro W σ H B ρ ρ' d v E r g Q q
  cases g
  exact ⟨_, pg_name hN hi hx hf, q _ (E.set r)⟩
theorem pgsd_nil : PGsD X [] gsNil := by
  intro W σ H B ρ ρ' ds vs E r g Q q
  cases r with
  | nil =>
    cases g
    exact ⟨_, pgs_nil, rfl, q _ E⟩
  | cons _ _ => cases g
theorem pgsd_cons {tg : Expr} {tgs : List Expr} {g : GD.D → En → Option En} {gs : List GD.D → En → Option En} (h1 : PGD X tg g) (h2 : PGsD X tgs gs)
    (hs : (assignEach (tg :: tgs) X.env).map (·.2) = assign tg X.env :: (assignEach tgs X.env).map (·.2) := by rfl) : PGsD X (tg :: tgs) (gsCons g gs) := by
  intro W σ H B ρ ρ' ds vs E r gg Q q
  cases r with
  | nil => cases gg
  | cons hv r =>
    simp only [gsCons, Option.bind_eq_some_iff] at gg
    obtain ⟨ρ1, g1, g2⟩ := gg
    exact ⟨_, pgs_cons pg_wp pgs_wp hs, _, _, rfl, h1 W σ H B ρ ρ1 _ _ E hv g1 _ fun σ1 E1 => h2 W σ1 H B ρ1 ρ' _ _ E1 r g2 Q q⟩
theorem gs_len {gs : List GD.D → En → Option En} (n : Nat) (h : ∀ ds ρ ρ', gs ds ρ = some ρ' → ds.length = n) {g : GD.D → En → Option En} : ∀ ds ρ ρ', gsCons g gs ds ρ = some ρ' → ds.length = n + 1 := by
  intro ds ρ ρ' e
  cases ds with
  | nil => cases e
  | cons d r =>
    simp only [gsCons, Option.bind_eq_some_iff] at e
    obtain ⟨ρ1, _, e2⟩ := e
    rw [List.length_cons, h r ρ1 ρ' e2]
theorem gs_len0 : ∀ (ds : List GD.D) (ρ ρ' : En), gsNil ds ρ = some ρ' → ds.length = 0 := by
  intro ds ρ ρ' e
  cases ds with
  | nil => rfl
  | cons _ _ => cases e
theorem pgd_tup {tgs : List Expr} {k : Nat} {gs : List GD.D → En → Option En} {n : Nat} (hc : X.calm = true) (h : PGsD X tgs gs) (hl : ∀ ds ρ ρ', gs ds ρ = some ρ' → ds.length = n)
    (hn : (assignEach tgs X.env).length = n := by rfl) (hst : (assignEach tgs X.env).findIdx? (·.1) = none := by rfl) : PGD X (.Tuple tgs k pos) (gTp gs) := by
  intro W σ H B ρ ρ' d v E r g Q q
  unfold gTp at g
  split at g
  · obtain ⟨a, xs, rfl, h1, r1⟩ := r.tup_inv
    exact ⟨_, pg_tup hc pgs_wp hn hst, a, xs, rfl, seqT E.bh h1, by rw [r1.length]; exact hl _ _ _ g, h W σ H B ρ ρ' _ _ E r1 g Q q⟩
  · cases g
theorem psd_tgt {tg : Expr} {g : GD.D → En → Option En} (h : PED X Wx e m) (hg : PGD X tg g) (hs : swapsWithSole [tg] e pos.line X.env = pure false := by rfl) (hw : swappedStores [tg] e X.env = pure none := by rfl)
    (h1 : (assignEach [tg] X.env).map (·.2) = [assign tg X.env] := by rfl) : PSD X Wx (.Assign [tg] e pos) (sTgt g m) := fun W σ H B ρ E D q =>
  ⟨_, ps_asg pe_wp pg_wp hs hw h1, h W σ H B ρ E _ ((PostS.ofR q E).mono (fun d _ hd v B' H' gr r => by
    cases eg : g d ρ with
    | none => rw [eg] at hd; exact hd.elim
    | some ρ' =>
      rw [eg] at hd
      exact hg W σ H' B' ρ ρ' d v (E.grow gr) r eg _ fun σ' E' => (show PostS X W Wx (.nx ρ') D from hd) σ' B' H' E') fun _ z => z)⟩
theorem psd_par {i j : Nat} {x y : Str} {px py pt : Pos} {kt k2 pt2} (hc : X.calm = true) (hN : X.N.Nodup) (hi : X.N[i]? = some x) (hj : X.N[j]? = some y) (hij : i ≠ j)
    (hx : X.env.scope.names.lookup x = some .local) (hy : X.env.scope.names.lookup y = some .local) (ha : PED X Wx a ma) (hb : PED X Wx b mb)
    (hw : swappedStores [.Tuple [.Name x px, .Name y py] kt pt] (.Tuple [a, b] k2 pt2) X.env = pure (some [x, y]) := by rfl)
    (hs : swapsWithSole [.Tuple [.Name x px, .Name y py] kt pt] (.Tuple [a, b] k2 pt2) pos.line X.env = pure false := by rfl)
    (s1 : starEach [a, b] X.env = (false, eval a X.env) :: starEach [b] X.env := by rfl) (s2 : starEach [b] X.env = (false, eval b X.env) :: starEach [] X.env := by rfl) :
    PSD X Wx (.Assign [.Tuple [.Name x px, .Name y py] kt pt] (.Tuple [a, b] k2 pt2) pos) (sPar i j ma mb) := fun W σ H B ρ E D q =>
  ⟨_, ps_par hc hN hi hj hij hx hy pa_wp hw hs, (pad_cons ha (pad_cons hb pad_nil s2) s1) W σ H B ρ E _ (by
    have q2 := PostS.ofR q E
    unfold aCons aNil
    refine (?_ : Post ((ma ρ).bind fun u => ((mb ρ).bind fun v => (R.ok ([] : List GD.D)).bind fun xs => .ok (v :: xs)).bind fun xs => .ok (u :: xs)) _ _)
    cases e1 : ma ρ with
    | ok u =>
      cases e2 : mb ρ with
      | ok v =>
        rw [e1, e2] at q2
        intro vs B' H' g r
        cases r with
        | cons r1 r =>
          cases r with
          | cons r2 r =>
            cases r
            exact ⟨_, _, rfl, (show PostS X W Wx (.nx _) D from q2) _ B' H' (((E.grow g).set r1).set r2)⟩
      | er z => rw [e1, e2] at q2; exact q2
      | st => rw [e1, e2] at q2; exact q2
    | er z => rw [e1] at q2; exact q2
    | st => rw [e1] at q2; exact q2)⟩
/-- raise X('..') -/
theorem psd_raise {C : Addr} {bmB : List Value} {Bn newId initId : String} {x s : Str} {j : Nat} {p2 pos2 : Pos} (hc : X.calm = true) (tk : Takes X Wx) (F : ExcBaseFacts Bn newId initId bmB) (q : PySem.W.excIn X.K C bmB newId = true) (gC : X.mg x = some (.ref C)) (kC : PySem.W.keepIn X.K (.ref C) = true)
    (r : Raises X (.ref C)) (hg : Gl X x) (hdb : (x == ("__debug__" : Str)) = false := by decide) : PSD X Wx (.Raise (some (.Call (.Name x p) [.Constant (.str s) j p2] [] pos)) none pos2) (sRaise x) := fun W σ H B ρ E D h =>
  ⟨_, ps_raise hc tk (pmk_own F q gC kC r hg hdb), (show PostS X W Wx (.er x ρ) D from h) _ σ B H gC E⟩

/-! ### loops -/
/-- what a loop leaves at its end -/
def ends (D : Ends) (N : L2.St → Hp → Prop) : Ends := { D with nx := N, ct := N, bk := D.nx }
theorem loop_turn {g : GD.D → En → Option En} {d : GD.D} {r : List GD.D} {tgt : Expr} {body : List Stmt} {N : L2.St → Hp → Prop} {v : V} (hg : PGD X tgt g) (hb : PBD X Wx body sb) (E : EnvOk X.K X.mg W B H σ ρ) (rv : Is X.K X.mg B v d)
    (q : PostS X W Wx (loop g sb (d :: r) ρ) D) (hN : ∀ σ' B' H' ρ', EnvOk X.K X.mg W B' H' σ' ρ' → PostS X W Wx (loop g sb r ρ') D → N σ' H') :
    wpG X tgt v σ H fun σ2 H2 => wpB X body (ends D N) σ2 H2 := by
  unfold loop at q
  cases eg : g d ρ with
  | none => rw [eg] at q; exact q.elim
  | some ρ1 =>
    rw [eg] at q
    dsimp only at q
    refine hg W σ H B ρ ρ1 d v E rv eg _ fun σ1 E1 => hb W σ1 H B ρ1 E1 _ ?_
    revert q
    cases eb : sb ρ1 with
    | nx ρ2 => exact fun q σ2 B2 H2 E2 => hN σ2 B2 H2 ρ2 E2 q
    | ct ρ2 => exact fun q σ2 B2 H2 E2 => hN σ2 B2 H2 ρ2 E2 q
    | bk ρ2 => exact fun q => q
    | rt d => exact fun q => q
    | er x ρ2 => exact fun q => q
    | st => exact fun q => q
theorem drop_get {α : Type} {l : List α} {i : Nat} {x : α} (h : l[i]? = some x) : l.drop i = x :: l.drop (i + 1) := by
  obtain ⟨hi, e⟩ := List.getElem?_eq_some_iff.mp h
  rw [List.drop_eq_getElem_cons hi, e]
/-- the loop's outcome read with the clean heap of its begin -/
theorem PostS.back {o : Out} (g : Grow W.B W.H B H) (q : PostS X W Wx o D) : PostS X ⟨B, W.H⟩ Wx o D := by
  cases o with
  | nx ρ => exact fun σ' B' H' E => q σ' B' H' (E.back (B1 := B) g)
  | rt d => exact fun v B' H' gr r => q v B' H' ⟨g.bb.trans gr.bb, gr.hh, gr.bh, fun p o e t n => gr.sep p o e t (g.sep p o e t n)⟩ r
  | bk ρ => exact fun σ' B' H' E => q σ' B' H' (E.back (B1 := B) g)
  | ct ρ => exact fun σ' B' H' E => q σ' B' H' (E.back (B1 := B) g)
  | er x ρ => exact fun cls σ' B' H' e E => q cls σ' B' H' e (E.back (B1 := B) g)
  | st => exact q
theorem psd_forL {tgt : Expr} {body : List Stmt} {g : GD.D → En → Option En} (hp : PassesOwn (model X.prog X.w) X.A X.env X.xe) (hc : X.calm = true) (h : PED X Wx e m) (hg : PGD X tgt g) (hb : PBD X Wx body sb) (hfs : ∀ x, foldedSetIterable e X.env x = pure x := by intro _; rfl) :
    PSD X Wx (.For tgt e body [] pos) (sFor g asL m sb) := fun W σ H B ρ E D q =>
  ⟨_, ps_for (hs := hfs) hp hc (pi_list pe_wp) pg_wp pb_wp, by
    refine h W σ H B ρ E _ ((PostS.ofR q E).bind.mono (fun d _ hd v B1 H1 g1 rv => ?_) fun _ z => z)
    obtain ⟨ds, ed, q1⟩ := hd.ofO
    have E1 := E.grow g1
    have q2 := PostS.back E1.gr q1
    obtain ⟨a, xs, ev, hs, r⟩ : ∃ a xs, v = V.ref a ∧ SqL X.K B1 a xs ∧ IsL X.K X.mg B1 xs ds := by
      cases d with
      | lst ds' =>
        cases ed
        obtain ⟨a, xs, ev, h1, r⟩ := rv.lst_inv
        exact ⟨a, xs, ev, SqL.of h1, r⟩
      | scr ns =>
        cases ed
        obtain ⟨a, ev, h1⟩ := rv.scr_inv
        exact ⟨a, _, ev, h1, IsL.ints ns⟩
      | _ => cases ed
    exact ⟨a, ev, ⟨xs, g1.bh.seq hs⟩, for_list (K := X.K) (a := a) (xs := xs) (fun i σ' H' => ∃ B' ρ', EnvOk X.K X.mg ⟨B1, W.H⟩ B' H' σ' ρ' ∧ PostS X ⟨B1, W.H⟩ Wx (loop g sb (ds.drop i) ρ') D)
        ⟨B1, ρ, E1.here, q2⟩ (fun i σ' H' _ ⟨B', ρ', E', _⟩ => (E'.gr.bb.trans E'.gr.bh).seq hs)
        (fun i x σ' H' hx ⟨B', ρ', E', q'⟩ => by
          obtain ⟨d', hd', r'⟩ := r.at hx
          rw [drop_get hd'] at q'
          exact loop_turn hg hb E' (r'.mono E'.gr.bb) q' fun σ2 B2 H2 ρ2 E2 z => ⟨B2, ρ2, E2, z⟩)
        (fun σ' H' ⟨B', ρ', E', q'⟩ => by
          rw [r.length, List.drop_length] at q'
          exact (show PostS X ⟨B1, W.H⟩ Wx (.nx ρ') D from q') σ' B' H' E')⟩⟩
theorem psd_forT {tgt : Expr} {body : List Stmt} {g : GD.D → En → Option En} (hp : PassesOwn (model X.prog X.w) X.A X.env X.xe) (hc : X.calm = true) (h : PED X Wx e m) (hg : PGD X tgt g) (hb : PBD X Wx body sb) (hfs : ∀ x, foldedSetIterable e X.env x = pure x := by intro _; rfl) :
    PSD X Wx (.For tgt e body [] pos) (sFor g asT m sb) := fun W σ H B ρ E D q =>
  ⟨_, ps_for (hs := hfs) hp hc (pi_tup pe_wp) pg_wp pb_wp, by
    refine h W σ H B ρ E _ ((PostS.ofR q E).bind.mono (fun d _ hd v B1 H1 g1 rv => ?_) fun _ z => z)
    obtain ⟨ds, ed, q1⟩ := hd.ofO
    have E1 := E.grow g1
    have q2 := PostS.back E1.gr q1
    cases d with
    | tup ds' =>
      obtain rfl : ds' = ds := Option.some.inj ed
      obtain ⟨a, xs, ev, hs, r⟩ := rv.tup_inv
      exact ⟨a, ev, ⟨xs, seqT g1.bh hs⟩, for_tup (K := X.K) (a := a) (xs := xs) (fun i σ' H' => ∃ B' ρ', EnvOk X.K X.mg ⟨B1, W.H⟩ B' H' σ' ρ' ∧ PostS X ⟨B1, W.H⟩ Wx (loop g sb (ds'.drop i) ρ') D)
        ⟨B1, ρ, E1.here, q2⟩ (fun i σ' H' _ ⟨B', ρ', E', _⟩ => seqT (E'.gr.bb.trans E'.gr.bh) hs)
        (fun i x σ' H' hx ⟨B', ρ', E', q'⟩ => by
          obtain ⟨d', hd', r'⟩ := r.at hx
          rw [drop_get hd'] at q'
          exact loop_turn hg hb E' (r'.mono E'.gr.bb) q' fun σ2 B2 H2 ρ2 E2 z => ⟨B2, ρ2, E2, z⟩)
        (fun σ' H' ⟨B', ρ', E', q'⟩ => by
          rw [r.length, List.drop_length] at q'
          exact (show PostS X ⟨B1, W.H⟩ Wx (.nx ρ') D from q') σ' B' H' E')⟩
    | _ => cases ed⟩
theorem rg_get {i c : Int} {n k : Nat} (h : k < n) : (rg i c n)[k]? = some (GD.D.int (i + (k : Nat) * c)) := by
  unfold rg
  rw [List.getElem?_map, List.getElem?_range h]
  rfl
theorem rg_len {i c : Int} {n : Nat} : (rg i c n).length = n := by
  unfold rg
  rw [List.length_map, List.length_range]
theorem rg_loop {tgt : Expr} {body : List Stmt} {g : GD.D → En → Option En} {lo c : Int} {n : Nat} {B1 H1 : Hp} (hg : PGD X tgt g) (hb : PBD X Wx body sb) (E : EnvOk X.K X.mg W B1 H1 σ ρ) (q : PostS X W Wx (loop g sb (rg lo c n) ρ) D) :
    (∃ B' ρ', EnvOk X.K X.mg W B' H1 σ ρ' ∧ PostS X W Wx (loop g sb ((rg lo c n).drop 0) ρ') D) ∧
    (∀ (i : Nat) σ' H', i < n → (∃ B' ρ', EnvOk X.K X.mg W B' H' σ' ρ' ∧ PostS X W Wx (loop g sb ((rg lo c n).drop i) ρ') D) →
      wpG X tgt (.int (lo + (i : Nat) * c)) σ' H' fun σ2 H2 => wpB X body (ends D fun σ3 H3 => ∃ B' ρ', EnvOk X.K X.mg W B' H3 σ3 ρ' ∧ PostS X W Wx (loop g sb ((rg lo c n).drop (i + 1)) ρ') D) σ2 H2) ∧
    (∀ σ' H', (∃ B' ρ', EnvOk X.K X.mg W B' H' σ' ρ' ∧ PostS X W Wx (loop g sb ((rg lo c n).drop n) ρ') D) → D.nx σ' H') := by
  refine ⟨⟨B1, ρ, E, q⟩, fun i σ' H' hi ⟨B', ρ', E', q'⟩ => ?_, fun σ' H' ⟨B', ρ', E', q'⟩ => ?_⟩
  · rw [drop_get (rg_get hi)] at q'
    exact loop_turn hg hb E' (.int _) q' fun σ2 B2 H2 ρ2 E2 z => ⟨B2, ρ2, E2, z⟩
  · rw [show (rg lo c n).drop n = [] from by
      rw [List.drop_eq_nil_iff, rg_len]
      exact Nat.le_refl _] at q'
    exact (show PostS X W Wx (.nx ρ') D from q') σ' B' H' E'
theorem psd_for1 {tgt : Expr} {cpos : Pos} {body : List Stmt} {g : GD.D → En → Option En} (hp : PassesOwn (model X.prog X.w) X.A X.env X.xe) (hc : X.calm = true) (hgl : Gl X "range") (hm : X.mg "range" = none) (h : PAD X Wx [a] mr) (hg : PGD X tgt g) (hb : PBD X Wx body sb)
    (hl : ∀ ρ ds, mr ρ = .ok ds → ds.length = 1) (hs : starEach [a] X.env = [(false, eval a X.env)] := by rfl) : PSD X Wx (.For tgt (.Call (.Name "range" p) [a] [] cpos) body [] pos) (sForR g mr sb) := fun W σ H B ρ E D q =>
  ⟨_, ps_for hp hc (pi_range1 hgl hm pa_wp hs) pg_wp pb_wp, by
    refine h W σ H B ρ E _ ((PostS.ofR q E).bind.mono (fun ds eds hd vs B1 H1 g1 rv => ?_) fun _ z => z)
    obtain ⟨rs, ed, q1⟩ := hd.ofO
    have hl1 := hl ρ ds eds
    match ds, hl1, ed, rv with
    | [d], _, ed, rv =>
      cases d with
      | int j =>
        obtain ⟨hj, rfl⟩ := some_ite ed
        cases rv with
        | cons r1 r2 =>
          cases r2
          rw [r1.int_inv]
          obtain ⟨h0, h1, h2⟩ := rg_loop hg hb (E.grow g1) q1
          refine ⟨j, rfl, hj.1, hj.2, for_range (lo := 0) (n := j.toNat) (fun i σ' H' => ∃ B' ρ', EnvOk X.K X.mg W B' H' σ' ρ' ∧ PostS X W Wx (loop g sb ((rg 0 1 j.toNat).drop i) ρ') D) h0 (fun i σ' H' hi p => ?_) h2⟩
          have z := h1 i σ' H' hi p
          rw [Int.mul_one] at z
          exact z
      | _ => cases ed⟩
theorem psd_for2 {tgt : Expr} {cpos : Pos} {body : List Stmt} {g : GD.D → En → Option En} (hp : PassesOwn (model X.prog X.w) X.A X.env X.xe) (hc : X.calm = true) (hgl : Gl X "range") (hm : X.mg "range" = none) (h : PAD X Wx [a, b] mr) (hg : PGD X tgt g) (hb : PBD X Wx body sb)
    (hl : ∀ ρ ds, mr ρ = .ok ds → ds.length = 2) (hs : starEach [a, b] X.env = [(false, eval a X.env), (false, eval b X.env)] := by rfl) (hs2 : starEach [b] X.env = [(false, eval b X.env)] := by rfl) : PSD X Wx (.For tgt (.Call (.Name "range" p) [a, b] [] cpos) body [] pos) (sForR g mr sb) := fun W σ H B ρ E D q =>
  ⟨_, ps_for hp hc (pi_range2 hgl hm pa_wp hs hs2) pg_wp pb_wp, by
    refine h W σ H B ρ E _ ((PostS.ofR q E).bind.mono (fun ds eds hd vs B1 H1 g1 rv => ?_) fun _ z => z)
    obtain ⟨rs, ed, q1⟩ := hd.ofO
    have hl1 := hl ρ ds eds
    match ds, hl1, ed, rv with
    | [d, d2], _, ed, rv =>
      cases d with
      | int i =>
        cases d2 with
        | int j =>
          obtain ⟨hj, rfl⟩ := some_ite ed
          cases rv with
          | cons r1 r2 =>
            cases r2 with
            | cons r2 r3 =>
              cases r3
              rw [r1.int_inv, r2.int_inv]
              obtain ⟨h0, h1, h2⟩ := rg_loop hg hb (E.grow g1) q1
              refine ⟨i, j, rfl, hj, for_range (lo := i) (n := (j - i).toNat) (fun k σ' H' => ∃ B' ρ', EnvOk X.K X.mg W B' H' σ' ρ' ∧ PostS X W Wx (loop g sb ((rg i 1 (j - i).toNat).drop k) ρ') D) h0 (fun k σ' H' hi p => ?_) h2⟩
              have z := h1 k σ' H' hi p
              rw [Int.mul_one] at z
              exact z
        | _ => cases ed
      | _ => cases ed⟩
theorem psd_for3 {tgt : Expr} {cpos : Pos} {body : List Stmt} {g : GD.D → En → Option En} (hp : PassesOwn (model X.prog X.w) X.A X.env X.xe) (hc : X.calm = true) (hgl : Gl X "range") (hm : X.mg "range" = none) (h : PAD X Wx [a, b, c] mr) (hg : PGD X tgt g) (hb : PBD X Wx body sb)
    (hl : ∀ ρ ds, mr ρ = .ok ds → ds.length = 3) (hs : starEach [a, b, c] X.env = (false, eval a X.env) :: starEach [b, c] X.env := by rfl) (hpl : (backTo cpos (starEach [b, c] X.env)).any (·.1) = false := by rfl) :
    PSD X Wx (.For tgt (.Call (.Name "range" p) [a, b, c] [] cpos) body [] pos) (sForR g mr sb) := fun W σ H B ρ E D q =>
  ⟨_, ps_for hp hc (pi_range3 hgl hm pa_wp hs hpl) pg_wp pb_wp, by
    refine h W σ H B ρ E _ ((PostS.ofR q E).bind.mono (fun ds eds hd vs B1 H1 g1 rv => ?_) fun _ z => z)
    obtain ⟨rs, ed, q1⟩ := hd.ofO
    have hl1 := hl ρ ds eds
    match ds, hl1, ed, rv with
    | [d, d2, d3], _, ed, rv =>
      cases d with
      | int i =>
        cases d2 with
        | int j =>
          cases d3 with
          | int k =>
            obtain ⟨⟨hj1, hj2, hj3, hj4⟩, rfl⟩ := some_ite ed
            cases rv with
            | cons r1 r2 =>
              cases r2 with
              | cons r2 r3 =>
                cases r3 with
                | cons r3 r4 =>
                  cases r4
                  rw [r1.int_inv, r2.int_inv, r3.int_inv]
                  obtain ⟨h0, h1, h2⟩ := rg_loop hg hb (E.grow g1) q1
                  exact ⟨i, j, k, (Builtin.Range.rangeSize i j k).toNat, rfl, ⟨hj1, hj2, hj3, by omega⟩, for_rangeC (lo := i) (c := k) (n := (Builtin.Range.rangeSize i j k).toNat) (fun z σ' H' => ∃ B' ρ', EnvOk X.K X.mg W B' H' σ' ρ' ∧ PostS X W Wx (loop g sb ((rg i k (Builtin.Range.rangeSize i j k).toNat).drop z) ρ') D) h0 h1 h2⟩
          | _ => cases ed
        | _ => cases ed
      | _ => cases ed⟩
theorem psd_while {body : List Stmt} {fuel : En → Nat} (hp : PassesOwn (model X.prog X.w) X.A X.env X.xe) (hc : PTD X Wx c t) (hb : PBD X Wx body sb) : PSD X Wx (.While c body [] pos) (sWhile fuel t sb) := fun W σ H B ρ E D q =>
  ⟨_, ps_while hp pt_wp pb_wp, fun m σ' H' => ∃ B' ρ', EnvOk X.K X.mg W B' H' σ' ρ' ∧ PostS X W Wx (whileN t sb m ρ') D, ⟨fuel ρ, B, ρ, E, q⟩, by
    rintro m σ' H' ⟨B', ρ', E', q'⟩
    cases m with
    | zero => exact q'.elim
    | succ m =>
      refine hc W σ' H' B' ρ' E' _ ((PostS.ofR q' E').mono (fun k _ hk B2 H2 g2 => ?_) fun _ z => z)
      cases k with
      | true =>
        rw [if_pos rfl] at hk ⊢
        refine ⟨fun σ3 H3 => ∃ B3 ρ3, EnvOk X.K X.mg W B3 H3 σ3 ρ3 ∧ PostS X W Wx (whileN t sb m ρ3) D, fun σ3 H3 z => ⟨m, Nat.lt_succ_self m, z⟩, hb W σ' H2 B2 ρ' (E'.grow g2) _ ?_⟩
        revert hk
        cases eb : sb ρ' with
        | nx ρ2 => exact fun q σ2 B2 H2 E2 => ⟨B2, ρ2, E2, q⟩
        | ct ρ2 => exact fun q σ2 B2 H2 E2 => ⟨B2, ρ2, E2, q⟩
        | bk ρ2 => exact fun q => q
        | rt d => exact fun q => q
        | er x ρ2 => exact fun q => q
        | st => exact fun q => q
      | false =>
        rw [if_neg Bool.false_ne_true] at hk ⊢
        exact (show PostS X W Wx (.nx ρ') D from hk) σ' B2 H2 (E'.grow g2)⟩
end

/-! ### a def -/
theorem env_start {K : PySem.W.Frag} {mg : Str → Option Value} {B H : Hp} {N : List Str} {vs : List V} {ds : List D} (b : Same B H) (r : IsL K mg B vs ds) :
    EnvOk K mg ⟨B, H⟩ B H (L2.start N vs) (ds.map Sl.v ++ List.replicate (N.length - ds.length) Sl.un) := by
  have hl := r.length
  refine ⟨Grow.refl b, by simp [L2.start, hl], fun i d h => ?_, fun i es h => ?_, fun i j es fs p h _ _ _ => ?_⟩
  · by_cases hi : i < ds.length
    · rw [List.getElem?_append_left (by rw [List.length_map]; exact hi), List.getElem?_map] at h
      cases e : ds[i]? with
      | none => rw [e] at h; cases h
      | some d' =>
        rw [e] at h
        cases h
        obtain ⟨v, h1, h2⟩ := r.get e
        exact ⟨v, by unfold L2.start; rw [List.getElem?_append_left (by rw [List.length_map, hl]; exact hi), List.getElem?_map, h1]; rfl, h2⟩
    · rw [List.getElem?_append_right (by rw [List.length_map]; omega), List.getElem?_replicate] at h
      split at h <;> cases h
  all_goals
    by_cases hi : i < ds.length
    · rw [List.getElem?_append_left (by rw [List.length_map]; exact hi), List.getElem?_map] at h
      cases e : ds[i]? with
      | none => rw [e] at h; cases h
      | some d' => rw [e] at h; cases h
    · rw [List.getElem?_append_right (by rw [List.length_map]; omega), List.getElem?_replicate] at h
      split at h <;> cases h
section
variable {P : Program} {w : World} {K : PySem.W.Frag} {mg : Str → Option Value} {base : Heap}
/-- THE RULE for a def -/
theorem fnOk_mk {x qual : Str} {st : Stmt} {f : Addr} {fd : FuncData} {N ps : List Str} {k : Nat} {m : SM} (F : Fun K x qual st f fd) (S : FnScope N ps (defScope st))
    (hb : ∀ (cdv : Value) (A : Around) (outer : List PySem.Env) (s : Shared) (H : Hp) (E : XK), Room k (A.deeper (envOfC qual (defScope st) s.heap.objs.size f cdv)) →
      PBD (cxOf (L2.CX P w) P w K mg base N qual (defScope st) f cdv A outer s H E) (fun cls d _ H => E cls d H) (defBody st) m) :
    FnOk P w K mg base (L2.CX P w) (k + 1) f fd ps (spD K mg ps.length (runF N.length m)) := by
  refine F.okX S (fun vs H Q E h => ?_) (fun cdv A outer s H vs Q E hr h => ?_)
  · obtain ⟨B, ds, _, hl, r, _⟩ := h
    rw [r.length, hl]
  · obtain ⟨B, ds, b, hl, r, q⟩ := h
    have z := hb cdv A outer s H E hr ⟨B, H⟩ (L2.start N vs) H B _ (env_start b r) { nx := fun _ H' => Q .non H', rt := Q } (by
      unfold runF at q
      show PostS _ _ _ (m (ds.map Sl.v ++ List.replicate (N.length - ds.length) Sl.un)) _
      cases e : m (ds.map Sl.v ++ List.replicate (N.length - ds.length) Sl.un) with
      | nx ρ =>
        rw [e] at q
        exact fun σ' B' H' E' => q .non B' H' E'.gr .non
      | rt d => rw [e] at q; exact q
      | bk ρ => rw [e] at q; exact q.elim
      | ct ρ => rw [e] at q; exact q.elim
      | er y ρ =>
        rw [e] at q
        exact fun cls σ' B' H' ec E' => q cls B' H' ec E'.gr
      | st => rw [e] at q; exact q.elim)
    exact z
end
end GD

/-! GD, part d: built-ins, slices, displays of dicts, comprehensions. -/
namespace GD
open PySem PySem.Spec PyProof.Rows L2

/-! ### built-ins -/
def dAbs : List D → Option D
  | [.int i] => some (.int i.natAbs)
  | _ => none
def dMax2 : List D → Option D
  | [.int i, .int j] => some (.int (max i j))
  | _ => none
def dMin2 : List D → Option D
  | [.int i, .int j] => some (.int (min i j))
  | _ => none
def dLen : List D → Option D
  | [.lst ds] => some (.int ds.length)
  | [.tup ds] => some (.int ds.length)
  | [.scr ns] => some (.int ns.length)
  | [.str x] => if x.length ≤ sizeLine then some (.int x.length) else none
  | _ => none
def dMinL : List D → Option D
  | [.lst ds] => (intsOf ds).bind fun ns => ns.min?.map D.int
  | _ => none
def dMaxL : List D → Option D
  | [.lst ds] => (intsOf ds).bind fun ns => ns.max?.map D.int
  | _ => none
def boolsOf : List D → Option (List Bool)
  | [] => some []
  | .bl i :: ds => (boolsOf ds).map (i :: ·)
  | _ => none
def dAll : List D → Option D
  | [.lst ds] => (boolsOf ds).map fun bs => .bl (bs.all id)
  | _ => none
def dAny : List D → Option D
  | [.lst ds] => (boolsOf ds).map fun bs => .bl (bs.any id)
  | _ => none
def dInt : List D → Option D
  | [.int i] => some (.int i)
  | [.bl b] => some (.int (if b then 1 else 0))
  | _ => none
/-- the name of the class of plain data -/
def tyName : D → Option String
  | .non => some "NoneType"
  | .bl _ => some "bool"
  | .int _ => some "int"
  | .str _ => some "str"
  | .tup _ => some "tuple"
  | .lst _ => some "list"
  | .scr _ => some "list"
  | .dct _ _ => some "dict"
  | _ => none
def dIsi : List D → Option D
  | [d, .ty n] => (tyName d).bind fun t => (kitB t n).map D.bl
  | _ => none
/-- list(xs), list(t): the items of a new list -/
def asC : List D → Option (List D)
  | [.lst ds] => some ds
  | [.tup ds] => some ds
  | [.scr ns] => some (ns.map D.int)
  | _ => none
def cutL {α : Type} (xs : List α) (lo hi : Option Int) : List α := (xs.drop (HT.sIx xs.length 0 lo)).take (HT.sIx xs.length xs.length hi - HT.sIx xs.length 0 lo)
/-- a slice of a text, of a tuple (not the whole of it) -/
def dCut (d : D) (lo hi : Option Int) : Option D := match d with
  | .str x => if x.length ≤ sizeLine then some (.str (cutS x lo hi)) else none
  | .tup ds => if HT.sIx ds.length 0 lo = 0 ∧ HT.sIx ds.length ds.length hi = ds.length then none else some (.tup (cutL ds lo hi))
  | _ => none

section
variable {X : Cx} {K : PySem.W.Frag} {mg : Str → Option Value} {B : Hp}
theorem IsL.one_inv {vs : List V} {d : D} (h : IsL K mg B vs [d]) : ∃ v, vs = [v] ∧ Is K mg B v d := by
  cases h with
  | cons h r => cases r; exact ⟨_, rfl, h⟩
theorem IsL.two_inv {vs : List V} {d e : D} (h : IsL K mg B vs [d, e]) : ∃ v u, vs = [v, u] ∧ Is K mg B v d ∧ Is K mg B u e := by
  cases h with
  | cons h r =>
    obtain ⟨u, rfl, h2⟩ := r.one_inv
    exact ⟨_, u, rfl, h, h2⟩
theorem IsL.bools_inv : ∀ {ds : List D} {ns : List Bool} {xs : List V}, boolsOf ds = some ns → IsL K mg B xs ds → xs = ns.map V.bl
  | [], ns, xs, e, h => by
    cases h
    simp [boolsOf] at e
    subst e
    rfl
  | d :: ds, ns, xs, e, h => by
    cases h with
    | cons h r =>
      cases d with
      | bl i =>
        simp only [boolsOf, Option.map_eq_some_iff] at e
        obtain ⟨ms, e1, rfl⟩ := e
        rw [h.bl_inv, IsL.bools_inv e1 r]
        rfl
      | _ => simp [boolsOf] at e
theorem calld_abs : CallD X (.builtin "abs") dAbs := by
  intro B H vs ds d' Q b r g q
  unfold dAbs at g
  split at g
  · cases g
    obtain ⟨v, rfl, h⟩ := r.one_inv
    rw [h.int_inv]
    rename_i i
    refine ⟨_, call_abs, i, rfl, ?_⟩
    have e : (if i < 0 then -i else i) = (i.natAbs : Int) := by split <;> omega
    rw [e]
    exact q.at b (.int _)
  · cases g
theorem calld_max2 (hc : X.calm = true) : CallD X (.builtin "max") dMax2 := by
  intro B H vs ds d' Q b r g q
  unfold dMax2 at g
  split at g
  · cases g
    obtain ⟨v, u, rfl, h, h2⟩ := r.two_inv
    rw [h.int_inv, h2.int_inv]
    rename_i i j
    refine ⟨_, call_max2 hc, i, j, rfl, ?_⟩
    have e : (if j > i then j else i) = max i j := by split <;> omega
    rw [e]
    exact q.at b (.int _)
  · cases g
theorem calld_min2 (hc : X.calm = true) : CallD X (.builtin "min") dMin2 := by
  intro B H vs ds d' Q b r g q
  unfold dMin2 at g
  split at g
  · cases g
    obtain ⟨v, u, rfl, h, h2⟩ := r.two_inv
    rw [h.int_inv, h2.int_inv]
    rename_i i j
    refine ⟨_, call_min2 hc, i, j, rfl, ?_⟩
    have e : (if j < i then j else i) = min i j := by split <;> omega
    rw [e]
    exact q.at b (.int _)
  · cases g
theorem calld_len : CallD X (.builtin "len") dLen := by
  intro B H vs ds d' Q b r g q
  unfold dLen at g
  split at g
  · cases g
    obtain ⟨v, rfl, h⟩ := r.one_inv
    obtain ⟨a, xs, rfl, h1, r1⟩ := h.lst_inv
    refine ⟨_, call_len_seq, a, xs, rfl, .inl (seqL_of b h1), ?_⟩
    rw [r1.length]
    exact q.at b (.int _)
  · cases g
    obtain ⟨v, rfl, h⟩ := r.one_inv
    obtain ⟨a, xs, rfl, h1, r1⟩ := h.tup_inv
    refine ⟨_, call_len_seq, a, xs, rfl, .inr (seqT b h1), ?_⟩
    rw [r1.length]
    exact q.at b (.int _)
  · cases g
    obtain ⟨v, rfl, h⟩ := r.one_inv
    obtain ⟨a, rfl, h1⟩ := h.scr_inv
    refine ⟨_, call_len_seq, a, _, rfl, .inl (b.seq h1), ?_⟩
    rw [List.length_map]
    exact q.at b (.int _)
  · obtain ⟨hl, rfl⟩ := some_ite g
    obtain ⟨v, rfl, h⟩ := r.one_inv
    rw [h.str_inv]
    exact ⟨_, call_len_str, _, rfl, hl, q.at b (.int _)⟩
  · cases g
theorem calld_minL (hc : X.calm = true) : CallD X (.builtin "min") dMinL := by
  intro B H vs ds d' Q b r g q
  unfold dMinL at g
  split at g
  · simp only [Option.bind_eq_some_iff, Option.map_eq_some_iff] at g
    obtain ⟨ns, g1, m, g2, rfl⟩ := g
    obtain ⟨v, rfl, h⟩ := r.one_inv
    obtain ⟨a, xs, rfl, h1, r1⟩ := h.lst_inv
    have e1 := IsL.ints_inv g1 r1
    subst e1
    obtain ⟨gm, gl⟩ := List.min?_eq_some_iff.mp g2
    refine ⟨_, cr_min hc, a, ns, rfl, seqL_of b h1, List.length_pos_of_mem gm, fun m' hm hle => ?_⟩
    have e : m' = m := Int.le_antisymm (hle m gm) (gl m' hm)
    rw [e]
    exact q.at b (.int _)
  · cases g
theorem calld_maxL (hc : X.calm = true) : CallD X (.builtin "max") dMaxL := by
  intro B H vs ds d' Q b r g q
  unfold dMaxL at g
  split at g
  · simp only [Option.bind_eq_some_iff, Option.map_eq_some_iff] at g
    obtain ⟨ns, g1, m, g2, rfl⟩ := g
    obtain ⟨v, rfl, h⟩ := r.one_inv
    obtain ⟨a, xs, rfl, h1, r1⟩ := h.lst_inv
    have e1 := IsL.ints_inv g1 r1
    subst e1
    obtain ⟨gm, gl⟩ := List.max?_eq_some_iff.mp g2
    refine ⟨_, cr_max hc, a, ns, rfl, seqL_of b h1, List.length_pos_of_mem gm, fun m' hm hle => ?_⟩
    have e : m' = m := Int.le_antisymm (gl m' hm) (hle m gm)
    rw [e]
    exact q.at b (.int _)
  · cases g
theorem calld_all (hc : X.calm = true) : CallD X (.builtin "all") dAll := by
  intro B H vs ds d' Q b r g q
  unfold dAll at g
  split at g
  · simp only [Option.map_eq_some_iff] at g
    obtain ⟨ns, g1, rfl⟩ := g
    obtain ⟨v, rfl, h⟩ := r.one_inv
    obtain ⟨a, xs, rfl, h1, r1⟩ := h.lst_inv
    have e1 := IsL.bools_inv g1 r1
    subst e1
    exact ⟨_, cr_all hc, a, ns, rfl, seqL_of b h1, q.at b (.bl _)⟩
  · cases g
theorem calld_any (hc : X.calm = true) : CallD X (.builtin "any") dAny := by
  intro B H vs ds d' Q b r g q
  unfold dAny at g
  split at g
  · simp only [Option.map_eq_some_iff] at g
    obtain ⟨ns, g1, rfl⟩ := g
    obtain ⟨v, rfl, h⟩ := r.one_inv
    obtain ⟨a, xs, rfl, h1, r1⟩ := h.lst_inv
    have e1 := IsL.bools_inv g1 r1
    subst e1
    exact ⟨_, cr_any hc, a, ns, rfl, seqL_of b h1, q.at b (.bl _)⟩
  · cases g
theorem calld_int : CallD X (.type "int") dInt := by
  intro B H vs ds d' Q b r g q
  unfold dInt at g
  split at g
  · cases g
    obtain ⟨v, rfl, h⟩ := r.one_inv
    rw [h.int_inv]
    exact ⟨_, call_int1, .inl ⟨_, rfl, q.at b (.int _)⟩⟩
  · cases g
    obtain ⟨v, rfl, h⟩ := r.one_inv
    rw [h.bl_inv]
    exact ⟨_, call_int1, .inr ⟨_, rfl, q.at b (.int _)⟩⟩
  · cases g
theorem Is.tyX {H : Hp} (b : Same B H) {v : V} {d : D} {t : String} (h : Is K mg B v d) (e : tyName d = some t) : TyX K H v (.type t) := by
  cases h with
  | non => cases e; exact .base .non
  | bl x => cases e; exact .base (.bl x)
  | int x => cases e; exact .base (.int x)
  | str x => cases e; exact .base (.str x)
  | tup h r => cases e; exact .base (.tup (b _ _ h))
  | tup3 h =>
    cases e
    obtain ⟨o, its, n, h1, h2, _⟩ := h
    exact .kTuple h1 h2
  | lst h r => cases e; exact .base (.lst (b _ _ h))
  | scr h =>
    cases e
    rcases h with (h | ⟨o, h⟩) | ⟨o, its, n, hk, hc, _⟩
    · exact .base (.lst (b _ _ h))
    · exact .base (.frz (b _ _ h))
    · exact .kList hk hc
  | dct h _ _ => cases e; exact .base (.dK (b _ _ h))
  | exc _ _ => cases e
  | ty _ => cases e
  | cls _ => cases e
  | obj _ _ _ _ => cases e
theorem calld_isi : CallD X (.builtin "isinstance") dIsi := by
  intro B H vs ds d' Q b r g q
  unfold dIsi at g
  split at g
  · simp only [Option.bind_eq_some_iff, Option.map_eq_some_iff] at g
    obtain ⟨t, g1, k, g2, rfl⟩ := g
    obtain ⟨v, u, rfl, h, h2⟩ := r.two_inv
    rw [h2.ty_inv]
    exact ⟨_, call_isi, _, _, _, _, k, rfl, .ty _, h.tyX b g1, kit_ty g2, q.at b (.bl _)⟩
  · cases g
end

/-! ### new lists -/
def aB (g : List D → Option (List D)) (ma : AM) : AM := fun ρ => (ma ρ).bind fun ds => R.ofO (g ds)
def CallF (X : Cx) (f : Value) (g : List D → Option (List D)) : Prop := ∀ B H vs ds es Q, Same B H → IsL X.K X.mg B vs ds → g ds = some es → okF X B H Q es → ∃ r, CallR X f r ∧ r vs H Q
section
variable {X : Cx} {Wx : WX} {a b c e : Expr} {es : List Expr} {pos p p2 : Pos} {ma mb m : EM} {mr : AM}
theorem pfd_callT {x : Str} {T : String} {g : List D → Option (List D)} (hc : CallF X (.type T) g) (hg : Gl X x) (hm : X.mg x = none) (hv : bootBuiltins x = some (.type T)) (ha : PAD X Wx (a :: es) mr) (hn : x ≠ "__name__" := by decide) (hdb : (x == ("__debug__" : Str)) = false := by decide)
    (he : starEach (a :: es) X.env = (false, eval a X.env) :: starEach es X.env := by rfl) (hpl : (backTo pos (starEach es X.env)).any (·.1) = false := by rfl) : PFD X Wx (.Call (.Name x p) (a :: es) [] pos) (aB g mr) :=
  fun W σ H B ρ E Q h => ⟨_, pe_callTy call_wp hg hm hv pa_wp hn hdb he hpl, ha W σ H B ρ E _ ((show Post ((mr ρ).bind fun ds => R.ofO (g ds)) _ _ from h).bind.mono (fun ds _ hd vs B1 H1 g1 r1 => by
    obtain ⟨d', e1, q⟩ := hd.ofO
    exact hc B1 H1 vs ds d' Q g1.bh r1 e1 (q.later g1)) fun x h => h)⟩
theorem callf_list : CallF X (.type "list") asC := by
  intro B H vs ds es Q b r g q
  unfold asC at g
  split at g
  · cases g
    obtain ⟨v, rfl, h⟩ := r.one_inv
    obtain ⟨a, xs, rfl, h1, r1⟩ := h.lst_inv
    exact ⟨_, call_list_of, a, xs, rfl, .inl (seqL_of b h1), fun l hl => q.nl b hl r1⟩
  · cases g
    obtain ⟨v, rfl, h⟩ := r.one_inv
    obtain ⟨a, xs, rfl, h1, r1⟩ := h.tup_inv
    exact ⟨_, call_list_of, a, xs, rfl, .inr (seqT b h1), fun l hl => q.nl b hl r1⟩
  · cases g
    obtain ⟨v, rfl, h⟩ := r.one_inv
    obtain ⟨a, rfl, h1⟩ := h.scr_inv
    exact ⟨_, call_list_of, a, _, rfl, .inl (b.seq h1), fun l hl => q.nl b hl (IsL.ints _)⟩
  · cases g
/-- the bounds of a slice -/
abbrev OM := En → R (Option Int)
def oNone : OM := fun _ => .ok none
def oSome (m : EM) : OM := fun ρ => (m ρ).bind fun d => match d with
  | .int i => .ok (some i)
  | _ => .st
def wpPO (X : Cx) (o : Option Expr) : TO := fun σ H Q => ∃ t, PO X o t ∧ t σ H Q
theorem po_wp {o : Option Expr} : PO X o (wpPO X o) := ⟨fun pins s σ H Q I ⟨_, h, q⟩ => h.run pins s σ H Q I q⟩
def POD (X : Cx) (Wx : WX) (o : Option Expr) (m : OM) : Prop := ∀ W σ H B ρ, EnvOk X.K X.mg W B H σ ρ → ∀ Q : Option Int → Hp → Prop, Post (m ρ) (fun i => ∀ B' H', Grow B H B' H' → Q i H') (erD X Wx σ B H) → wpPO X o σ H Q
theorem pod_none : POD X Wx none oNone := fun W σ H B ρ E Q h => ⟨_, po_none, h B H (Grow.refl E.bh)⟩
theorem pod_some (h : PED X Wx e m) : POD X Wx (some e) (oSome m) := fun W σ H B ρ E Q q =>
  ⟨_, po_some pe_wp, h W σ H B ρ E _ ((show Post ((m ρ).bind fun d => match d with
    | .int i => R.ok (some i)
    | _ => R.st) _ _ from q).bind.mono (fun d _ hd v B1 H1 g1 r => by
    cases d with
    | int i => exact ⟨i, r.int_inv, (show ∀ B' H', Grow B H B' H' → Q (some i) H' from hd) B1 H1 g1⟩
    | _ => exact hd.elim) fun x h => h)⟩
variable {lo hi : Option Expr} {ml mh : OM}
theorem slice3 {α : Type} {W : Wd} {σ : L2.St} {B H : Hp} {ρ : En} {k : D → Option Int → Option Int → R α} {P : α → Prop} {Rr : V → Option Int → Option Int → Hp → Prop} (ha : PED X Wx a ma) (hl : POD X Wx lo ml) (hh : POD X Wx hi mh) (E : EnvOk X.K X.mg W B H σ ρ)
    (h : Post ((ma ρ).bind fun d => (ml ρ).bind fun i => (mh ρ).bind fun j => k d i j) P (erD X Wx σ B H))
    (f : ∀ d i j x B2 H2, Grow B H B2 H2 → Is X.K X.mg B2 x d → Post (k d i j) P (erD X Wx σ B H) → Rr x i j H2) : wpE X a σ H fun x H1 => wpPO X lo σ H1 fun i H2 => wpPO X hi σ H2 fun j H3 => Rr x i j H3 := by
  refine ha W σ H B ρ E _ (h.bind.mono (fun d _ hd x B1 H1 g1 rx => ?_) fun x h => h)
  refine hl W σ H1 B1 ρ (E.grow g1) _ (hd.bind.mono (fun i _ hi B2 H2 g2 => ?_) fun x h => h.later g1)
  exact hh W σ H2 B2 ρ ((E.grow g1).grow g2) _ (hi.bind.mono (fun j _ hj B3 H3 g3 => f d i j x B3 H3 ((g1.trans g2).trans g3) ((rx.mono g2.bb).mono g3.bb) hj) fun x h => h.later (g1.trans g2))
def aCut (ma : EM) (ml mh : OM) : AM := fun ρ => (ma ρ).bind fun d => (ml ρ).bind fun i => (mh ρ).bind fun j => (R.ofO (asL d)).bind fun ds => .ok (cutL ds i j)
def eCut (ma : EM) (ml mh : OM) : EM := fun ρ => (ma ρ).bind fun d => (ml ρ).bind fun i => (mh ρ).bind fun j => R.ofO (dCut d i j)
theorem IsL.cut {K : PySem.W.Frag} {mg : Str → Option Value} {B : Hp} {xs : List V} {ds : List D} (r : IsL K mg B xs ds) (lo hi : Option Int) : IsL K mg B (cutV xs lo hi) (cutL ds lo hi) := by
  unfold cutV cutL
  rw [r.length]
  exact (r.drop _).take _
theorem pfd_cut (ha : PED X Wx a ma) (hl : POD X Wx lo ml) (hh : POD X Wx hi mh) : PFD X Wx (.Subscript a (.Slice lo hi none p2) pos) (aCut ma ml mh) :=
  fun W σ H B ρ E Q h => ⟨_, pe_slice sl_list pe_wp po_wp po_wp, slice3 ha hl hh E h fun d i j x B2 H2 g r hk => by
    obtain ⟨ds, e1, q⟩ := hk.bind.ofO
    have q' : okF X B H Q (cutL ds i j) := q
    unfold asL at e1
    split at e1
    · cases e1
      obtain ⟨a1, xs, rfl, h1, r1⟩ := r.lst_inv
      exact ⟨a1, xs, rfl, seqL_of g.bh h1, fun p hp => (q'.later g).nl g.bh hp (r1.cut i j)⟩
    · cases e1
      obtain ⟨a1, rfl, h1⟩ := r.scr_inv
      exact ⟨a1, _, rfl, g.bh.seq h1, fun p hp => (q'.later g).nl g.bh hp ((IsL.ints _).cut i j)⟩
    · cases e1⟩
def wpSl (X : Cx) : V → Option Int → Option Int → Hp → VK → Prop := fun x lo hi H Q => ∃ r, SlR X r ∧ r x lo hi H Q
theorem sl_wp : SlR X (wpSl X) := fun pins s σ H x v vl vu lo hi sl Q I rx hs pl pu ⟨_, h, q⟩ => h pins s σ H x v vl vu lo hi sl Q I rx hs pl pu q
theorem ped_cut (ha : PED X Wx a ma) (hl : POD X Wx lo ml) (hh : POD X Wx hi mh) : PED X Wx (.Subscript a (.Slice lo hi none p2) pos) (eCut ma ml mh) :=
  fun W σ H B ρ E Q h => ⟨_, pe_slice sl_wp pe_wp po_wp po_wp, slice3 ha hl hh E h fun d i j x B2 H2 g r hk => by
    obtain ⟨d', e1, q⟩ := hk.ofO
    have q' : okD X B H Q d' := q
    unfold dCut at e1
    split at e1
    · obtain ⟨hl, rfl⟩ := some_ite e1
      rw [r.str_inv]
      exact ⟨_, sl_str, _, rfl, hl, (q'.later g).at g.bh (.str _)⟩
    · split at e1
      · cases e1
      · rename_i hc
        cases e1
        obtain ⟨a1, xs, rfl, h1, r1⟩ := r.tup_inv
        exact ⟨_, sl_tup, a1, xs, rfl, seqT g.bh h1, by rw [r1.length]; exact hc, fun p hp => (q'.later g).nt g.bh hp (r1.cut i j)⟩
    · cases e1⟩
/-- {} -/
theorem ped_dnew : PED X Wx (.Dict [] [] pos) (eC (.dct [] [])) := fun W σ H B ρ E Q h =>
  ⟨_, pe_dnewK, fun d hd => (show okD X B H Q (.dct [] []) from h) _ _ _ (Grow.new E.bh hd) (.dct upd_same rfl .nil)⟩
/-- {k: v} of one number and one value -/
def eDct1 (mk mv : EM) : EM := fun ρ => (mk ρ).bind fun k => (mv ρ).bind fun v => match k with
  | .int i => .ok (.dct [.inl i] [v])
  | _ => .st
theorem ped_dct1 (ha : PED X Wx a ma) (hb : PED X Wx b mb) : PED X Wx (.Dict [some a] [b] pos) (eDct1 ma mb) := fun W σ H B ρ E Q h =>
  ⟨_, pe_disp (pps_cons pe_wp pe_wp pps_nil) (by rfl) (by rfl) (fun z => by cases z) (by show 1 ≤ 15; decide), fun p hp => by
    have g0 : Grow B H B (upd H p (.dK [])) := Grow.own E.bh hp
    have nb : B p = none := by
      cases q : B p with
      | none => rfl
      | some o => rw [E.bh p o q] at hp; cases hp
    refine two ha hb (E.grow g0) (P := okD X B H Q) (h.mono (fun d _ q => q) fun x q => q.later g0) fun d e x y B2 H2 g rx ry hk => ?_
    have ep : H2 p = some (.dK []) := g.hh _ _ upd_same
    have np : B2 p = none := g.sep p _ upd_same nt_dK nb
    cases d with
    | int i =>
      refine ⟨ep, [(.inl i, y)], ?_, by show 1 ≤ 15; decide, ?_⟩
      · rw [rx.int_inv]
        rfl
      · have hq : okD X B H Q (.dct [.inl i] [e]) := hk
        have nn : ∀ q u, B2 q = some u → q ≠ p := fun q u e z => by rw [z, np] at e; cases e
        have s1 : Same B2 (upd B2 p (.dK [(.inl i, y)])) := fun q u e => by rw [upd_ne (nn q u e)]; exact e
        exact hq _ (upd B2 p (.dK [(.inl i, y)])) _ ⟨g.bb.trans s1, fun q u e => by rw [upd_ne (ne_of_none e hp)]; exact g.hh q u (by rw [upd_ne (ne_of_none e hp)]; exact e), fun q u e => by
            by_cases z : q = p
            · subst z; rw [upd_same] at e ⊢; exact e
            · rw [upd_ne z] at e ⊢; exact g.bh q u e, fun q u e tt z => by
            rw [upd_ne (ne_of_none e hp)]
            exact g.sep q u (by rw [upd_ne (ne_of_none e hp)]; exact e) tt z⟩ (.dct upd_same rfl (.cons (ry.mono s1) .nil))
    | _ => exact hk.elim⟩
end
end GD
namespace GD
open PySem PySem.Spec PyProof.Rows L2
/-! ### the built-ins' names -/
theorem bb_len : bootBuiltins "len" = some (.builtin "len") := by decide +kernel
theorem bb_abs : bootBuiltins "abs" = some (.builtin "abs") := by decide +kernel
theorem bb_max : bootBuiltins "max" = some (.builtin "max") := by decide +kernel
theorem bb_min : bootBuiltins "min" = some (.builtin "min") := by decide +kernel
theorem bb_all : bootBuiltins "all" = some (.builtin "all") := by decide +kernel
theorem bb_any : bootBuiltins "any" = some (.builtin "any") := by decide +kernel
theorem bb_isinstance : bootBuiltins "isinstance" = some (.builtin "isinstance") := by decide +kernel
theorem bb_int : bootBuiltins "int" = some (.type "int") := by decide +kernel
theorem bb_bool : bootBuiltins "bool" = some (.type "bool") := by decide +kernel
theorem bb_tuple : bootBuiltins "tuple" = some (.type "tuple") := by decide +kernel
theorem bb_list : bootBuiltins "list" = some (.type "list") := by decide +kernel
theorem bb_str : bootBuiltins "str" = some (.type "str") := by decide +kernel
/-- how far a while goes: the size of a slot's number -/
def fuelI (i : Nat) : En → Nat := fun ρ => match ρ[i]? with
  | some (.v (.int k)) => k.natAbs + 1
  | _ => 0
/-- what the law is to keep -/
def spLaw (K : PySem.W.Frag) : Sp := fun vs H Q _ => ∃ (a : Addr) (ns : List Int), vs = [.ref a] ∧ SqL K H a (ns.map V.int) ∧ ns.length ≤ 63 ∧ ∀ H', Q (.bl true) H'
theorem law_of {P : Program} {w : World} {K : PySem.W.Frag} {mg : Str → Option Value} {base : Heap} {k : Nat} {f : Addr} {fd : FuncData} {F : List D → R D} (h : FnOk P w K mg base (L2.CX P w) k f fd ["script"] (spD K mg 1 F))
    (hF : ∀ ns : List Int, ns.length ≤ 63 → F [.scr ns] = .ok (.bl true)) : FnOk P w K mg base (L2.CX P w) k f fd ["script"] (spLaw K) := by
  refine h.imp fun vs H Q E hs => ?_
  obtain ⟨a, ns, rfl, hS, hl, q⟩ := hs
  refine ⟨H, [.scr ns], Same.refl _, rfl, .cons (.scr hS) .nil, ?_⟩
  rw [hF ns hl]
  intro v B' H' _ r
  rw [r.bl_inv]
  exact q H'
theorem walk {l : PySem.W.OpenLaw} {q : Program} {loose : List Str} {XP : (Str → Option Value) → Heap → Prop} {YP : World → Heap → Prop} {d : DefRec} {K : Params → PySem.W.Frag} {k : Nat} (hn : l.most = some 63) (hdf : d.params.defaults = []) (hr : Room k callerA)
    (hY : ∀ (w : World) (h : Heap), YP w h → (K w.params).In h)
    (F : ∀ (w : World) (mg : Str → Option Value) (fa : Addr) (h : Heap), (K w.params).In h → h.Ns mainGlobals mg → mg d.name = some (.ref fa) →
      ∃ fd : FuncData, (∀ (s : Shared) (u : Value), BindsTo s fd ⟨[u], []⟩ [("script", u)]) ∧ ∀ base : Heap, (K w.params).In base → base.Ns mainGlobals mg → FnOk l.prog w (K w.params) mg base (L2.CX l.prog w) k fa fd ["script"] (spLaw (K w.params))) :
    PySem.W.WalkO q loose XP YP l.row.toRowW d [] (fun f vs => PySem.call f vs) :=
  L2.walk_of (n := 63) (k := k) (x := "script") (CX := fun w => L2.CX l.prog w) (sp := fun w => spLaw (K w.params)) hn (by decide) hdf hr hY F (fun _ _ a ns hl _ hS => ⟨a, ns, rfl, hS, hl, fun _ => rfl⟩) fun w H s e s' z => by
    obtain ⟨_, _, _, _, _, _, _, _, _, _, _, _, z⟩ := z
    exact z
/-- a def of the module, for its callers -/
theorem fnd_mk {P : Program} {w : World} {K : PySem.W.Frag} {mg : Str → Option Value} {base : Heap} {k : Nat} {x : Str} {ps : List Str} {F : List D → R D} {f : Addr} {fd : FuncData} (hm : mg x = some (.ref f)) (hk : PySem.W.keepIn K (.ref f) = true) (hb : Binds K fd ps [])
    (h : FnOk P w K mg base (L2.CX P w) k f fd ps (spD K mg ps.length F)) : FnD P w K mg base k x ps F := ⟨f, fd, hm, hk, hb, h⟩
end GD

/-! GD, part e: reckoning with mirrors in plain Lean. -/
namespace GD
open PySem PySem.Spec PyProof.Rows L2

/-! ### sizes -/
def Bd (n : Nat) (x : Int) : Prop := x.natAbs < 2 ^ n
instance (n : Nat) (x : Int) : Decidable (Bd n x) := by unfold Bd; infer_instance
theorem Bd.mono {m n : Nat} {x : Int} (h : Bd m x) (l : m ≤ n) : Bd n x := Nat.lt_of_lt_of_le h (Nat.pow_le_pow_right (by decide) l)
theorem Bd.mul {m n : Nat} {x y : Int} (h : Bd m x) (g : Bd n y) : Bd (m + n) (x * y) := wide_lt h g
theorem Bd.add {m n : Nat} {x y : Int} (h : Bd m x) (g : Bd n y) : Bd (max m n + 1) (x + y) := by
  have h1 : Bd (max m n) x := h.mono (by omega)
  have h2 : Bd (max m n) y := g.mono (by omega)
  unfold Bd at *
  have := Int.natAbs_add_le x y
  rw [Nat.pow_succ]
  omega
theorem Bd.sub {m n : Nat} {x y : Int} (h : Bd m x) (g : Bd n y) : Bd (max m n + 1) (x - y) := by
  have h1 : Bd (max m n) x := h.mono (by omega)
  have h2 : Bd (max m n) y := g.mono (by omega)
  unfold Bd at *
  have := Int.natAbs_sub_le x y
  rw [Nat.pow_succ]
  omega
theorem Bd.neg {n : Nat} {x : Int} (h : Bd n x) : Bd n (-x) := by
  unfold Bd at *
  rw [Int.natAbs_neg]
  exact h
theorem Bd.of_range {n : Nat} {x : Int} (h0 : 0 ≤ x) (h : x < 2 ^ n) : Bd n x := by
  unfold Bd
  have : ((x.natAbs : Nat) : Int) < ((2 ^ n : Nat) : Int) := by
    rw [Int.natCast_pow]
    have e : ((x.natAbs : Nat) : Int) = x := Int.natAbs_of_nonneg h0
    rw [e]
    exact h
  exact Int.ofNat_lt.mp this
theorem Bd.of_le {n : Nat} {x y : Int} (h : Bd n y) (l : x.natAbs ≤ y.natAbs) : Bd n x := Nat.lt_of_le_of_lt l h
theorem Bd.log {n : Nat} {x : Int} (h : Bd n x) : x.natAbs.log2 ≤ n := by
  by_cases z : x.natAbs = 0
  · rw [z]; simp
  · have := (Nat.log2_lt z).mpr h
    omega
theorem mok {m n : Nat} {x y : Int} (h : Bd m x) (g : Bd n y) (l : m + n < 1000000) : mulOk x y := by
  have := h.log
  have := g.log
  unfold mulOk
  omega
theorem dok {n : Nat} {y : Int} (h0 : 0 < y) (g : Bd n y) (l : n < 9000) : divOk y := by
  have := g.log
  exact ⟨h0, by omega⟩

/-! ### how mirrors reckon -/
section
variable {α β : Type} {ρ : En}
theorem bind_ok (a : α) (f : α → R β) : (R.ok a).bind f = f a := rfl
theorem bind_er (x : Str) (f : α → R β) : (R.er x : R α).bind f = .er x := rfl
theorem bind_st (f : α → R β) : (R.st : R α).bind f = .st := rfl
theorem ofO_some (a : α) : R.ofO (some a) = .ok a := rfl
theorem ofO_none : R.ofO (none : Option α) = .st := rfl
theorem asB_bl (b : Bool) : asB (.bl b) = some b := rfl
theorem ofR_ok (a : α) (k : α → Out) : ofR (.ok a) ρ k = k a := rfl
theorem ofR_er (x : Str) (k : α → Out) : ofR (.er x : R α) ρ k = .er x ρ := rfl
theorem dAdd_int (i j : Int) : dAdd (.int i) (.int j) = some (.int (i + j)) := rfl
theorem dSub_int (i j : Int) : dSub (.int i) (.int j) = some (.int (i - j)) := rfl
theorem dMul_int {i j : Int} (h : mulOk i j) : dMul (.int i) (.int j) = some (.int (i * j)) := if_pos h
theorem dDiv_int {i j : Int} (h : divOk j) : dDiv (.int i) (.int j) = some (.int (i / j)) := if_pos h
theorem dDiv_lit {i j : Int} (h : 0 < j) (g : j < 18446744073709551616) : dDiv (.int i) (.int j) = some (.int (i / j)) := dDiv_int (dok (n := 64) h (Bd.of_range (by omega) g) (by decide))
theorem dMod_int {i j : Int} (h : 0 < j) : dMod (.int i) (.int j) = some (.int (i % j)) := if_pos h
theorem dPow_int {i j : Int} (h : powOk i j) : dPow (.int i) (.int j) = some (.int (i ^ j.toNat)) := if_pos h
theorem dNeg_int (i : Int) : dNeg (.int i) = some (.int (-i)) := rfl
theorem dLt_int (i j : Int) : dLt (.int i) (.int j) = some (.bl (decide (i < j))) := rfl
theorem dLe_int (i j : Int) : dLe (.int i) (.int j) = some (.bl (decide (i ≤ j))) := rfl
theorem dGt_int (i j : Int) : dGt (.int i) (.int j) = some (.bl (decide (j < i))) := rfl
theorem dGe_int (i j : Int) : dGe (.int i) (.int j) = some (.bl (decide (j ≤ i))) := rfl
theorem dEq_int (i j : Int) : dEq (.int i) (.int j) = some (.bl (decide (i = j))) := by
  show some (D.bl (i == j)) = _
  rw [Bool.beq_eq_decide_eq]
theorem dNe_int (i j : Int) : dNe (.int i) (.int j) = some (.bl (!decide (i = j))) := by
  show some (D.bl (!(i == j))) = _
  rw [Bool.beq_eq_decide_eq]
theorem dEq_bl (i j : Bool) : dEq (.bl i) (.bl j) = some (.bl (i == j)) := rfl
theorem dIs_non (d : D) : dIs d .non = some (.bl d.isNone) := rfl
theorem dIsNot_non (d : D) : dIsNot d .non = some (.bl (!d.isNone)) := rfl
theorem kb_int_int : kitB "int" "int" = some true := by decide +kernel
theorem kb_int_bool : kitB "int" "bool" = some false := by decide +kernel
theorem kb_bool_bool : kitB "bool" "bool" = some true := by decide +kernel
theorem kb_bool_int : kitB "bool" "int" = some true := by decide +kernel
theorem kb_tuple_tuple : kitB "tuple" "tuple" = some true := by decide +kernel
theorem kb_tuple_int : kitB "tuple" "int" = some false := by decide +kernel
theorem kb_tuple_list : kitB "tuple" "list" = some false := by decide +kernel
theorem kb_list_list : kitB "list" "list" = some true := by decide +kernel
theorem kb_list_tuple : kitB "list" "tuple" = some false := by decide +kernel
theorem kb_list_int : kitB "list" "int" = some false := by decide +kernel
theorem kb_str_str : kitB "str" "str" = some true := by decide +kernel
theorem kb_str_int : kitB "str" "int" = some false := by decide +kernel
theorem kb_dict_int : kitB "dict" "int" = some false := by decide +kernel
theorem kb_non_int : kitB "NoneType" "int" = some false := by decide +kernel
theorem line_le {n : Nat} (h : n ≤ 16777216) : (n ≤ sizeLine) = True := eq_true (by rw [sizeLine_eq]; exact h)
theorem isi_int (d : D) (t : String) (b : Bool) (n : String) (h : tyName d = some t) (k : kitB t n = some b) : dIsi [d, .ty n] = some (.bl b) := by
  simp only [dIsi, h, Option.bind_some, k, Option.map_some]
/-- every turn of a loop goes on -/
theorem loop_inv {g : D → En → Option En} {body : SM} (I : En → Prop) : ∀ (ds : List D), (∀ d ∈ ds, ∀ ρ, I ρ → ∃ ρ1 ρ2, g d ρ = some ρ1 ∧ body ρ1 = .nx ρ2 ∧ I ρ2) → ∀ ρ, I ρ → ∃ ρ', loop g body ds ρ = .nx ρ' ∧ I ρ'
  | [], _, ρ, h => ⟨ρ, rfl, h⟩
  | d :: r, hs, ρ, h => by
    obtain ⟨ρ1, ρ2, h1, h2, h3⟩ := hs d List.mem_cons_self ρ h
    obtain ⟨ρ', h4, h5⟩ := loop_inv I r (fun d' hd => hs d' (List.mem_cons_of_mem _ hd)) ρ2 h3
    refine ⟨ρ', ?_, h5⟩
    show (match g d ρ with
      | none => Out.st
      | some ρ' => match body ρ' with
        | .nx ρ2 => loop g body r ρ2
        | .ct ρ2 => loop g body r ρ2
        | .bk ρ2 => .nx ρ2
        | o => o) = _
    rw [h1]
    show (match body ρ1 with
        | .nx ρ2 => loop g body r ρ2
        | .ct ρ2 => loop g body r ρ2
        | .bk ρ2 => .nx ρ2
        | o => o) = _
    rw [h2]
    exact h4
theorem loop_nil {g : D → En → Option En} {body : SM} : loop g body [] ρ = .nx ρ := rfl
theorem loop_cons {g : D → En → Option En} {body : SM} {d : D} {r : List D} {ρ1 ρ2 : En} (h1 : g d ρ = some ρ1) (h2 : body ρ1 = .nx ρ2) : loop g body (d :: r) ρ = loop g body r ρ2 := by
  show (match g d ρ with
      | none => Out.st
      | some ρ' => match body ρ' with
        | .nx ρ2 => loop g body r ρ2
        | .ct ρ2 => loop g body r ρ2
        | .bk ρ2 => .nx ρ2
        | o => o) = _
  rw [h1]
  show (match body ρ1 with
        | .nx ρ2 => loop g body r ρ2
        | .ct ρ2 => loop g body r ρ2
        | .bk ρ2 => .nx ρ2
        | o => o) = _
  rw [h2]
theorem dAt_lst {ds : List D} {j : Nat} {d : D} (h : ds[j]? = some d) : dAt (.lst ds) (.int (j : Int)) = some d := atI_nat h
theorem dAt_tup {ds : List D} {j : Nat} {d : D} (h : ds[j]? = some d) : dAt (.tup ds) (.int (j : Int)) = some d := atI_nat h
theorem dAt_scr {ns : List Int} {j : Nat} {x : Int} (h : ns[j]? = some x) : dAt (.scr ns) (.int (j : Int)) = some (.int x) := by
  show (atI ns (j : Int)).map D.int = _
  rw [atI_nat h]
  rfl
theorem cutL_ints (ns : List Int) (lo hi : Option Int) : cutL (ns.map D.int) lo hi = (cutL ns lo hi).map D.int := by
  unfold cutL
  rw [List.length_map, List.map_take, List.map_drop]
theorem cutL_len {α : Type} (xs : List α) (k : Nat) : (cutL xs none (some (k : Int))).length ≤ k := by
  unfold cutL
  rw [List.length_take, HT.sIx_nat, HT.sIx_none]
  omega
theorem dRange3 {a j c : Int} (h0 : 0 ≤ a) (h1 : a ≤ 1000) (hj : 0 ≤ j) (hj2 : j ≤ 1000) (hc : 0 < c) (hc2 : c ≤ 100) : ∃ n : Nat, dRange [.int a, .int j, .int c] = some (rg a c n) ∧ ∀ i : Nat, i < n → a + (i : Nat) * c < j := by
  have hs : Builtin.Range.rangeSize a j c = if a < j then (j - a - 1) / c + 1 else 0 := by
    unfold Builtin.Range.rangeSize
    rw [if_pos (show c > 0 from hc)]
  have hn : 0 ≤ Builtin.Range.rangeSize a j c := by
    rw [hs]
    split
    · have := Int.ediv_nonneg (show 0 ≤ j - a - 1 by omega) (show 0 ≤ c by omega)
      omega
    · omega
  refine ⟨(Builtin.Range.rangeSize a j c).toNat, ?_, fun i hi => ?_⟩
  · suffices hsm : Builtin.Range.small a j c = true from if_pos ⟨by omega, by omega, hsm, hn⟩
    have hb : (j - a - 1) / c ≤ j - a - 1 ∨ ¬ a < j := by
      by_cases h : a < j
      · exact .inl (Int.ediv_le_self _ (by omega))
      · exact .inr h
    have hb2 : Builtin.Range.rangeSize a j c ≤ 2000 := by
      rw [hs]
      split <;> omega
    have fit : ∀ x : Int, -2000 ≤ x → x ≤ 2000 → Builtin.Range.rangeFitsLong x = true := fun x l u => by
      unfold Builtin.Range.rangeFitsLong
      rw [Bool.and_eq_true]
      exact ⟨decide_eq_true (by omega), decide_eq_true (by omega)⟩
    unfold Builtin.Range.small
    rw [fit a (by omega) (by omega), fit j (by omega) (by omega), fit c (by omega) (by omega), fit _ (by omega) hb2, if_pos (show c > 0 from hc), fit (j + (c - 1)) (by omega) (by omega)]
    simp
  · have hi2 : (i : Int) < Builtin.Range.rangeSize a j c := by omega
    rw [hs] at hi2
    split at hi2
    · have h3 : (i : Int) ≤ (j - a - 1) / c := by omega
      have h4 := (Int.le_ediv_iff_mul_le hc).mp h3
      omega
    · omega
theorem dAt_t0 {a : D} {ds : List D} : dAt (.tup (a :: ds)) (.int 0) = some a := dAt_tup (j := 0) rfl
theorem dAt_t1 {a b : D} {ds : List D} : dAt (.tup (a :: b :: ds)) (.int 1) = some b := dAt_tup (j := 1) rfl
theorem dAt_t2 {a b c : D} {ds : List D} : dAt (.tup (a :: b :: c :: ds)) (.int 2) = some c := dAt_tup (j := 2) rfl
theorem dAt_l0 {a : D} {ds : List D} : dAt (.lst (a :: ds)) (.int 0) = some a := dAt_lst (j := 0) rfl
theorem dAt_l1 {a b : D} {ds : List D} : dAt (.lst (a :: b :: ds)) (.int 1) = some b := dAt_lst (j := 1) rfl
theorem dAt_l2 {a b c : D} {ds : List D} : dAt (.lst (a :: b :: c :: ds)) (.int 2) = some c := dAt_lst (j := 2) rfl
theorem dAt_l3 {a b c d : D} {ds : List D} : dAt (.lst (a :: b :: c :: d :: ds)) (.int 3) = some d := dAt_lst (j := 3) rfl
theorem dAt_l4 {a b c d e : D} {ds : List D} : dAt (.lst (a :: b :: c :: d :: e :: ds)) (.int 4) = some e := dAt_lst (j := 4) rfl
theorem dAt_l5 {a b c d e f : D} {ds : List D} : dAt (.lst (a :: b :: c :: d :: e :: f :: ds)) (.int 5) = some f := dAt_lst (j := 5) rfl
theorem dAt_l6 {a b c d e f g : D} {ds : List D} : dAt (.lst (a :: b :: c :: d :: e :: f :: g :: ds)) (.int 6) = some g := dAt_lst (j := 6) rfl
theorem dAt_l7 {a b c d e f g h : D} {ds : List D} : dAt (.lst (a :: b :: c :: d :: e :: f :: g :: h :: ds)) (.int 7) = some h := dAt_lst (j := 7) rfl
theorem mem_rg {a c : Int} {n : Nat} {d : D} (h : d ∈ rg a c n) : ∃ i : Nat, i < n ∧ d = .int (a + (i : Nat) * c) := by
  unfold rg at h
  obtain ⟨i, hi, e⟩ := List.mem_map.mp h
  exact ⟨i, List.mem_range.mp hi, e.symm⟩
end
end GD

/-! GD, part f: comprehensions. -/
namespace GD
open PySem PySem.Spec PyProof.Rows L2

def wipeE : List Nat → En → En
  | [], ρ => ρ
  | v :: vs, ρ => (wipeE vs ρ).set v .un
def noEr {α : Type} (r : R α) : R α := match r with
  | .er _ => .st
  | o => o
def lcGo (g : D → En → Option En) (t : TM) (m : EM) : List D → En → R (List D)
  | [], _ => .ok []
  | d :: r, ρ => match g d ρ with
    | none => .st
    | some ρ1 => (noEr (t ρ1)).bind fun b => if b = true then (noEr (m ρ1)).bind fun x => (lcGo g t m r ρ).bind fun xs => .ok (x :: xs) else lcGo g t m r ρ
def aLc (f : D → Option (List D)) (vs : List Nat) (g : D → En → Option En) (t : TM) (mi m : EM) : AM := fun ρ => (mi ρ).bind fun d => (R.ofO (f d)).bind fun ds => if ds.length ≤ sizeLine then lcGo g t m ds (wipeE vs ρ) else .st
def aLcR (vs : List Nat) (g : D → En → Option En) (t : TM) (mi : AM) (m : EM) : AM := fun ρ => (mi ρ).bind fun as => (R.ofO (dRange as)).bind fun ds => if ds.length ≤ sizeLine then lcGo g t m ds (wipeE vs ρ) else .st
def mYes : TM := fun _ => .ok true

section
variable {K : PySem.W.Frag} {mg : Str → Option Value} {W : Wd} {B H : Hp} {σ σ2 : L2.St} {ρ : En}
theorem EnvOk.wipe (E : EnvOk K mg W B H σ ρ) : ∀ vs : List Nat, EnvOk K mg W B H (L2.wipe σ vs) (wipeE vs ρ)
  | [] => E
  | v :: vs => (EnvOk.wipe E vs).drop v
theorem wipe_get : ∀ (vs : List Nat) (i : Nat), (L2.wipe σ vs)[i]? = if i ∈ vs ∧ i < σ.length then some none else σ[i]?
  | [], i => by simp [L2.wipe]
  | v :: vs, i => by
    show ((L2.wipe σ vs).set v none)[i]? = _
    by_cases hv : v = i
    · subst hv
      by_cases hl : v < σ.length
      · rw [List.getElem?_set_self (by rw [wipe_length]; exact hl), if_pos ⟨List.mem_cons_self, hl⟩]
      · rw [if_neg (fun z => hl z.2), List.getElem?_eq_none (by rw [List.length_set, wipe_length]; omega), List.getElem?_eq_none (by omega)]
    · rw [List.getElem?_set_ne hv, wipe_get vs i]
      have e : (i ∈ v :: vs) ↔ i ∈ vs := by
        rw [List.mem_cons]
        exact ⟨fun z => z.elim (fun z => absurd z.symm hv) id, Or.inr⟩
      simp only [e]
theorem wipe_agree {vs : List Nat} (hl : σ2.length = σ.length) (h : ∀ j, j ∉ vs → σ2[j]? = (L2.wipe σ vs)[j]?) : L2.wipe σ2 vs = L2.wipe σ vs := by
  apply List.ext_getElem?
  intro i
  rw [wipe_get, wipe_get]
  by_cases hi : i ∈ vs
  · by_cases hs : i < σ.length
    · rw [if_pos ⟨hi, by omega⟩, if_pos ⟨hi, hs⟩]
    · rw [if_neg (fun z => hs (by omega)), if_neg (fun z => hs z.2), List.getElem?_eq_none (by omega), List.getElem?_eq_none (by omega)]
  · rw [if_neg (fun z => hi z.1), if_neg (fun z => hi z.1), h i hi, wipe_get, if_neg (fun z => hi z.1)]
end

section
variable {X : Cx} {Wx : WX} {a b c e : Expr} {es : List Expr} {pos p : Pos} {ma mb m : EM} {mr : AM}
/-- targets of a comprehension: what they store -/
def PGV (X : Cx) (tg : Expr) (vs : List Nat) (g : D → En → Option En) : Prop := ∀ W σ H B ρ ρ' d v, EnvOk X.K X.mg W B H σ ρ → Is X.K X.mg B v d → g d ρ = some ρ' → ∀ Q : L2.St → Hp → Prop,
  (∀ σ', EnvOk X.K X.mg W B H σ' ρ' → σ'.length = σ.length → (∀ j, j ∉ vs → σ'[j]? = σ[j]?) → Q σ' H) → wpG X tg v σ H Q
def PGVs (X : Cx) (tgs : List Expr) (vs : List Nat) (g : List D → En → Option En) : Prop := ∀ W σ H B ρ ρ' ds us, EnvOk X.K X.mg W B H σ ρ → IsL X.K X.mg B us ds → g ds ρ = some ρ' → ∀ Q : L2.St → Hp → Prop,
  (∀ σ', EnvOk X.K X.mg W B H σ' ρ' → σ'.length = σ.length → (∀ j, j ∉ vs → σ'[j]? = σ[j]?) → Q σ' H) → wpGs X tgs us σ H Q
theorem pgv_name {i : Nat} {x : Str} {vs : List Nat} (hN : X.N.Nodup) (hi : X.N[i]? = some x) (hx : Loc X.env.scope x) (hv : i ∈ vs) (hf : X.fn x = true ∨ X.env.scope.names.lookup x = some .local := by first | exact .inl rfl | exact .inr rfl | assumption) : PGV X (.Name x pos) vs (gNm i) := by
  intro W σ H B ρ ρ' d v E r g Q q
  cases g
  exact ⟨_, pg_name hN hi hx hf, q _ (E.set r) (by simp) fun j hj => List.getElem?_set_ne (fun z => hj (by rw [← z]; exact hv))⟩
theorem pgsv_nil {vs : List Nat} : PGVs X [] vs gsNil := by
  intro W σ H B ρ ρ' ds us E r g Q q
  cases r with
  | nil =>
    cases g
    exact ⟨_, pgs_nil, rfl, q _ E rfl fun _ _ => rfl⟩
  | cons _ _ => cases g
theorem pgsv_cons {tg : Expr} {tgs : List Expr} {vs : List Nat} {g : D → En → Option En} {gs : List D → En → Option En} (h1 : PGV X tg vs g) (h2 : PGVs X tgs vs gs)
    (hs : (assignEach (tg :: tgs) X.env).map (·.2) = assign tg X.env :: (assignEach tgs X.env).map (·.2) := by rfl) : PGVs X (tg :: tgs) vs (gsCons g gs) := by
  intro W σ H B ρ ρ' ds us E r gg Q q
  cases r with
  | nil => cases gg
  | cons hv r =>
    simp only [gsCons, Option.bind_eq_some_iff] at gg
    obtain ⟨ρ1, g1, g2⟩ := gg
    exact ⟨_, pgs_cons pg_wp pgs_wp hs, _, _, rfl, h1 W σ H B ρ ρ1 _ _ E hv g1 _ fun σ1 E1 l1 a1 => h2 W σ1 H B ρ1 ρ' _ _ E1 r g2 Q fun σ2 E2 l2 a2 => q σ2 E2 (l2.trans l1) fun j hj => (a2 j hj).trans (a1 j hj)⟩
theorem pgv_tup {tgs : List Expr} {k : Nat} {vs : List Nat} {gs : List D → En → Option En} {n : Nat} (hc : X.calm = true) (h : PGVs X tgs vs gs) (hl : ∀ ds ρ ρ', gs ds ρ = some ρ' → ds.length = n)
    (hn : (assignEach tgs X.env).length = n := by rfl) (hst : (assignEach tgs X.env).findIdx? (·.1) = none := by rfl) : PGV X (.Tuple tgs k pos) vs (gTp gs) := by
  intro W σ H B ρ ρ' d v E r g Q q
  unfold gTp at g
  split at g
  · obtain ⟨a, xs, rfl, h1, r1⟩ := r.tup_inv
    exact ⟨_, pg_tup hc pgs_wp hn hst, a, xs, rfl, seqT E.bh h1, by rw [r1.length]; exact hl _ _ _ g, h W σ H B ρ ρ' _ _ E r1 g Q q⟩
  · cases g
/-- the tests of a comprehension -/
def wpTs (X : Cx) (ifs : List Expr) : TT := fun σ H Q => ∃ t, PTs X ifs t ∧ t σ H Q
theorem pts_wp {ifs : List Expr} : PTs X ifs (wpTs X ifs) := ⟨fun pins s σ H Q I ⟨_, h, q⟩ => h.run pins s σ H Q I q⟩
abbrev W0 : WX := fun _ _ _ _ => False
def PTSD (X : Cx) (ifs : List Expr) (t : TM) : Prop := ∀ W σ H B ρ, EnvOk X.K X.mg W B H σ ρ → ∀ Q, Post (t ρ) (okT B H Q) (erD X W0 σ B H) → wpTs X ifs σ H Q
theorem ptsd_nil : PTSD X [] mYes := fun W σ H B ρ E Q h => ⟨_, pts_nil, (show okT B H Q true from h) B H (Grow.refl E.bh)⟩
theorem ptsd_one {t : TM} (h : PTD X W0 c t) : PTSD X [c] t := fun W σ H B ρ E Q q => ⟨_, pts_one pt_wp, h W σ H B ρ E Q q⟩
theorem Post.noEr {α : Type} {r : R α} {P : α → Prop} {E E' : Str → Prop} (h : Post (GD.noEr r) P E) : Post r P E' := by
  cases r with
  | ok a => exact h
  | er x => exact h.elim
  | st => exact h
theorem Post.noErB {α β : Type} {r : R α} {f : α → R β} {P : β → Prop} {E E' : Str → Prop} (h : Post ((GD.noEr r).bind f) P E) : Post r (fun a => Post (f a) P E) E' := by
  cases r with
  | ok a => exact h
  | er x => exact h.elim
  | st => exact h

variable {elt tg iter : Expr} {ifs : List Expr} {scope : Scope} {own : List (Str × Nat)} {g : D → En → Option En} {t : TM}
/-- the block's readings, whatever its begin -/
def blkG (X : Cx) (scope : Scope) (tg : Expr) : TG := fun v σ H Q => ∀ (s : Shared) (H0 : Hp) (C : Addr) (cl : List (Str × Addr)) (fp : List Addr), wpG (X.blk s H0 scope (compEnvC scope cl C X.env) fp) tg v σ H Q
def blkT (X : Cx) (scope : Scope) (ifs : List Expr) : TT := fun σ H Q => ∀ (s : Shared) (H0 : Hp) (C : Addr) (cl : List (Str × Addr)) (fp : List Addr), wpTs (X.blk s H0 scope (compEnvC scope cl C X.env) fp) ifs σ H Q
def blkE (X : Cx) (scope : Scope) (e : Expr) : TE := fun σ H Q => ∀ (s : Shared) (H0 : Hp) (C : Addr) (cl : List (Str × Addr)) (fp : List Addr), wpE (X.blk s H0 scope (compEnvC scope cl C X.env) fp) e σ H Q
structure Blk (X : Cx) (scope : Scope) (own : List (Str × Nat)) (tg : Expr) (ifs : List Expr) (elt : Expr) (g : D → En → Option En) (t : TM) (m : EM) : Prop where
  g : ∀ (s : Shared) (H : Hp) (C : Addr) (cl : List (Str × Addr)) (fp : List Addr), PGV (X.blk s H scope (compEnvC scope cl C X.env) fp) tg (own.map (·.2)) g
  t : ∀ (s : Shared) (H : Hp) (C : Addr) (cl : List (Str × Addr)) (fp : List Addr), PTSD (X.blk s H scope (compEnvC scope cl C X.env) fp) ifs t
  e : ∀ (s : Shared) (H : Hp) (C : Addr) (cl : List (Str × Addr)) (fp : List Addr), PED (X.blk s H scope (compEnvC scope cl C X.env) fp) W0 elt m
/-- how far a comprehension is -/
def LcPv (X : Cx) (g : D → En → Option En) (t : TM) (m : EM) (vs : List Nat) (B1 H1 : Hp) (ρ : En) (P : List D → Prop) (ds : List D) (D' : Addr) (i : Nat) (H : Hp) : Prop :=
  ∃ B' acc es, Grow B1 H1 B' H ∧ H D' = some (.lst acc) ∧ B' D' = none ∧ IsL X.K X.mg B' acc es ∧ acc.length ≤ i ∧ Post (lcGo g t m (ds.drop i) (wipeE vs ρ)) (fun r => P (es ++ r)) (fun _ => False)
theorem lc_turn {W : Wd} {σ : L2.St} {B1 H1 H : Hp} {ρ : En} {P : List D → Prop} {ds : List D} {D' : Addr} {i : Nat} {d : D} {v : V} (hb : Blk X scope own tg ifs elt g t m) (E : EnvOk X.K X.mg W B1 H1 σ ρ) (hD : H1 D' = none) (hd : ds[i]? = some d) (hl : ds.length ≤ sizeLine)
    (h : LcPv X g t m (own.map (·.2)) B1 H1 ρ P ds D' i H) (hv : ∀ B', Same B1 B' → Is X.K X.mg B' v d) :
    blkG X scope tg v (L2.wipe σ (own.map (·.2))) H fun σ2 H2 => L2.wipe σ2 (own.map (·.2)) = L2.wipe σ (own.map (·.2)) ∧ blkT X scope ifs σ2 H2 fun b H3 =>
      if b = true then blkE X scope elt σ2 H3 fun y H4 => ∃ acc, H4 D' = some (.lst acc) ∧ acc.length < sizeLine ∧ LcPv X g t m (own.map (·.2)) B1 H1 ρ P ds D' (i + 1) (upd H4 D' (.lst (acc ++ [y]))) else LcPv X g t m (own.map (·.2)) B1 H1 ρ P ds D' (i + 1) H3 := by
  obtain ⟨B', acc, es, g1, hacc, nb, ra, la, q⟩ := h
  have hi : i < ds.length := (List.getElem?_eq_some_iff.mp hd).1
  rw [drop_get hd] at q
  unfold lcGo at q
  intro s H0 C cl fp
  cases eg : g d (wipeE (own.map (·.2)) ρ) with
  | none => rw [eg] at q; exact q.elim
  | some ρ1 =>
    rw [eg] at q
    dsimp only at q
    have E1 := (E.grow g1).wipe (own.map (·.2))
    refine hb.g s H0 C cl fp W _ H B' _ ρ1 d v E1 (hv B' g1.bb) eg _ fun σ2 E2 l2 a2 => ⟨wipe_agree (l2.trans (wipe_length _ _)) a2, fun s3 H30 C3 cl3 fp3 => ?_⟩
    refine hb.t s3 H30 C3 cl3 fp3 W σ2 H B' ρ1 E2 _ ((q.noErB (E' := fun _ => False)).mono (fun b _ hb' B3 H3 g3 => ?_) fun _ z => z.elim)
    cases b with
    | true =>
      rw [if_pos rfl] at hb' ⊢
      intro s4 H40 C4 cl4 fp4
      refine hb.e s4 H40 C4 cl4 fp4 W σ2 H3 B3 ρ1 (E2.grow g3) _ ((hb'.noErB (E' := fun _ => False)).mono (fun x _ hx y B4 H4 g4 ry => ?_) fun _ z => z.elim)
      have e4 : H4 D' = some (.lst acc) := g4.hh _ _ (g3.hh _ _ hacc)
      have n4 : B4 D' = none := g4.sep _ _ (g3.hh _ _ hacc) nt_lst (g3.sep _ _ hacc nt_lst nb)
      have G := (g1.trans g3).trans g4
      refine ⟨acc, e4, Nat.lt_of_lt_of_le (Nat.lt_of_le_of_lt la hi) hl, B4, acc ++ [y], es ++ [x], ⟨G.bb, fun q u e => ?_, fun q u e => ?_, G.sep⟩, upd_same, n4, ((ra.mono g3.bb).mono g4.bb).snoc ry, by rw [List.length_append, List.length_singleton]; omega, hx.bind.mono (fun r _ hr => ?_) fun _ z => z⟩
      · rw [upd_ne (ne_of_none e hD)]; exact G.hh q u e
      · rw [upd_ne (fun z => by rw [z, n4] at e; cases e)]; exact G.bh q u e
      · rw [List.append_assoc]
        exact hr
    | false =>
      rw [if_neg Bool.false_ne_true] at hb' ⊢
      exact ⟨B3, acc, es, g1.trans g3, g3.hh _ _ hacc, g3.sep _ _ hacc nt_lst nb, ra.mono g3.bb, by omega, hb'⟩
theorem lc_start {B1 H1 : Hp} {ρ : En} {P : List D → Prop} {ds : List D} {D' : Addr} {vs : List Nat} (b : Same B1 H1) (hD : H1 D' = none) (q : Post (lcGo g t m ds (wipeE vs ρ)) P (fun _ => False)) :
    LcPv X g t m vs B1 H1 ρ P ds D' 0 (upd H1 D' (.lst [])) := by
  refine ⟨B1, [], [], Grow.own b hD, upd_same, ?_, .nil, Nat.le_refl _, q.mono (fun r _ h => h) fun _ z => z⟩
  cases e : B1 D' with
  | none => rfl
  | some o => rw [b _ o e] at hD; cases hD
theorem lc_end {W : Wd} {B H B1 H1 H' : Hp} {Q : VK} {ρ : En} {ds : List D} {D' : Addr} {vs : List Nat} {n : Nat} (g1 : Grow B H B1 H1) (hD : H1 D' = none) (hn : n = ds.length) (h : LcPv X g t m vs B1 H1 ρ (okF X B H Q) ds D' n H') : Q (.ref D') H' := by
  subst hn
  obtain ⟨B', acc, es, g2, hacc, nb, ra, _, q⟩ := h
  rw [List.drop_length] at q
  have q' : okF X B H Q (es ++ []) := q
  rw [List.append_nil] at q'
  exact q' D' acc B' H' (g1.trans g2) (by
    cases e : H D' with
    | none => rfl
    | some o => rw [g1.hh _ o e] at hD; cases hD) hacc nb ra
theorem lcGo_noer : ∀ (ds : List D) (ρ : En) (x : Str), lcGo g t m ds ρ ≠ .er x
  | [], ρ, x => fun h => by cases h
  | d :: r, ρ, x => fun h => by
    unfold lcGo at h
    split at h
    · cases h
    · rename_i ρ1 _
      cases e1 : t ρ1 with
      | ok b =>
        rw [e1] at h
        have h' : (if b = true then (noEr (m ρ1)).bind fun x => (lcGo g t m r ρ).bind fun xs => R.ok (x :: xs) else lcGo g t m r ρ) = .er x := h
        cases b with
        | true =>
          rw [if_pos rfl] at h'
          cases e2 : m ρ1 with
          | ok y =>
            rw [e2] at h'
            have h2 : ((lcGo g t m r ρ).bind fun xs => R.ok (y :: xs)) = .er x := h'
            cases e3 : lcGo g t m r ρ with
            | ok z => rw [e3] at h2; cases h2
            | er z => exact lcGo_noer r ρ z e3
            | st => rw [e3] at h2; cases h2
          | er y => rw [e2] at h'; cases h'
          | st => rw [e2] at h'; cases h'
        | false =>
          rw [if_neg Bool.false_ne_true] at h'
          exact lcGo_noer r ρ x h'
      | er y => rw [e1] at h; cases h
      | st => rw [e1] at h; cases h
theorem post_lc {ds : List D} {ρ : En} {P : List D → Prop} {Er : Str → Prop} (h : Post (if ds.length ≤ sizeLine then lcGo g t m ds ρ else .st) P Er) : ds.length ≤ sizeLine ∧ Post (lcGo g t m ds ρ) P (fun _ => False) := by
  by_cases hl : ds.length ≤ sizeLine
  · rw [if_pos hl] at h
    refine ⟨hl, ?_⟩
    cases e : lcGo g t m ds ρ with
    | ok r => rw [e] at h; exact h
    | er x => exact (lcGo_noer ds ρ x e).elim
    | st => rw [e] at h; exact h
  · rw [if_neg hl] at h
    exact h.elim
/-- a comprehension, wherever it stands -/
def LCD (X : Cx) (Wx : WX) (own : List (Str × Nat)) (elt tg iter : Expr) (ifs : List Expr) (scope : Scope) (m : AM) : Prop :=
  BlkOk X.N X.env.scope scope own ∧ (∀ x, foldedSetIterable iter X.env x = pure x) ∧ ∃ (wi : TI) (g : TG) (tt : TT) (te : TE), PI X tg iter wi ∧
    (∀ (s : Shared) (H : Hp) (C : Addr) (cl : List (Str × Addr)) (fp : List Addr), PG (X.blk s H scope (compEnvC scope cl C X.env) fp) tg g) ∧
    (∀ (s : Shared) (H : Hp) (C : Addr) (cl : List (Str × Addr)) (fp : List Addr), PTs (X.blk s H scope (compEnvC scope cl C X.env) fp) ifs tt) ∧
    (∀ (s : Shared) (H : Hp) (C : Addr) (cl : List (Str × Addr)) (fp : List Addr), PE (X.blk s H scope (compEnvC scope cl C X.env) fp) elt te) ∧
    ∀ W σ H B ρ, EnvOk X.K X.mg W B H σ ρ → ∀ Q, Post (m ρ) (okF X B H Q) (erD X Wx σ B H) → tLc wi g tt te (own.map (·.2)) σ H Q
theorem pfd_lc (hc : X.calm = true) (hN : X.N.Nodup) (h : LCD X Wx own elt tg iter ifs scope mr) : PFD X Wx (.ListComp elt [⟨tg, iter, ifs, 0⟩] scope pos) mr := by
  obtain ⟨ok, hs, wi, g, tt, te, hi, hg, ht, he, q⟩ := h
  exact fun W σ H B ρ E Q hq => ⟨_, pe_lc hc hN hi ok hg ht he hs, q W σ H B ρ E Q hq⟩
theorem psd_ownL {i : Nat} {y : Str} {py spos : Pos} (hc : X.calm = true) (hN : X.N.Nodup) (hy : X.N[i]? = some y) (hyl : X.env.scope.names.lookup y = some .local) (h : LCD X Wx own elt tg iter ifs scope mr)
    (hsw : swapsWith (.ListComp elt [⟨tg, iter, ifs, 0⟩] scope pos) (some (.Name y py)) spos.line X.env = pure true) :
    PSD X Wx (.Assign [.Name y py] (.ListComp elt [⟨tg, iter, ifs, 0⟩] scope pos) spos) (sOwn i mr) := by
  obtain ⟨ok, hs, wi, g, tt, te, hi, hg, ht, he, q⟩ := h
  exact fun W σ H B ρ E D hq => ⟨_, ps_setLc hc hN hy hyl hsw hi ok hg ht he hs, q W σ H B ρ E _ ((PostS.ofR hq E).mono (fun ds _ hd p xs B' H' g n e1 nb r => (show PostS X W Wx (.nx (ρ.set i (.l ds))) D from hd) _ B' H' ((E.grow g).setL e1 nb (by
    cases q : W.H p with
    | none => rfl
    | some o => rw [E.gr.hh p o q] at n; cases n) (fun j fs hj _ z => by
      obtain ⟨p', ys, h1, h2, _⟩ := E.own j fs hj
      rw [z] at h1
      cases h1
      rw [n] at h2
      cases h2) r)) fun _ z => z)⟩
/-- x = [..] as data -/
def sAsgL (i : Nat) (m : AM) : SM := fun ρ => ofR (m ρ) ρ fun ds => .nx (ρ.set i (.v (.lst ds)))
theorem frozen {B H B1 H1 : Hp} {p : Addr} {xs : List V} {ds : List D} (g : Grow B H B1 H1) (n : H p = none) (e1 : H1 p = some (.lst xs)) (nb : B1 p = none) (r : IsL X.K X.mg B1 xs ds) :
    Grow B H (upd B1 p (.lst xs)) H1 ∧ Is X.K X.mg (upd B1 p (.lst xs)) (.ref p) (.lst ds) := by
  have nb' : ∀ q u, B1 q = some u → q ≠ p := fun q u e z => by rw [z, nb] at e; cases e
  have s1 : Same B1 (upd B1 p (.lst xs)) := fun q u e => by rw [upd_ne (nb' q u e)]; exact e
  refine ⟨⟨g.bb.trans s1, g.hh, fun q u e => ?_, fun q u e tt z => ?_⟩, .lst upd_same (r.mono s1)⟩
  · by_cases hq : q = p
    · subst hq; rw [upd_same] at e; rw [e1, e]
    · rw [upd_ne hq] at e; exact g.bh q u e
  · rw [upd_ne (ne_of_none e n)]
    exact g.sep q u e tt z
theorem psd_setL {i : Nat} {y : Str} {py spos : Pos} (hc : X.calm = true) (hN : X.N.Nodup) (hy : X.N[i]? = some y) (hyl : X.env.scope.names.lookup y = some .local) (h : LCD X Wx own elt tg iter ifs scope mr)
    (hsw : swapsWith (.ListComp elt [⟨tg, iter, ifs, 0⟩] scope pos) (some (.Name y py)) spos.line X.env = pure true) :
    PSD X Wx (.Assign [.Name y py] (.ListComp elt [⟨tg, iter, ifs, 0⟩] scope pos) spos) (sAsgL i mr) := by
  obtain ⟨ok, hs, wi, g, tt, te, hi, hg, ht, he, q⟩ := h
  exact fun W σ H B ρ E D hq => ⟨_, ps_setLc hc hN hy hyl hsw hi ok hg ht he hs, q W σ H B ρ E _ ((PostS.ofR hq E).mono (fun ds _ hd p xs B' H' g n e1 nb r =>
    let ⟨g2, r2⟩ := frozen g n e1 nb r
    (show PostS X W Wx (.nx (ρ.set i (.v (.lst ds)))) D from hd) _ _ H' ((E.grow g2).set r2)) fun _ z => z)⟩
/-- .. where the name is a cell: a plain assignment -/
theorem psd_setF {i : Nat} {x : Str} {pos' : Pos} (hN : X.N.Nodup) (hi : X.N[i]? = some x) (hx : Loc X.env.scope x) (h : PFD X Wx e mr) (hs : swapsWith e (some (.Name x pos')) pos.line X.env = pure false := by rfl)
    (hf : X.fn x = true ∨ X.env.scope.names.lookup x = some .local := by first | exact .inl rfl | exact .inr rfl | assumption) : PSD X Wx (.Assign [.Name x pos'] e pos) (sAsgL i mr) := fun W σ H B ρ E D q =>
  ⟨_, ps_set hN hi hx pe_wp hs hf, h W σ H B ρ E _ ((PostS.ofR q E).mono (fun ds _ hd p xs B' H' g n e1 nb r =>
    let ⟨g2, r2⟩ := frozen g n e1 nb r
    (show PostS X W Wx (.nx (ρ.set i (.v (.lst ds)))) D from hd) _ _ H' ((E.grow g2).set r2)) fun _ z => z)⟩
theorem lcd_L (hi : PED X Wx iter ma) (ok : BlkOk X.N X.env.scope scope own)
    (hg : ∀ (s : Shared) (H : Hp) (C : Addr) (cl : List (Str × Addr)) (fp : List Addr), PGV (X.blk s H scope (compEnvC scope cl C X.env) fp) tg (own.map (·.2)) g)
    (ht : ∀ (s : Shared) (H : Hp) (C : Addr) (cl : List (Str × Addr)) (fp : List Addr), PTSD (X.blk s H scope (compEnvC scope cl C X.env) fp) ifs t)
    (he : ∀ (s : Shared) (H : Hp) (C : Addr) (cl : List (Str × Addr)) (fp : List Addr), PED (X.blk s H scope (compEnvC scope cl C X.env) fp) W0 elt m)
    (hs : ∀ x, foldedSetIterable iter X.env x = pure x := by intro _; rfl) : LCD X Wx own elt tg iter ifs scope (aLc asL (own.map (·.2)) g t ma m) :=
  ⟨ok, hs, iList X.K (wpE X iter), blkG X scope tg, blkT X scope ifs, blkE X scope elt, pi_list pe_wp, (fun s H C cl fp => ⟨fun pins s' σ' H' v u Q I r q => pg_wp.run pins s' σ' H' v u Q I r (q s H C cl fp)⟩), (fun s H C cl fp => ⟨fun pins s' σ' H' Q I q => pts_wp.run pins s' σ' H' Q I (q s H C cl fp)⟩),
      (fun s H C cl fp => ⟨fun pins s' σ' H' Q I q => pe_wp.run pins s' σ' H' Q I (q s H C cl fp)⟩), fun W σ H B ρ E Q h => by
    refine hi W σ H B ρ E _ ((show Post ((ma ρ).bind fun d => (R.ofO (asL d)).bind fun ds => if ds.length ≤ sizeLine then lcGo g t m ds (wipeE (own.map (·.2)) ρ) else .st) _ _ from h).bind.mono (fun d _ hd v B1 H1 g1 rv => ?_) fun _ z => z)
    obtain ⟨ds, ed, q1⟩ := hd.bind.ofO
    obtain ⟨hl, q2⟩ := post_lc q1
    obtain ⟨a, xs, ev, hsq, r⟩ : ∃ a xs, v = V.ref a ∧ SqL X.K B1 a xs ∧ IsL X.K X.mg B1 xs ds := by
      cases d with
      | lst ds' =>
        cases ed
        obtain ⟨a, xs, ev, h1, r⟩ := rv.lst_inv
        exact ⟨a, xs, ev, SqL.of h1, r⟩
      | scr ns =>
        cases ed
        obtain ⟨a, ev, h1⟩ := rv.scr_inv
        exact ⟨a, _, ev, h1, IsL.ints ns⟩
      | _ => cases ed
    refine ⟨a, ev, ⟨xs, g1.bh.seq hsq⟩, fun D' hD => ?_⟩
    exact lc_list (K := X.K) (a := a) (xs := xs) (LcPv X g t m (own.map (·.2)) B1 H1 ρ (okF X B H Q) ds D') (lc_start g1.bh hD q2) (fun i H' _ ⟨B', _, _, g2, _⟩ => (g2.bb.trans g2.bh).seq hsq)
      (fun i x H' hx p => by
        obtain ⟨d', hd', r'⟩ := r.at hx
        exact lc_turn ⟨hg, ht, he⟩ (E.grow g1) hD hd' hl p fun B' s => r'.mono s)
      (fun H' p => lc_end (W := W) g1 hD r.length p)⟩
theorem lcd_T (hi : PED X Wx iter ma) (ok : BlkOk X.N X.env.scope scope own)
    (hg : ∀ (s : Shared) (H : Hp) (C : Addr) (cl : List (Str × Addr)) (fp : List Addr), PGV (X.blk s H scope (compEnvC scope cl C X.env) fp) tg (own.map (·.2)) g)
    (ht : ∀ (s : Shared) (H : Hp) (C : Addr) (cl : List (Str × Addr)) (fp : List Addr), PTSD (X.blk s H scope (compEnvC scope cl C X.env) fp) ifs t)
    (he : ∀ (s : Shared) (H : Hp) (C : Addr) (cl : List (Str × Addr)) (fp : List Addr), PED (X.blk s H scope (compEnvC scope cl C X.env) fp) W0 elt m)
    (hs : ∀ x, foldedSetIterable iter X.env x = pure x := by intro _; rfl) : LCD X Wx own elt tg iter ifs scope (aLc asT (own.map (·.2)) g t ma m) :=
  ⟨ok, hs, iTup X.K (wpE X iter), blkG X scope tg, blkT X scope ifs, blkE X scope elt, pi_tup pe_wp, (fun s H C cl fp => ⟨fun pins s' σ' H' v u Q I r q => pg_wp.run pins s' σ' H' v u Q I r (q s H C cl fp)⟩), (fun s H C cl fp => ⟨fun pins s' σ' H' Q I q => pts_wp.run pins s' σ' H' Q I (q s H C cl fp)⟩),
      (fun s H C cl fp => ⟨fun pins s' σ' H' Q I q => pe_wp.run pins s' σ' H' Q I (q s H C cl fp)⟩), fun W σ H B ρ E Q h => by
    refine hi W σ H B ρ E _ ((show Post ((ma ρ).bind fun d => (R.ofO (asT d)).bind fun ds => if ds.length ≤ sizeLine then lcGo g t m ds (wipeE (own.map (·.2)) ρ) else .st) _ _ from h).bind.mono (fun d _ hd v B1 H1 g1 rv => ?_) fun _ z => z)
    obtain ⟨ds, ed, q1⟩ := hd.bind.ofO
    obtain ⟨hl, q2⟩ := post_lc q1
    cases d with
    | tup ds' =>
      obtain rfl : ds' = ds := Option.some.inj ed
      obtain ⟨a, xs, ev, hsq, r⟩ := rv.tup_inv
      refine ⟨a, ev, ⟨xs, seqT g1.bh hsq⟩, fun D' hD => ?_⟩
      exact lc_tup (K := X.K) (a := a) (xs := xs) (LcPv X g t m (own.map (·.2)) B1 H1 ρ (okF X B H Q) ds' D') (lc_start g1.bh hD q2) (fun i H' _ ⟨B', _, _, g2, _⟩ => seqT (g2.bb.trans g2.bh) hsq)
        (fun i x H' hx p => by
          obtain ⟨d', hd', r'⟩ := r.at hx
          exact lc_turn ⟨hg, ht, he⟩ (E.grow g1) hD hd' hl p fun B' s => r'.mono s)
        (fun H' p => lc_end (W := W) g1 hD r.length p)
    | _ => cases ed⟩
theorem lc_rg {W : Wd} {σ : L2.St} {B H B1 H1 : Hp} {Q : VK} {ρ : En} {lo : Int} {n : Nat} {D' : Addr} (hb : Blk X scope own tg ifs elt g t m) (E : EnvOk X.K X.mg W B1 H1 σ ρ) (g1 : Grow B H B1 H1) (hD : H1 D' = none) (hl : (rg lo 1 n).length ≤ sizeLine)
    (q : Post (lcGo g t m (rg lo 1 n) (wipeE (own.map (·.2)) ρ)) (okF X B H Q) (fun _ => False)) :
    ∃ W : Nat → Nat → Hp → Prop, (∃ m, W 0 m (upd H1 D' (.lst []))) ∧ ∀ i m H, W i m H →
      ((Itr lo n).stop i H ∧ Q (.ref D') H) ∨ ((Itr lo n).go i H ∧ ∃ Nx : Hp → Prop, (∀ H', Nx H' → ∃ m', m' < m ∧ W (i + 1) m' H') ∧ ∀ x H', (Itr lo n).yld i H x H' → blkG X scope tg x (L2.wipe σ (own.map (·.2))) H' fun σ2 H2 => L2.wipe σ2 (own.map (·.2)) = L2.wipe σ (own.map (·.2)) ∧ blkT X scope ifs σ2 H2 fun b H3 =>
        if b = true then blkE X scope elt σ2 H3 fun y H4 => ∃ acc, H4 D' = some (.lst acc) ∧ acc.length < sizeLine ∧ Nx (upd H4 D' (.lst (acc ++ [y]))) else Nx H3) :=
  lc_range (lo := lo) (n := n) (LcPv X g t m (own.map (·.2)) B1 H1 ρ (okF X B H Q) (rg lo 1 n) D') (lc_start E.bh hD q)
    (fun i H' hi p => by
      have hg := rg_get (i := lo) (c := 1) hi
      rw [Int.mul_one] at hg
      exact lc_turn hb E hD hg hl p fun B' s => .int _)
    (fun H' p => lc_end (W := W) g1 hD rg_len.symm p)
theorem lcd_1 (hgl : Gl X "range") (hm : X.mg "range" = none) (hi : PAD X Wx [a] mr) (hln : ∀ ρ ds, mr ρ = .ok ds → ds.length = 1) (ok : BlkOk X.N X.env.scope scope own)
    (hg : ∀ (s : Shared) (H : Hp) (C : Addr) (cl : List (Str × Addr)) (fp : List Addr), PGV (X.blk s H scope (compEnvC scope cl C X.env) fp) tg (own.map (·.2)) g)
    (ht : ∀ (s : Shared) (H : Hp) (C : Addr) (cl : List (Str × Addr)) (fp : List Addr), PTSD (X.blk s H scope (compEnvC scope cl C X.env) fp) ifs t)
    (he : ∀ (s : Shared) (H : Hp) (C : Addr) (cl : List (Str × Addr)) (fp : List Addr), PED (X.blk s H scope (compEnvC scope cl C X.env) fp) W0 elt m)
    {cpos : Pos} (hs1 : starEach [a] X.env = [(false, eval a X.env)] := by rfl) (hs : ∀ x, foldedSetIterable (.Call (.Name "range" p) [a] [] cpos) X.env x = pure x := by intro _; rfl) :
    LCD X Wx own elt tg (.Call (.Name "range" p) [a] [] cpos) ifs scope (aLcR (own.map (·.2)) g t mr m) :=
  ⟨ok, hs, iRng1 (wpA X [a]), blkG X scope tg, blkT X scope ifs, blkE X scope elt, pi_range1 hgl hm pa_wp hs1, (fun s H C cl fp => ⟨fun pins s' σ' H' v u Q I r q => pg_wp.run pins s' σ' H' v u Q I r (q s H C cl fp)⟩), (fun s H C cl fp => ⟨fun pins s' σ' H' Q I q => pts_wp.run pins s' σ' H' Q I (q s H C cl fp)⟩),
      (fun s H C cl fp => ⟨fun pins s' σ' H' Q I q => pe_wp.run pins s' σ' H' Q I (q s H C cl fp)⟩), fun W σ H B ρ E Q h => by
    refine hi W σ H B ρ E _ ((show Post ((mr ρ).bind fun as => (R.ofO (dRange as)).bind fun ds => if ds.length ≤ sizeLine then lcGo g t m ds (wipeE (own.map (·.2)) ρ) else .st) _ _ from h).bind.mono (fun as eas hd vs B1 H1 g1 rv => ?_) fun _ z => z)
    obtain ⟨ds, ed, q1⟩ := hd.bind.ofO
    obtain ⟨hl, q2⟩ := post_lc q1
    have hl1 := hln ρ as eas
    match as, hl1, ed, rv with
    | [d], _, ed, rv =>
      cases d with
      | int j =>
        obtain ⟨hj, rfl⟩ := some_ite ed
        obtain ⟨v, rfl, r1⟩ := rv.one_inv
        rw [r1.int_inv]
        exact ⟨j, rfl, hj.1, hj.2, fun D' hD => lc_rg ⟨hg, ht, he⟩ (E.grow g1) g1 hD hl q2⟩
      | _ => cases ed⟩
theorem lcd_2 (hgl : Gl X "range") (hm : X.mg "range" = none) (hi : PAD X Wx [a, b] mr) (hln : ∀ ρ ds, mr ρ = .ok ds → ds.length = 2) (ok : BlkOk X.N X.env.scope scope own)
    (hg : ∀ (s : Shared) (H : Hp) (C : Addr) (cl : List (Str × Addr)) (fp : List Addr), PGV (X.blk s H scope (compEnvC scope cl C X.env) fp) tg (own.map (·.2)) g)
    (ht : ∀ (s : Shared) (H : Hp) (C : Addr) (cl : List (Str × Addr)) (fp : List Addr), PTSD (X.blk s H scope (compEnvC scope cl C X.env) fp) ifs t)
    (he : ∀ (s : Shared) (H : Hp) (C : Addr) (cl : List (Str × Addr)) (fp : List Addr), PED (X.blk s H scope (compEnvC scope cl C X.env) fp) W0 elt m)
    {cpos : Pos} (hs1 : starEach [a, b] X.env = [(false, eval a X.env), (false, eval b X.env)] := by rfl) (hs2 : starEach [b] X.env = [(false, eval b X.env)] := by rfl) (hs : ∀ x, foldedSetIterable (.Call (.Name "range" p) [a, b] [] cpos) X.env x = pure x := by intro _; rfl) :
    LCD X Wx own elt tg (.Call (.Name "range" p) [a, b] [] cpos) ifs scope (aLcR (own.map (·.2)) g t mr m) :=
  ⟨ok, hs, iRng2 (wpA X [a, b]), blkG X scope tg, blkT X scope ifs, blkE X scope elt, pi_range2 hgl hm pa_wp hs1 hs2, (fun s H C cl fp => ⟨fun pins s' σ' H' v u Q I r q => pg_wp.run pins s' σ' H' v u Q I r (q s H C cl fp)⟩), (fun s H C cl fp => ⟨fun pins s' σ' H' Q I q => pts_wp.run pins s' σ' H' Q I (q s H C cl fp)⟩),
      (fun s H C cl fp => ⟨fun pins s' σ' H' Q I q => pe_wp.run pins s' σ' H' Q I (q s H C cl fp)⟩), fun W σ H B ρ E Q h => by
    refine hi W σ H B ρ E _ ((show Post ((mr ρ).bind fun as => (R.ofO (dRange as)).bind fun ds => if ds.length ≤ sizeLine then lcGo g t m ds (wipeE (own.map (·.2)) ρ) else .st) _ _ from h).bind.mono (fun as eas hd vs B1 H1 g1 rv => ?_) fun _ z => z)
    obtain ⟨ds, ed, q1⟩ := hd.bind.ofO
    obtain ⟨hl, q2⟩ := post_lc q1
    have hl1 := hln ρ as eas
    match as, hl1, ed, rv with
    | [d, d2], _, ed, rv =>
      cases d with
      | int i =>
        cases d2 with
        | int j =>
          obtain ⟨hj, rfl⟩ := some_ite ed
          obtain ⟨v, u, rfl, r1, r2⟩ := rv.two_inv
          rw [r1.int_inv, r2.int_inv]
          exact ⟨i, j, rfl, hj, fun D' hD => lc_rg ⟨hg, ht, he⟩ (E.grow g1) g1 hD hl q2⟩
        | _ => cases ed
      | _ => cases ed⟩
end
end GD

/-! GD, part g: try .. except .. as e: error = e; what the caught error is. -/
namespace GD
open PySem PySem.Spec PyProof.Rows L2

theorem exK_ok {P : Program} {w : World} {H : Hp} {h : Heap} {a : Addr} {cls : Value} {oe : Obj} {vs : Array Value} (g : h.get? a = some oe) (z : Zc cls none oe) (d : oe.data = .fields vs) : ObjOk P w H h a (ExK cls a) :=
  ⟨⟨oe, vs, g, z, d⟩, ⟨oe, g⟩, fun _ _ y k => y.elim fun o y' => y'.elim fun v y2 => ⟨o, v, k o y2.1, y2.2⟩⟩
section
variable {X : Cx} {pins : List (Addr × Obj)} {σ : L2.St} {H : Hp} {s : Shared}
/-- the caught error becomes an object that we know -/
theorem inv_keeps {a : Addr} {cls : Value} {oe : Obj} {vs : Array Value} (I : Inv X pins σ H s) (g : s.heap.get? a = some oe) (z : Zc cls none oe) (d : oe.data = .fields vs) (nh : H a = none)
    (n0 : ∀ o, X.s_0.heap.get? a = some o → a ∈ X.ex) (nl : a ≠ X.env.locals) (np : ∀ p ∈ X.pn ++ pins, p.1 ≠ a) : Inv X pins σ (upd H a (ExK cls a)) s := by
  have off : ∀ b o, H b = some o → upd H a (ExK cls a) b = some o := fun b o e => by
    rw [upd_ne (ne_of_none e nh)]; exact e
  have non : ∀ b, H b = none → b ≠ a → upd H a (ExK cls a) b = none := fun b e hb => by
    rw [upd_ne hb]; exact e
  refine { ok := I.ok, os := I.os, bare := I.bare, base := ?_, loc := I.loc, cell := I.cell, free := non _ I.free (Ne.symm nl), freeC := fun x c e => ?_, pin := fun p hp => ?_, hok := fun b o e => ?_, len := I.len }
  · have U := I.base
    exact { keep := U.keep, slot := U.slot, there := U.there, free := fun b o e e1 hx => non b (U.free b o e e1 hx) (fun q => by subst q; exact hx (n0 o e)),
            tups := fun b xs e => off _ _ (U.tups b xs e), frzs := fun b o u e => off _ _ (U.frzs b o u e), tbls := fun b ps e => (U.tbls b ps e).imp fun _ q => off _ _ q }
  · refine non c (I.freeC x c e) fun q => ?_
    obtain ⟨v, hv⟩ := I.cell x c e
    obtain ⟨o, ho, hd⟩ := hv
    rw [q, g] at ho
    cases ho
    rw [d] at hd
    cases hd
  · obtain ⟨p1, p2, p3⟩ := I.pin p hp
    exact ⟨p1, non _ p2 (np p hp), p3⟩
  · by_cases hb : b = a
    · subst hb
      rw [upd_same] at e
      cases e
      exact exK_ok g z d
    · rw [upd_ne hb] at e
      exact (I.hok b o e).stay (fun _ _ _ q => q) (fun b' q => off _ _ q) fun b' xs q => off _ _ q

/-- what is wished of the error: it is caught, and the suite goes on with it -/
def wKeep (K : PySem.W.Frag) (c : Value) (i : Nat) (ts : Addr → Value → TS) (D : Ends) : WX := fun cls d σ H =>
  d = none ∧ PySem.W.exmOne K cls c = some true ∧ ∀ a, H a = none → ts a cls { nx := fun σ1 H1 => D.nx (σ1.set i none) (upd H1 a (ExK cls a)), rt := fun _ _ => False, bk := fun _ _ => False, ct := fun _ _ => False } (σ.set i (some (.ref a))) H
theorem catch_run {x n : Str} {c : Value} {i : Nat} {suite : List Stmt} {b₀ : Stmt} {np pos' : Pos} {ts : Addr → Value → TS} {D : Ends} {xe : Value → Shared → Prop} {u : Value} {s' : Shared}
    (ok : X.Ok) (hs : X.stack = X.env :: X.outer) (hf : X.env.frame = some X.env.locals) (hN : X.N.Nodup) (hi : X.N[i]? = some n) (hln : X.env.kindOf n = some .local) (hc : Names X x c)
    (hsu : ∀ (a : Addr) (oe : Obj) (cls : Value) (pn : List (Addr × Obj)), PSs (X.suite a ((a, oe) :: pn)) (b₀ :: suite) (ts a cls))
    (y : XE (X.tr (X.pn ++ pins) xe) (wKeep X.K c i ts D) u s') :
    wpAny (model X.prog X.w) X.A (noteFrame u X.env) (fun _ s2 => wpAny (model X.prog X.w) X.A (setFlight u none) (fun _ s3 =>
      wpAny (model X.prog X.w) X.A (handleBy u X.env [.ExceptHandler (some (.Name x np)) (some n) (b₀ :: suite) pos']) (SP X pins D) X.xe s3) X.xe s2) X.xe s' := by
  rcases y with ⟨a, G, s0, ps, σ1, H1, cls, dd, rfl, J1, ground, ups, sky, nh, eos, bare, dn, em, go⟩
  subst dn
  have J0 : Inv X pins σ1 H1 s0 := J1.ofTry ok
  have fr : X.A.frames = some (X.env :: X.outer) := hs ▸ ok.frames
  have sky2 : Sky G (X.env :: X.outer) a (Zc cls none) X.env.locals s'.heap := hs ▸ sky
  refine Sky.land Zc.steady fr hf sky2 fun hA flA upA => ?_
  have JA : Inv X pins σ1 H1 { s' with heap := hA } := J0.landed ground flA.1 (ups.trans upA) eos bare
  -- where the error is not
  have out : a ∉ frs (X.env :: X.outer) := by
    intro m
    obtain ⟨_, o, eo, no⟩ := flA.2.2.1.mem m
    obtain ⟨oe, vs, e1, _, e2⟩ := flA.there
    cases e1.symm.trans eo
    exact no _ e2
  have aL : a ≠ X.env.locals := fun q => out (List.mem_filterMap.mpr ⟨X.env, List.mem_cons_self, by rw [hf, q]⟩)
  have aF : a ∉ X.fs := fun q => out (by
    obtain ⟨e, h1, h2⟩ := List.mem_filterMap.mp q
    exact List.mem_filterMap.mpr ⟨e, List.mem_cons_of_mem _ h1, h2⟩)
  have new0 : ∀ o, s0.heap.get? a = some o → False := fun o q => by
    have := ground a o q (by rw [show (X.tr (X.pn ++ pins) xe).stack = X.env :: X.outer from hs]; exact out)
    rw [flA.2.1] at this
    cases this
  have n0 : ∀ o, X.s_0.heap.get? a = some o → a ∈ X.ex := fun o q => by
    apply Decidable.byContradiction
    intro hx
    obtain ⟨o', q'⟩ := J0.base.there a o q hx
    exact new0 o' q'
  have npn : ∀ p ∈ X.pn ++ pins, p.1 ≠ a := fun p hp q => new0 p.2 (by rw [← q]; exact (J0.pin p hp).1)
  -- the clause's class
  obtain ⟨oA, vA, eA, zA, dA⟩ := flA.there
  have SA := JA.suite eA dA nh aL aF
  have ty : PySem.W.Looks (model X.prog X.w) hA (typeOf (.ref a)) cls := fun _ _ _ _ k q => wpAny_typeOf_ref (k _ _ eA) (zA.1.symm ▸ q)
  have yes := PySem.W.exm_one (M := model X.prog X.w) JA.kIn ty em
  have ask : ∀ {Q : Value → Shared → Prop} {E : Value → Shared → Prop}, Q c { s' with heap := hA } → wpAny (model X.prog X.w) (X.A.mark (some (.ref a))) (eval (.Name x np) X.env) Q E { s' with heap := hA } := by
    intro Q E q
    rcases hc with ⟨hg, hdb, h1 | ⟨h1, h2, h3⟩⟩
    · exact ld_glob (X := X.suite a ((a, oA) :: (X.pn ++ pins))) SA hg h1 q hdb
    · exact ld_blt (X := X.suite a ((a, oA) :: (X.pn ++ pins))) SA hg h1 h2 q h3 hdb
  refine wpAny_handleBy_cons (codeAny_handlers_test (ask (yes.here ?_))) (by intro q; cases q)
  apply codeAny_handlers_suite_as
  refine HandSPX.lands_againZ flA fun hB flB upB => ?_
  have JB : Inv X pins σ1 H1 { s' with heap := hB } := J0.landed ground flB.1 ((ups.trans upA).trans upB) eos bare
  obtain ⟨oB, vB, eB, zB, dB⟩ := flB.there
  have SB := JB.suite eB dB nh aL aF
  refine store_ok (X := X.suite a ((a, oB) :: (X.pn ++ pins))) (v := .ref a) SB hN hi (Or.inl hln) rfl (fun s5 S5 => ?_) (Or.inr hln)
  have run := (hsu a oB cls (X.pn ++ pins)).run [] s5 _ H1 _ S5 (go a nh)
  refine wpAny_mono run (fun f s6 q => ?_) fun _ _ z => z.elim
  match f, q with
  | .next, ⟨σ6, H6, S6, q6⟩ =>
    refine gone_ok (X := X.suite a ((a, oB) :: (X.pn ++ pins))) S6 hN hi hln fun s7 S7 => ?_
    obtain ⟨g7, n7, _⟩ := S7.pin (a, oB) (List.mem_append.mpr (.inl List.mem_cons_self))
    exact ⟨_, _, inv_keeps (S7.unsuite ok) g7 zB dB n7 n0 aL npn, q6⟩
  | .brk, ⟨_, _, _, q6⟩ => exact q6.elim
  | .cont, ⟨_, _, _, q6⟩ => exact q6.elim
  | .ret _, ⟨_, _, _, _, _, q6⟩ => exact q6.elim
theorem ps_tryKeep {x n : Str} {c : Value} {i : Nat} {body suite : List Stmt} {b₀ : Stmt} {np pos pos' : Pos} {tb : WX → TS} {ts : Addr → Value → TS}
    (hs : X.stack = X.env :: X.outer) (hf : X.env.frame = some X.env.locals) (hN : X.N.Nodup) (hi : X.N[i]? = some n) (hln : X.env.kindOf n = some .local) (hc : Names X x c)
    (hb : ∀ (W : WX) (pn : List (Addr × Obj)) (xe : Value → Shared → Prop), Takes (X.tr pn xe) W → PassesOwn (model X.prog X.w) X.A X.env xe → PSs (X.tr pn xe) body (tb W))
    (hsu : ∀ (a : Addr) (oe : Obj) (cls : Value) (pn : List (Addr × Obj)), PSs (X.suite a ((a, oe) :: pn)) (b₀ :: suite) (ts a cls)) :
    PS X (.Try body [.ExceptHandler (some (.Name x np)) (some n) (b₀ :: suite) pos'] [] [] pos) (fun D σ H => tb (wKeep X.K c i ts D) D σ H) := by
  constructor
  intro pins s σ H D I h
  refine wpAny_Try_except ?_
  have ok := I.ok
  let xe : Value → Shared → Prop := fun e s1 => wpAny (model X.prog X.w) X.A (noteFrame e X.env) (fun _ s2 => wpAny (model X.prog X.w) X.A (setFlight e none) (fun _ s3 =>
    wpAny (model X.prog X.w) X.A (handleBy e X.env [.ExceptHandler (some (.Name x np)) (some n) (b₀ :: suite) pos']) (SP X pins D) X.xe s3) X.xe s2) X.xe s1
  have bd := (hb (wKeep X.K c i ts D) (X.pn ++ pins) xe (fun u s' y => catch_run ok hs hf hN hi hln hc hsu y) PassesOwn.looking).run [] s σ H D (I.toTry _) h
  refine wpAny_mono bd (fun f s1 q => ?_) fun _ _ z => z
  match f, q with
  | .next, ⟨σ', H', J, q⟩ => exact wpAny_execs_nil ⟨σ', H', J.ofTry ok, q⟩
  | .brk, ⟨σ', H', J, q⟩ => exact ⟨σ', H', J.ofTry ok, q⟩
  | .cont, ⟨σ', H', J, q⟩ => exact ⟨σ', H', J.ofTry ok, q⟩
  | .ret u, ⟨v, σ', H', J, r, q⟩ => exact ⟨v, σ', H', J.ofTry ok, r, q⟩
end

/-! ### the statement -/
/-- try: body / except X as e: error = e, where all that is raised is caught; i: e's slot, j: error's -/
def sTry (ct : Str → Bool) (i j : Nat) (body : SM) : SM := fun ρ => match body ρ with
  | .er x ρ1 => if ct x = true ∧ i < ρ1.length then .nx (((ρ1.set i (.v (.exc x))).set j (.v (.exc x))).set i .un) else .st
  | o => o
section
variable {X : Cx} {Wx : WX}
theorem psd_try {ct : Str → Bool} {x n m : Str} {c : Value} {i j : Nat} {body : List Stmt} {mb : SM} {np pos pos' q1 q2 q3 : Pos}
    (hct : ∀ y cls, ct y = true → X.mg y = some cls → PySem.W.exmOne X.K cls c = some true)
    (hs : X.stack = X.env :: X.outer) (hf : X.env.frame = some X.env.locals) (hN : X.N.Nodup) (hi : X.N[i]? = some n) (hln : X.env.kindOf n = some .local) (hc : Names X x c)
    (hv : Vis X.env.scope n) (hj : X.N[j]? = some m) (hx : Loc X.env.scope m)
    (hb : ∀ (W : WX) (pn : List (Addr × Obj)) (xe : Value → Shared → Prop), Takes (X.tr pn xe) W → PassesOwn (model X.prog X.w) X.A X.env xe → PBD (X.tr pn xe) W body mb)
    (hsw : swapsWith (.Name n q2) (some (.Name m q1)) q3.line X.env = pure false := by rfl) (hf2 : X.fn m = true ∨ X.env.scope.names.lookup m = some .local := by first | exact .inl rfl | exact .inr rfl | assumption)
    (hd : (n == ("__debug__" : Str)) = false := by decide) (hcd : (n == ("__classdict__" : Str)) = false := by decide) :
    PSD X Wx (.Try body [.ExceptHandler (some (.Name x np)) (some n) [.Assign [.Name m q1] (.Name n q2) q3] pos'] [] [] pos) (sTry ct i j mb) := by
  intro W σ H B ρ E D q
  refine ⟨_, ps_tryKeep (tb := fun Wn D σ H => ∀ pn xe, Takes (X.tr pn xe) Wn → PassesOwn (model X.prog X.w) X.A X.env xe → wpB (X.tr pn xe) body D σ H)
    (ts := fun a cls D σ H => ∃ v, σ[i]? = some (some v) ∧ D.nx (σ.set j (some v)) H) hs hf hN hi hln hc
    (fun Wn pn xe tk ps => ⟨fun pins s σ H D I h => pb_wp.run pins s σ H D I (h pn xe tk ps)⟩)
    (fun a oe cls pn => pss_one (ps_set (X := X.suite a ((a, oe) :: pn)) hN hj hx (pe_var hi hv hd hcd) hsw hf2)), fun pn xe tk ps => ?_⟩
  refine hb _ pn xe tk ps W σ H B ρ E D ?_
  unfold sTry at q
  cases e : mb ρ with
  | er y ρ1 =>
    rw [e] at q
    have q' : PostS X W Wx (if ct y = true ∧ i < ρ1.length then .nx (((ρ1.set i (.v (.exc y))).set j (.v (.exc y))).set i .un) else .st) D := q
    by_cases hy : ct y = true ∧ i < ρ1.length
    · rw [if_pos hy] at q'
      intro cls σ1 B1 H1 hm E1
      refine ⟨rfl, hct y cls hy.1 hm, fun a na => ?_⟩
      have hl : i < σ1.length := by rw [E1.len]; exact hy.2
      refine ⟨.ref a, List.getElem?_set_self hl, ?_⟩
      have r : Is X.K X.mg (upd B1 a (ExK cls a)) (.ref a) (.exc y) := .exc hm upd_same
      exact (show ∀ σ B H, EnvOk X.K X.mg W B H σ _ → D.nx σ H from q') _ _ _ ((((E1.grow (Grow.new E1.bh na)).set r).set r).drop i)
    · rw [if_neg hy] at q'
      exact q'.elim
  | nx ρ1 => rw [e] at q; exact q
  | rt d => rw [e] at q; exact q
  | bk ρ1 => rw [e] at q; exact q
  | ct ρ1 => rw [e] at q; exact q
  | st => rw [e] at q; exact q.elim
end
/-! ### isinstance of a caught error -/
def lookX (L : List (Str × Str × Bool)) (y c : Str) : Option Bool := (L.find? fun t => t.1 == y && t.2.1 == c).map (·.2.2)
def anyX (L : List (Str × Str × Bool)) (y : Str) : List D → Option Bool
  | [] => some false
  | .cls c :: r => match lookX L y c with
    | some true => (anyX L y r).map fun _ => true
    | some false => anyX L y r
    | none => none
  | _ => none
def isX (Lc : List (Str × Str × Bool)) (Lt : List (Str × String × Bool)) (y : Str) : D → Option Bool
  | .cls c => lookX Lc y c
  | .ty n => (Lt.find? fun t => t.1 == y && t.2.1 == n).map (·.2.2)
  | .tup ds => anyX Lc y ds
  | _ => none
def dIsX (Ly : List Str) (Lc : List (Str × Str × Bool)) (Lt : List (Str × String × Bool)) : List D → Option D
  | [.exc y, u] => if Ly.contains y = true then (isX Lc Lt y u).map .bl else none
  | _ => none
/-- what the classes of errors say of one another -/
structure ExH (K : PySem.W.Frag) (mg : Str → Option Value) (Ly : List Str) (Lc : List (Str × Str × Bool)) (Lt : List (Str × String × Bool)) : Prop where
  c : ∀ t ∈ Lc, ∃ D C, mg t.1 = some (.ref D) ∧ mg t.2.1 = some (.ref C) ∧ PySem.W.kitOne K (.ref D) (.ref C) = some t.2.2
  t : ∀ t ∈ Lt, ∃ D, mg t.1 = some (.ref D) ∧ PySem.W.kitOne K (.ref D) (.type t.2.1) = some t.2.2
  x : ∀ y ∈ Ly, ∃ D, mg y = some (.ref D) ∧ ExcC K D
def rIsX (K : PySem.W.Frag) : List V → Hp → VK → Prop := fun xs H Q => ∃ (a D : Addr) (u : V) (b : Bool), xs = [.ref a, u] ∧ H a = some (ExK (.ref D) a) ∧ ExcC K D ∧
  ((∃ cv, (∀ z, RelV u z → z = cv) ∧ PySem.W.kitOne K (.ref D) cv = some b) ∨ (∃ tp cs ws, u = .ref tp ∧ SqT K H tp cs ∧ (∀ its, Vals cs its → its = ws) ∧ PySem.W.kitAny K (.ref D) ws = some b)) ∧ Q (.bl b) H
section
variable {X : Cx}
theorem call_isX : CallR X (.builtin "isinstance") (rIsX X.K) := by
  intro pins s σ H xs us Q I r h
  obtain ⟨a, D, u, b, rfl, hX, C, hk, q⟩ := h
  obtain ⟨z1, z2, rfl, r1, r2⟩ := vals2 r
  cases (show z1 = Value.ref a from r1)
  obtain ⟨⟨oe, vs, g, z, d⟩, _⟩ := (show ObjOk X.prog X.w H s.heap a (ExK (.ref D) a) from I.hok a _ hX)
  have J : PySem.W.InstAt s.heap a oe D none := by
    obtain ⟨c1, c2, c3, c4⟩ := oe
    obtain ⟨w1, w2⟩ := z
    dsimp only at w1 w2 d
    subst w1 w2 d
    exact ⟨g, rfl, rfl, trivial⟩
  have Z := PySem.W.handS_kitx_exc (x := a) (ox := oe) C.hg C.hk C.hs C.hd C.ha C.hn C.ht C.hm
  have out : ∀ tk, ∃ v H1, Inv X pins σ H1 { s with toks := tk } ∧ RelV v (.bool b) ∧ Q v H1 := fun tk => ⟨.bl b, H, I.tok tk, rfl, q⟩
  rcases hk with ⟨cv, e1, e2⟩ | ⟨tp, cs, ws, rfl, hT, e1, e2⟩
  · have e := e1 _ r2
    subst e
    exact PySem.W.kia_one Z I.kIn J e2 (by intro q; cases q) out
  · cases (show z2 = Value.ref tp from r2)
    obtain ⟨its, rv, ht, _⟩ := I.tuple hT
    have e := e1 _ rv
    subst e
    obtain ⟨o, h1, h2, n, h3⟩ := ht
    obtain ⟨c1, c2, c3, c4⟩ := o
    dsimp only at h2 h3
    subst h2 h3
    exact PySem.W.kia_tup Z I.kIn J h1 e2 (by intro q; cases q) out
theorem any_of {K : PySem.W.Frag} {mg : Str → Option Value} {B : Hp} {Ly Lc Lt} (F : ExH K mg Ly Lc Lt) {y : Str} {D : Addr} (hy : mg y = some (.ref D)) : ∀ {cs : List V} {ds : List GD.D} {b : Bool}, IsL K mg B cs ds → anyX Lc y ds = some b →
    ∃ ws, (∀ its, Vals cs its → its = ws) ∧ PySem.W.kitAny K (.ref D) ws = some b
  | _, _, b, .nil, h => ⟨[], fun its v => by cases v; rfl, h⟩
  | _, _, b, .cons (d := d) h1 r, h => by
    cases h1 with
    | cls hm =>
      rename_i a c
      unfold anyX at h
      cases e : lookX Lc y c with
      | none => rw [e] at h; cases h
      | some k =>
        rw [e] at h
        have kt : PySem.W.kitOne K (.ref D) (.ref a) = some k := by
          unfold lookX at e
          obtain ⟨t, ht, e2⟩ := Option.map_eq_some_iff.mp e
          have hm1 := List.mem_of_find?_eq_some ht
          have hp := List.find?_some ht
          rw [Bool.and_eq_true] at hp
          obtain ⟨D', C, m1, m2, k1⟩ := F.c t hm1
          rw [beq_iff_eq.mp hp.1, hy] at m1
          rw [beq_iff_eq.mp hp.2, hm] at m2
          cases m1
          cases m2
          rw [← e2]
          exact k1
        cases k with
        | true =>
          obtain ⟨k2, h2, rfl⟩ := Option.map_eq_some_iff.mp h
          obtain ⟨ws, hws, _⟩ := any_of F hy r h2
          refine ⟨.ref a :: ws, fun its v => ?_, by unfold PySem.W.kitAny; rw [kt]⟩
          cases v with
          | cons r1 r2 => rw [hws _ r2]; exact congrArg (· :: ws) r1
        | false =>
          obtain ⟨ws, hws, hk⟩ := any_of F hy r h
          refine ⟨.ref a :: ws, fun its v => ?_, by unfold PySem.W.kitAny; rw [kt]; exact hk⟩
          cases v with
          | cons r1 r2 => rw [hws _ r2]; exact congrArg (· :: ws) r1
    | _ => cases h
theorem calld_isX {Ly Lc Lt} (F : ExH X.K X.mg Ly Lc Lt) : CallD X (.builtin "isinstance") (dIsX Ly Lc Lt) := by
  intro B H vs ds d' Q b r g q
  unfold dIsX at g
  split at g
  · rename_i y u0
    split at g
    · rename_i hy
      obtain ⟨k, e, rfl⟩ := Option.map_eq_some_iff.mp g
      obtain ⟨v, u, rfl, h1, h2⟩ := r.two_inv
      obtain ⟨D, mD, hC⟩ := F.x y (List.contains_iff_mem.mp hy)
      cases h1 with
      | exc hc h =>
        rename_i a cls
        rw [mD] at hc
        cases hc
        have fin : ((∃ cv, (∀ z, RelV u z → z = cv) ∧ PySem.W.kitOne X.K (.ref D) cv = some k) ∨ (∃ tp cs ws, u = .ref tp ∧ SqT X.K H tp cs ∧ (∀ its, Vals cs its → its = ws) ∧ PySem.W.kitAny X.K (.ref D) ws = some k)) → ∃ r, CallR X (.builtin "isinstance") r ∧ r [.ref a, u] H Q :=
          fun hk => ⟨_, call_isX, a, D, u, k, rfl, b _ _ h, hC, hk, q.at b (.bl _)⟩
        unfold isX at e
        split at e
        · unfold lookX at e
          obtain ⟨t, ht, e2⟩ := Option.map_eq_some_iff.mp e
          have hp := List.find?_some ht
          rw [Bool.and_eq_true] at hp
          obtain ⟨D', C, m1, m2, k1⟩ := F.c t (List.mem_of_find?_eq_some ht)
          rw [beq_iff_eq.mp hp.1, mD] at m1
          rw [beq_iff_eq.mp hp.2] at m2
          rw [e2] at k1
          cases m1
          cases h2 with
          | cls hm =>
            rw [m2] at hm
            cases hm
            exact fin (.inl ⟨.ref C, fun z hz => hz, k1⟩)
        · rename_i n
          obtain ⟨t, ht, e2⟩ := Option.map_eq_some_iff.mp e
          have hp := List.find?_some ht
          rw [Bool.and_eq_true] at hp
          obtain ⟨D', m1, k1⟩ := F.t t (List.mem_of_find?_eq_some ht)
          rw [beq_iff_eq.mp hp.1, mD] at m1
          rw [beq_iff_eq.mp hp.2] at k1
          rw [e2] at k1
          cases m1
          rw [h2.ty_inv] at fin ⊢
          exact fin (.inl ⟨.type n, fun z hz => hz, k1⟩)
        · obtain ⟨tp, xs, rfl, hT, rl⟩ := h2.tup_inv
          obtain ⟨ws, h3, h4⟩ := any_of F mD rl e
          exact fin (.inr ⟨tp, xs, ws, rfl, seqT b hT, h3, h4⟩)
        · cases e
    · cases g
  · cases g
end
theorem all_cons {α : Type} {p : α → Prop} {a : α} {l : List α} (h : p a) (t : ∀ x ∈ l, p x) : ∀ x ∈ a :: l, p x := List.forall_mem_cons.mpr ⟨h, t⟩
theorem bb_ValueError : bootBuiltins "ValueError" = some (.type "ValueError") := by rfl
theorem kit_sub {K : PySem.W.Frag} {x c : Addr} {r : Bool} (h : PySem.W.subIn K (.ref x) (.ref c) = some r) (hd : PySem.W.hasDictIn K c = true) (ht : PySem.W.typeIn K (.ref c) = some (.type "type")) (hs : PySem.W.subIn K (.ref c) (.ref c) = some true) : PySem.W.kitOne K (.ref x) (.ref c) = some r := by
  unfold PySem.W.kitOne
  split
  · rename_i e
    have e2 : x = c := Value.ref.inj (beq_iff_eq.mp e)
    rw [e2, hs] at h
    exact h
  · obtain ⟨cd, h2, _⟩ := PySem.W.any_some hd
    show (if ((PySem.W.clsIn K c).isSome && PySem.W.typeIn K (.ref c) == some (.type "type")) = true then PySem.W.subIn K (.ref x) (.ref c) else none) = some r
    rw [if_pos (by rw [h2, ht]; rfl)]
    exact h
theorem kit_meta_ve : PySem.W.kitMeta "ValueError" = true := by decide +kernel
theorem kit_ve {K : PySem.W.Frag} {x : Addr} (h : PySem.W.subIn K (.ref x) (.type "ValueError") = some true) : PySem.W.kitOne K (.ref x) (.type "ValueError") = some true := by
  unfold PySem.W.kitOne
  split
  · rfl
  · show (if PySem.W.kitMeta "ValueError" = true then PySem.W.subIn K (.ref x) (.type "ValueError") else none) = some true
    rw [if_pos kit_meta_ve]
    exact h
end GD

/-! GD, part h: lists of one's own: append, pop, clear, insert, xs[i] = e, xs[i], len(xs); a, b, c = a list. -/
namespace GD
open PySem PySem.Spec PyProof.Rows L2

def sClr (i : Nat) : SM := fun ρ => match ρ[i]? with
  | some (.l _) => .nx (ρ.set i (.l []))
  | _ => .st
def putD (ds : List D) (k d : D) : Option (List D) := match k with
  | .int j => (ixN ds.length j).map fun j => ds.set j d
  | _ => none
def sPut (i : Nat) (mk m : EM) : SM := fun ρ => match ρ[i]? with
  | some (.l ds) => ofR ((m ρ).bind fun d => (mk ρ).bind fun k => R.ofO (putD ds k d)) ρ fun es => .nx (ρ.set i (.l es))
  | _ => .st
def eOwnAt (i : Nat) (m : EM) : EM := fun ρ => match ρ[i]? with
  | some (.l ds) => (m ρ).bind fun k => match k with
    | .int j => R.ofO (L2.atI ds j)
    | _ => .st
  | _ => .st
def eOwnLen (i : Nat) : EM := fun ρ => match ρ[i]? with
  | some (.l ds) => .ok (.int ds.length)
  | _ => .st
def gLs (gs : List D → En → Option En) : D → En → Option En := fun d ρ => match asL d with
  | some ds => gs ds ρ
  | _ => none
section
variable {X : Cx} {Wx : WX} {a b c e : Expr} {es : List Expr} {pos p cp ap : Pos} {ma mb m : EM} {mr : AM} {i : Nat} {x : Str}
theorem own_at {W : Wd} {B H B' H' : Hp} {σ : L2.St} {ρ : En} {ds : List D} (E : EnvOk X.K X.mg W B H σ ρ) (g : Grow B H B' H') (h : ρ[i]? = some (.l ds)) :
    ∃ l xs, σ[i]? = some (some (.ref l)) ∧ H' l = some (.lst xs) ∧ IsL X.K X.mg B' xs ds ∧ H l = some (.lst xs) := by
  obtain ⟨l, xs, h1, h2, _, _, h5⟩ := E.own i ds h
  exact ⟨l, xs, h1, g.hh _ _ h2, h5.mono g.bb, h2⟩
theorem tyL {l : Addr} {xs : List V} {H : Hp} (h : H l = some (.lst xs)) : tyV X.K "list" (.ref l) H := .inl ⟨rfl, xs, .inl (.inl h)⟩
theorem psd_app (hi : X.N[i]? = some x) (hv : Vis X.env.scope x) (ha : PED X Wx e m) (hd : (x == ("__debug__" : Str)) = false := by decide) (hcd : (x == ("__classdict__" : Str)) = false := by decide)
    (hbase : attributeBase (.Name x p) "append" X.env (eval (.Name x p) X.env) = eval (.Name x p) X.env := by rfl)
    (hfew : ((backTo cp (starEach [e] X.env)).all (fun x => !x.1) && (backToKw cp (keywordEach [] X.env)).all (fun x => x.1.isSome)
      && decide (([e] : List Expr).length + ([] : List Keyword).length + (if ([] : List Keyword).isEmpty then 0 else 1) < 30)) = true := by rfl)
    (hline : (ap.endLine == cp.line) = true := by rfl) (hs : starEach [e] X.env = (false, eval e X.env) :: starEach [] X.env := by rfl) (hpl : (backTo cp (starEach [] X.env)).any (·.1) = false := by rfl)
    (hsw : swapsWith (.Call (.Attribute (.Name x p) "append" ap) [e] [] cp) none pos.line X.env = pure false := by rfl) :
    PSD X Wx (.Expr (.Call (.Attribute (.Name x p) "append" ap) [e] [] cp) pos) (sApp i m) := by
  intro W σ H B ρ E D q
  unfold sApp at q
  split at q
  · rename_i ds hr
    refine ⟨_, ps_expr (pe_bm F.plainAttrs_list F.slot_list_append F.type_list_append mt_append (pe_var hi hv hd hcd) pa_wp hbase hfew hline hs hpl) hsw, ?_⟩
    obtain ⟨l, xs, h1, h2, _⟩ := own_at E (Grow.refl E.bh) hr
    refine ⟨.ref l, h1, tyL h2, ?_⟩
    refine (pad_cons ha pad_nil hs) W σ H B ρ E _ ?_
    have q2 := PostS.ofR q E
    unfold aCons aNil
    refine (?_ : Post ((m ρ).bind fun u => (R.ok ([] : List GD.D)).bind fun xs => .ok (u :: xs)) _ _)
    cases em : m ρ with
    | ok u =>
      rw [em] at q2
      intro vs B' H' g r
      cases r with
      | cons r1 r =>
        cases r
        have q3 : PostS X W Wx (if ds.length < sizeLine then .nx (ρ.set i (.l (ds ++ [u]))) else .st) D := q2
        split at q3
        · rename_i hz
          obtain ⟨l', xs', k1, k2, k3, k4⟩ := own_at E g hr
          rw [h1] at k1
          cases k1
          rw [h2] at k4
          cases k4
          refine ⟨l, xs, _, rfl, rfl, k2, by rw [k3.length]; exact hz, ?_⟩
          exact (show PostS X W Wx (.nx _) D from q3) _ _ _ ((E.grow g).mut (xs := xs) hr h1 (k3.snoc r1))
        · exact q3.elim
    | er z => rw [em] at q2; exact q2
    | st => rw [em] at q2; exact q2
  · exact q.elim
theorem psd_pop (hi : X.N[i]? = some x) (hv : Vis X.env.scope x) (hd : (x == ("__debug__" : Str)) = false := by decide) (hcd : (x == ("__classdict__" : Str)) = false := by decide)
    (hbase : attributeBase (.Name x p) "pop" X.env (eval (.Name x p) X.env) = eval (.Name x p) X.env := by rfl) (hline : (ap.endLine == cp.line) = true := by rfl)
    (hsw : swapsWith (.Call (.Attribute (.Name x p) "pop" ap) [] [] cp) none pos.line X.env = pure false := by rfl) :
    PSD X Wx (.Expr (.Call (.Attribute (.Name x p) "pop" ap) [] [] cp) pos) (sPop i) := by
  intro W σ H B ρ E D q
  unfold sPop at q
  split at q
  · rename_i ds hr
    split at q
    · exact q.elim
    · rename_i hne
      obtain ⟨l, xs, h1, h2, h3, _⟩ := own_at E (Grow.refl E.bh) hr
      have hl := h3.length
      have hn : ds.length ≠ 0 := fun z => hne (List.length_eq_zero_iff.mp z)
      have hlt : xs.length - 1 < xs.length := by omega
      refine ⟨_, ps_expr (pe_bm0 F.plainAttrs_list F.slot_list_pop F.type_list_pop mt_pop (pe_var hi hv hd hcd) hbase hline) hsw, ?_⟩
      refine ⟨.ref l, h1, tyL h2, l, xs, xs[xs.length - 1], rfl, rfl, h2, List.getElem?_eq_getElem hlt, ?_⟩
      refine (show PostS X W Wx (.nx _) D from q) _ _ _ (E.mut (xs := xs) hr h1 ?_)
      rw [List.dropLast_eq_take, List.dropLast_eq_take, hl]
      exact h3.take _
  · exact q.elim
theorem psd_clr (hi : X.N[i]? = some x) (hv : Vis X.env.scope x) (hd : (x == ("__debug__" : Str)) = false := by decide) (hcd : (x == ("__classdict__" : Str)) = false := by decide)
    (hbase : attributeBase (.Name x p) "clear" X.env (eval (.Name x p) X.env) = eval (.Name x p) X.env := by rfl) (hline : (ap.endLine == cp.line) = true := by rfl)
    (hsw : swapsWith (.Call (.Attribute (.Name x p) "clear" ap) [] [] cp) none pos.line X.env = pure false := by rfl) :
    PSD X Wx (.Expr (.Call (.Attribute (.Name x p) "clear" ap) [] [] cp) pos) (sClr i) := by
  intro W σ H B ρ E D q
  unfold sClr at q
  split at q
  · rename_i ds hr
    obtain ⟨l, xs, h1, h2, h3, _⟩ := own_at E (Grow.refl E.bh) hr
    refine ⟨_, ps_expr (pe_bm0 F.plainAttrs_list F.slot_list_clear F.type_list_clear mt_clear (pe_var hi hv hd hcd) hbase hline) hsw, ?_⟩
    exact ⟨.ref l, h1, tyL h2, l, xs, rfl, rfl, h2, (show PostS X W Wx (.nx _) D from q) _ _ _ (E.mut (xs := xs) hr h1 .nil)⟩
  · exact q.elim
theorem psd_put {k : Expr} {mk : EM} {sp : Pos} (hi : X.N[i]? = some x) (hv : Vis X.env.scope x) (hk : PED X Wx k mk) (ha : PED X Wx e m) (hd : (x == ("__debug__" : Str)) = false := by decide) (hcd : (x == ("__classdict__" : Str)) = false := by decide)
    (hs : swapsWithSole [.Subscript (.Name x p) k sp] e pos.line X.env = pure false := by rfl) (hw : swappedStores [.Subscript (.Name x p) k sp] e X.env = pure none := by rfl)
    (h1 : (assignEach [.Subscript (.Name x p) k sp] X.env).map (·.2) = [assign (.Subscript (.Name x p) k sp) X.env] := by rfl)
    (has : ∀ v, assign (.Subscript (.Name x p) k sp) X.env v = (do
      let ov ← holding [v] (eval (.Name x p) X.env)
      let iv ← holding [v, ov] (eval k X.env)
      standAt sp
      holding [v, ov, iv] (setItem ov iv v)
      release [v, ov, iv] []) := by intro _; rfl) : PSD X Wx (.Assign [.Subscript (.Name x p) k sp] e pos) (sPut i mk m) := by
  intro W σ H B ρ E D q
  unfold sPut at q
  split at q
  · rename_i ds hr
    refine ⟨_, ps_asg pe_wp (pg_sub (pe_var hi hv hd hcd) pe_wp set_list has) hs hw h1, ?_⟩
    refine ha W σ H B ρ E _ ((PostS.ofR q E).bind.mono (fun d _ q2 v B1 H1 g1 r1 => ?_) fun _ z => z)
    obtain ⟨l, xs, s1, h2, h3, _⟩ := own_at E g1 hr
    refine ⟨.ref l, s1, ?_⟩
    refine hk W σ H1 B1 ρ (E.grow g1) _ (q2.bind.mono (fun kk hkk q3 u B2 H2 g2 r2 => ?_) fun _ z => z.later g1)
    obtain ⟨fs, e1, q4⟩ := Post.ofO q3
    unfold putD at e1
    split at e1
    · rename_i j
      obtain ⟨n, e2, rfl⟩ := Option.map_eq_some_iff.mp e1
      have h3' := h3.mono g2.bb
      refine ⟨l, xs, j, n, rfl, r2.int_inv, g2.hh _ _ h2, by rw [h3'.length]; exact e2, ?_⟩
      exact (show PostS X W Wx (.nx _) D from q4) _ _ _ (((E.grow g1).grow g2).mut (xs := xs) hr s1 (IsL.set (r1.mono g2.bb) n h3'))
    · cases e1
  · exact q.elim
theorem ped_ownAt (hi : X.N[i]? = some x) (hv : Vis X.env.scope x) (hb : PED X Wx b mb) (hs : PlainIx b) (hd : (x == ("__debug__" : Str)) = false := by decide) (hcd : (x == ("__classdict__" : Str)) = false := by decide) :
    PED X Wx (.Subscript (.Name x p) b pos) (eOwnAt i mb) := by
  intro W σ H B ρ E Q q
  unfold eOwnAt at q
  split at q
  · rename_i ds hr
    obtain ⟨l, xs, h1, h2, _⟩ := own_at E (Grow.refl E.bh) hr
    refine ⟨_, pe_ix ix_list (pe_var hi hv hd hcd) pe_wp hs, .ref l, h1, ?_⟩
    refine hb W σ H B ρ E _ (q.bind.mono (fun kk _ q2 u B2 H2 g2 r2 => ?_) fun _ z => z)
    cases kk with
    | int j =>
      obtain ⟨d, e1, q3⟩ := Post.ofO q2
      obtain ⟨l', xs', k1, k2, k3, k4⟩ := own_at E g2 hr
      rw [h1] at k1
      cases k1
      obtain ⟨v, e2, r⟩ := k3.atI e1
      exact ⟨l, xs', j, v, rfl, r2.int_inv, .inl (.inl k2), e2, okD.at (q3.later g2) g2.bh r⟩
    | _ => exact q2.elim
  · exact q.elim
theorem ped_ownLen {lp : Pos} (hi : X.N[i]? = some x) (hv : Vis X.env.scope x) (hg : Gl X "len") (hm : X.mg "len" = none) (hd : (x == ("__debug__" : Str)) = false := by decide) (hcd : (x == ("__classdict__" : Str)) = false := by decide)
    (he : starEach [.Name x p] X.env = (false, eval (.Name x p) X.env) :: starEach [] X.env := by rfl) (hpl : (backTo pos (starEach [] X.env)).any (·.1) = false := by rfl) :
    PED X Wx (.Call (.Name "len" lp) [.Name x p] [] pos) (eOwnLen i) := by
  intro W σ H B ρ E Q q
  unfold eOwnLen at q
  split at q
  · rename_i ds hr
    obtain ⟨l, xs, h1, h2, h3, _⟩ := own_at E (Grow.refl E.bh) hr
    refine ⟨_, pe_callB call_len_seq hg hm bb_len (pa_cons (pe_var hi hv hd hcd) pa_nil he) (by decide) (by decide) he hpl, .ref l, h1, ?_⟩
    have := h3.length
    exact ⟨l, xs, rfl, .inl (.inl (.inl h2)), by rw [this]; exact okD.at q E.bh (.int _)⟩
  · exact q.elim
theorem pgd_lst {tgs : List Expr} {k : Nat} {gs : List GD.D → En → Option En} {n : Nat} (hc : X.calm = true) (h : PGsD X tgs gs) (hl : ∀ ds ρ ρ', gs ds ρ = some ρ' → ds.length = n)
    (hn : (assignEach tgs X.env).length = n := by rfl) (hst : (assignEach tgs X.env).findIdx? (·.1) = none := by rfl) : PGD X (.Tuple tgs k pos) (gLs gs) := by
  intro W σ H B ρ ρ' d v E r g Q q
  unfold gLs at g
  split at g
  · rename_i ds e1
    unfold asL at e1
    split at e1
    · cases e1
      obtain ⟨a, xs, rfl, h1, r1⟩ := r.lst_inv
      exact ⟨_, pg_lst hc pgs_wp hn hst, a, xs, rfl, seqL_of E.bh h1, by rw [r1.length]; exact hl _ _ _ g, h W σ H B ρ ρ' _ _ E r1 g Q q⟩
    · cases e1
      obtain ⟨a, rfl, h1⟩ := r.scr_inv
      have r1 := IsL.ints (K := X.K) (mg := X.mg) (B := B) ‹List Int›
      exact ⟨_, pg_lst hc pgs_wp hn hst, a, _, rfl, E.bh.seq h1, by rw [r1.length]; exact hl _ _ _ g, h W σ H B ρ ρ' _ _ E r1 g Q q⟩
    · cases e1
  · cases g
end
end GD

/-! GD, part i: seen = {}; for p in ps: seen[p] = True; xs = sorted(seen), p pairs of whole numbers. -/
namespace GD
open PySem PySem.Spec PyProof.Rows L2

abbrev Pt := Int × Int
/-! ### pairs in order, each once -/
abbrev lx (p q : Pt) : Prop := p.1 < q.1 ∨ (p.1 = q.1 ∧ p.2 < q.2)
theorem lx_irr (p : Pt) : ¬ lx p p := by unfold lx; omega
theorem lx_tr {p q r : Pt} (h : lx p q) (g : lx q r) : lx p r := by unfold lx at *; omega
theorem lx_tot (p q : Pt) : lx p q ∨ p = q ∨ lx q p := by
  unfold lx
  by_cases h1 : p.1 = q.1
  · by_cases h2 : p.2 = q.2
    · exact .inr (.inl (Prod.ext h1 h2))
    · omega
  · omega
instance (p q : Pt) : Decidable (lx p q) := by unfold lx; infer_instance
def insP (p : Pt) : List Pt → List Pt
  | [] => [p]
  | q :: r => if lx p q then p :: q :: r else if p = q then q :: r else q :: insP p r
def srtP (ps : List Pt) : List Pt := ps.foldr insP []
theorem mem_insP (p x : Pt) : ∀ l : List Pt, x ∈ insP p l ↔ x = p ∨ x ∈ l
  | [] => by simp [insP]
  | q :: r => by
    unfold insP
    split
    · simp
    · split
      · rename_i e
        subst e
        simp
      · rw [List.mem_cons, mem_insP p x r, List.mem_cons]
        constructor
        · rintro (h | h | h) <;> simp [h]
        · rintro (h | h | h) <;> simp [h]
theorem insP_srt (p : Pt) : ∀ l : List Pt, l.Pairwise lx → (insP p l).Pairwise lx
  | [], _ => List.pairwise_singleton _ _
  | q :: r, h => by
    obtain ⟨h1, h2⟩ := List.pairwise_cons.mp h
    unfold insP
    split
    · rename_i e
      refine List.pairwise_cons.mpr ⟨fun z hz => ?_, h⟩
      rcases List.mem_cons.mp hz with rfl | hz
      · exact e
      · exact lx_tr e (h1 z hz)
    · split
      · exact h
      · rename_i n1 n2
        refine List.pairwise_cons.mpr ⟨fun z hz => ?_, insP_srt p r h2⟩
        rcases (mem_insP p z r).mp hz with rfl | hz
        · rcases lx_tot z q with g | g | g
          · exact absurd g n1
          · exact absurd g n2
          · exact g
        · exact h1 z hz
theorem mem_srtP (x : Pt) : ∀ ps : List Pt, x ∈ srtP ps ↔ x ∈ ps
  | [] => Iff.rfl
  | p :: ps => by
    show x ∈ insP p (srtP ps) ↔ _
    rw [mem_insP, mem_srtP x ps, List.mem_cons]
theorem srtP_srt : ∀ ps : List Pt, (srtP ps).Pairwise lx
  | [] => .nil
  | p :: ps => insP_srt p _ (srtP_srt ps)
theorem srt_uniq : ∀ {a b : List Pt}, a.Pairwise lx → b.Pairwise lx → (∀ x, x ∈ a ↔ x ∈ b) → a = b
  | [], [], _, _, _ => rfl
  | [], q :: b, _, _, h => absurd ((h q).mpr List.mem_cons_self) (by simp)
  | p :: a, [], _, _, h => absurd ((h p).mp List.mem_cons_self) (by simp)
  | p :: a, q :: b, ha, hb, h => by
    obtain ⟨a1, a2⟩ := List.pairwise_cons.mp ha
    obtain ⟨b1, b2⟩ := List.pairwise_cons.mp hb
    have e : p = q := by
      rcases List.mem_cons.mp ((h p).mp List.mem_cons_self) with e | e
      · exact e
      · rcases List.mem_cons.mp ((h q).mpr List.mem_cons_self) with g | g
        · exact g.symm
        · exact absurd (lx_tr (b1 p e) (a1 q g)) (lx_irr _)
    subst e
    have h' : ∀ x, x ∈ a ↔ x ∈ b := fun x => by
      constructor
      · intro hx
        rcases List.mem_cons.mp ((h x).mp (List.mem_cons_of_mem _ hx)) with g | g
        · rw [g] at hx; exact absurd (a1 p hx) (lx_irr p)
        · exact g
      · intro hx
        rcases List.mem_cons.mp ((h x).mpr (List.mem_cons_of_mem _ hx)) with g | g
        · rw [g] at hx; exact absurd (b1 p hx) (lx_irr p)
        · exact g
    rw [srt_uniq a2 b2 h']
/-- in order and each once: that is it -/
theorem srtP_of {qs ps : List Pt} (h1 : qs.Pairwise (fun q r => SrtO.lexB r q = false)) (h2 : qs.Nodup) (h : ∀ x, x ∈ qs ↔ x ∈ ps) : qs = srtP ps := by
  refine srt_uniq ?_ (srtP_srt ps) fun x => (h x).trans (mem_srtP x ps).symm
  refine (h1.and h2).imp fun {q r} hh => ?_
  have g : ¬ lx r q := SrtO.lexB_no.mp hh.1
  rcases lx_tot q r with e | e | e
  · exact e
  · exact absurd e hh.2
  · exact absurd e g
def keyP (q : Pt) : List Key := [Sum.inl q.1, Sum.inl q.2]
/-- the pair that a key tuple holds -/
def kPt (H : Hp) : Value → Pt
  | .ref b => (match H b with
    | some (.tup [.int x, .int y]) => (x, y)
    | _ => (0, 0))
  | _ => (0, 0)
def adr : Value → Addr
  | .ref b => b
  | _ => 0
theorem keys_at {H : Hp} {h : Heap} {P : Program} {w : World} : ∀ {ks : List (List Key × Addr × Value)} {kvs : List (List Key × V)} {ps : List Pt}, KT H kvs ks → kvs.map (·.1) = ps.map keyP → HOk P w H h →
    (ks.map fun x => kPt H (.ref x.2.1)) = ps ∧ ∀ x ∈ ks, H x.2.1 = some (.tup [.int (kPt H (.ref x.2.1)).1, .int (kPt H (.ref x.2.1)).2])
  | [], [], [], .nil, _, _ => ⟨rfl, fun x hx => absurd hx (by simp)⟩
  | [], [], _ :: _, .nil, e, _ => by simp at e
  | x :: ks, kv :: kvs, [], .cons _ _, e, _ => by simp at e
  | x :: ks, kv :: kvs, q :: ps, .cons h t, e, ok => by
    obtain ⟨e1, e2⟩ := List.cons.inj (show kv.1 :: kvs.map (·.1) = keyP q :: ps.map keyP from e)
    obtain ⟨r1, r2⟩ := keys_at t e2 ok
    have hb : H x.2.1 = some (.tup [.int q.1, .int q.2]) := by
      rw [h.2.1, e1]
      rfl
    have hk : kPt H (.ref x.2.1) = q := by
      show (match H x.2.1 with
        | some (.tup [.int x, .int y]) => (x, y)
        | _ => (0, 0)) = q
      rw [hb]
    refine ⟨by rw [List.map_cons, hk, r1], fun z hz => ?_⟩
    rcases List.mem_cons.mp hz with rfl | hz
    · rw [hk]; exact hb
    · exact r2 z hz
theorem kt_keys {H : Hp} : ∀ {kvs : List (List Key × V)} {ks : List (List Key × Addr × Value)}, KT H kvs ks → kvs.map (·.1) = ks.map (·.1)
  | [], [], .nil => rfl
  | _ :: _, _ :: _, .cons h t => by rw [List.map_cons, List.map_cons, h.1, kt_keys t]
theorem keyP_inj {p q : Pt} (h : keyP p = keyP q) : p = q := by
  obtain ⟨h1, h2⟩ := List.cons.inj h
  obtain ⟨h3, _⟩ := List.cons.inj h2
  exact Prod.ext (Sum.inl.inj h1) (Sum.inl.inj h3)
/-- the keys when one is put -/
theorem put_keys {kvs : List (List Key × V)} {pk : List Pt} (p : Pt) (v : V) (e : kvs.map (·.1) = pk.map keyP) : ∃ pk' : List Pt, (putK kvs (keyP p) v).map (·.1) = pk'.map keyP ∧ ∀ x, x ∈ pk' ↔ x = p ∨ x ∈ pk := by
  unfold putK
  split
  · rename_i h
    obtain ⟨kv, h1, h2⟩ := List.any_eq_true.mp h
    have hm : keyP p ∈ pk.map keyP := by
      rw [← e, ← of_decide_eq_true h2]
      exact List.mem_map_of_mem h1
    obtain ⟨q, hq, eq⟩ := List.mem_map.mp hm
    have hp : p ∈ pk := keyP_inj eq ▸ hq
    refine ⟨pk, ?_, fun x => ⟨.inr, fun z => z.elim (fun z => z ▸ hp) id⟩⟩
    rw [← e, List.map_map]
    refine List.map_congr_left fun x _ => ?_
    show (if x.1 = keyP p then (x.1, v) else x).1 = x.1
    split <;> rfl
  · refine ⟨pk ++ [p], by rw [List.map_append, List.map_append, e]; rfl, fun x => ?_⟩
    rw [List.mem_append, List.mem_singleton]
    exact ⟨fun z => z.elim .inr .inl, fun z => z.elim .inr .inl⟩
section
variable {X : Cx}
def rSrtD : List V → Hp → VK → Prop := fun xs H Q => ∃ (d : Addr) (kvs : List (List Key × V)) (ps : List Pt), xs = [V.ref d] ∧ H d = some (.dT kvs) ∧ kvs.map (·.1) = ps.map keyP ∧
  ∀ (ts : List Addr) (p : Addr), (∀ t ∈ ts, H t = some (.tup [.int (kPt H (.ref t)).1, .int (kPt H (.ref t)).2])) → (ts.map fun t => kPt H (.ref t)) = srtP ps → H p = none → Q (.ref p) (upd H p (.lst (ts.map V.ref)))
theorem cr_srtD (hc : X.calm = true) : CallR X (.builtin "sorted") rSrtD := by
  intro pn s σ H as bs Q I r h
  obtain ⟨d, kvs, ps, rfl, hd, hps, q⟩ := h
  obtain ⟨du, rfl, rdu⟩ := vals1 r
  cases rdu
  obtain ⟨z, hs, ks, pr, o, es, ep, ho, hx, hdt, he, hn⟩ := (show ObjOk X.prog X.w H s.heap d (.dT kvs) from I.hok d _ hd)
  obtain ⟨hp1, hp2⟩ := keys_at pr hps I.hok
  have esl : es.size = ks.length := size_of_entries he
  have kvl : kvs.length = ks.length := Paired.length pr
  refine Calls.call_function_entry PyProof.Rows.kind_sorted PyProof.Rows.plain_sorted PyProof.Rows.entry_sorted (PyProof.Rows.args_sorted1 _) ?_
  unfold Builtin.«sorted»
  refine wpAny_bind (m := checkCount "sorted" 1 1 _) (wpAny_pure ?_)
  refine wpAny_bind (PySem.W.kdu_collect (A := X.A.in1) (kdl_raw hs hx hdt) (I.ok.hd hc) ho (by omega) fun hA tk acc kpA itA => ?_)
  -- the keys, in the dict's order
  have ea : acc.toList = (ks.map fun x => x.2.1).map Value.ref := by
    have hl : acc.toList.length = ks.length := by rw [Array.length_toList, itA.1]; exact esl
    apply List.ext_getElem?
    intro j
    rw [List.map_map, List.getElem?_map]
    by_cases hj : j < ks.length
    · have ja : j < acc.toList.length := by omega
      rw [List.getElem?_eq_getElem ja, List.getElem?_eq_getElem hj]
      obtain ⟨en, hen, hv⟩ := itA.2 j acc.toList[j] (by rw [← Array.getElem?_toList]; exact List.getElem?_eq_getElem ja)
      have qe := entry_at he j
      rw [hen, List.getElem?_eq_getElem hj] at qe
      have e2 : en = entryOfKey (tupleKind (mixKind X.prog X.w)) ks[j] := Option.some.inj qe
      rw [hv, e2]
      rfl
    · rw [List.getElem?_eq_none (by omega), List.getElem?_eq_none (by omega)]
      rfl
  have hlen : acc.toList.length ≤ sizeLine := by rw [ea, List.length_map, List.length_map]; omega
  have I1 : Inv X pn σ H { s with heap := hA, toks := tk } := I.kept kpA
  refine wpAny_bind (wpAny_newList ?_ hlen)
  show wpAny _ _ _ _ _ { s with heap := hA.push (seqObj "list" acc.toList.toArray 0), toks := tk }
  have hL : (hA.push (seqObj "list" acc.toList.toArray 0)).get? hA.objs.size = some (seqObj "list" acc.toList.toArray 0) := Heap.get?_push_size _ rfl
  have refs : ∀ v ∈ acc.toList, ∃ t, v = Value.ref t ∧ H t = some (.tup [.int (kPt H v).1, .int (kPt H v).2]) := by
    intro v hv
    rw [ea] at hv
    obtain ⟨t, ht, rfl⟩ := List.mem_map.mp hv
    obtain ⟨x, hx, rfl⟩ := List.mem_map.mp ht
    exact ⟨_, rfl, hp2 x hx⟩
  have pairs : ∀ v ∈ acc.toList, Srt.IsPair (hA.push (seqObj "list" acc.toList.toArray 0)) v (kPt H v).1 (kPt H v).2 := by
    intro v hv
    obtain ⟨t, rfl, ht⟩ := refs v hv
    obtain ⟨_, its, rv, o2, g1, g2, n, g3⟩ := I1.hok t _ ht
    obtain ⟨w1, w2, rfl, ri, rj⟩ := vals2 rv
    obtain ⟨t1, rfl⟩ := ri
    obtain ⟨t2, rfl⟩ := rj
    exact ⟨t, o2, t1, t2, n, rfl, Heap.get?_push_of_some _ g1, g2, g3⟩
  refine wpAny_bind (wpAny_holding (wpAny_call_entry PyProof.Rows.slot_list_sort ⟨_, hL, rfl⟩ PyProof.Rows.entry_list_sort
    (SrtO.list_sort_ord (s := { s with heap := hA.push (seqObj "list" acc.toList.toArray 0), toks := tk }) (SrtO.swo_lex (kPt H)) hL hlen (fun h2 => SrtO.pairs_sortableO (by omega) pairs fun o2 g => ?_) fun out h1 h2 => ⟨_, rfl, ?_⟩) (PyProof.Rows.args_list_sort _)))
  · have e : some (seqObj "list" acc.toList.toArray 0) = some o2 := hL.symm.trans g
    cases e
    intro c
    exact absurd (Value.type.inj c) (by decide)
  · obtain ⟨n, hat⟩ := PyProof.Rows.sortedHeap_at (vs := acc.toList) (out := out.toArray) hL
    have orefs : ∀ v ∈ out, v = Value.ref (adr v) ∧ H (adr v) = some (.tup [.int (kPt H v).1, .int (kPt H v).2]) := fun v hv => by
      obtain ⟨t, rfl, ht⟩ := refs v (h2.perm.mem_iff.mp hv)
      exact ⟨rfl, ht⟩
    have eo : out = (out.map adr).map Value.ref := by
      rw [List.map_map]
      refine (List.map_id out).symm.trans (List.map_congr_left fun v hv => (orefs v hv).1)
    have ek : ((out.map adr).map fun t => kPt H (.ref t)) = out.map (kPt H) := by
      rw [List.map_map]
      exact List.map_congr_left fun v hv => congrArg (kPt H) (orefs v hv).1.symm
    have hz : ((out.map adr).map V.ref).length ≤ sizeLine := by
      rw [List.length_map, List.length_map, h2.len]; exact hlen
    have hv : Vals ((out.map adr).map V.ref) out := by
      conv => rhs; rw [eo]
      exact vals_refs _
    refine wpAny_pure ⟨_, rfl, .ref hA.objs.size, upd H hA.objs.size (.lst ((out.map adr).map V.ref)), I1.laid (t' := tk) (fun b u e => ?_) (Nat.le_refl _) ⟨hz, out, n, hv, hat⟩, rfl, ?_⟩
    · rw [PyProof.Rows.sortedHeap_old (Nat.ne_of_lt (Heap.lt_size e)) (by rw [PyProof.Rows.size_push']; exact Nat.lt_succ_of_lt (Heap.lt_size e))]
      exact Heap.get?_push_of_some _ e
    · refine q (out.map adr) _ (fun t ht => ?_) ?_ (I1.hok.fresh (Nat.le_refl _))
      · obtain ⟨v, hv, rfl⟩ := List.mem_map.mp ht
        have := (orefs v hv).2
        rw [(orefs v hv).1] at this
        exact this
      · rw [ek]
        have e3 : acc.toList.map (kPt H) = ps := by
          rw [ea, List.map_map, List.map_map]
          exact hp1
        have pm : (out.map (kPt H)).Perm ps := by
          rw [← e3]
          exact h2.perm.map _
        have e4 := kt_keys pr
        rw [← e4, hps] at hn
        have nd : ps.Nodup := (List.pairwise_map.mp hn).imp fun {x y} hne e => hne (congrArg keyP e)
        exact srtP_of (List.pairwise_map.mpr h1) (pm.nodup_iff.mpr nd) fun x => pm.mem_iff
end

/-! ### the three statements as one -/
def pPt : D → Option Pt
  | .tup [.int x, .int y] => some (x, y)
  | _ => none
def pPts : List D → Option (List Pt)
  | [] => some []
  | d :: r => (pPt d).bind fun p => (pPts r).map fun l => p :: l
def D2p (p : Pt) : D := .tup [.int p.1, .int p.2]
theorem pPt_inv {d : D} {p : Pt} (h : pPt d = some p) : d = D2p p := by
  unfold pPt at h
  split at h
  · cases h; rfl
  · cases h
theorem pPts_inv : ∀ {ds : List D} {ps : List Pt}, pPts ds = some ps → ds = ps.map D2p
  | [], ps, h => by cases h; rfl
  | d :: r, ps, h => by
    unfold pPts at h
    simp only [Option.bind_eq_some_iff, Option.map_eq_some_iff] at h
    obtain ⟨p, h1, l, h2, rfl⟩ := h
    rw [List.map_cons, ← pPt_inv h1, ← pPts_inv h2]
theorem pPts_map : ∀ ps : List Pt, pPts (ps.map D2p) = some ps
  | [] => rfl
  | p :: ps => by
    show (pPt (D2p p)).bind _ = _
    rw [show pPt (D2p p) = some p from rfl, Option.bind_some, pPts_map ps]
    rfl
/-- i: seen, j: the loop's name, k: the sorted list's -/
def sSeen (i j k : Nat) (m : EM) : SM := fun ρ => if ¬ (i < ρ.length ∧ j < ρ.length) then .st else ofR ((m (ρ.set i .un)).bind fun d => (R.ofO (asL d)).bind fun ds => if ds.length < sizeLine then R.ofO (pPts ds) else .st) (ρ.set i .un) fun ps => .nx (((ρ.set i .un).set j .un).set k (.v (.lst ((srtP ps).map D2p))))
theorem is_pt {K : PySem.W.Frag} {mg : Str → Option Value} {B : Hp} {v : V} {p : Pt} (h : Is K mg B v (D2p p)) : ∃ a, v = .ref a ∧ B a = some (.tup [.int p.1, .int p.2]) := by
  obtain ⟨a, xs, rfl, h1, r⟩ := h.tup_at (show (2 : Nat) ≠ 3 by decide)
  cases r with
  | cons r1 r =>
    cases r with
    | cons r2 r =>
      cases r
      rw [r1.int_inv, r2.int_inv] at h1
      exact ⟨a, rfl, h1⟩
end GD

/-! GD, part j: the rule for seen = {}; for p in ps: seen[p] = True; xs = sorted(seen). -/
namespace GD
open PySem PySem.Spec PyProof.Rows L2

section
variable {K : PySem.W.Frag} {mg : Str → Option Value} {W : Wd} {B H : Hp} {σ : L2.St} {ρ : En}
theorem EnvOk.forget (E : EnvOk K mg W B H σ ρ) (j : Nat) : EnvOk K mg W B H σ (ρ.set j .un) := by
  by_cases hl : j < σ.length
  · have e := E.drop j (o := σ[j])
    rw [List.set_getElem_self hl] at e
    exact e
  · rw [List.set_eq_of_length_le (by rw [← E.len]; omega)]
    exact E
/-- an object that is neither clean nor a list of one's own changes -/
theorem EnvOk.off (E : EnvOk K mg W B H σ ρ) {p : Addr} {o u : HO} (hp : H p = some u) (hu : ∀ xs, u ≠ .lst xs) (nb : B p = none) (nw : W.H p = none) : EnvOk K mg W B (upd H p o) σ ρ := by
  have ne : ∀ {G : Hp} {q : Addr} {w : HO}, G p = none → G q = some w → q ≠ p := fun n e z => by rw [z, n] at e; cases e
  refine ⟨⟨E.gr.bb, fun q w e => ?_, fun q w e => ?_, E.gr.sep⟩, E.len, E.val, fun i ds e => ?_, E.dis⟩
  · rw [upd_ne (ne nw e)]; exact E.gr.hh q w e
  · rw [upd_ne (ne nb e)]; exact E.gr.bh q w e
  · obtain ⟨q, xs, h1, h2, h3⟩ := E.own i ds e
    have hq : q ≠ p := fun z => by
      rw [z, hp] at h2
      exact hu xs (Option.some.inj h2)
    exact ⟨q, xs, h1, by rw [upd_ne hq]; exact h2, h3⟩
end
/-- all tuples told clean -/
def tupB (B H : Hp) : Hp := fun b => match H b with
  | some (.tup xs) => some (.tup xs)
  | _ => B b
theorem tupB_at {B H : Hp} {t : Addr} {xs : List V} (h : H t = some (.tup xs)) : tupB B H t = some (.tup xs) := by
  unfold tupB
  rw [h]
theorem Grow.tups {B H : Hp} (b : Same B H) : Grow B H (tupB B H) H := by
  refine ⟨fun p o e => ?_, Same.refl _, fun p o e => ?_, fun p o e t n => ?_⟩
  · unfold tupB
    split
    · rename_i xs h
      rw [b p o e] at h
      rw [← h]
    · exact e
  · unfold tupB at e
    split at e
    · rename_i xs h
      rw [h]; exact e
    · exact b p o e
  · unfold tupB
    split
    · rename_i xs h
      rw [e] at h
      exact absurd (Option.some.inj h) (t xs)
    · exact n
theorem srtP_congr {a b : List Pt} (h : ∀ x, x ∈ a ↔ x ∈ b) : srtP a = srtP b := srt_uniq (srtP_srt a) (srtP_srt b) fun x => (mem_srtP x a).trans ((h x).trans (mem_srtP x b).symm)
theorem bb_sorted : bootBuiltins "sorted" = some (.builtin "sorted") := by decide +kernel
section
variable {X : Cx} {Wx : WX} {it : Expr} {m : EM} {i j k : Nat} {x y z : Str} {ss : List Stmt} {sb : SM}
theorem pbd_seen {p1 p2 p3 p4 p5 p6 p7 p8 p9 q1 q2 q3 q4 q5 q6 : Pos} {jj : Nat} (hc : X.calm = true) (hp : PassesOwn (model X.prog X.w) X.A X.env X.xe) (hu : X.A.units + 1 < cLine) (hN : X.N.Nodup)
    (hi : X.N[i]? = some x) (hj : X.N[j]? = some y) (hk : X.N[k]? = some z) (hx : Loc X.env.scope x) (hy : Loc X.env.scope y) (hz : Loc X.env.scope z) (vx : Vis X.env.scope x) (vy : Vis X.env.scope y) (hij : i ≠ j)
    (fx : X.fn x = true ∨ X.env.scope.names.lookup x = some .local) (fy : X.fn y = true ∨ X.env.scope.names.lookup y = some .local) (fz : X.fn z = true ∨ X.env.scope.names.lookup z = some .local)
    (hg : Gl X "sorted") (hm : X.mg "sorted" = none) (h : PED X Wx it m) (hr : PBD X Wx ss sb)
    (dx : (x == ("__debug__" : Str)) = false := by decide) (cx : (x == ("__classdict__" : Str)) = false := by decide) (dy : (y == ("__debug__" : Str)) = false := by decide) (cy : (y == ("__classdict__" : Str)) = false := by decide)
    (s1 : swapsWith (.Dict [] [] p2) (some (.Name x p1)) p3.line X.env = pure false := by rfl)
    (hfs : ∀ v, foldedSetIterable it X.env v = pure v := by intro _; rfl)
    (s2 : swapsWithSole [.Subscript (.Name x p5) (.Name y p6) p7] (.Constant (.bool true) jj p8) p9.line X.env = pure false := by rfl) (s3 : swappedStores [.Subscript (.Name x p5) (.Name y p6) p7] (.Constant (.bool true) jj p8) X.env = pure none := by rfl)
    (s4 : (assignEach [.Subscript (.Name x p5) (.Name y p6) p7] X.env).map (·.2) = [assign (.Subscript (.Name x p5) (.Name y p6) p7) X.env] := by rfl)
    (s5 : ∀ v, assign (.Subscript (.Name x p5) (.Name y p6) p7) X.env v = (do
      let ov ← holding [v] (eval (.Name x p5) X.env)
      let iv ← holding [v, ov] (eval (.Name y p6) X.env)
      standAt p7
      holding [v, ov, iv] (setItem ov iv v)
      release [v, ov, iv] []) := by intro _; rfl)
    (s6 : swapsWith (.Call (.Name "sorted" q3) [.Name x q4] [] q5) (some (.Name z q2)) q6.line X.env = pure false := by rfl)
    (s7 : starEach [.Name x q4] X.env = (false, eval (.Name x q4) X.env) :: starEach [] X.env := by rfl) (s8 : (backTo q5 (starEach [] X.env)).any (·.1) = false := by rfl) :
    PBD X Wx (.Assign [.Name x p1] (.Dict [] [] p2) p3 :: .For (.Name y p4) it [.Assign [.Subscript (.Name x p5) (.Name y p6) p7] (.Constant (.bool true) jj p8) p9] [] q1 :: .Assign [.Name z q2] (.Call (.Name "sorted" q3) [.Name x q4] [] q5) q6 :: ss) (sSeq (sSeen i j k m) sb) := by
  intro W σ H B ρ E D q
  refine ⟨_, pss_cons (ps_set hN hi hx pe_dnewT s1 fx) (pss_cons (ps_for (hs := hfs) hp hc (pi_list pe_wp) (pg_name hN hj hy fy) (pss_one (ps_asg pe_bl (pg_sub (pe_var hi vx dx cx) (pe_var hj vy dy cy) (set_dict hu) s5) s2 s3 s4)))
    (pss_cons (ps_set hN hk hz (pe_callB (cr_srtD hc) hg hm bb_sorted (pa_cons (pe_var hi vx dx cx) pa_nil s7) (by decide) (by decide) s7 s8) s6 fz) pb_wp)), fun p np => ?_⟩
  have E1 : EnvOk X.K X.mg W B (upd H p (.dT [])) (σ.set i (some (.ref p))) (ρ.set i .un) := (E.grow (Grow.own E.bh np)).drop i
  have qq : (i < ρ.length ∧ j < ρ.length) ∧ PostS X W Wx (match ofR ((m (ρ.set i .un)).bind fun d => (R.ofO (asL d)).bind fun ds => if ds.length < sizeLine then R.ofO (pPts ds) else .st) (ρ.set i .un) fun ps => .nx (((ρ.set i .un).set j .un).set k (.v (.lst ((srtP ps).map D2p)))) with
      | .nx ρ' => sb ρ'
      | o => o) D := by
    unfold sSeq sSeen at q
    by_cases hl : i < ρ.length ∧ j < ρ.length
    · rw [if_neg (fun z => z hl)] at q
      exact ⟨hl, q⟩
    · rw [if_pos hl] at q
      exact q.elim
  obtain ⟨⟨il, jl⟩, q1⟩ := qq
  rw [← E.len] at il jl
  have np' : (upd H p (.dT [])) p = some (.dT []) := upd_same
  have nB : B p = none := by
    cases e : B p with
    | none => rfl
    | some o => rw [E.bh p o e] at np; cases np
  have nW : W.H p = none := by
    cases e : W.H p with
    | none => rfl
    | some o => rw [E.gr.hh p o e] at np; cases np
  refine h W _ _ B _ E1 _ ?_
  have q2 : Post ((m (ρ.set i .un)).bind fun d => (R.ofO (asL d)).bind fun ds => if ds.length < sizeLine then R.ofO (pPts ds) else .st) (fun ps => PostS X W Wx (sb (((ρ.set i .un).set j .un).set k (.v (.lst ((srtP ps).map D2p))))) D) (erD X Wx (σ.set i (some (.ref p))) B (upd H p (.dT []))) := by
    refine PostS.ofR (k := fun ps => sb (((ρ.set i .un).set j .un).set k (.v (.lst ((srtP ps).map D2p))))) ?_ E1
    unfold ofR at q1 ⊢
    cases e : (m (ρ.set i .un)).bind fun d => (R.ofO (asL d)).bind fun ds => if ds.length < sizeLine then R.ofO (pPts ds) else .st with
    | ok ps => rw [e] at q1; exact q1
    | er z => rw [e] at q1; exact q1
    | st => rw [e] at q1; exact q1
  refine q2.bind.mono (fun d _ hd v B1 H1 g1 rv => ?_) fun _ z => z
  obtain ⟨ds, ed, hd2⟩ := hd.bind.ofO
  have hz1 : ds.length < sizeLine ∧ ∃ ps, pPts ds = some ps ∧ PostS X W Wx (sb (((ρ.set i .un).set j .un).set k (.v (.lst ((srtP ps).map D2p))))) D := by
    by_cases hl : ds.length < sizeLine
    · rw [if_pos hl] at hd2
      exact ⟨hl, Post.ofO hd2⟩
    · rw [if_neg hl] at hd2
      exact hd2.elim
  obtain ⟨hl, ps, eps, q3⟩ := hz1
  have E2 := E1.grow g1
  have dp : H1 p = some (.dT []) := g1.hh _ _ np'
  have nB1 : B1 p = none := g1.sep p _ np' (fun _ z => nomatch z) nB
  have eds := pPts_inv eps
  obtain ⟨a, xs, rfl, hs, r⟩ : ∃ a xs, v = V.ref a ∧ SqL X.K B1 a xs ∧ IsL X.K X.mg B1 xs ds := by
    cases d with
    | lst ds' =>
      cases ed
      obtain ⟨a, xs, ev, h1, r⟩ := rv.lst_inv
      exact ⟨a, xs, ev, SqL.of h1, r⟩
    | scr ns =>
      cases ed
      obtain ⟨a, ev, h1⟩ := rv.scr_inv
      exact ⟨a, _, ev, h1, IsL.ints ns⟩
    | _ => cases ed
  have hxs : xs.length = ds.length := r.length
  refine ⟨a, rfl, ⟨xs, g1.bh.seq hs⟩, for_list (K := X.K) (a := a) (xs := xs) (fun n σ' H' => ∃ kvs pk, EnvOk X.K X.mg W B1 H' σ' ((ρ.set i .un).set j .un) ∧ σ'[i]? = some (some (.ref p)) ∧ H' p = some (.dT kvs) ∧ kvs.map (·.1) = pk.map keyP ∧ kvs.length ≤ n ∧ ∀ t, t ∈ pk ↔ t ∈ ps.take n)
    ⟨[], [], E2.forget j, List.getElem?_set_self il, dp, rfl, Nat.le_refl _, fun t => by simp⟩ (fun n σ' H' _ ⟨_, _, E', _⟩ => E'.bh.seq hs) ?step ?fin⟩
  case step =>
    rintro n v σ' H' hv ⟨kvs, pk, E', hi', hd', hk', hn', hm'⟩
    obtain ⟨d', e1, rd⟩ := r.at hv
    rw [eds, List.getElem?_map] at e1
    obtain ⟨pt, ept, rfl⟩ := Option.map_eq_some_iff.mp e1
    obtain ⟨b, rfl, hb⟩ := is_pt rd
    have hb' : H' b = some (.tup ((keyP pt).map kV)) := E'.bh _ _ hb
    obtain ⟨pk', k1, k2⟩ := put_keys pt (.bl true) hk'
    have jl' : j < σ'.length := by rw [E'.len]; simpa using (E.len ▸ jl)
    have nl : n < xs.length := (List.getElem?_eq_some_iff.mp hv).1
    refine ⟨.ref p, ?_, .ref b, List.getElem?_set_self jl', p, _, rfl, DPut.t hd' hb' (by omega), putK kvs (keyP pt) (.bl true), pk', ?_, ?_, upd_same, k1, ?_, fun t => ?_⟩
    · rw [List.getElem?_set_ne (Ne.symm hij)]; exact hi'
    · have E3 := E'.drop j (o := some (.ref b))
      rw [List.set_set] at E3
      exact E3.off hd' (fun _ z => nomatch z) nB1 nW
    · rw [List.getElem?_set_ne (Ne.symm hij)]; exact hi'
    · have := length_putK kvs (keyP pt) (.bl true)
      omega
    · rw [k2, hm', List.take_add_one, ept]
      simp [or_comm]
  case fin =>
    rintro σ' H' ⟨kvs, pk, E', hi', hd', hk', hn', hm'⟩
    refine ⟨.ref p, hi', p, kvs, pk, rfl, hd', hk', fun ts l ht hq nl => ?_⟩
    have hps : xs.length = ps.length := by rw [hxs, eds, List.length_map]
    have es : srtP pk = srtP ps := srtP_congr fun t => by
      rw [hm', hps, List.take_length]
    have g3 := (Grow.tups E'.bh).trans (Grow.new (o := .lst (ts.map V.ref)) (Grow.tups E'.bh).bh nl)
    refine hr W _ _ _ _ ((E'.grow g3).set ?_) D q3
    refine .lst upd_same (IsL.mono (Grow.new (o := .lst (ts.map V.ref)) (Grow.tups E'.bh).bh nl).bb ?_)
    rw [← es, ← hq, List.map_map]
    clear hq es g3
    induction ts with
    | nil => exact .nil
    | cons t ts ih =>
      refine .cons ?_ (ih fun u hu => ht u (List.mem_cons_of_mem _ hu))
      exact .tup (tupB_at (ht t List.mem_cons_self)) (.cons (.int _) (.cons (.int _) .nil))
end
end GD

/-! GD, part k: list(reversed(xs)); xs + ys of lists. -/
namespace GD
open PySem PySem.Spec PyProof.Rows L2 RT

section
variable {prog : Program} {w : World} {A : Around} {E : Value → Shared → Prop} {s : Shared}
/-- the new list S takes what the iterator over a list's end gives -/
theorem extend_rev {Rr : Result → Shared → Prop} {S it l : Addr} {items : Array Value} {c0 : Nat} (hh : A.handled = none) (hit : s.heap.IsRevIter it l ((items.size : Int) - 1)) (hl : s.heap.IsList l items) (hne : l ≠ it) (hSi : S ≠ it) (hSl : S ≠ l) (hn : items.size ≤ sizeLine)
    (hS : s.heap.get? S = some { cls := .type "list", data := .seq #[] c0 })
    (hR : ∀ h' tk acc c', (∀ b o, b ≠ S → b ≠ it → s.heap.get? b = some o → h'.get? b = some o) → h'.get? S = some { cls := .type "list", dict := none, data := .seq acc c', slots := #[] } → ItemsOf (fun i v => items[items.size - 1 - i]? = some v) acc items.size → Rr (.ok (.ret .none)) { s with heap := h', toks := tk }) :
    wpAny (model prog w) A.in1 (Builtin.List.listExtendWith (.ref S) (.ref it) .none)
      (fun fin s' => match fin with | .done f => Rr (.ok f) s' | .again c' => c'.quiet = true ∧ codeAny (model prog w) A c' Rr s') (fun e s' => Rr (.error e) s') s := by
  have Wk := (Walks.listRev (prog := prog) (w := w) (A := A.in1) hh it l hne items).toS
  have hT := Heap.IsRevIter.typeIs hit
  have off : S ∉ [it, l] := by
    intro h
    rcases List.mem_cons.mp h with e | h
    · exact hSi e
    · exact hSl (List.mem_singleton.mp h)
  have same : Builtin.List.listSameRef (.ref S) (.ref it) = false := by simp [Builtin.List.listSameRef, hSi]
  unfold Builtin.List.listExtendWith
  refine wpAny_bind (wpAny_typeOf hT ?_)
  rw [if_neg (by rw [same]; decide)]
  refine wpAny_bind (wpAny_pyIter_revIter hit ?_)
  refine wpAny_bind (wpAny_holding ?_)
  unfold Builtin.List.listLengthHint
  refine wpAny_bind (wpAny_specialOf hT nolen_lri ?_)
  show wpAny _ A.in1 (specialOf (Value.ref it) (Str.ofString "__length_hint__") >>= _) _ _ _
  refine wpAny_bind (wpAny_specialOf hT hint_lri ?_)
  generalize hid : ("list_reverseiterator.__length_hint__" : String) = nm
  wp_delta
  rw [show splitId nm = some ("list_reverseiterator", "__length_hint__") from by subst hid; decide +kernel]
  subst hid
  refine wpAny_bind (wpAny_isInstance (b := true) hT (by rw [isSubtype_type]; kernel_rfl) ?_)
  refine wpAny_pure ?_
  rw [if_neg (by decide)]
  have e0 : ((items.size : Nat) : Int) - 1 - ((0 : Nat) : Int) = (items.size : Int) - 1 := by omega
  refine wpAny_pure ⟨plainId_quiet F.plain_extend_loop _, codeAny_extend_loopS Wk hn _ off _ items.size 0 _ _ _ rfl (Nat.zero_le _) ⟨Nat.zero_le _, by rw [e0]; exact hit, hl⟩ hS (ItemsOf.nil _) fun s' acc' c' hm hS' hacc => ?_⟩
  rw [Moved.eq_with hm]
  refine hR s'.heap s'.toks acc' c' (fun b o hb hb2 e => hm.heap b o (fun hmem => ?_) e) hS' hacc
  rcases List.mem_cons.mp hmem with e' | hmem
  · exact hb e'
  · exact hb2 (List.mem_singleton.mp hmem)
theorem list_rev {Q : Value → Shared → Prop} {it l : Addr} {items : Array Value} (hh : A.handled = none) (hit : s.heap.IsRevIter it l ((items.size : Int) - 1)) (hl : s.heap.IsList l items) (hne : l ≠ it) (hn : items.size ≤ sizeLine)
    (hQ : ∀ h' tk acc c', (∀ b o, b ≠ it → s.heap.get? b = some o → h'.get? b = some o) → h'.get? s.heap.objs.size = some { cls := .type "list", dict := none, data := .seq acc c', slots := #[] } → ItemsOf (fun i v => items[items.size - 1 - i]? = some v) acc items.size → Q (.ref s.heap.objs.size) { s with heap := h', toks := tk }) :
    wpAny (model prog w) A (call (.type "list") [.ref it]) Q E s := by
  obtain ⟨oi, hoi, _⟩ := id hit
  obtain ⟨ol, hol, _⟩ := id hl
  have ni : s.heap.objs.size ≠ it := Nat.ne_of_gt (Heap.lt_size hoi)
  have nl : s.heap.objs.size ≠ l := Nat.ne_of_gt (Heap.lt_size hol)
  refine callType_codes (Q₁ := fun obj s1 => obj = .ref s.heap.objs.size ∧ s1 = { s with heap := s.heap.push { cls := .type "list", data := .seq #[] } }) PySem.F.called_list (PySem.F.typeCall_list_1 _) PySem.F.entry_list_init
    (code_list_new _ ⟨rfl, rfl⟩) fun obj s1 h1 => ?_
  obtain ⟨rfl, rfl⟩ := h1
  have hS : (s.heap.push { cls := .type "list", data := .seq #[] }).get? s.heap.objs.size = some { cls := .type "list", data := .seq #[] } := Heap.get?_push_size _ rfl
  refine ⟨⟨_, hS, rfl⟩, PySem.F.args_list_init_2 _ _, ?_⟩
  show wpAny _ _ (do let old ← Builtin.List.listItems (.ref s.heap.objs.size); Builtin.List.listUpdate (.ref s.heap.objs.size) (fun _ => #[]); letGo old.toList.reverse; Builtin.List.listExtendWith (.ref s.heap.objs.size) (.ref it) .none) _ _ _
  refine wpAny_bind ?_
  unfold Builtin.List.listItems
  refine wpAny_bind (wpAny_seqItems hS rfl (wpAny_pure ?_))
  show wpAny _ _ (updateSeq s.heap.objs.size (fun _ => #[]) >>= fun _ => letGo (#[] : Array Value).toList.reverse >>= fun _ => Builtin.List.listExtendWith (.ref s.heap.objs.size) (.ref it) .none) _ _ _
  refine wpAny_bind (wpAny_updateSeq hS rfl ?_)
  have hS2 := Heap.get?_update_self (Obj.mapSeq (fun _ => (#[] : Array Value))) hS rfl
  have old : ∀ b o, s.heap.get? b = some o → ((s.heap.push { cls := .type "list", data := .seq #[] }).update s.heap.objs.size (Obj.mapSeq (fun _ => (#[] : Array Value)))).get? b = some o := fun b o e =>
    (Heap.get?_update_other _ _ (Nat.ne_of_gt (Heap.lt_size e))).trans (Heap.get?_push_of_some _ e)
  refine wpAny_bind (wpAny_letGo ?_)
  refine extend_rev hh (hit.at fun o e => old _ _ e) ?_ hne ni nl hn hS2 fun h' tk acc c' k g i => ?_
  · obtain ⟨o, ho, r⟩ := id hl
    exact ⟨o, old _ _ ho, r⟩
  · exact ⟨rfl, hQ h' tk acc c' (fun b o hb e => k b o (Nat.ne_of_lt (Heap.lt_size e)) hb (old b o e)) g i⟩
end
def tListRev (K : PySem.W.Frag) (te : TE) : TE := fun σ H Q => te σ H fun v H1 => ∃ (a : Addr) (xs : List V), v = .ref a ∧ SqL K H1 a xs ∧ ∀ q, H1 q = none → Q (.ref q) (upd H1 q (.lst xs.reverse))
section
variable {X : Cx} {Wx : WX} {a b e : Expr} {ma mb m : EM} {pos p p2 pos2 : Pos}
theorem pe_listRev {te : TE} (hc : X.calm = true) (hg : Gl X "list") (hm : X.mg "list" = none) (hg2 : Gl X "reversed") (hm2 : X.mg "reversed" = none) (he : PE X e te)
    (hs : starEach [e] X.env = (false, eval e X.env) :: starEach [] X.env) (hs2 : starEach [.Call (.Name "reversed" p2) [e] [] pos2] X.env = (false, eval (.Call (.Name "reversed" p2) [e] [] pos2) X.env) :: starEach [] X.env) :
    PE X (.Call (.Name "list" p) [.Call (.Name "reversed" p2) [e] [] pos2] [] pos) (tListRev X.K te) := by
  constructor
  intro pn s σ H Q I h
  refine Call_ (ld_blt I hg hm boot_list (PyProof.Rows.callWith_type1 (args_cons (Call_ (ld_blt I hg2 hm2 PyProof.Rows.boot_reversed (PyProof.Rows.callWith_type1 (args_cons (thn (he.run pn s σ H _ I h) fun u s1 ⟨v, H1, I1, r1, q1⟩ => args_nil ?_) hs) hs rfl))) hs2) hs2 rfl))
  obtain ⟨l, xs, rfl, hq, q⟩ := q1
  cases r1
  obtain ⟨its, rv, pl, hz⟩ := I1.list hq
  refine call_reversed_list pl.isList (args_nil ?_)
  have k0 : ∀ b o, s1.heap.get? b = some o → (s1.heap.push (revObj l ((its.toArray.size : Int) - 1))).get? b = some o := fun b o e => Heap.get?_push_of_some _ e
  have I2 : Inv X pn σ H1 { s1 with heap := s1.heap.push (revObj l ((its.toArray.size : Int) - 1)) } := I1.kept (t' := s1.toks) k0
  have fp := I1.fpOk (H' := H1) (b := s1.heap.objs.size) (Nat.le_refl _) (I1.hok.fresh (Nat.le_refl _))
  have hl := pl.isList
  obtain ⟨ol, hol, _⟩ := id hl
  have hz2 : its.toArray.size ≤ sizeLine := by rw [List.size_toArray, ← rv.length]; exact hz
  refine list_rev (s := { s1 with heap := s1.heap.push (revObj l ((its.toArray.size : Int) - 1)) }) (I1.ok.hd hc) ⟨_, Heap.get?_push_size _ rfl, rfl, rfl⟩ (hl.push _) (Nat.ne_of_lt (Heap.lt_size hol)) hz2 fun h' tk acc c' k g i => ?_
  have J := I2.turnedNew (t' := tk) (h' := h') (ch := [s1.heap.objs.size]) (T := _) (ob := .lst xs.reverse) (fun b o hb e => k b o (fun z => hb (List.mem_singleton.mpr z)) e) (fun b hb => by rw [List.mem_singleton.mp hb]; exact fp) (Nat.le_refl _)
    ⟨by rw [List.length_reverse]; exact hz, acc.toList, c', vals_rev rv i, by rw [Array.toArray_toList]; exact g⟩
  exact ⟨.ref _, _, J, rfl, q _ (I2.hok.fresh (Nat.le_refl _))⟩
/-- xs + ys of lists -/
def catL : D → D → Option (List D)
  | .lst xs, .lst ys => if xs.length + ys.length ≤ sizeLine then some (xs ++ ys) else none
  | _, _ => none
def aCat (ma mb : EM) : AM := fun ρ => (ma ρ).bind fun x => (mb ρ).bind fun y => R.ofO (catL x y)
theorem pfd_cat (ha : PED X Wx a ma) (hb : PED X Wx b mb) : PFD X Wx (.BinOp a .Add b pos) (aCat ma mb) := by
  intro W σ H B ρ E Q h
  refine ⟨_, pe_op op_cat pe_wp pe_wp, ?_⟩
  refine ha W σ H B ρ E _ ((show Post ((ma ρ).bind fun x => (mb ρ).bind fun y => R.ofO (catL x y)) _ _ from h).bind.mono (fun d _ hd v B1 H1 g1 r1 => ?_) fun _ z => z)
  refine hb W σ H1 B1 ρ (E.grow g1) _ (hd.bind.mono (fun f _ hf u B2 H2 g2 r2 => ?_) fun _ z => z.later g1)
  obtain ⟨ds, e1, q⟩ := Post.ofO hf
  unfold catL at e1
  split at e1
  · rename_i xs ys
    split at e1
    · rename_i hl
      cases e1
      obtain ⟨p, us, rfl, k1, l1⟩ := (r1.mono g2.bb).lst_inv
      obtain ⟨p', ws, rfl, k2, l2⟩ := r2.lst_inv
      exact ⟨p, p', us, ws, rfl, rfl, g2.bh _ _ k1, g2.bh _ _ k2, by rw [l1.length, l2.length]; exact hl, fun z hz => okF.nl ((q.later g1).later g2) g2.bh hz (l1.append l2)⟩
    · cases e1
  · cases e1
def aLRev (m : EM) : AM := fun ρ => (m ρ).bind fun d => (R.ofO (asL d)).bind fun ds => .ok ds.reverse
theorem pfd_listRev (hc : X.calm = true) (hg : Gl X "list") (hm : X.mg "list" = none) (hg2 : Gl X "reversed") (hm2 : X.mg "reversed" = none) (he : PED X Wx e m)
    (hs : starEach [e] X.env = (false, eval e X.env) :: starEach [] X.env := by rfl) (hs2 : starEach [.Call (.Name "reversed" p2) [e] [] pos2] X.env = (false, eval (.Call (.Name "reversed" p2) [e] [] pos2) X.env) :: starEach [] X.env := by rfl) :
    PFD X Wx (.Call (.Name "list" p) [.Call (.Name "reversed" p2) [e] [] pos2] [] pos) (aLRev m) := by
  intro W σ H B ρ E Q h
  refine ⟨_, pe_listRev hc hg hm hg2 hm2 pe_wp hs hs2, ?_⟩
  refine he W σ H B ρ E _ ((show Post ((m ρ).bind fun d => (R.ofO (asL d)).bind fun ds => R.ok ds.reverse) _ _ from h).bind.mono (fun d _ hd v B1 H1 g1 r1 => ?_) fun _ z => z)
  obtain ⟨ds, e1, q⟩ := hd.bind.ofO
  have q' : okF X B1 H1 Q ds.reverse := (show okF X B H Q ds.reverse from q).later g1
  unfold asL at e1
  split at e1
  · cases e1
    obtain ⟨p, us, rfl, k1, l1⟩ := r1.lst_inv
    exact ⟨p, us, rfl, seqL_of g1.bh k1, fun z hz => q'.nl g1.bh hz l1.rev⟩
  · cases e1
    obtain ⟨p, rfl, k1⟩ := r1.scr_inv
    exact ⟨p, _, rfl, g1.bh.seq k1, fun z hz => q'.nl g1.bh hz (IsL.ints _).rev⟩
  · cases e1
end
/-- turns of a loop that shortens a list of one's own -/
def fuelL (i : Nat) : En → Nat := fun ρ => match ρ[i]? with
  | some (.l ds) => ds.length + 1
  | _ => 0
theorem bb_reversed : bootBuiltins "reversed" = some (.type "reversed") := by decide +kernel
end GD

/-! GD, part l: xs.insert(k, e) of a list of one's own. -/
namespace GD
open PySem PySem.Spec PyProof.Rows L2

def insD (ds : List D) (k d : D) : Option (List D) := match k with
  | .int j => if 0 ≤ j ∧ j < 2 ^ 63 ∧ ds.length < sizeLine then some (ds.take j.toNat ++ [d] ++ ds.drop j.toNat) else none
  | _ => none
def sIns (i : Nat) (mk m : EM) : SM := fun ρ => match ρ[i]? with
  | some (.l ds) => ofR ((mk ρ).bind fun k => (m ρ).bind fun d => R.ofO (insD ds k d)) ρ fun es => .nx (ρ.set i (.l es))
  | _ => .st
section
variable {X : Cx} {Wx : WX} {a b c e f : Expr} {es : List Expr} {pos p cp ap : Pos} {ma mb m mk : EM} {mr : AM} {i : Nat} {x : Str}
theorem psd_ins (hi : X.N[i]? = some x) (hv : Vis X.env.scope x) (hk : PED X Wx f mk) (ha : PED X Wx e m) (hd : (x == ("__debug__" : Str)) = false := by decide) (hcd : (x == ("__classdict__" : Str)) = false := by decide)
    (hbase : attributeBase (.Name x p) "insert" X.env (eval (.Name x p) X.env) = eval (.Name x p) X.env := by rfl)
    (hfew : ((backTo cp (starEach [f, e] X.env)).all (fun x => !x.1) && (backToKw cp (keywordEach [] X.env)).all (fun x => x.1.isSome)
      && decide (([f, e] : List Expr).length + ([] : List Keyword).length + (if ([] : List Keyword).isEmpty then 0 else 1) < 30)) = true := by rfl)
    (hline : (ap.endLine == cp.line) = true := by rfl) (hs : starEach [f, e] X.env = (false, eval f X.env) :: starEach [e] X.env := by rfl) (hs2 : starEach [e] X.env = (false, eval e X.env) :: starEach [] X.env := by rfl) (hpl : (backTo cp (starEach [e] X.env)).any (·.1) = false := by rfl)
    (hsw : swapsWith (.Call (.Attribute (.Name x p) "insert" ap) [f, e] [] cp) none pos.line X.env = pure false := by rfl) :
    PSD X Wx (.Expr (.Call (.Attribute (.Name x p) "insert" ap) [f, e] [] cp) pos) (sIns i mk m) := by
  intro W σ H B ρ E D q
  unfold sIns at q
  split at q
  · rename_i ds hr
    refine ⟨_, ps_expr (pe_bm F.plainAttrs_list F.slot_list_insert F.type_list_insert mt_insert (pe_var hi hv hd hcd) pa_wp hbase hfew hline hs hpl) hsw, ?_⟩
    obtain ⟨l, xs, h1, h2, _⟩ := own_at E (Grow.refl E.bh) hr
    refine ⟨.ref l, h1, tyL h2, ?_⟩
    refine (pad_cons hk (pad_cons ha pad_nil hs2) hs) W σ H B ρ E _ ?_
    have q2 := PostS.ofR q E
    unfold aCons aNil
    refine (?_ : Post ((mk ρ).bind fun k => ((m ρ).bind fun u => (R.ok ([] : List GD.D)).bind fun xs => .ok (u :: xs)).bind fun xs => .ok (k :: xs)) _ _)
    cases ek : mk ρ with
    | ok k =>
      rw [ek] at q2
      show Post (((m ρ).bind fun u => (R.ok ([] : List GD.D)).bind fun xs => .ok (u :: xs)).bind fun xs => .ok (k :: xs)) _ _
      have q2' : Post ((m ρ).bind fun d => R.ofO (insD ds k d)) _ _ := q2
      cases em : m ρ with
      | ok u =>
        rw [em] at q2'
        intro vs B' H' g r
        cases r with
        | cons r1 r =>
          cases r with
          | cons r2 r =>
            cases r
            have q3 : Post (R.ofO (insD ds k u)) (fun x => PostS X W Wx (.nx (ρ.set i (.l x))) D) (erD X Wx σ B H) := q2'
            obtain ⟨ds', hi', q4⟩ := Post.ofO q3
            unfold insD at hi'
            split at hi'
            · rename_i j
              split at hi'
              · rename_i hz
                cases hi'
                obtain ⟨l', xs', k1, k2, k3, k4⟩ := own_at E g hr
                rw [h1] at k1
                cases k1
                rw [h2] at k4
                cases k4
                cases r1
                refine ⟨l, xs, _, _, rfl, rfl, k2, by rw [k3.length]; exact hz.2.2, hz.1, hz.2.1, ?_⟩
                exact (show PostS X W Wx (.nx _) D from q4) _ _ _ ((E.grow g).mut (xs := xs) hr h1 (((k3.take _).append (.cons r2 .nil)).append (k3.drop _)))
              · cases hi'
            · cases hi'
      | er z => rw [em] at q2'; exact q2'
      | st => rw [em] at q2'; exact q2'
    | er z => rw [ek] at q2; exact q2
    | st => rw [ek] at q2; exact q2
  · exact q.elim
end
/-- a name of the text that stands for a tuple of three ints -/
structure KC3 (K : PySem.W.Frag) (mg : Str → Option Value) (x : Str) (i j k : Int) : Prop where
  h : ∃ a : Addr, mg x = some (.ref a) ∧ KT3 K a i j k
theorem KC3.ped {X : Cx} {Wx : WX} {x : Str} {i j k : Int} {pos : Pos} (c : KC3 X.K X.mg x i j k) (hg : Gl X x) (hdb : (x == ("__debug__" : Str)) = false := by decide) : PED X Wx (.Name x pos) (eC (.tup [.int i, .int j, .int k])) := by
  obtain ⟨a, h1, h2⟩ := c.h
  exact ped_glob (v := .ref a) hg h1 rfl (fun _ => .tup3 h2) hdb
theorem kt3_mk {K : PySem.W.Frag} {a : Addr} {od : Option Addr} {i j k : Int} {t0 t1 t2 : Tok} {n : Nat} {sl : Array (Option Value)} (h : K.lookup a = some ⟨.type "tuple", od, .seq #[.int i t0, .int j t1, .int k t2] n, sl⟩) : KT3 K a i j k :=
  ⟨_, _, _, h, rfl, rfl, by rw [sizeLine_eq]; exact (by decide : 3 ≤ 16777216), .cons ⟨_, rfl⟩ (.cons ⟨_, rfl⟩ (.cons ⟨_, rfl⟩ .nil))⟩
/-! ### x in xs -/
def dInB (d : D) (ds : List D) : Bool := (toPs ds).any fun z => PyData.eqv z (toP d)
def dIn (d e : D) : Option D := match e with
  | .lst ds => if SeqAt.shaped (toP d) = true ∧ SeqAt.shaped (toP (.lst ds)) = true then some (.bl (dInB d ds)) else none
  | .str y => match d with
    | .str x => some (.bl (!(Builtin.Str.occurrences y x 0 y.length 1).isEmpty))
    | _ => none
  | _ => none
def dNotIn (d e : D) : Option D := match dIn d e with
  | some (.bl b) => some (.bl (!b))
  | _ => none
theorem hr_in {k : Nat} {A : Around} (r : Room k A) : A.units + 65 < cLine := by have := r.un; omega
section
variable {X : Cx}
theorem dIn_inv {d e d' : D} (g : dIn d e = some d') : (∃ ds, e = .lst ds ∧ SeqAt.shaped (toP d) = true ∧ SeqAt.shaped (toP (.lst ds)) = true ∧ d' = .bl (dInB d ds)) ∨
    ∃ x y, d = .str x ∧ e = .str y ∧ d' = .bl (!(Builtin.Str.occurrences y x 0 y.length 1).isEmpty) := by
  unfold dIn at g
  split at g
  · obtain ⟨⟨h1, h2⟩, rfl⟩ := some_ite g
    exact .inl ⟨_, rfl, h1, h2, rfl⟩
  · split at g
    · cases g
      exact .inr ⟨_, _, rfl, rfl, rfl⟩
    · cases g
  · cases g
theorem opd_in (hu : X.A.units + 65 < cLine) : OpD X (compareOp .In) dIn := by
  intro B H x y d e d' Q b rx ry g q
  rcases dIn_inv g with ⟨ds, rfl, h1, h2, rfl⟩ | ⟨x', y', rfl, rfl, rfl⟩
  · exact ⟨_, op_inD hu, _, _, rx.dp b (.inl h1), ry.dp b (.inl h2), h1, h2, q.at b (.bl _)⟩
  · rw [rx.str_inv, ry.str_inv]
    exact ⟨_, op_in_str, _, _, rfl, rfl, q.at b (.bl _)⟩
theorem opd_notIn (hu : X.A.units + 65 < cLine) : OpD X (compareOp .NotIn) dNotIn := by
  intro B H x y d e d' Q b rx ry g q
  unfold dNotIn at g
  split at g
  · rename_i bb hb
    cases g
    rcases dIn_inv hb with ⟨ds, rfl, h1, h2, h3⟩ | ⟨x', y', rfl, rfl, h3⟩
    · cases h3
      exact ⟨_, op_notInD hu, _, _, rx.dp b (.inl h1), ry.dp b (.inl h2), h1, h2, q.at b (.bl _)⟩
    · cases h3
      rw [rx.str_inv, ry.str_inv]
      exact ⟨_, op_notin_str, _, _, rfl, rfl, q.at b (.bl _)⟩
  · cases g
end
/-! ### a < b < c as a test -/
section
variable {X : Cx} {Wx : WX} {a b c : Expr} {pos : Pos} {ma mb mc : EM}
theorem chain_core {op op' : CmpOp} {g g' : D → D → Option D} (ho : OpD X (compareOp op) g) (ho' : OpD X (compareOp op') g') (ha : PED X Wx a ma) (hb : PED X Wx b mb) (hc : PED X Wx c mc) {W : Wd} {σ : L2.St} {H B : Hp} {ρ : En} (E : EnvOk X.K X.mg W B H σ ρ) (Q : VK)
    (h : Post (eCh g g' ma mb mc ρ) (okD X B H Q) (erD X Wx σ B H)) : tChain (wpO X (compareOp op)) (wpO X (compareOp op')) (wpE X a) (wpE X b) (wpE X c) σ H Q :=
  two ha hb E h fun d e x y B2 H2 gr rx ry hk => by
    obtain ⟨z, e1, q⟩ := hk.bind.ofO
    refine ho B2 H2 x y d e z _ gr.bh rx ry e1 fun v B3 H3 g3 r3 => ?_
    obtain ⟨k, e2, q2⟩ := q.bind.ofO
    cases z with
    | bl k' =>
      obtain rfl : k' = k := Option.some.inj e2
      refine ⟨k', r3.bl_inv, ?_⟩
      cases k' with
      | true =>
        rw [if_pos rfl] at q2 ⊢
        refine hc W σ H3 B3 ρ ((E.grow gr).grow g3) _ (q2.bind.mono (fun w _ hw u B4 H4 g4 ru => ?_) fun x h => (h.later gr).later g3)
        obtain ⟨d', e3, q3⟩ := hw.ofO
        exact ho' B4 H4 y u e w d' Q g4.bh ((ry.mono g3.bb).mono g4.bb) ru e3 (((q3.later gr).later g3).later g4)
      | false =>
        rw [if_neg Bool.false_ne_true] at q2 ⊢
        exact okD.at (((show okD X B H Q (.bl false) from q2).later gr).later g3) g3.bh (.bl false)
    | _ => cases e2
theorem ptd_chain {op op' : CmpOp} {g g' : D → D → Option D} (ho : OpD X (compareOp op) g) (ho' : OpD X (compareOp op') g') (ha : PED X Wx a ma) (hb : PED X Wx b mb) (hc : PED X Wx c mc)
    (hm : lastMarks [op, op'] [b, c] = false) : PTD X Wx (.Compare a [op, op'] [b, c] pos) (GD.mB (eCh g g' ma mb mc)) :=
  fun W σ H B ρ E Q h => ⟨_, pt_chain op_wp op_wp pe_wp pe_wp pe_wp hm, chain_core ho ho' ha hb hc E _ ((Post.bind h).mono (fun d _ hd v B' H' gr r => by
    obtain ⟨k, e, q⟩ := Post.ofO hd
    cases d with
    | bl k' =>
      obtain rfl : k' = k := Option.some.inj e
      exact ⟨k', r.bl_inv, q B' H' gr⟩
    | _ => cases e) fun _ h => h)⟩
end
end GD

/-! GD, part m: instances that stay as they are made: made, read, their methods, isinstance. -/
namespace GD
open PySem PySem.Spec PyProof.Rows L2
def fldD : List Str → List D → Str → Option D
  | n :: ns, d :: ds, f => match f == n with
    | true => some d
    | false => fldD ns ds f
  | _, _, _ => none
def dFld (cs : List Str) (f : Str) : D → Option D
  | .obj x ns ds => if cs.contains x = true then fldD ns ds f else none
  | _ => none
/-- a method, by the instance's class -/
def eMeth (tab : List (Str × (List D → R D))) (m : Str) (mo : EM) (mr : AM) : EM := fun ρ => (mo ρ).bind fun d => match d with
  | .obj x ns ds => match tab.lookup x with
    | some F => if ns.contains m = true then .st else (mr ρ).bind fun as => F (.obj x ns ds :: as)
    | none => .st
  | _ => .st
/-- a new instance -/
def eMk (x : Str) (ns : List Str) (mr : AM) : EM := fun ρ => (mr ρ).bind fun ds => if ds.length = ns.length then .ok (.obj x ns ds) else .st
section
variable {K : PySem.W.Frag} {mg : Str → Option Value} {B : Hp}
theorem fld_is : ∀ {fs : List (Str × V)} {ns : List Str} {ds : List D} {f : Str} {d : D}, fs.map (·.1) = ns → IsL K mg B (fs.map (·.2)) ds → fldD ns ds f = some d → ∃ v, fs.lookup f = some v ∧ Is K mg B v d
  | [], _, _, f, d, hk, r, h => by
    subst hk
    cases r
    cases h
  | (n, v) :: fs, _, _, f, d, hk, r, h => by
    subst hk
    cases r with
    | cons hv r =>
      rename_i d0 ds
      show ∃ u, (match f == n with | true => some v | false => fs.lookup f) = some u ∧ _
      change (match f == n with | true => some d0 | false => fldD (fs.map (·.1)) ds f) = some d at h
      cases e : f == n with
      | true =>
        rw [e] at h
        cases h
        exact ⟨v, rfl, hv⟩
      | false =>
        rw [e] at h
        exact fld_is rfl r h
theorem fld_no : ∀ {fs : List (Str × V)} {ns : List Str} {m : Str}, fs.map (·.1) = ns → ¬ ns.contains m = true → fs.lookup m = none
  | [], _, _, _, _ => rfl
  | (n, v) :: fs, _, m, hk, h => by
    subst hk
    show (match m == n with | true => some v | false => fs.lookup m) = none
    have h2 : (m == n || (fs.map (·.1)).contains m) = false := by
      cases q : (m == n || (fs.map (·.1)).contains m) with
      | false => rfl
      | true => exact absurd (show (((n, v) :: fs).map (·.1)).contains m = true by rw [List.map_cons, List.contains_cons]; exact q) h
    rw [Bool.or_eq_false_iff] at h2
    rw [h2.1]
    exact fld_no rfl (by rw [h2.2]; decide)
theorem zip_fst {ns : List Str} {as : List V} (h : as.length = ns.length) : (ns.zip as).map (·.1) = ns := List.map_fst_zip (by omega)
theorem zip_snd {ns : List Str} {as : List V} (h : as.length = ns.length) : (ns.zip as).map (·.2) = as := List.map_snd_zip (by omega)
end
/-- a class whose instances have the attribute f of their own -/
def ClsF (K : PySem.W.Frag) (mg : Str → Option Value) (f x : Str) : Prop := ∃ C, mg x = some (.ref C) ∧ Cls K C ∧ NoAttr K C f
/-- a class's method that keeps its promise over data -/
def MthD (P : Program) (w : World) (K : PySem.W.Frag) (mg : Str → Option Value) (base : Heap) (k : Nat) (x m : Str) (ps : List Str) (F : List D → R D) : Prop :=
  ∃ C f fd, mg x = some (.ref C) ∧ Cls K C ∧ Meth K C m f ∧ Binds K fd ps [] ∧ FnOk P w K mg base (L2.CX P w) k f fd ps (spD K mg ps.length F)
/-- what __init__ promises that stores its parameters -/
def spMk (C : Addr) (ns : List Str) : Sp := fun vs H Q _ => ∃ p dx as, vs = .ref p :: as ∧ as.length = ns.length ∧ H p = some (.ins C dx []) ∧ ∀ H' : Hp, H' p = some (.ins C dx (ns.zip as)) → (∀ q, q ≠ p → H' q = H q) → Q .non H'
def MkD (P : Program) (w : World) (K : PySem.W.Frag) (mg : Str → Option Value) (base : Heap) (k : Nat) (x : Str) (ps ns : List Str) : Prop :=
  ∃ C f fd, mg x = some (.ref C) ∧ Mk K C f ∧ Binds K fd ps [] ∧ FnOk P w K mg base (L2.CX P w) k f fd ps (spMk C ns)
section
variable {X : Cx} {Wx : WX} {e o a : Expr} {es : List Expr} {f m x : Str} {pos apos p : Pos} {me mo ma : EM} {mr : AM} {cs : List Str}
theorem ped_fld (hc : ∀ y, cs.contains y = true → ClsF X.K X.mg f y) (he : PED X Wx e me) (hb : attributeBase e f X.env (eval e X.env) = eval e X.env := by rfl) : PED X Wx (.Attribute e f pos) (e1 (dFld cs f) me) := by
  intro W σ H B ρ E Q h
  refine ⟨_, pe_fld pe_wp hb, he W σ H B ρ E _ ((show Post ((me ρ).bind fun d => R.ofO (dFld cs f d)) _ _ from h).bind.mono (fun d _ hd v B1 H1 g1 r1 => ?_) fun x h => h)⟩
  obtain ⟨d', e1, q⟩ := hd.ofO
  cases d with
  | obj y ns ds =>
    change (if cs.contains y = true then fldD ns ds f else none) = some d' at e1
    by_cases hy : cs.contains y = true
    · rw [if_pos hy] at e1
      obtain ⟨C, m1, c, n⟩ := hc y hy
      cases r1 with
      | obj hC hB hk r =>
        rw [m1] at hC
        cases hC
        obtain ⟨u, l, ru⟩ := fld_is hk r e1
        exact ⟨_, _, _, _, u, rfl, g1.bh _ _ hB, c, n, l, q u B1 H1 g1 ru⟩
    · rw [if_neg hy] at e1
      cases e1
  | _ => cases e1
end
section
variable {X : Cx} {CX : CXT} {k : Nat} {m : Str} {E : L2.St → XK} {o e : Expr} {es : List Expr} {ta : TE} {t : TA} {apos pos p : Pos} {pl : Sem Bool}
def tMethV (X : Cx) (CX : CXT) (k : Nat) (m : Str) (E : L2.St → XK) (ta : TE) (t : TA) : TE := fun σ H Q => ta σ H fun x H1 => ∃ a C dx fs f fd ps sp, x = .ref a ∧ H1 a = some (.ins C dx fs) ∧ fs.lookup m = none ∧ Cls X.K C ∧ Meth X.K C m f ∧ Binds X.K fd ps [] ∧
  FnOk X.prog X.w X.K X.mg X.base CX k f fd ps sp ∧ t σ H1 fun vs H2 => sp (x :: vs) H2 Q (E σ)
theorem pe_methV (he : PE X o ta) (hr : Room k X.A) (hx : ∀ σ, PassesAt CX X σ (E σ)) (ha : PA X (e :: es) t)
    (hst : starEach (e :: es) X.env = (false, eval e X.env) :: starEach es X.env := by rfl) (hpl : (backTo pos (starEach es X.env)).any (·.1) = false := by rfl)
    (ht : eval (.Call (.Attribute o m apos) (e :: es) [] pos) X.env = (do
      let ov ← eval o X.env
      standAt apos.atName
      let (f, first) ← holding [ov] (getMethod ov m pl)
      callWith pos f first (backTo pos (starEach (e :: es) X.env)) (backToKw pos (keywordEach [] X.env))) := by rfl) :
    PE X (.Call (.Attribute o m apos) (e :: es) [] pos) (tMethV X CX k m E ta t) := by
  refine ⟨fun pins s σ H Q I h => ?_⟩
  refine PySem.W.methodCall_KW (pl := pl) (thn (he.run pins s σ H _ I h) fun u s1 ⟨x, H1, I1, rx, a, C, dx, fs, f, fd, ps, sp, ex, ea, l, c, hm, hb, F, q⟩ => ?_) ht
  subst ex
  obtain rfl : u = Value.ref a := rx
  refine getmeth_ok I1 ea c hm l ?_
  refine PySem.W.callWith_K (first := [.ref a]) (h₀ := X.base) I1.ok.mod.kin hm.kp (thn (ha.run pos pins s1 σ H1 _ I1 q) fun us s2 ⟨vs, H2, I2, r, q2⟩ => ⟨I2.kIn, ?_⟩) hst hpl
  exact run_fnS (us := .ref a :: us) (vs := .ref a :: vs) F hr hb (hx σ) I2 (.cons rfl r) q2
theorem pe_methV0 (he : PE X o ta) (hr : Room k X.A) (hx : ∀ σ, PassesAt CX X σ (E σ))
    (ht : eval (.Call (.Attribute o m apos) [] [] pos) X.env = (do
      let ov ← eval o X.env
      standAt apos.atName
      let (f, first) ← holding [ov] (getMethod ov m pl)
      callWith pos f first (backTo pos (starEach [] X.env)) (backToKw pos (keywordEach [] X.env))) := by rfl) :
    PE X (.Call (.Attribute o m apos) [] [] pos) (tMethV X CX k m E ta tNil) := by
  refine ⟨fun pins s σ H Q I h => ?_⟩
  refine PySem.W.methodCall_KW (pl := pl) (thn (he.run pins s σ H _ I h) fun u s1 ⟨x, H1, I1, rx, a, C, dx, fs, f, fd, ps, sp, ex, ea, l, c, hm, hb, F, q⟩ => ?_) ht
  subst ex
  obtain rfl : u = Value.ref a := rx
  refine getmeth_ok I1 ea c hm l ?_
  exact PySem.W.callWith_K0 (first := [.ref a]) I1.kIn hm.kp (run_fnS (us := [.ref a]) (vs := [.ref a]) F hr hb (hx σ) I1 (.cons rfl .nil) q)
/-- C(e, ..), where exceptions are told with the frame's values -/
def tMakeS (C : Addr) (sp : Sp) (E : L2.St → XK) (t : TA) : TE := fun σ H Q => t σ H fun vs H1 => ∀ x dx, H1 x = none → H1 dx = none → dx ≠ x →
  sp (.ref x :: vs) (upd (upd H1 dx (.own x)) x (.ins C dx [])) (fun v H2 => v = .non ∧ Q (.ref x) H2) (E σ)
theorem run_makeS {f C : Addr} {fd : FuncData} {ps : List Str} {sp : Sp} {pins : List (Addr × Obj)} {σ : L2.St} {H : Hp} {s : Shared} {Q : VK} {us : List Value} {vs : List V} (M : Mk X.K C f) (F : FnOk X.prog X.w X.K X.mg X.base CX k f fd ps sp) (hr : Room (k + 1) X.A) (hb : Binds X.K fd ps [])
    (hx : PassesAt CX X σ (E σ)) (I : Inv X pins σ H s) (r : Vals vs us)
    (h : ∀ x dx, H x = none → H dx = none → dx ≠ x → sp (.ref x :: vs) (upd (upd H dx (.own x)) x (.ins C dx [])) (fun v H2 => v = .non ∧ Q (.ref x) H2) (E σ)) :
    wpAny (model X.prog X.w) X.A (call (.ref C) us) (EP X pins σ Q) X.xe s := by
  have hq := h (s.heap.objs.size + 1) s.heap.objs.size (I.hok.fresh (Nat.le_succ _)) (I.hok.fresh (Nat.le_refl _)) (Nat.ne_of_lt (Nat.lt_succ_self _))
  have I2 := Inv.made (C := C) I
  have r2 : Vals (V.ref (s.heap.objs.size + 1) :: vs) (Value.ref (s.heap.objs.size + 1) :: us) := .cons rfl r
  have hl : (Value.ref (s.heap.objs.size + 1) :: us).length = ps.length := by
    have e := r2.length
    rw [F.len _ _ _ _ hq] at e
    exact e.symm
  have b := hb _ (Value.ref (s.heap.objs.size + 1) :: us) I2.kIn (by rw [List.append_nil]; exact hl)
  rw [List.append_nil] at b
  refine wpAny_call (make_map (f := f) I.kIn M.makes M.init (beq_iff_eq.mp M.fn) (codeAny_mono (F.run _ X.stack _ _ ⟨Value.ref (s.heap.objs.size + 1) :: us, []⟩ (Value.ref (s.heap.objs.size + 1) :: us) _ _ (E σ) (hr.make C us [])
    (I2.env0.make C us []) b r2 hq) fun r s' hq' => ?_))
  cases r with
  | error e => exact hx pins _ _ e s' I2 hq'
  | ok fl =>
    cases fl with
    | ret u =>
      obtain ⟨v, H', I3, rv, ev, q3⟩ := I2.after hq'
      subst ev
      exact ⟨rv, ⟨V.ref (s.heap.objs.size + 1), H', I3, rfl, q3⟩⟩
    | next => exact False.elim hq'
    | brk => exact False.elim hq'
    | cont => exact False.elim hq'
theorem pe_makeS {f C : Addr} {fd : FuncData} {ps : List Str} {sp : Sp} {x : Str} (M : Mk X.K C f) (F : FnOk X.prog X.w X.K X.mg X.base CX k f fd ps sp) (hr : Room (k + 1) X.A) (hg : Gl X x) (hm : X.mg x = some (.ref C)) (hb : Binds X.K fd ps []) (hx : ∀ σ, PassesAt CX X σ (E σ))
    (ha : PA X (e :: es) t) (hdb : (x == ("__debug__" : Str)) = false := by decide) (he : starEach (e :: es) X.env = (false, eval e X.env) :: starEach es X.env := by rfl) (hpl : (backTo pos (starEach es X.env)).any (·.1) = false := by rfl) :
    PE X (.Call (.Name x p) (e :: es) [] pos) (tMakeS C sp E t) := by
  refine ⟨fun pins s σ H Q I h => ?_⟩
  refine wpAny_Call_Name_kw (ld_glob I hg hm ?_ hdb)
  refine PySem.W.callWith_K (h₀ := X.base) I.ok.mod.kin M.kp (thn (ha.run pos pins s σ H _ I h) fun us s1 ⟨vs, H1, I1, r, q⟩ => ⟨I1.kIn, ?_⟩) he hpl
  exact run_makeS M F hr hb (hx σ) I1 r q
end
section
variable {X : Cx} {Wx : WX} {e o a : Expr} {es : List Expr} {f m x : Str} {pos apos p : Pos} {me mo ma : EM} {mr : AM} {cs : List Str}
theorem ped_meth {k : Nat} {ps : List Str} {tab : List (Str × (List D → R D))} {pl : Sem Bool} (hT : ∀ y F, tab.lookup y = some F → MthD X.prog X.w X.K X.mg X.base k y m ps F) (hr : Room k X.A) (tk : Takes X Wx) (he : PED X Wx o mo) (ha : PAD X Wx (a :: es) (aCons ma mr))
    (hn : ∀ ρ ds, aCons ma mr ρ = .ok ds → ds.length + 1 = ps.length)
    (hst : starEach (a :: es) X.env = (false, eval a X.env) :: starEach es X.env := by rfl) (hpl : (backTo pos (starEach es X.env)).any (·.1) = false := by rfl)
    (ht : eval (.Call (.Attribute o m apos) (a :: es) [] pos) X.env = (do
      let ov ← eval o X.env
      standAt apos.atName
      let (f, first) ← holding [ov] (getMethod ov m pl)
      callWith pos f first (backTo pos (starEach (a :: es) X.env)) (backToKw pos (keywordEach [] X.env))) := by rfl) :
    PED X Wx (.Call (.Attribute o m apos) (a :: es) [] pos) (eMeth tab m mo (aCons ma mr)) := by
  intro W σ H B ρ E Q h
  refine ⟨_, pe_methV (k := k) pe_wp hr (fun σ => passAt tk σ) pa_wp hst hpl ht, he W σ H B ρ E _ ((show Post ((mo ρ).bind _) _ _ from h).bind.mono (fun d _ hd v B1 H1 g1 r1 => ?_) fun x h => h)⟩
  cases d with
  | obj y ns ds =>
    cases el : tab.lookup y with
    | none =>
      simp only [el] at hd
      exact hd.elim
    | some F =>
      simp only [el] at hd
      by_cases hm : ns.contains m = true
      · rw [if_pos hm] at hd
        exact hd.elim
      · rw [if_neg hm] at hd
        obtain ⟨C, g, fd, m1, c, hM, hb, hF⟩ := hT y F el
        cases r1 with
        | obj hC hB hk r =>
          rename_i adr C' dx fs
          rw [m1] at hC
          cases hC
          refine ⟨_, _, _, _, g, fd, ps, _, rfl, g1.bh _ _ hB, fld_no hk hm, c, hM, hb, hF, ha W σ H1 B1 ρ (E.grow g1) _ (hd.bind.mono (fun as has hq vs B2 H2 g2 r2 => ?_) fun z hz cls B2 H2 e2 g2 => hz cls B2 H2 e2 (g1.trans g2))⟩
          exact ⟨B2, .obj y ns ds :: as, g2.bh, by rw [List.length_cons]; exact hn ρ as has, .cons (.obj m1 (g2.bb _ _ hB) hk (r.mono g2.bb)) r2,
            hq.mono (fun d _ q v B3 H3 g3 r3 => q v B3 H3 ((g1.trans g2).trans g3) r3) fun z q cls B3 H3 e3 g3 => q cls B3 H3 e3 ((g1.trans g2).trans g3)⟩
  | _ => exact hd.elim
theorem ped_meth0 {k : Nat} {ps : List Str} {tab : List (Str × (List D → R D))} {pl : Sem Bool} (hT : ∀ y F, tab.lookup y = some F → MthD X.prog X.w X.K X.mg X.base k y m ps F) (hr : Room k X.A) (tk : Takes X Wx) (he : PED X Wx o mo) (hn : ps.length = 1)
    (ht : eval (.Call (.Attribute o m apos) [] [] pos) X.env = (do
      let ov ← eval o X.env
      standAt apos.atName
      let (f, first) ← holding [ov] (getMethod ov m pl)
      callWith pos f first (backTo pos (starEach [] X.env)) (backToKw pos (keywordEach [] X.env))) := by rfl) :
    PED X Wx (.Call (.Attribute o m apos) [] [] pos) (eMeth tab m mo aNil) := by
  intro W σ H B ρ E Q h
  refine ⟨_, pe_methV0 (k := k) pe_wp hr (fun σ => passAt tk σ) ht, he W σ H B ρ E _ ((show Post ((mo ρ).bind _) _ _ from h).bind.mono (fun d _ hd v B1 H1 g1 r1 => ?_) fun x h => h)⟩
  cases d with
  | obj y ns ds =>
    cases el : tab.lookup y with
    | none =>
      simp only [el] at hd
      exact hd.elim
    | some F =>
      simp only [el] at hd
      by_cases hm : ns.contains m = true
      · rw [if_pos hm] at hd
        exact hd.elim
      · rw [if_neg hm] at hd
        obtain ⟨C, g, fd, m1, c, hM, hb, hF⟩ := hT y F el
        cases r1 with
        | obj hC hB hk r =>
          rename_i adr C' dx fs
          rw [m1] at hC
          cases hC
          refine ⟨_, _, _, _, g, fd, ps, _, rfl, g1.bh _ _ hB, fld_no hk hm, c, hM, hb, hF, ?_⟩
          exact ⟨B1, [.obj y ns ds], g1.bh, by rw [hn]; rfl, .cons (.obj m1 hB hk r) .nil,
            (show Post (F [.obj y ns ds]) _ _ from hd).mono (fun d _ q v B3 H3 g3 r3 => q v B3 H3 (g1.trans g3) r3) fun z q cls B3 H3 e3 g3 => q cls B3 H3 e3 (g1.trans g3)⟩
  | _ => exact hd.elim
theorem ped_make {k : Nat} {ps ns : List Str} (hM : MkD X.prog X.w X.K X.mg X.base k x ps ns) (hr : Room (k + 1) X.A) (tk : Takes X Wx) (hg : Gl X x) (ha : PAD X Wx (a :: es) (aCons ma mr))
    (hdb : (x == ("__debug__" : Str)) = false := by decide) (he : starEach (a :: es) X.env = (false, eval a X.env) :: starEach es X.env := by rfl) (hpl : (backTo pos (starEach es X.env)).any (·.1) = false := by rfl) :
    PED X Wx (.Call (.Name x p) (a :: es) [] pos) (eMk x ns (aCons ma mr)) := by
  obtain ⟨C, f, fd, hm, M, hb, hF⟩ := hM
  intro W σ H B ρ E Q h
  refine ⟨_, pe_makeS M hF hr hg hm hb (fun σ => passAt tk σ) pa_wp hdb he hpl, ?_⟩
  refine ha W σ H B ρ E _ ((show Post ((aCons ma mr ρ).bind _) _ _ from h).bind.mono (fun ds _ hd vs B1 H1 g1 r1 => ?_) fun x h => h)
  by_cases hl : ds.length = ns.length
  · rw [if_pos hl] at hd
    intro q dx nq ndx ne
    have hlv : vs.length = ns.length := by rw [r1.length]; exact hl
    refine ⟨q, dx, vs, rfl, hlv, upd_same, fun H2 h1 h2 => ⟨rfl, ?_⟩⟩
    have bq : B1 q = none := by
      cases z : B1 q with
      | none => rfl
      | some o => rw [g1.bh q o z] at nq; cases nq
    have bdx : B1 dx = none := by
      cases z : B1 dx with
      | none => rfl
      | some o => rw [g1.bh dx o z] at ndx; cases ndx
    have keep : ∀ r o, H1 r = some o → H2 r = some o := fun r o e => by
      have r1 : r ≠ q := fun z => by rw [z, nq] at e; cases e
      have r2 : r ≠ dx := fun z => by rw [z, ndx] at e; cases e
      rw [h2 r r1, upd_ne r1, upd_ne r2]
      exact e
    have bb : Same B1 (upd (upd B1 dx (.own q)) q (.ins C dx (ns.zip vs))) := fun r o e => by
      have r1 : r ≠ q := fun z => by rw [z, bq] at e; cases e
      have r2 : r ≠ dx := fun z => by rw [z, bdx] at e; cases e
      rw [upd_ne r1, upd_ne r2]
      exact e
    have g2 : Grow B1 H1 (upd (upd B1 dx (.own q)) q (.ins C dx (ns.zip vs))) H2 := by
      refine ⟨bb, keep, fun r o e => ?_, fun r o e _ z => ?_⟩
      · by_cases e1 : r = q
        · subst e1
          rw [upd_same] at e
          rw [h1]
          exact e
        · rw [upd_ne e1] at e
          by_cases e2 : r = dx
          · subst e2
            rw [upd_same] at e
            rw [h2 r e1, upd_ne e1, upd_same]
            exact e
          · rw [upd_ne e2] at e
            exact keep r o (g1.bh r o e)
      · have r1 : r ≠ q := fun z => by rw [z, nq] at e; cases e
        have r2 : r ≠ dx := fun z => by rw [z, ndx] at e; cases e
        rw [upd_ne r1, upd_ne r2]
        exact z
    exact (show okD X B H Q (.obj x ns ds) from hd) _ _ H2 (g1.trans g2) (.obj hm upd_same (zip_fst hlv) (by rw [zip_snd hlv]; exact r1.mono bb))
  · rw [if_neg hl] at hd
    exact hd.elim
end
/-! ### is, of bools -/
def dIsB : D → D → Option D
  | .bl a, .bl b => some (.bl (decide (a = b)))
  | _, _ => none
def dIsNotB : D → D → Option D
  | .bl a, .bl b => some (.bl (!decide (a = b)))
  | _, _ => none
theorem opd_isB {X : Cx} : OpD X (compareOp .Is) dIsB := by
  intro B H x y d e d' Q b rx ry g q
  unfold dIsB at g
  split at g
  · cases g
    rw [rx.bl_inv, ry.bl_inv]
    exact ⟨_, op_is_bl, _, _, rfl, rfl, q.at b (.bl _)⟩
  · cases g
theorem opd_isNotB {X : Cx} : OpD X (compareOp .IsNot) dIsNotB := by
  intro B H x y d e d' Q b rx ry g q
  unfold dIsNotB at g
  split at g
  · cases g
    rw [rx.bl_inv, ry.bl_inv]
    exact ⟨_, op_isnot_bl, _, _, rfl, rfl, q.at b (.bl _)⟩
  · cases g
/-! ### isinstance of such -/
def dIsO (Lc : List (Str × Str × Bool)) : List D → Option D
  | [.obj x _ _, .cls c] => (lookX Lc x c).map D.bl
  | _ => none
structure ObjC (K : PySem.W.Frag) (C : Addr) : Prop where
  cl : Cls K C
  ha : PySem.W.findIn K (.ref C) "__class__" = some (some (.builtin "object.__class__"))
  hn : PySem.W.specialIn K (.builtin "object.__class__") "__get__" = some (some (.builtin "getset_descriptor.__get__"))
  ht : PySem.W.takesIn K (.builtin "object.__class__") = some true
  hm : PySem.W.mroIn K C (.type "object") = some true
def IsOH (K : PySem.W.Frag) (mg : Str → Option Value) (Lc : List (Str × Str × Bool)) : Prop := ∀ t ∈ Lc, ∃ D C, mg t.1 = some (.ref D) ∧ mg t.2.1 = some (.ref C) ∧ PySem.W.kitOne K (.ref D) (.ref C) = some t.2.2 ∧ ObjC K D
theorem calld_isO {X : Cx} {Lc} (F : IsOH X.K X.mg Lc) : CallD X (.builtin "isinstance") (dIsO Lc) := by
  intro B H vs ds d' Q b r g q
  unfold dIsO at g
  split at g
  · rename_i x ns fs c
    obtain ⟨k, e, rfl⟩ := Option.map_eq_some_iff.mp g
    obtain ⟨v, u, rfl, h1, h2⟩ := r.two_inv
    unfold lookX at e
    obtain ⟨t, ht, e2⟩ := Option.map_eq_some_iff.mp e
    have hp := List.find?_some ht
    rw [Bool.and_eq_true] at hp
    obtain ⟨D', C, m1, m2, k1, o⟩ := F t (List.mem_of_find?_eq_some ht)
    rw [beq_iff_eq.mp hp.1] at m1
    rw [beq_iff_eq.mp hp.2] at m2
    rw [e2] at k1
    cases h1 with
    | obj hC hB hk rr =>
      rw [m1] at hC
      cases hC
      cases h2 with
      | cls hm =>
        rw [m2] at hm
        cases hm
        exact ⟨_, call_isi, _, _, _, _, k, rfl, .own C, .base (.ins (b _ _ hB) o.cl o.ha o.hn o.ht o.hm), k1, q.at b (.bl _)⟩
  · cases g
/-! ### what gen.py's ends take -/
theorem put_new {f : Str} {v : V} : ∀ {fs : List (Str × V)}, (∀ e ∈ fs, e.1 ≠ f) → putF f v fs = fs ++ [(f, v)]
  | [], _ => rfl
  | (g, x) :: r, h => by
    show (if g = f then (g, v) :: r else (g, x) :: putF f v r) = _
    rw [if_neg (h (g, x) List.mem_cons_self), put_new fun e he => h e (List.mem_cons_of_mem _ he)]
    rfl
theorem put_zip {ns : List Str} {as : List V} {f : Str} {v : V} (hl : as.length = ns.length) (hn : ns.contains f = false) : putF f v (ns.zip as) = (ns ++ [f]).zip (as ++ [v]) := by
  rw [put_new fun e he => ?_, List.zip_append hl.symm]
  · rfl
  · intro z
    have : e.1 ∈ ns := by
      have := List.mem_map_of_mem (f := Prod.fst) he
      rw [List.map_fst_zip (by omega)] at this
      exact this
    rw [z] at this
    rw [List.contains_iff_mem.mpr this] at hn
    cases hn
theorem tab_nil {Pr : Str → (List D → R D) → Prop} : ∀ y F, ([] : List (Str × (List D → R D))).lookup y = some F → Pr y F := fun _ _ h => nomatch h
theorem tab_cons {Pr : Str → (List D → R D) → Prop} {x : Str} {G : List D → R D} {tab : List (Str × (List D → R D))} (h0 : Pr x G) (h : ∀ y F, tab.lookup y = some F → Pr y F) : ∀ y F, ((x, G) :: tab).lookup y = some F → Pr y F := by
  intro y F e
  change (match y == x with | true => some G | false => tab.lookup y) = some F at e
  cases z : y == x with
  | true =>
    rw [z] at e
    cases e
    rw [beq_iff_eq.mp z]
    exact h0
  | false =>
    rw [z] at e
    exact h y F e
theorem cs_nil {Pr : Str → Prop} : ∀ y, ([] : List Str).contains y = true → Pr y := fun _ h => nomatch h
theorem cs_cons {Pr : Str → Prop} {x : Str} {cs : List Str} (h0 : Pr x) (h : ∀ y, cs.contains y = true → Pr y) : ∀ y, (x :: cs).contains y = true → Pr y := by
  intro y e
  rw [List.contains_cons, Bool.or_eq_true] at e
  rcases e with e | e
  · rw [beq_iff_eq.mp e]
    exact h0
  · exact h y e
theorem mth_mono {P : Program} {w : World} {K : PySem.W.Frag} {mg : Str → Option Value} {base : Heap} {j k : Nat} {x m : Str} {ps : List Str} {F : List D → R D} (h : MthD P w K mg base j x m ps F) (l : j ≤ k) : MthD P w K mg base k x m ps F := by
  obtain ⟨C, f, fd, h1, h2, h3, h4, h5⟩ := h
  exact ⟨C, f, fd, h1, h2, h3, h4, h5.mono l⟩
end GD

/-! GD, part o: list.index of ints -/
namespace GD
open PySem PySem.Spec PyProof.Rows L2
def dIdx (ds : List D) : D → Option D
  | .int k => (intsOf ds).bind fun ns => (ns.findIdx? (· == k)).map fun j => .int (j : Nat)
  | _ => none
/-- where an int stands first in a list of ints -/
def eIdx (mo me : EM) : EM := fun ρ => (mo ρ).bind fun d => match d with
  | .lst ds => (me ρ).bind fun k => R.ofO (dIdx ds k)
  | _ => .st
section
variable {K : PySem.W.Frag} {mg : Str → Option Value} {B : Hp}
theorem ints_vals : ∀ {vs : List V} {ds : List D} {ns : List Int}, IsL K mg B vs ds → intsOf ds = some ns → vs = ns.map V.int
  | _, _, ns, .nil, h => by
    cases h
    rfl
  | v :: vs, d :: ds, ns, .cons hv r, h => by
    unfold intsOf at h
    cases d with
    | int i =>
      simp only at h
      cases q : intsOf ds with
      | none => rw [q] at h; cases h
      | some ms =>
        rw [q] at h
        cases h
        rw [hv.int_inv, ints_vals r q]
        rfl
    | _ => cases h
theorem flat_ints (ns : List Int) : (ns.map V.int).all flatV = true := by
  rw [List.all_map]
  exact List.all_eq_true.mpr fun _ _ => rfl
end
section
variable {X : Cx} {Wx : WX} {o e : Expr} {pos apos : Pos} {mo me : EM}
theorem ped_index (ho : PED X Wx o mo) (he : PED X Wx e me)
    (hbase : attributeBase o "index" X.env (eval o X.env) = eval o X.env := by rfl)
    (hfew : ((backTo pos (starEach [e] X.env)).all (fun x => !x.1) && (backToKw pos (keywordEach [] X.env)).all (fun x => x.1.isSome)
      && decide (([e] : List Expr).length + ([] : List Keyword).length + (if ([] : List Keyword).isEmpty then 0 else 1) < 30)) = true := by rfl)
    (hline : (apos.endLine == pos.line) = true := by rfl) (hs : starEach [e] X.env = (false, eval e X.env) :: starEach [] X.env := by rfl) (hpl : (backTo pos (starEach [] X.env)).any (·.1) = false := by rfl) :
    PED X Wx (.Call (.Attribute o "index" apos) [e] [] pos) (eIdx mo me) := by
  intro W σ H B ρ E Q h
  refine ⟨_, pe_bm F.plainAttrs_list F.slot_list_index F.type_list_index mt_index pe_wp pa_wp hbase hfew hline hs hpl, ?_⟩
  refine ho W σ H B ρ E _ ((show Post ((mo ρ).bind _) _ _ from h).bind.mono (fun d _ hd v B1 H1 g1 r1 => ?_) fun x h => h)
  cases d with
  | lst ds =>
    obtain ⟨a, xs, rfl, h1, rl⟩ := r1.lst_inv
    refine ⟨tyL (g1.bh _ _ h1), ?_⟩
    refine (pad_cons he pad_nil hs) W σ H1 B1 ρ (E.grow g1) _ ?_
    have hd' : Post ((me ρ).bind fun k => R.ofO (dIdx ds k)) _ _ := hd
    unfold aCons aNil
    refine (?_ : Post ((me ρ).bind fun u => (R.ok ([] : List GD.D)).bind fun xs => .ok (u :: xs)) _ _)
    cases em : me ρ with
    | ok u =>
      rw [em] at hd'
      intro vs B' H' g r
      cases r with
      | cons r1' r =>
        cases r
        obtain ⟨f, e1, q⟩ := Post.ofO hd'
        unfold dIdx at e1
        split at e1
        · rename_i k
          obtain ⟨ns, hi, e2⟩ := Option.bind_eq_some_iff.mp e1
          obtain ⟨j, hj, rfl⟩ := Option.map_eq_some_iff.mp e2
          obtain ⟨hlt, hp, hno⟩ := List.findIdx?_eq_some_iff_getElem.mp hj
          have hxs := ints_vals rl hi
          have hH := g.hh
          have hk := r1'.int_inv
          subst hk
          refine ⟨a, xs, .int k, j, .int ns[j], rfl, rfl, .inl (.inl (g.hh _ _ (g1.bh _ _ h1))), rfl, ?_, ?_, ?_, ?_, ?_⟩
          · rw [hxs]; exact flat_ints ns
          · rw [hxs, List.getElem?_map, List.getElem?_eq_getElem hlt]; rfl
          · exact hp
          · intro m z' hm hz
            rw [hxs, List.getElem?_map] at hz
            obtain ⟨n, hn, rfl⟩ := Option.map_eq_some_iff.mp hz
            obtain ⟨hl, rfl⟩ := List.getElem?_eq_some_iff.mp hn
            have := hno m hm
            exact Bool.eq_false_iff.mpr fun c => this c
          · exact q _ _ _ (g1.trans g) (by first | trivial | exact .int | constructor)
        · cases e1
    | er z => rw [em] at hd'; exact erD.later hd' g1
    | st => rw [em] at hd'; exact hd'
  | _ => exact hd.elim
end
end GD

/-! GD, part p: texts. -/
namespace GD
open PySem PySem.Spec PyProof.Rows L2
/-- the signs of a text, one by one -/
def sgn (c : Nat) : D := .str ⟨#[c]⟩
def asS : D → Option (List D)
  | .str x => some (x.cps.toList.map sgn)
  | _ => none
def dStr : List D → Option D
  | [.int i] => if i.natAbs.log2 < 1920 then some (.str (toString i)) else none
  | _ => none
def dOrd : List D → Option D
  | [.str x] => if x.length = 1 then some (.int (x.cps.getD 0 0 : Nat)) else none
  | _ => none
def dIntS : List D → Option D
  | [.str a] => if a.length ≤ 640 then (PySem.intText? a).map D.int else none
  | _ => none
def dMulS : D → D → Option D
  | .str x, .int n => if x.length ≤ 1000 ∧ n ≤ 1000 ∧ -1000 ≤ n then some (.str (Txt.mul x n)) else none
  | _, _ => none
def aSplit (mo me : EM) : AM := fun ρ => (mo ρ).bind fun d => match d with
  | .str a => (me ρ).bind fun e => match e with
    | .str b => if (b.length == 0) = false ∧ a.length + 2 ≤ sizeLine then .ok ((Txt.split a b).map D.str) else .st
    | _ => .st
  | _ => .st
def strsOf : List D → Option (List Str)
  | [] => some []
  | .str i :: ds => (strsOf ds).map (i :: ·)
  | _ => none
def dJoin (a : Str) : D → Option D
  | .lst ds => (strsOf ds).bind fun ys => if (ys.map (·.length)).sum + ys.length * a.length ≤ 16777216 then some (.str (Txt.join a ys)) else none
  | _ => none
def eJoin (mo me : EM) : EM := fun ρ => (mo ρ).bind fun d => match d with
  | .str a => (me ρ).bind fun e => R.ofO (dJoin a e)
  | _ => .st
section
variable {X : Cx} {K : PySem.W.Frag} {mg : Str → Option Value} {B : Hp}
theorem IsL.strs_inv : ∀ {ds : List D} {ns : List Str} {xs : List V}, strsOf ds = some ns → IsL K mg B xs ds → xs = ns.map V.str
  | [], ns, xs, e, h => by
    cases h
    simp [strsOf] at e
    subst e
    rfl
  | d :: ds, ns, xs, e, h => by
    cases h with
    | cons h r =>
      cases d with
      | str i =>
        simp only [strsOf, Option.map_eq_some_iff] at e
        obtain ⟨ms, e1, rfl⟩ := e
        rw [h.str_inv, IsL.strs_inv e1 r]
        rfl
      | _ => simp [strsOf] at e
theorem IsL.strs : ∀ (ns : List Str), IsL K mg B (ns.map V.str) (ns.map D.str)
  | [] => .nil
  | n :: ns => .cons (.str n) (IsL.strs ns)
theorem calld_str : CallD X (.type "str") dStr := by
  intro B H vs ds d' Q b r g q
  unfold dStr at g
  split at g
  · obtain ⟨hl, rfl⟩ := some_ite g
    obtain ⟨v, rfl, h⟩ := r.one_inv
    rw [h.int_inv]
    exact ⟨_, call_str_int, _, rfl, hl, q.at b (.str _)⟩
  · cases g
theorem calld_ord : CallD X (.builtin "ord") dOrd := by
  intro B H vs ds d' Q b r g q
  unfold dOrd at g
  split at g
  · obtain ⟨hl, rfl⟩ := some_ite g
    obtain ⟨v, rfl, h⟩ := r.one_inv
    rw [h.str_inv]
    exact ⟨_, call_ord, _, rfl, hl, q.at b (.int _)⟩
  · cases g
theorem calld_intS : CallD X (.type "int") dIntS := by
  intro B H vs ds d' Q b r g q
  unfold dIntS at g
  split at g
  · split at g
    · rename_i hl
      obtain ⟨n, e, rfl⟩ := Option.map_eq_some_iff.mp g
      obtain ⟨v, rfl, h⟩ := r.one_inv
      rw [h.str_inv]
      exact ⟨_, call_int_str, _, _, rfl, e, hl, q.at b (.int _)⟩
    · cases g
  · cases g
theorem op_mulS : OpR X (binaryOp .Mult) (fun x y H Q => ∃ i j, x = .str i ∧ y = .int j ∧ MulOk i j ∧ Q (.str (Txt.mul i j)) H) := by
  intro pins s σ H x y v u Q I rx ry h
  obtain ⟨i, j, rfl, rfl, hz, q⟩ := h
  obtain ⟨t, rfl⟩ := rx
  obtain ⟨t', rfl⟩ := ry
  exact SB.mul hz (fun t' tk => ⟨.str (Txt.mul i j), H, I.tok _, ⟨_, rfl⟩, q⟩)
theorem opd_mulS : OpD X (binaryOp .Mult) dMulS := by
  intro B H x y d e d' Q b rx ry g q
  unfold dMulS at g
  split at g
  · obtain ⟨hc, rfl⟩ := some_ite g
    rw [rx.str_inv, ry.int_inv]
    exact ⟨_, op_mulS, _, _, rfl, rfl, mulOk_of 1000 1000 hc.1 hc.2.1 (by omega) (by decide) (by decide), q.at b (.str _)⟩
  · cases g
end
section
variable {X : Cx} {Wx : WX} {o e : Expr} {pos apos : Pos} {mo me m : EM} {sb : SM}
theorem pfd_split (ho : PED X Wx o mo) (he : PED X Wx e me)
    (hs : starEach [e] X.env = [(false, eval e X.env)] := by rfl) (hbase : attributeBase o "split" X.env (eval o X.env) = eval o X.env := by rfl) (hline : (apos.endLine == pos.line) = true := by rfl) :
    PFD X Wx (.Call (.Attribute o "split" apos) [e] [] pos) (aSplit mo me) := by
  intro W σ H B ρ E Q h
  refine ⟨_, pe_split pe_wp pe_wp hs hbase hline, ?_⟩
  refine ho W σ H B ρ E _ ((show Post ((mo ρ).bind _) _ _ from h).bind.mono (fun d _ hd v B1 H1 g1 r1 => ?_) fun x h => h)
  cases d with
  | str a =>
    refine ⟨⟨a, r1.str_inv⟩, ?_⟩
    refine he W σ H1 B1 ρ (E.grow g1) _ ((show Post ((me ρ).bind _) _ _ from hd).bind.mono (fun d2 _ hd2 v2 B2 H2 g2 r2 => ?_) fun x h => h.later g1)
    cases d2 with
    | str b =>
      have q0 : Post (if (b.length == 0) = false ∧ a.length + 2 ≤ sizeLine then R.ok ((Txt.split a b).map D.str) else .st) (okF X B H Q) (erD X Wx σ B H) := hd2
      by_cases hc : (b.length == 0) = false ∧ a.length + 2 ≤ sizeLine
      · rw [if_pos hc] at q0
        refine ⟨a, b, r1.str_inv, by rw [r2.str_inv], hc.1, hc.2, fun p hp => ?_⟩
        exact okF.nl ((((show okF X B H Q _ from q0).later g1).later g2)) g2.bh hp (IsL.strs _)
      · rw [if_neg hc] at q0
        exact q0.elim
    | _ => exact hd2.elim
  | _ => exact hd.elim
theorem ped_join (ho : PED X Wx o mo) (he : PED X Wx e me)
    (hs : starEach [e] X.env = [(false, eval e X.env)] := by rfl) (hbase : attributeBase o "join" X.env (eval o X.env) = eval o X.env := by rfl) (hline : (apos.endLine == pos.line) = true := by rfl) :
    PED X Wx (.Call (.Attribute o "join" apos) [e] [] pos) (eJoin mo me) := by
  intro W σ H B ρ E Q h
  refine ⟨_, pe_join pe_wp pe_wp hs hbase hline, ?_⟩
  refine ho W σ H B ρ E _ ((show Post ((mo ρ).bind _) _ _ from h).bind.mono (fun d _ hd v B1 H1 g1 r1 => ?_) fun x h => h)
  cases d with
  | str a =>
    refine ⟨⟨a, r1.str_inv⟩, ?_⟩
    refine he W σ H1 B1 ρ (E.grow g1) _ ((show Post ((me ρ).bind _) _ _ from hd).bind.mono (fun d2 _ hd2 v2 B2 H2 g2 r2 => ?_) fun x h => h.later g1)
    obtain ⟨d', e1, q⟩ := Post.ofO hd2
    unfold dJoin at e1
    split at e1
    · obtain ⟨ys, e2, e3⟩ := Option.bind_eq_some_iff.mp e1
      obtain ⟨hz, rfl⟩ := some_ite e3
      obtain ⟨p, xs, rfl, k1, l1⟩ := r2.lst_inv
      have ex := IsL.strs_inv e2 l1
      refine ⟨a, p, ys, r1.str_inv, rfl, .inl (by rw [← ex]; exact seqL_of g2.bh k1), hz, ?_⟩
      exact ((q.later g1).later g2).at g2.bh (.str _)
    · cases e1
  | _ => exact hd.elim
theorem psd_forS {tgt : Expr} {body : List Stmt} {g : GD.D → En → Option En} (hp : PassesOwn (model X.prog X.w) X.A X.env X.xe) (hc : X.calm = true) (h : PED X Wx e m) (hg : PGD X tgt g) (hb : PBD X Wx body sb) (hfs : ∀ x, foldedSetIterable e X.env x = pure x := by intro _; rfl) :
    PSD X Wx (.For tgt e body [] pos) (sFor g asS m sb) := fun W σ H B ρ E D q =>
  ⟨_, ps_for (hs := hfs) hp hc (pi_str pe_wp) pg_wp pb_wp, by
    refine h W σ H B ρ E _ ((PostS.ofR q E).bind.mono (fun d _ hd v B1 H1 g1 rv => ?_) fun _ z => z)
    obtain ⟨ds, ed, q1⟩ := hd.ofO
    have E1 := E.grow g1
    have q2 := PostS.back E1.gr q1
    cases d with
    | str x =>
      cases ed
      refine ⟨x, rv.str_inv, for_it (walk_str (z := x)) (fun i σ' H' => ∃ B' ρ', EnvOk X.K X.mg ⟨B1, W.H⟩ B' H' σ' ρ' ∧ PostS X ⟨B1, W.H⟩ Wx (loop g sb ((x.cps.toList.map sgn).drop i) ρ') D)
        ⟨B1, ρ, E1.here, q2⟩ (fun _ _ _ _ _ => trivial) (fun i v σ' H' H2 hi ⟨B', ρ', E', q'⟩ ⟨e1, c, hc1, e2⟩ => ?_) (fun σ' H' ⟨B', ρ', E', q'⟩ => ?_)⟩
      · subst e1 e2
        have hd' : (x.cps.toList.map sgn)[i]? = some (sgn c) := by rw [List.getElem?_map, Array.getElem?_toList, hc1]; rfl
        rw [drop_get hd'] at q'
        exact loop_turn hg hb E' (.str _) q' fun σ2 B2 H2 ρ2 E2 z => ⟨B2, ρ2, E2, z⟩
      · rw [show x.cps.size = (x.cps.toList.map sgn).length by simp, List.drop_length] at q'
        exact (show PostS X ⟨B1, W.H⟩ Wx (.nx ρ') D from q') σ' B' H' E'
    | _ => cases ed⟩
end
section
variable {X : Cx} {Wx : WX} {elt tg iter : Expr} {ifs : List Expr} {scope : Scope} {own : List (Str × Nat)} {ma m : EM} {t : TM} {g : D → En → Option En}
theorem lcd_S (hi : PED X Wx iter ma) (ok : BlkOk X.N X.env.scope scope own)
    (hg : ∀ (s : Shared) (H : Hp) (C : Addr) (cl : List (Str × Addr)) (fp : List Addr), PGV (X.blk s H scope (compEnvC scope cl C X.env) fp) tg (own.map (·.2)) g)
    (ht : ∀ (s : Shared) (H : Hp) (C : Addr) (cl : List (Str × Addr)) (fp : List Addr), PTSD (X.blk s H scope (compEnvC scope cl C X.env) fp) ifs t)
    (he : ∀ (s : Shared) (H : Hp) (C : Addr) (cl : List (Str × Addr)) (fp : List Addr), PED (X.blk s H scope (compEnvC scope cl C X.env) fp) W0 elt m)
    (hs : ∀ x, foldedSetIterable iter X.env x = pure x := by intro _; rfl) : LCD X Wx own elt tg iter ifs scope (aLc asS (own.map (·.2)) g t ma m) :=
  ⟨ok, hs, iStr (wpE X iter), blkG X scope tg, blkT X scope ifs, blkE X scope elt, pi_str pe_wp, (fun s H C cl fp => ⟨fun pins s' σ' H' v u Q I r q => pg_wp.run pins s' σ' H' v u Q I r (q s H C cl fp)⟩), (fun s H C cl fp => ⟨fun pins s' σ' H' Q I q => pts_wp.run pins s' σ' H' Q I (q s H C cl fp)⟩),
      (fun s H C cl fp => ⟨fun pins s' σ' H' Q I q => pe_wp.run pins s' σ' H' Q I (q s H C cl fp)⟩), fun W σ H B ρ E Q h => by
    refine hi W σ H B ρ E _ ((show Post ((ma ρ).bind fun d => (R.ofO (asS d)).bind fun ds => if ds.length ≤ sizeLine then lcGo g t m ds (wipeE (own.map (·.2)) ρ) else .st) _ _ from h).bind.mono (fun d _ hd v B1 H1 g1 rv => ?_) fun _ z => z)
    obtain ⟨ds, ed, q1⟩ := hd.bind.ofO
    obtain ⟨hl, q2⟩ := post_lc q1
    cases d with
    | str x =>
      cases ed
      refine ⟨x, rv.str_inv, fun D' hD => ?_⟩
      exact lc_it (walk_str (z := x)) (LcPv X g t m (own.map (·.2)) B1 H1 ρ (okF X B H Q) (x.cps.toList.map sgn) D') (lc_start g1.bh hD q2) (fun _ _ _ _ => trivial)
        (fun i v H' H2 hi p ⟨e1, c, hc1, e2⟩ => by
          subst e1 e2
          exact lc_turn ⟨hg, ht, he⟩ (E.grow g1) hD (d := sgn c) (by rw [List.getElem?_map, Array.getElem?_toList, hc1]; rfl) hl p fun B' s => .str _)
        (fun H' p => lc_end (W := W) g1 hD (by simp) p)
    | _ => cases ed⟩
end
/-- a name of the text that stands for a text -/
structure KCS (mg : Str → Option Value) (x s : Str) : Prop where
  h : ∃ t : Tok, mg x = some (.str s t)
theorem KCS.ped {X : Cx} {Wx : WX} {x s : Str} {pos : Pos} (c : KCS X.mg x s) (hg : Gl X x) (hdb : (x == ("__debug__" : Str)) = false := by decide) : PED X Wx (.Name x pos) (eC (.str s)) := by
  obtain ⟨t, h1⟩ := c.h
  exact ped_glob (v := .str s) hg h1 ⟨t, rfl⟩ (fun _ => .str _) hdb
theorem bb_ord : bootBuiltins "ord" = some (.builtin "ord") := by decide +kernel
end GD

namespace Law
open PySem PySem.Spec PyProof.Rows L2 GD
def b_is_whole : SM := sRet (eAnd (eB dIsi (aCons (eVar 0) (aCons (eC (.ty "int")) (aNil)))) (eNot (eB dIsi (aCons (eVar 0) (aCons (eC (.ty "bool")) (aNil))))))
def F_is_whole : List D → R D := runF 1 b_is_whole
def l1_divisor : SM := sPar 0 1 (eVar 1) (e2 dMod (eVar 0) (eVar 1))
def b_divisor : SM := sSeq (sAsg 0 (eB dAbs (aCons (eVar 0) (aNil)))) (sSeq (sAsg 1 (eB dAbs (aCons (eVar 1) (aNil)))) (sSeq (sWhile (fuelI 1) (mB (e2 dGt (eVar 1) (eC (.int 0)))) (l1_divisor)) (sRet (eVar 0))))
def F_divisor : List D → R D := runF 2 b_divisor
def l1__law_cell : SM := sAsg 2 (e2 dAdd (e2 dMul (eVar 2) (eC (.int 1009))) (e2 dMod (eVar 3) (eC (.int 1000003))))
def b__law_cell : SM := sSeq (sIf (mB (e2 dLt (eVar 1) (eB dLen (aCons (eVar 0) (aNil))))) (sRet (e2 dMod (e2 dAt (eVar 0) (eVar 1)) (eC (.int 1000000000000000000000000000000000000000000000000000000000000)))) (sNil)) (sSeq (sAsg 2 (e2 dAdd (e2 dMul (eVar 1) (eC (.int 7907))) (eC (.int 3571)))) (sSeq (sFor (gNm 3) asL (eL (aCut (eVar 0) (oNone) (oSome (eC (.int 3))))) (l1__law_cell)) (sSeq (sAsg 2 (e2 dMod (eVar 2) (eC (.int 2147483647)))) (sRet (e2 dMod (e2 dMul (eVar 2) (eVar 2)) (eC (.int 2147483629)))))))
def F__law_cell : List D → R D := runF 4 b__law_cell
def b__law_whole : SM := sRet (eAnd (eB dIsi (aCons (eVar 0) (aCons (eC (.ty "int")) (aNil)))) (eNot (eB dIsi (aCons (eVar 0) (aCons (eC (.ty "bool")) (aNil))))))
def F__law_whole : List D → R D := runF 1 b__law_whole
def l1__law_common : SM := sPar 0 1 (e2 dMod (eVar 1) (eVar 0)) (eVar 0)
def b__law_common : SM := sSeq (sAsg 0 (eB dAbs (aCons (eVar 0) (aNil)))) (sSeq (sAsg 1 (eB dAbs (aCons (eVar 1) (aNil)))) (sSeq (sWhile (fuelI 0) (mB (e2 dGt (eVar 0) (eC (.int 0)))) (l1__law_common)) (sRet (eVar 1))))
def F__law_common : List D → R D := runF 2 b__law_common
def b__law_number : SM := sSeq (sIf (mB (e2 dEq (e2 dMod (eVar 0) (eC (.int 3))) (eC (.int 0)))) (sRet (e2 dSub (e2 dMod (e2 dDiv (eVar 0) (eC (.int 3))) (eC (.int 9))) (eC (.int 4)))) (sNil)) (sRet (e2 dSub (e2 dMod (e2 dDiv (eVar 0) (eC (.int 3))) (eC (.int 20000000000000000000000000000000000000000000000000000000001))) (eC (.int 10000000000000000000000000000000000000000000000000000000000))))
def F__law_number : List D → R D := runF 1 b__law_number
def b__law_middling : SM := sRet (e2 dSub (e2 dMod (eVar 0) (eC (.int 2000000000000000001))) (eC (.int 1000000000000000000)))
def F__law_middling : List D → R D := runF 1 b__law_middling
def b__law_two_right : SM := sSeq (sAsg 2 (eF F_divisor (aCons (eVar 0) (aCons (eVar 1) (aNil))))) (sSeq (sIf (mOr (mNot (mB (eF F__law_whole (aCons (eVar 2) (aNil))))) (mOr (mB (e2 dLt (eVar 2) (eC (.int 0)))) (mB (e2 dNe (eVar 2) (eF F__law_common (aCons (eVar 0) (aCons (eVar 1) (aNil)))))))) (sRet (eC (.bl false))) (sNil)) (sSeq (sIf (mB (e2 dEq (eVar 2) (eC (.int 0)))) (sRet (eAnd (e2 dEq (eVar 0) (eC (.int 0))) (e2 dEq (eVar 1) (eC (.int 0))))) (sNil)) (sRet (eAnd (e2 dEq (e2 dMod (eVar 0) (eVar 2)) (eC (.int 0))) (e2 dEq (e2 dMod (eVar 1) (eVar 2)) (eC (.int 0)))))))
def F__law_two_right : List D → R D := runF 3 b__law_two_right
def b__law_kinds_right : SM := sSeq (sAsg 1 (eL (aLst (aCons (eC (.bl true)) (aCons (eC (.bl false)) (aCons (eC .non) (aCons (eC (.str "")) (aCons (eC (.str "3")) (aCons (eTup (aCons (eC (.int 3)) (aNil))) (aCons (eL (aLst (aCons (eC (.int 3)) (aNil)))) (aCons (eC (.dct [] [])) (aCons (eDct1 (eC (.int 3)) (eC (.int 3))) (aCons (eTup (aNil)) (aNil)))))))))))))) (sSeq (sAsg 2 (eF F_is_whole (aCons (e2 dAt (eVar 1) (e2 dMod (eVar 0) (eC (.int 10)))) (aNil)))) (sSeq (sIf (mOr (mNot (mB (eB dIsi (aCons (eVar 2) (aCons (eC (.ty "bool")) (aNil)))))) (mB (eVar 2))) (sRet (eC (.bl false))) (sNil)) (sSeq (sAsg 2 (eF F_is_whole (aCons (e2 dSub (e2 dDiv (eVar 0) (eC (.int 10))) (eC (.int 10000000000000000000000000000000000000000000000000000000000))) (aNil)))) (sRet (eAnd (eB dIsi (aCons (eVar 2) (aCons (eC (.ty "bool")) (aNil)))) (eVar 2))))))
def F__law_kinds_right : List D → R D := runF 3 b__law_kinds_right
def b_portion : SM := sSeq (sIf (mB (e2 dEq (eVar 1) (eC (.int 0)))) (sRaise "NoNumber") (sNil)) (sSeq (sIf (mB (e2 dLt (eVar 1) (eC (.int 0)))) (sSeq (sAsg 0 (e1 dNeg (eVar 0))) (sAsg 1 (e1 dNeg (eVar 1)))) (sNil)) (sSeq (sAsg 2 (eF F_divisor (aCons (eVar 0) (aCons (eVar 1) (aNil))))) (sRet (eTup (aCons (e2 dDiv (eVar 0) (eVar 2)) (aCons (e2 dDiv (eVar 1) (eVar 2)) (aNil)))))))
def F_portion : List D → R D := runF 3 b_portion
def b_plus : SM := sRet (eF F_portion (aCons (e2 dAdd (e2 dMul (e2 dAt (eVar 0) (eC (.int 0))) (e2 dAt (eVar 1) (eC (.int 1)))) (e2 dMul (e2 dAt (eVar 1) (eC (.int 0))) (e2 dAt (eVar 0) (eC (.int 1))))) (aCons (e2 dMul (e2 dAt (eVar 0) (eC (.int 1))) (e2 dAt (eVar 1) (eC (.int 1)))) (aNil))))
def F_plus : List D → R D := runF 2 b_plus
def b_minus : SM := sRet (eF F_portion (aCons (e2 dSub (e2 dMul (e2 dAt (eVar 0) (eC (.int 0))) (e2 dAt (eVar 1) (eC (.int 1)))) (e2 dMul (e2 dAt (eVar 1) (eC (.int 0))) (e2 dAt (eVar 0) (eC (.int 1))))) (aCons (e2 dMul (e2 dAt (eVar 0) (eC (.int 1))) (e2 dAt (eVar 1) (eC (.int 1)))) (aNil))))
def F_minus : List D → R D := runF 2 b_minus
def b_times : SM := sRet (eF F_portion (aCons (e2 dMul (e2 dAt (eVar 0) (eC (.int 0))) (e2 dAt (eVar 1) (eC (.int 0)))) (aCons (e2 dMul (e2 dAt (eVar 0) (eC (.int 1))) (e2 dAt (eVar 1) (eC (.int 1)))) (aNil))))
def F_times : List D → R D := runF 2 b_times
def b_under : SM := sRet (e2 dLt (e2 dMul (e2 dAt (eVar 0) (eC (.int 0))) (e2 dAt (eVar 1) (eC (.int 1)))) (e2 dMul (e2 dAt (eVar 1) (eC (.int 0))) (e2 dAt (eVar 0) (eC (.int 1)))))
def F_under : List D → R D := runF 2 b_under
def b__law_fraction : SM := sSeq (sAsg 2 (eF F__law_number (aCons (eVar 0) (aNil)))) (sSeq (sAsg 3 (e2 dAdd (eC (.int 1)) (e2 dMod (e2 dDiv (eVar 1) (eC (.int 2))) (eC (.int 9))))) (sSeq (sIf (mB (e2 dEq (e2 dMod (eVar 1) (eC (.int 2))) (eC (.int 1)))) (sAsg 3 (e2 dAdd (eC (.int 1)) (e2 dMod (e2 dDiv (eVar 1) (eC (.int 2))) (eC (.int 10000000000000000000000000000000000000000000000000000000000))))) (sNil)) (sSeq (sAsg 4 (eF F__law_common (aCons (eVar 2) (aCons (eVar 3) (aNil))))) (sRet (eTup (aCons (e2 dDiv (eVar 2) (eVar 4)) (aCons (e2 dDiv (eVar 3) (eVar 4)) (aNil))))))))
def F__law_fraction : List D → R D := runF 5 b__law_fraction
def b__law_worth : SM := sSeq (sIf (mOr (mNot (mB (eB dIsi (aCons (eVar 0) (aCons (eC (.ty "tuple")) (aNil)))))) (mOr (mB (e2 dNe (eB dLen (aCons (eVar 0) (aNil))) (eC (.int 2)))) (mOr (mNot (mB (eF F__law_whole (aCons (e2 dAt (eVar 0) (eC (.int 0))) (aNil))))) (mNot (mB (eF F__law_whole (aCons (e2 dAt (eVar 0) (eC (.int 1))) (aNil)))))))) (sRet (eC (.bl false))) (sNil)) (sSeq (sIf (mOr (mB (e2 dLt (e2 dAt (eVar 0) (eC (.int 1))) (eC (.int 1)))) (mB (e2 dNe (eF F__law_common (aCons (e2 dAt (eVar 0) (eC (.int 0))) (aCons (e2 dAt (eVar 0) (eC (.int 1))) (aNil)))) (eC (.int 1))))) (sRet (eC (.bl false))) (sNil)) (sRet (e2 dEq (e2 dMul (e2 dAt (eVar 0) (eC (.int 0))) (eVar 2)) (e2 dMul (eVar 1) (e2 dAt (eVar 0) (eC (.int 1)))))))
def F__law_worth : List D → R D := runF 3 b__law_worth
def b__law_right : SM := sSeq (sAsg 2 (e2 dMul (e2 dAt (eVar 0) (eC (.int 1))) (e2 dAt (eVar 1) (eC (.int 1))))) (sSeq (sAsg 3 (e2 dMul (e2 dAt (eVar 0) (eC (.int 0))) (e2 dAt (eVar 1) (eC (.int 1))))) (sSeq (sAsg 4 (e2 dMul (e2 dAt (eVar 1) (eC (.int 0))) (e2 dAt (eVar 0) (eC (.int 1))))) (sSeq (sIf (mNot (mB (eF F__law_worth (aCons (eF F_plus (aCons (eVar 0) (aCons (eVar 1) (aNil)))) (aCons (e2 dAdd (eVar 3) (eVar 4)) (aCons (eVar 2) (aNil))))))) (sRet (eC (.bl false))) (sNil)) (sSeq (sIf (mNot (mB (eF F__law_worth (aCons (eF F_minus (aCons (eVar 0) (aCons (eVar 1) (aNil)))) (aCons (e2 dSub (eVar 3) (eVar 4)) (aCons (eVar 2) (aNil))))))) (sRet (eC (.bl false))) (sNil)) (sSeq (sIf (mNot (mB (eF F__law_worth (aCons (eF F_times (aCons (eVar 0) (aCons (eVar 1) (aNil)))) (aCons (e2 dMul (e2 dAt (eVar 0) (eC (.int 0))) (e2 dAt (eVar 1) (eC (.int 0)))) (aCons (eVar 2) (aNil))))))) (sRet (eC (.bl false))) (sNil)) (sSeq (sAsg 5 (eF F_under (aCons (eVar 0) (aCons (eVar 1) (aNil))))) (sRet (eAnd (eB dIsi (aCons (eVar 5) (aCons (eC (.ty "bool")) (aNil)))) (e2 dEq (eVar 5) (e2 dLt (e2 dSub (eVar 3) (eVar 4)) (eC (.int 0))))))))))))
def F__law_right : List D → R D := runF 6 b__law_right
def b_spot : SM := sSeq (sIf (mB (e2 dEq (eVar 2) (eC (.int 0)))) (sRaise "NoNumber") (sNil)) (sSeq (sIf (mB (e2 dLt (eVar 2) (eC (.int 0)))) (sSeq (sAsg 0 (e1 dNeg (eVar 0))) (sSeq (sAsg 1 (e1 dNeg (eVar 1))) (sAsg 2 (e1 dNeg (eVar 2))))) (sNil)) (sSeq (sAsg 3 (eF F_divisor (aCons (eF F_divisor (aCons (eVar 0) (aCons (eVar 1) (aNil)))) (aCons (eVar 2) (aNil))))) (sRet (eTup (aCons (e2 dDiv (eVar 0) (eVar 3)) (aCons (e2 dDiv (eVar 1) (eVar 3)) (aCons (e2 dDiv (eVar 2) (eVar 3)) (aNil))))))))
def F_spot : List D → R D := runF 4 b_spot
def b_put_at : SM := sSeq (sAsg 2 (e2 dAt (eVar 1) (eC (.int 2)))) (sRet (eF F_spot (aCons (e2 dAdd (e2 dMul (e2 dAt (eVar 0) (eC (.int 0))) (eVar 2)) (e2 dAt (eVar 1) (eC (.int 0)))) (aCons (e2 dAdd (e2 dMul (e2 dAt (eVar 0) (eC (.int 1))) (eVar 2)) (e2 dAt (eVar 1) (eC (.int 1)))) (aCons (eVar 2) (aNil))))))
def F_put_at : List D → R D := runF 3 b_put_at
def b_gone_on : SM := sSeq (sAsg 3 (e2 dAt (eVar 0) (eC (.int 2)))) (sSeq (sAsg 4 (e2 dAdd (e2 dMul (e2 dAt (eVar 0) (eC (.int 0))) (e2 dAt (eVar 2) (eC (.int 1)))) (e2 dMul (e2 dMul (e2 dAt (eVar 1) (eC (.int 0))) (e2 dAt (eVar 2) (eC (.int 0)))) (eVar 3)))) (sSeq (sAsg 5 (e2 dAdd (e2 dMul (e2 dAt (eVar 0) (eC (.int 1))) (e2 dAt (eVar 2) (eC (.int 1)))) (e2 dMul (e2 dMul (e2 dAt (eVar 1) (eC (.int 1))) (e2 dAt (eVar 2) (eC (.int 0)))) (eVar 3)))) (sRet (eF F_spot (aCons (eVar 4) (aCons (eVar 5) (aCons (e2 dMul (eVar 3) (e2 dAt (eVar 2) (eC (.int 1)))) (aNil))))))))
def F_gone_on : List D → R D := runF 6 b_gone_on
def b_way_from : SM := sSeq (sAsg 2 (e2 dSub (e2 dMul (e2 dAt (eVar 1) (eC (.int 0))) (e2 dAt (eVar 0) (eC (.int 2)))) (e2 dMul (e2 dAt (eVar 0) (eC (.int 0))) (e2 dAt (eVar 1) (eC (.int 2)))))) (sSeq (sAsg 3 (e2 dSub (e2 dMul (e2 dAt (eVar 1) (eC (.int 1))) (e2 dAt (eVar 0) (eC (.int 2)))) (e2 dMul (e2 dAt (eVar 0) (eC (.int 1))) (e2 dAt (eVar 1) (eC (.int 2)))))) (sRet (eF F_spot (aCons (eVar 2) (aCons (eVar 3) (aCons (e2 dMul (e2 dAt (eVar 0) (eC (.int 2))) (e2 dAt (eVar 1) (eC (.int 2)))) (aNil)))))))
def F_way_from : List D → R D := runF 4 b_way_from
def b_ahead : SM := sSeq (sIf (mB (e2 dNe (e2 dMul (e2 dAt (eVar 0) (eC (.int 0))) (e2 dAt (eVar 1) (eC (.int 2)))) (e2 dMul (e2 dAt (eVar 1) (eC (.int 0))) (e2 dAt (eVar 0) (eC (.int 2)))))) (sRet (e2 dLt (e2 dMul (e2 dAt (eVar 0) (eC (.int 0))) (e2 dAt (eVar 1) (eC (.int 2)))) (e2 dMul (e2 dAt (eVar 1) (eC (.int 0))) (e2 dAt (eVar 0) (eC (.int 2)))))) (sNil)) (sRet (e2 dLt (e2 dMul (e2 dAt (eVar 0) (eC (.int 1))) (e2 dAt (eVar 1) (eC (.int 2)))) (e2 dMul (e2 dAt (eVar 1) (eC (.int 1))) (e2 dAt (eVar 0) (eC (.int 2))))))
def F_ahead : List D → R D := runF 2 b_ahead
def b__law_number_v2 : SM := sSeq (sIf (mB (e2 dEq (e2 dMod (eVar 0) (eC (.int 3))) (eC (.int 0)))) (sRet (e2 dSub (e2 dMod (e2 dDiv (eVar 0) (eC (.int 3))) (eC (.int 9))) (eC (.int 4)))) (sNil)) (sRet (e2 dSub (e2 dMod (e2 dDiv (eVar 0) (eC (.int 3))) (eC (.int 2000000000000000000000000000000000000000000000000000000001))) (eC (.int 1000000000000000000000000000000000000000000000000000000000))))
def F__law_number_v2 : List D → R D := runF 1 b__law_number_v2
def b__law_bottom : SM := sSeq (sIf (mB (e2 dEq (e2 dMod (eVar 0) (eC (.int 2))) (eC (.int 0)))) (sRet (e2 dAdd (eC (.int 1)) (e2 dMod (e2 dDiv (eVar 0) (eC (.int 2))) (eC (.int 9))))) (sNil)) (sRet (e2 dAdd (eC (.int 1)) (e2 dMod (e2 dDiv (eVar 0) (eC (.int 2))) (eC (.int 1000000000000000000000000000000000000000000000000000000000)))))
def F__law_bottom : List D → R D := runF 1 b__law_bottom
def b__law_least_terms : SM := sSeq (sAsg 3 (eF F__law_common (aCons (eF F__law_common (aCons (eVar 0) (aCons (eVar 1) (aNil)))) (aCons (eVar 2) (aNil))))) (sRet (eTup (aCons (e2 dDiv (eVar 0) (eVar 3)) (aCons (e2 dDiv (eVar 1) (eVar 3)) (aCons (e2 dDiv (eVar 2) (eVar 3)) (aNil))))))
def F__law_least_terms : List D → R D := runF 4 b__law_least_terms
def l1__law_lies : SM := sIf (mNot (mB (eF F__law_whole (aCons (eVar 4) (aNil))))) (sRet (eC (.bl false))) (sNil)
def b__law_lies : SM := sSeq (sIf (mOr (mNot (mB (eB dIsi (aCons (eVar 0) (aCons (eC (.ty "tuple")) (aNil)))))) (mB (e2 dNe (eB dLen (aCons (eVar 0) (aNil))) (eC (.int 3))))) (sRet (eC (.bl false))) (sNil)) (sSeq (sFor (gNm 4) asT (eVar 0) (l1__law_lies)) (sSeq (sIf (mOr (mB (e2 dLt (e2 dAt (eVar 0) (eC (.int 2))) (eC (.int 1)))) (mB (e2 dNe (eF F__law_common (aCons (eF F__law_common (aCons (e2 dAt (eVar 0) (eC (.int 0))) (aCons (e2 dAt (eVar 0) (eC (.int 1))) (aNil)))) (aCons (e2 dAt (eVar 0) (eC (.int 2))) (aNil)))) (eC (.int 1))))) (sRet (eC (.bl false))) (sNil)) (sRet (eAnd (e2 dEq (e2 dMul (e2 dAt (eVar 0) (eC (.int 0))) (eVar 3)) (e2 dMul (eVar 1) (e2 dAt (eVar 0) (eC (.int 2))))) (e2 dEq (e2 dMul (e2 dAt (eVar 0) (eC (.int 1))) (eVar 3)) (e2 dMul (eVar 2) (e2 dAt (eVar 0) (eC (.int 2)))))))))
def F__law_lies : List D → R D := runF 5 b__law_lies
def b__law_order_right : SM := sSeq (sAsg 2 (e2 dSub (e2 dMul (e2 dAt (eVar 1) (eC (.int 0))) (e2 dAt (eVar 0) (eC (.int 2)))) (e2 dMul (e2 dAt (eVar 0) (eC (.int 0))) (e2 dAt (eVar 1) (eC (.int 2)))))) (sSeq (sAsg 3 (e2 dSub (e2 dMul (e2 dAt (eVar 1) (eC (.int 1))) (e2 dAt (eVar 0) (eC (.int 2)))) (e2 dMul (e2 dAt (eVar 0) (eC (.int 1))) (e2 dAt (eVar 1) (eC (.int 2)))))) (sSeq (sAsg 4 (eOr (e2 dGt (eVar 2) (eC (.int 0))) (eAnd (e2 dEq (eVar 2) (eC (.int 0))) (e2 dGt (eVar 3) (eC (.int 0)))))) (sSeq (sAsg 5 (eF F_ahead (aCons (eVar 0) (aCons (eVar 1) (aNil))))) (sRet (eAnd (eB dIsi (aCons (eVar 5) (aCons (eC (.ty "bool")) (aNil)))) (e2 dEq (eVar 5) (eVar 4)))))))
def F__law_order_right : List D → R D := runF 6 b__law_order_right
def b__law_moves_right : SM := sSeq (sAsg 5 (e2 dAt (eVar 0) (eC (.int 2)))) (sSeq (sIf (mNot (mB (eF F__law_lies (aCons (eF F_put_at (aCons (eVar 2) (aCons (eVar 0) (aNil)))) (aCons (e2 dAdd (e2 dMul (e2 dAt (eVar 2) (eC (.int 0))) (eVar 5)) (e2 dAt (eVar 0) (eC (.int 0)))) (aCons (e2 dAdd (e2 dMul (e2 dAt (eVar 2) (eC (.int 1))) (eVar 5)) (e2 dAt (eVar 0) (eC (.int 1)))) (aCons (eVar 5) (aNil)))))))) (sRet (eC (.bl false))) (sNil)) (sSeq (sAsg 6 (e2 dAdd (e2 dMul (e2 dAt (eVar 0) (eC (.int 0))) (e2 dAt (eVar 4) (eC (.int 1)))) (e2 dMul (e2 dMul (e2 dAt (eVar 4) (eC (.int 0))) (e2 dAt (eVar 3) (eC (.int 0)))) (eVar 5)))) (sSeq (sAsg 7 (e2 dAdd (e2 dMul (e2 dAt (eVar 0) (eC (.int 1))) (e2 dAt (eVar 4) (eC (.int 1)))) (e2 dMul (e2 dMul (e2 dAt (eVar 4) (eC (.int 0))) (e2 dAt (eVar 3) (eC (.int 1)))) (eVar 5)))) (sSeq (sIf (mNot (mB (eF F__law_lies (aCons (eF F_gone_on (aCons (eVar 0) (aCons (eVar 3) (aCons (eVar 4) (aNil))))) (aCons (eVar 6) (aCons (eVar 7) (aCons (e2 dMul (eVar 5) (e2 dAt (eVar 4) (eC (.int 1)))) (aNil)))))))) (sRet (eC (.bl false))) (sNil)) (sSeq (sAsg 6 (e2 dSub (e2 dMul (e2 dAt (eVar 1) (eC (.int 0))) (eVar 5)) (e2 dMul (e2 dAt (eVar 0) (eC (.int 0))) (e2 dAt (eVar 1) (eC (.int 2)))))) (sSeq (sAsg 7 (e2 dSub (e2 dMul (e2 dAt (eVar 1) (eC (.int 1))) (eVar 5)) (e2 dMul (e2 dAt (eVar 0) (eC (.int 1))) (e2 dAt (eVar 1) (eC (.int 2)))))) (sSeq (sAsg 8 (eF F_way_from (aCons (eVar 0) (aCons (eVar 1) (aNil))))) (sSeq (sIf (mNot (mB (eF F__law_lies (aCons (eVar 8) (aCons (eVar 6) (aCons (eVar 7) (aCons (e2 dMul (eVar 5) (e2 dAt (eVar 1) (eC (.int 2)))) (aNil)))))))) (sRet (eC (.bl false))) (sNil)) (sSeq (sAsg 6 (e2 dAdd (e2 dMul (e2 dAt (eVar 0) (eC (.int 0))) (e2 dAt (eVar 8) (eC (.int 2)))) (e2 dMul (e2 dAt (eVar 8) (eC (.int 0))) (eVar 5)))) (sSeq (sAsg 7 (e2 dAdd (e2 dMul (e2 dAt (eVar 0) (eC (.int 1))) (e2 dAt (eVar 8) (eC (.int 2)))) (e2 dMul (e2 dAt (eVar 8) (eC (.int 1))) (eVar 5)))) (sSeq (sAsg 5 (e2 dMul (eVar 5) (e2 dAt (eVar 8) (eC (.int 2))))) (sRet (eAnd (e2 dEq (e2 dMul (eVar 6) (e2 dAt (eVar 1) (eC (.int 2)))) (e2 dMul (e2 dAt (eVar 1) (eC (.int 0))) (eVar 5))) (e2 dEq (e2 dMul (eVar 7) (e2 dAt (eVar 1) (eC (.int 2)))) (e2 dMul (e2 dAt (eVar 1) (eC (.int 1))) (eVar 5))))))))))))))))
def F__law_moves_right : List D → R D := runF 9 b__law_moves_right
end Law

namespace Law
open PySem PySem.Spec PyProof.Rows L2 GD
def xCt1 : Str → Bool := fun y => (["NoNumber"] : List Str).contains y
def xLy1 : List Str := ["NoNumber"]
def xLc1 : List (Str × Str × Bool) := [("NoNumber", "Crowded", false), ("NoNumber", "Flat", false), ("NoNumber", "NoName", false), ("NoNumber", "NoNumber", true), ("NoNumber", "NoRow", false), ("NoNumber", "NoText", false), ("NoNumber", "Past", false), ("NoNumber", "Twice", false)]
def xLt1 : List (Str × String × Bool) := [("NoNumber", "ValueError", true)]
def b__law_refused : SM := sSeq (sAsg 2 (eC .non)) (sSeq (sTry xCt1 3 2 (sExpr (eF F_portion (aCons (eVar 0) (aCons (eVar 1) (aNil)))))) (sSeq (sAsg 4 (eAnd (eB (dIsX xLy1 xLc1 xLt1) (aCons (eVar 2) (aCons (eC (.ty "ValueError")) (aNil)))) (eB (dIsX xLy1 xLc1 xLt1) (aCons (eVar 2) (aCons (eC (.cls "NoNumber")) (aNil)))))) (sRet (eAnd (eVar 4) (eNot (eB (dIsX xLy1 xLc1 xLt1) (aCons (eVar 2) (aCons (eTup (aCons (eC (.cls "Flat")) (aCons (eC (.cls "Crowded")) (aCons (eC (.cls "NoName")) (aCons (eC (.cls "Twice")) (aCons (eC (.cls "Past")) (aCons (eC (.cls "NoText")) (aCons (eC (.cls "NoRow")) (aNil))))))))) (aNil)))))))))
def F__law_refused : List D → R D := runF 5 b__law_refused
def b__law_lowest : SM := sSeq (sIf (mOr (mNot (mB (eB dIsi (aCons (eVar 0) (aCons (eC (.ty "tuple")) (aNil)))))) (mOr (mB (e2 dNe (eB dLen (aCons (eVar 0) (aNil))) (eC (.int 2)))) (mOr (mNot (mB (eF F__law_whole (aCons (e2 dAt (eVar 0) (eC (.int 0))) (aNil))))) (mNot (mB (eF F__law_whole (aCons (e2 dAt (eVar 0) (eC (.int 1))) (aNil)))))))) (sRet (eC (.bl false))) (sNil)) (sRet (eAnd (e2 dGt (e2 dAt (eVar 0) (eC (.int 1))) (eC (.int 0))) (e2 dEq (eF F__law_common (aCons (e2 dAt (eVar 0) (eC (.int 0))) (aCons (e2 dAt (eVar 0) (eC (.int 1))) (aNil)))) (eC (.int 1)))))
def F__law_lowest : List D → R D := runF 1 b__law_lowest
def b__law_refused_v2 : SM := sSeq (sAsg 3 (eC .non)) (sSeq (sTry xCt1 4 3 (sExpr (eF F_spot (aCons (eVar 0) (aCons (eVar 1) (aCons (eVar 2) (aNil))))))) (sSeq (sAsg 5 (eAnd (eB (dIsX xLy1 xLc1 xLt1) (aCons (eVar 3) (aCons (eC (.ty "ValueError")) (aNil)))) (eB (dIsX xLy1 xLc1 xLt1) (aCons (eVar 3) (aCons (eC (.cls "NoNumber")) (aNil)))))) (sRet (eAnd (eVar 5) (eNot (eB (dIsX xLy1 xLc1 xLt1) (aCons (eVar 3) (aCons (eTup (aCons (eC (.cls "Flat")) (aCons (eC (.cls "Crowded")) (aCons (eC (.cls "NoName")) (aCons (eC (.cls "Twice")) (aCons (eC (.cls "Past")) (aCons (eC (.cls "NoText")) (aCons (eC (.cls "NoRow")) (aNil))))))))) (aNil)))))))))
def F__law_refused_v2 : List D → R D := runF 6 b__law_refused_v2
def l1__law_is_spot : SM := sIf (mNot (mB (eF F__law_whole (aCons (eVar 1) (aNil))))) (sRet (eC (.bl false))) (sNil)
def b__law_is_spot : SM := sSeq (sIf (mOr (mNot (mB (eB dIsi (aCons (eVar 0) (aCons (eC (.ty "tuple")) (aNil)))))) (mB (e2 dNe (eB dLen (aCons (eVar 0) (aNil))) (eC (.int 3))))) (sRet (eC (.bl false))) (sNil)) (sSeq (sFor (gNm 1) asT (eVar 0) (l1__law_is_spot)) (sRet (eAnd (e2 dGt (e2 dAt (eVar 0) (eC (.int 2))) (eC (.int 0))) (e2 dEq (eF F__law_common (aCons (eF F__law_common (aCons (e2 dAt (eVar 0) (eC (.int 0))) (aCons (e2 dAt (eVar 0) (eC (.int 1))) (aNil)))) (aCons (e2 dAt (eVar 0) (eC (.int 2))) (aNil)))) (eC (.int 1))))))
def F__law_is_spot : List D → R D := runF 2 b__law_is_spot
end Law

namespace Law
open PySem PySem.Spec PyProof.Rows L2 GD
def b_along : SM := sRet (e2 dAdd (e2 dMul (e2 dAt (eVar 0) (eC (.int 0))) (e2 dAt (eVar 1) (eC (.int 0)))) (e2 dMul (e2 dAt (eVar 0) (eC (.int 1))) (e2 dAt (eVar 1) (eC (.int 1)))))
def F_along : List D → R D := runF 2 b_along
def b_least : SM := sRet (eB dMinL (aCons (eL (aLc asL [2] (gNm 2) (mYes) (eVar 0) (eF F_along (aCons (eVar 2) (aCons (eVar 1) (aNil)))))) (aNil)))
def F_least : List D → R D := runF 3 b_least
def b_most : SM := sRet (eB dMaxL (aCons (eL (aLc asL [2] (gNm 2) (mYes) (eVar 0) (eF F_along (aCons (eVar 2) (aCons (eVar 1) (aNil)))))) (aNil)))
def F_most : List D → R D := runF 3 b_most
def b_bend : SM := sRet (e2 dSub (e2 dMul (e2 dSub (e2 dAt (eVar 1) (eC (.int 0))) (e2 dAt (eVar 0) (eC (.int 0)))) (e2 dSub (e2 dAt (eVar 2) (eC (.int 1))) (e2 dAt (eVar 0) (eC (.int 1))))) (e2 dMul (e2 dSub (e2 dAt (eVar 1) (eC (.int 1))) (e2 dAt (eVar 0) (eC (.int 1)))) (e2 dSub (e2 dAt (eVar 2) (eC (.int 0))) (e2 dAt (eVar 0) (eC (.int 0))))))
def F_bend : List D → R D := runF 3 b_bend
def l1_chain : SM := sPop 1
def l2_chain : SM := sSeq (sWhile (fuelL 1) (mAnd (mB (e2 dGt (eOwnLen 1) (eC (.int 1)))) (mB (e2 dLe (eF F_bend (aCons (eOwnAt 1 (eC (.int (-2)))) (aCons (eOwnAt 1 (eC (.int (-1)))) (aCons (eVar 2) (aNil))))) (eC (.int 0))))) (l1_chain)) (sApp 1 (eVar 2))
def b_chain : SM := sSeq (sOwn 1 (aLst (aNil))) (sSeq (sFor (gNm 2) asL (eVar 0) (l2_chain)) (sFrz 1 (sRet (eVar 1))))
def F_chain : List D → R D := runF 3 b_chain
def b_hull : SM := sSeq (sSeen 1 2 3 (eVar 0)) (sSeq (sAsg 4 (eF F_chain (aCons (eVar 3) (aNil)))) (sSeq (sAsg 5 (eF F_chain (aCons (eL (aLRev (eVar 3))) (aNil)))) (sSeq (sAsg 6 (eL (aCat (eL (aCut (eVar 4) (oNone) (oSome (eC (.int (-1)))))) (eL (aCut (eVar 5) (oNone) (oSome (eC (.int (-1))))))))) (sSeq (sIf (mB (e2 dLt (eB dLen (aCons (eVar 6) (aNil))) (eC (.int 3)))) (sRaise "Flat") (sNil)) (sRet (eVar 6))))))
def F_hull : List D → R D := runF 7 b_hull
def l1__law_points : SM := sSeq (sApp 6 (eTup (aCons (e2 dSub (e2 dMod (eVar 1) (eC (.int 9))) (eC (.int 2))) (aCons (e2 dSub (e2 dMod (e2 dDiv (eVar 1) (eC (.int 9))) (eC (.int 9))) (eC (.int 2))) (aNil))))) (sAsg 1 (e2 dDiv (eVar 1) (eC (.int 81))))
def b__law_points : SM := sSeq (sAsg 3 (e2 dAdd (eC (.int 1)) (e2 dMod (eVar 0) (eC (.int 5))))) (sSeq (sAsg 4 (e2 dAdd (eC (.int 1)) (e2 dMod (e2 dDiv (eVar 0) (eC (.int 5))) (eC (.int 5))))) (sSeq (sAsg 5 (e2 dSub (e2 dMod (e2 dDiv (eVar 0) (eC (.int 25))) (eC (.int 9))) (eC (.int 2)))) (sSeq (sOwn 6 (aLst (aCons (eTup (aCons (eC (.int 0)) (aCons (eC (.int 0)) (aNil)))) (aCons (eTup (aCons (eVar 3) (aCons (eC (.int 0)) (aNil)))) (aCons (eTup (aCons (eVar 5) (aCons (eVar 4) (aNil)))) (aNil)))))) (sSeq (sForR (gNm 7) (aCons (e2 dMod (e2 dDiv (eVar 0) (eC (.int 225))) (eC (.int 4))) (aNil)) (l1__law_points)) (sSeq (sIf (mB (e2 dEq (e2 dMod (e2 dDiv (eVar 0) (eC (.int 900))) (eC (.int 2))) (eC (.int 1)))) (sFrz 6 (sOwn 6 (aLc asL [8, 9] (gTp (gsCons (gNm 8) (gsCons (gNm 9) (gsNil)))) (mYes) (eVar 6) (eTup (aCons (eVar 9) (aCons (eVar 8) (aNil))))))) (sNil)) (sSeq (sIf (mB (e2 dEq (e2 dMod (e2 dDiv (eVar 0) (eC (.int 1800))) (eC (.int 2))) (eC (.int 1)))) (sFrz 6 (sOwn 6 (aLc asL [8, 9] (gTp (gsCons (gNm 8) (gsCons (gNm 9) (gsNil)))) (mYes) (eVar 6) (eTup (aCons (e2 dSub (eC (.int 0)) (eVar 8)) (aCons (eVar 9) (aNil))))))) (sNil)) (sSeq (sAsg 10 (e2 dSub (e2 dMod (e2 dDiv (eVar 0) (eC (.int 3600))) (eC (.int 61))) (eC (.int 30)))) (sSeq (sAsg 11 (e2 dSub (e2 dMod (e2 dDiv (eVar 0) (eC (.int 219600))) (eC (.int 61))) (eC (.int 30)))) (sFrz 6 (sRet (eL (aLc asL [8, 9] (gTp (gsCons (gNm 8) (gsCons (gNm 9) (gsNil)))) (mYes) (eVar 6) (eTup (aCons (e2 dMul (eVar 2) (e2 dAdd (eVar 8) (eVar 10))) (aCons (e2 dMul (eVar 2) (e2 dAdd (eVar 9) (eVar 11))) (aNil))))))))))))))))
def F__law_points : List D → R D := runF 12 b__law_points
def b__law_number_v3 : SM := sSeq (sIf (mB (e2 dEq (e2 dMod (eVar 0) (eC (.int 2))) (eC (.int 0)))) (sRet (e2 dSub (e2 dMod (e2 dDiv (eVar 0) (eC (.int 2))) (eC (.int 9))) (eC (.int 4)))) (sNil)) (sRet (e2 dSub (e2 dMod (e2 dDiv (eVar 0) (eC (.int 2))) (eC (.int 1000000000000000000000000000000))) (eC (.int 500000000000000000000000000000))))
def F__law_number_v3 : List D → R D := runF 1 b__law_number_v3
def l1__law_ends_right : SM := sSeq (sAsg 7 (e2 dAdd (e2 dMul (e2 dAt (eVar 1) (eC (.int 1))) (e2 dAt (eVar 6) (eC (.int 1)))) (e2 dMul (e2 dAt (eVar 1) (eC (.int 0))) (e2 dAt (eVar 6) (eC (.int 0)))))) (sSeq (sAsg 8 (eF F_along (aCons (eVar 6) (aCons (eVar 1) (aNil))))) (sSeq (sIf (mOr (mNot (mB (eF F__law_whole (aCons (eVar 8) (aNil))))) (mOr (mB (e2 dNe (eVar 8) (eVar 7))) (mOr (mB (e2 dLt (eVar 7) (eVar 3))) (mB (e2 dGt (eVar 7) (eVar 4)))))) (sRet (eC (.bl false))) (sNil)) (sAsg 5 (eL (aLst (aCons (e2 dAdd (e2 dAt (eVar 5) (eC (.int 0))) (eB dInt (aCons (e2 dEq (eVar 7) (eVar 3)) (aNil)))) (aCons (e2 dAdd (e2 dAt (eVar 5) (eC (.int 1))) (eB dInt (aCons (e2 dEq (eVar 7) (eVar 4)) (aNil)))) (aNil))))))))
def b__law_ends_right : SM := sSeq (sAsg 2 (eL (aB asC (aCons (eVar 0) (aNil))))) (sSeq (sAsg 3 (eF F_least (aCons (eVar 2) (aCons (eVar 1) (aNil))))) (sSeq (sAsg 4 (eF F_most (aCons (eVar 2) (aCons (eVar 1) (aNil))))) (sSeq (sIf (mOr (mB (e2 dNe (eVar 2) (eVar 0))) (mOr (mNot (mB (eF F__law_whole (aCons (eVar 3) (aNil))))) (mNot (mB (eF F__law_whole (aCons (eVar 4) (aNil))))))) (sRet (eC (.bl false))) (sNil)) (sSeq (sAsg 5 (eL (aLst (aCons (eC (.int 0)) (aCons (eC (.int 0)) (aNil)))))) (sSeq (sFor (gNm 6) asL (eVar 0) (l1__law_ends_right)) (sRet (eAnd (e2 dGt (e2 dAt (eVar 5) (eC (.int 0))) (eC (.int 0))) (e2 dGt (e2 dAt (eVar 5) (eC (.int 1))) (eC (.int 0))))))))))
def F__law_ends_right : List D → R D := runF 9 b__law_ends_right
def b_sides : SM := sRet (eL (aCat (eL (aLcR [1] (gNm 1) (mYes) (aCons (eC (.int 1)) (aCons (eB dLen (aCons (eVar 0) (aNil))) (aNil))) (eTup (aCons (e2 dAt (eVar 0) (e2 dSub (eVar 1) (eC (.int 1)))) (aCons (e2 dAt (eVar 0) (eVar 1)) (aNil)))))) (eL (aLst (aCons (eTup (aCons (e2 dAt (eVar 0) (eC (.int (-1)))) (aCons (e2 dAt (eVar 0) (eC (.int 0))) (aNil)))) (aNil))))))
def F_sides : List D → R D := runF 2 b_sides
def b_normals : SM := sRet (eL (aLc asL [1, 2] (gTp (gsCons (gNm 1) (gsCons (gNm 2) (gsNil)))) (mYes) (eF F_sides (aCons (eVar 0) (aNil))) (eTup (aCons (e2 dSub (e2 dAt (eVar 2) (eC (.int 1))) (e2 dAt (eVar 1) (eC (.int 1)))) (aCons (e2 dSub (e2 dAt (eVar 1) (eC (.int 0))) (e2 dAt (eVar 2) (eC (.int 0)))) (aNil))))))
def F_normals : List D → R D := runF 3 b_normals
def b__law_far : SM := sRet (e2 dAdd (e2 dMul (e2 dAt (eVar 0) (eC (.int 0))) (e2 dAt (eVar 1) (eC (.int 0)))) (e2 dMul (e2 dAt (eVar 0) (eC (.int 1))) (e2 dAt (eVar 1) (eC (.int 1)))))
def F__law_far : List D → R D := runF 2 b__law_far
def l1__law_points_out : SM := sIf (mAnd (mB (e2 dNe (eVar 4) (eVar 1))) (mAnd (mB (e2 dNe (eVar 4) (eVar 2))) (mB (e2 dGe (eF F__law_far (aCons (eVar 4) (aCons (eVar 0) (aNil)))) (eF F__law_far (aCons (eVar 1) (aCons (eVar 0) (aNil)))))))) (sRet (eC (.bl false))) (sNil)
def b__law_points_out : SM := sSeq (sIf (mOr (mNot (mB (eB dIsi (aCons (eVar 0) (aCons (eC (.ty "tuple")) (aNil)))))) (mOr (mB (e2 dNe (eB dLen (aCons (eVar 0) (aNil))) (eC (.int 2)))) (mOr (mNot (mB (eF F__law_whole (aCons (e2 dAt (eVar 0) (eC (.int 0))) (aNil))))) (mNot (mB (eF F__law_whole (aCons (e2 dAt (eVar 0) (eC (.int 1))) (aNil)))))))) (sRet (eC (.bl false))) (sNil)) (sSeq (sIf (mOr (mB (e2 dNe (eB dAbs (aCons (e2 dAt (eVar 0) (eC (.int 0))) (aNil))) (eB dAbs (aCons (e2 dSub (e2 dAt (eVar 2) (eC (.int 1))) (e2 dAt (eVar 1) (eC (.int 1)))) (aNil))))) (mB (e2 dNe (eB dAbs (aCons (e2 dAt (eVar 0) (eC (.int 1))) (aNil))) (eB dAbs (aCons (e2 dSub (e2 dAt (eVar 2) (eC (.int 0))) (e2 dAt (eVar 1) (eC (.int 0)))) (aNil)))))) (sRet (eC (.bl false))) (sNil)) (sSeq (sIf (mB (e2 dNe (eF F__law_far (aCons (eVar 1) (aCons (eVar 0) (aNil)))) (eF F__law_far (aCons (eVar 2) (aCons (eVar 0) (aNil)))))) (sRet (eC (.bl false))) (sNil)) (sSeq (sFor (gNm 4) asL (eVar 3) (l1__law_points_out)) (sRet (eC (.bl true))))))
def F__law_points_out : List D → R D := runF 5 b__law_points_out
def b__law_amid : SM := sSeq (sAsg 2 (e2 dAt (eVar 0) (e2 dMod (e2 dDiv (eVar 1) (eC (.int 3))) (eB dLen (aCons (eVar 0) (aNil)))))) (sSeq (sAsg 3 (e2 dAt (eVar 0) (e2 dMod (e2 dDiv (eVar 1) (eC (.int 30))) (eB dLen (aCons (eVar 0) (aNil)))))) (sSeq (sIf (mB (e2 dEq (e2 dMod (eVar 1) (eC (.int 3))) (eC (.int 0)))) (sRet (eVar 2)) (sNil)) (sSeq (sIf (mB (e2 dEq (e2 dMod (eVar 1) (eC (.int 3))) (eC (.int 1)))) (sRet (eTup (aCons (e2 dDiv (e2 dAdd (e2 dAt (eVar 2) (eC (.int 0))) (e2 dAt (eVar 3) (eC (.int 0)))) (eC (.int 2))) (aCons (e2 dDiv (e2 dAdd (e2 dAt (eVar 2) (eC (.int 1))) (e2 dAt (eVar 3) (eC (.int 1)))) (eC (.int 2))) (aNil))))) (sNil)) (sRet (eTup (aCons (e2 dDiv (e2 dAdd (e2 dMul (eC (.int 2)) (e2 dAt (eVar 2) (eC (.int 0)))) (e2 dAt (eVar 3) (eC (.int 0)))) (eC (.int 3))) (aCons (e2 dDiv (e2 dAdd (e2 dMul (eC (.int 2)) (e2 dAt (eVar 2) (eC (.int 1)))) (e2 dAt (eVar 3) (eC (.int 1)))) (eC (.int 3))) (aNil))))))))
def F__law_amid : List D → R D := runF 4 b__law_amid
def l1_where : SM := sSeq (sAsg 9 (e2 dSub (e2 dMul (e2 dSub (e2 dAt (eVar 8) (eC (.int 0))) (e2 dAt (eVar 7) (eC (.int 0)))) (e2 dSub (eVar 4) (e2 dMul (e2 dAt (eVar 7) (eC (.int 1))) (eVar 5)))) (e2 dMul (e2 dSub (e2 dAt (eVar 8) (eC (.int 1))) (e2 dAt (eVar 7) (eC (.int 1)))) (e2 dSub (eVar 3) (e2 dMul (e2 dAt (eVar 7) (eC (.int 0))) (eVar 5)))))) (sSeq (sIf (mB (e2 dLt (eVar 9) (eC (.int 0)))) (sRet (eC (.int (-1)))) (sNil)) (sIf (mB (e2 dEq (eVar 9) (eC (.int 0)))) (sAsg 6 (eC (.int 0))) (sNil)))
def b_where : SM := sSeq (sTgt (gTp (gsCons (gNm 3) (gsCons (gNm 4) (gsCons (gNm 5) (gsNil))))) (eF F_way_from (aCons (eVar 1) (aCons (eVar 2) (aNil))))) (sSeq (sAsg 6 (eC (.int 1))) (sSeq (sFor (gTp (gsCons (gNm 7) (gsCons (gNm 8) (gsNil)))) asL (eF F_sides (aCons (eVar 0) (aNil))) (l1_where)) (sRet (eVar 6))))
def F_where : List D → R D := runF 10 b_where
def l1__law_due : SM := sSeq (sAsg 8 (e2 dAt (eVar 0) (e2 dSub (eVar 7) (eC (.int 1))))) (sSeq (sAsg 9 (e2 dAt (eVar 0) (eVar 7))) (sSeq (sAsg 10 (eTup (aCons (e2 dSub (e2 dAt (eVar 9) (eC (.int 1))) (e2 dAt (eVar 8) (eC (.int 1)))) (aCons (e2 dSub (e2 dAt (eVar 8) (eC (.int 0))) (e2 dAt (eVar 9) (eC (.int 0)))) (aNil))))) (sSeq (sAsg 11 (e2 dAdd (e2 dMul (e2 dAt (eVar 10) (eC (.int 0))) (eVar 4)) (e2 dMul (e2 dAt (eVar 10) (eC (.int 1))) (eVar 5)))) (sSeq (sAsg 12 (e2 dMul (e2 dAdd (e2 dMul (e2 dAt (eVar 10) (eC (.int 0))) (e2 dAt (eVar 9) (eC (.int 0)))) (e2 dMul (e2 dAt (eVar 10) (eC (.int 1))) (e2 dAt (eVar 9) (eC (.int 1))))) (eVar 3))) (sSeq (sIf (mB (e2 dGt (eVar 11) (eVar 12))) (sRet (eC (.int (-1)))) (sNil)) (sIf (mB (e2 dEq (eVar 11) (eVar 12))) (sAsg 6 (eC (.int 0))) (sNil)))))))
def b__law_due : SM := sSeq (sAsg 3 (e2 dMul (e2 dAt (eVar 1) (eC (.int 2))) (e2 dAt (eVar 2) (eC (.int 2))))) (sSeq (sAsg 4 (e2 dSub (e2 dMul (e2 dAt (eVar 2) (eC (.int 0))) (e2 dAt (eVar 1) (eC (.int 2)))) (e2 dMul (e2 dAt (eVar 1) (eC (.int 0))) (e2 dAt (eVar 2) (eC (.int 2)))))) (sSeq (sAsg 5 (e2 dSub (e2 dMul (e2 dAt (eVar 2) (eC (.int 1))) (e2 dAt (eVar 1) (eC (.int 2)))) (e2 dMul (e2 dAt (eVar 1) (eC (.int 1))) (e2 dAt (eVar 2) (eC (.int 2)))))) (sSeq (sAsg 6 (eC (.int 1))) (sSeq (sForR (gNm 7) (aCons (eB dLen (aCons (eVar 0) (aNil))) (aNil)) (l1__law_due)) (sRet (eVar 6))))))
def F__law_due : List D → R D := runF 13 b__law_due
def b__law_place : SM := sSeq (sAsg 5 (e2 dMod (e2 dDiv (eVar 2) (eC (.int 4))) (eB dLen (aCons (eVar 0) (aNil))))) (sSeq (sAsg 6 (e2 dAt (eVar 0) (e2 dSub (eVar 5) (eC (.int 1))))) (sSeq (sAsg 7 (e2 dAt (eVar 0) (eVar 5))) (sSeq (sAsg 8 (eC (.int 0))) (sSeq (sIf (mB (e2 dEq (e2 dMod (eVar 2) (eC (.int 4))) (eC (.int 1)))) (sAsg 8 (e2 dMod (eVar 3) (eC (.int 9)))) (sNil)) (sSeq (sIf (mB (e2 dEq (e2 dMod (eVar 2) (eC (.int 4))) (eC (.int 2)))) (sAsg 8 (e2 dAt (eL (aLst (aCons (eC (.int (-1))) (aCons (eC (.int 9)) (aCons (eC (.int 4)) (aCons (eC (.int 3)) (aNil))))))) (e2 dMod (eVar 3) (eC (.int 4))))) (sNil)) (sSeq (sAsg 9 (e2 dMul (eC (.int 8)) (e2 dAt (eVar 1) (eC (.int 2))))) (sSeq (sAsg 10 (e2 dAdd (e2 dAdd (e2 dMul (e2 dAt (eVar 6) (eC (.int 0))) (eVar 9)) (e2 dMul (e2 dMul (eVar 8) (e2 dAt (eVar 1) (eC (.int 2)))) (e2 dSub (e2 dAt (eVar 7) (eC (.int 0))) (e2 dAt (eVar 6) (eC (.int 0)))))) (e2 dMul (eC (.int 8)) (e2 dAt (eVar 1) (eC (.int 0)))))) (sSeq (sAsg 11 (e2 dAdd (e2 dAdd (e2 dMul (e2 dAt (eVar 6) (eC (.int 1))) (eVar 9)) (e2 dMul (e2 dMul (eVar 8) (e2 dAt (eVar 1) (eC (.int 2)))) (e2 dSub (e2 dAt (eVar 7) (eC (.int 1))) (e2 dAt (eVar 6) (eC (.int 1)))))) (e2 dMul (eC (.int 8)) (e2 dAt (eVar 1) (eC (.int 1)))))) (sSeq (sIf (mB (e2 dEq (e2 dMod (eVar 2) (eC (.int 4))) (eC (.int 3)))) (sSeq (sAsg 10 (e2 dAdd (eVar 10) (e2 dMul (e2 dMul (e2 dMul (eC (.int 2)) (e2 dAt (eVar 1) (eC (.int 2)))) (eVar 4)) (e2 dSub (e2 dMod (eVar 3) (eC (.int 41))) (eC (.int 20)))))) (sAsg 11 (e2 dSub (e2 dAdd (e2 dAdd (eVar 11) (e2 dMul (e2 dMul (e2 dMul (eC (.int 2)) (e2 dAt (eVar 1) (eC (.int 2)))) (eVar 4)) (e2 dSub (e2 dMod (e2 dDiv (eVar 3) (eC (.int 41))) (eC (.int 41))) (eC (.int 20))))) (e2 dMod (e2 dDiv (eVar 3) (eC (.int 1681))) (eC (.int 3)))) (eC (.int 1))))) (sNil)) (sRet (eF F_spot (aCons (eVar 10) (aCons (eVar 11) (aCons (eVar 9) (aNil)))))))))))))))
def F__law_place : List D → R D := runF 12 b__law_place
def l1__law_many_sided : SM := sApp 2 (eTup (aCons (e2 dAdd (e2 dAt (eOwnAt 2 (eC (.int (-1)))) (eC (.int 0))) (e2 dMul (eVar 0) (eVar 3))) (aCons (e2 dAdd (e2 dAt (eOwnAt 2 (eC (.int (-1)))) (eC (.int 1))) (e2 dMul (eVar 0) (eVar 4))) (aNil))))
def b__law_many_sided : SM := sSeq (sAsg 1 (eL (aLst (aCons (eTup (aCons (eC (.int 2)) (aCons (eC (.int 0)) (aNil)))) (aCons (eTup (aCons (eC (.int 2)) (aCons (eC (.int 1)) (aNil)))) (aCons (eTup (aCons (eC (.int 1)) (aCons (eC (.int 1)) (aNil)))) (aCons (eTup (aCons (eC (.int 1)) (aCons (eC (.int 2)) (aNil)))) (aCons (eTup (aCons (eC (.int 0)) (aCons (eC (.int 2)) (aNil)))) (aCons (eTup (aCons (eC (.int (-1))) (aCons (eC (.int 2)) (aNil)))) (aCons (eTup (aCons (eC (.int (-1))) (aCons (eC (.int 1)) (aNil)))) (aCons (eTup (aCons (eC (.int (-2))) (aCons (eC (.int 1)) (aNil)))) (aNil)))))))))))) (sSeq (sOwn 2 (aLst (aCons (eTup (aCons (e2 dMul (eC (.int 5)) (eVar 0)) (aCons (e2 dMul (eC (.int 9)) (eVar 0)) (aNil)))) (aNil)))) (sSeq (sFor (gTp (gsCons (gNm 3) (gsCons (gNm 4) (gsNil)))) asL (eL (aCat (eVar 1) (eL (aLc asL [3, 4] (gTp (gsCons (gNm 3) (gsCons (gNm 4) (gsNil)))) (mYes) (eVar 1) (eTup (aCons (e2 dSub (eC (.int 0)) (eVar 3)) (aCons (e2 dSub (eC (.int 0)) (eVar 4)) (aNil)))))))) (l1__law_many_sided)) (sFrz 2 (sRet (eVar 2)))))
def F__law_many_sided : List D → R D := runF 5 b__law_many_sided
def b_gap : SM := sSeq (sAsg 4 (e2 dAt (eVar 2) (eC (.int 2)))) (sRet (eF F_portion (aCons (e2 dAdd (e2 dMul (e2 dSub (eF F_least (aCons (eVar 1) (aCons (eVar 3) (aNil)))) (eF F_most (aCons (eVar 0) (aCons (eVar 3) (aNil))))) (eVar 4)) (eF F_along (aCons (eVar 2) (aCons (eVar 3) (aNil))))) (aCons (eVar 4) (aNil)))))
def F_gap : List D → R D := runF 5 b_gap
def b__law_shift : SM := sSeq (sAsg 5 (e2 dMod (e2 dDiv (eVar 2) (eC (.int 4))) (eB dLen (aCons (eVar 0) (aNil))))) (sSeq (sAsg 6 (e2 dAt (eVar 0) (e2 dSub (eVar 5) (eC (.int 1))))) (sSeq (sAsg 7 (e2 dAt (eVar 0) (eVar 5))) (sSeq (sAsg 8 (e2 dAt (eVar 1) (e2 dMod (e2 dDiv (eVar 2) (eC (.int 32))) (eB dLen (aCons (eVar 1) (aNil)))))) (sSeq (sAsg 9 (e2 dMod (e2 dDiv (eVar 2) (eC (.int 256))) (eC (.int 5)))) (sSeq (sAsg 10 (e2 dSub (e2 dAdd (e2 dMul (eC (.int 4)) (e2 dAt (eVar 6) (eC (.int 0)))) (e2 dMul (eVar 9) (e2 dSub (e2 dAt (eVar 7) (eC (.int 0))) (e2 dAt (eVar 6) (eC (.int 0)))))) (e2 dMul (eC (.int 4)) (e2 dAt (eVar 8) (eC (.int 0)))))) (sSeq (sAsg 11 (e2 dSub (e2 dAdd (e2 dMul (eC (.int 4)) (e2 dAt (eVar 6) (eC (.int 1)))) (e2 dMul (eVar 9) (e2 dSub (e2 dAt (eVar 7) (eC (.int 1))) (e2 dAt (eVar 6) (eC (.int 1)))))) (e2 dMul (eC (.int 4)) (e2 dAt (eVar 8) (eC (.int 1)))))) (sSeq (sIf (mB (e2 dEq (e2 dMod (eVar 2) (eC (.int 4))) (eC (.int 1)))) (sSeq (sAsg 10 (e2 dAdd (eVar 10) (e2 dMul (eVar 4) (e2 dSub (e2 dMod (eVar 3) (eC (.int 9))) (eC (.int 4)))))) (sAsg 11 (e2 dAdd (eVar 11) (e2 dMul (eVar 4) (e2 dSub (e2 dMod (e2 dDiv (eVar 3) (eC (.int 9))) (eC (.int 9))) (eC (.int 4))))))) (sNil)) (sSeq (sIf (mB (e2 dEq (e2 dMod (eVar 2) (eC (.int 4))) (eC (.int 2)))) (sSeq (sAsg 10 (e2 dAdd (e2 dMul (eC (.int 4)) (e2 dSub (e2 dAt (e2 dAt (eVar 0) (eC (.int 0))) (eC (.int 0))) (e2 dAt (e2 dAt (eVar 1) (eC (.int 0))) (eC (.int 0))))) (e2 dMul (eVar 4) (e2 dSub (e2 dMod (eVar 3) (eC (.int 81))) (eC (.int 40)))))) (sAsg 11 (e2 dAdd (e2 dMul (eC (.int 4)) (e2 dSub (e2 dAt (e2 dAt (eVar 0) (eC (.int 0))) (eC (.int 1))) (e2 dAt (e2 dAt (eVar 1) (eC (.int 0))) (eC (.int 1))))) (e2 dMul (eVar 4) (e2 dSub (e2 dMod (e2 dDiv (eVar 3) (eC (.int 81))) (eC (.int 81))) (eC (.int 40))))))) (sNil)) (sSeq (sIf (mB (e2 dEq (e2 dMod (eVar 2) (eC (.int 4))) (eC (.int 3)))) (sRet (eF F_spot (aCons (e2 dSub (e2 dAdd (e2 dMul (eC (.int 7)) (eVar 10)) (e2 dMod (eVar 3) (eC (.int 3)))) (eC (.int 1))) (aCons (e2 dSub (e2 dAdd (e2 dMul (eC (.int 7)) (eVar 11)) (e2 dMod (e2 dDiv (eVar 3) (eC (.int 3))) (eC (.int 3)))) (eC (.int 1))) (aCons (eC (.int 28)) (aNil)))))) (sNil)) (sRet (eF F_spot (aCons (eVar 10) (aCons (eVar 11) (aCons (eC (.int 4)) (aNil)))))))))))))))
def F__law_shift : List D → R D := runF 12 b__law_shift
def b__law_big : SM := sSeq (sIf (mB (e2 dEq (e2 dMod (eVar 0) (eC (.int 2))) (eC (.int 0)))) (sRet (eC (.int 1))) (sNil)) (sRet (e2 dAdd (eC (.int 1)) (e2 dMod (e2 dDiv (eVar 0) (eC (.int 2))) (eC (.int 1000000000000)))))
def F__law_big : List D → R D := runF 1 b__law_big
def l1__law_gap_right : SM := sSeq (sAsg 9 (e2 dAdd (e2 dMul (e2 dSub (e2 dAt (eVar 8) (eC (.int 0))) (e2 dAt (eVar 7) (eC (.int 0)))) (eVar 5)) (e2 dAt (eVar 3) (eC (.int 0))))) (sSeq (sAsg 10 (e2 dAdd (e2 dMul (e2 dSub (e2 dAt (eVar 8) (eC (.int 1))) (e2 dAt (eVar 7) (eC (.int 1)))) (eVar 5)) (e2 dAt (eVar 3) (eC (.int 1))))) (sSeq (sAsg 11 (e2 dMul (e2 dAdd (e2 dMul (eVar 9) (e2 dAt (eVar 4) (eC (.int 0)))) (e2 dMul (eVar 10) (e2 dAt (eVar 4) (eC (.int 1))))) (e2 dAt (eVar 0) (eC (.int 1))))) (sSeq (sIf (mB (e2 dLt (eVar 11) (e2 dMul (e2 dAt (eVar 0) (eC (.int 0))) (eVar 5)))) (sRet (eC (.bl false))) (sNil)) (sIf (mB (e2 dEq (eVar 11) (e2 dMul (e2 dAt (eVar 0) (eC (.int 0))) (eVar 5)))) (sAsg 6 (e2 dAdd (eVar 6) (eC (.int 1)))) (sNil)))))
def l2__law_gap_right : SM := sFor (gNm 8) asL (eVar 2) (l1__law_gap_right)
def b__law_gap_right : SM := sSeq (sIf (mOr (mNot (mB (eB dIsi (aCons (eVar 0) (aCons (eC (.ty "tuple")) (aNil)))))) (mOr (mB (e2 dNe (eB dLen (aCons (eVar 0) (aNil))) (eC (.int 2)))) (mOr (mNot (mB (eF F__law_whole (aCons (e2 dAt (eVar 0) (eC (.int 0))) (aNil))))) (mNot (mB (eF F__law_whole (aCons (e2 dAt (eVar 0) (eC (.int 1))) (aNil)))))))) (sRet (eC (.bl false))) (sNil)) (sSeq (sIf (mOr (mB (e2 dLt (e2 dAt (eVar 0) (eC (.int 1))) (eC (.int 1)))) (mB (e2 dNe (eF F__law_common (aCons (e2 dAt (eVar 0) (eC (.int 0))) (aCons (e2 dAt (eVar 0) (eC (.int 1))) (aNil)))) (eC (.int 1))))) (sRet (eC (.bl false))) (sNil)) (sSeq (sAsg 5 (e2 dAt (eVar 3) (eC (.int 2)))) (sSeq (sAsg 6 (eC (.int 0))) (sSeq (sFor (gNm 7) asL (eVar 1) (l2__law_gap_right)) (sRet (e2 dGt (eVar 6) (eC (.int 0))))))))
def F__law_gap_right : List D → R D := runF 12 b__law_gap_right
def b_directions : SM := sRet (eL (aCat (eF F_normals (aCons (eVar 0) (aNil))) (eL (aLc asL [2] (gNm 2) (mYes) (eF F_normals (aCons (eVar 1) (aNil))) (eTup (aCons (e1 dNeg (e2 dAt (eVar 2) (eC (.int 0)))) (aCons (e1 dNeg (e2 dAt (eVar 2) (eC (.int 1)))) (aNil))))))))
def F_directions : List D → R D := runF 3 b_directions
def l1_line : SM := sIf (mB (e2 dGe (e2 dAt (eF F_gap (aCons (eVar 0) (aCons (eVar 1) (aCons (eVar 2) (aCons (eVar 3) (aNil)))))) (eC (.int 0))) (eC (.int 0)))) (sRet (eVar 3)) (sNil)
def b_line : SM := sSeq (sFor (gNm 3) asL (eF F_directions (aCons (eVar 0) (aCons (eVar 1) (aNil)))) (l1_line)) (sRet (eC .non))
def F_line : List D → R D := runF 4 b_line
def l1__law_directions : SM := sSeq (sAsg 4 (e2 dAt (eVar 0) (eVar 3))) (sSeq (sAsg 5 (e2 dAt (eVar 0) (e2 dMod (e2 dAdd (eVar 3) (eC (.int 1))) (eB dLen (aCons (eVar 0) (aNil)))))) (sApp 2 (eTup (aCons (e2 dSub (e2 dAt (eVar 5) (eC (.int 1))) (e2 dAt (eVar 4) (eC (.int 1)))) (aCons (e2 dSub (e2 dAt (eVar 4) (eC (.int 0))) (e2 dAt (eVar 5) (eC (.int 0)))) (aNil))))))
def l2__law_directions : SM := sSeq (sAsg 4 (e2 dAt (eVar 1) (eVar 3))) (sSeq (sAsg 5 (e2 dAt (eVar 1) (e2 dMod (e2 dAdd (eVar 3) (eC (.int 1))) (eB dLen (aCons (eVar 1) (aNil)))))) (sApp 2 (eTup (aCons (e2 dSub (e2 dAt (eVar 4) (eC (.int 1))) (e2 dAt (eVar 5) (eC (.int 1)))) (aCons (e2 dSub (e2 dAt (eVar 5) (eC (.int 0))) (e2 dAt (eVar 4) (eC (.int 0)))) (aNil))))))
def b__law_directions : SM := sSeq (sOwn 2 (aLst (aNil))) (sSeq (sForR (gNm 3) (aCons (eB dLen (aCons (eVar 0) (aNil))) (aNil)) (l1__law_directions)) (sSeq (sForR (gNm 3) (aCons (eB dLen (aCons (eVar 1) (aNil))) (aNil)) (l2__law_directions)) (sFrz 2 (sRet (eVar 2)))))
def F__law_directions : List D → R D := runF 6 b__law_directions
def l1__law_parts : SM := sSeq (sAsg 7 (e2 dAdd (e2 dMul (e2 dSub (e2 dAt (eVar 6) (eC (.int 0))) (e2 dAt (eVar 5) (eC (.int 0)))) (eVar 4)) (e2 dAt (eVar 2) (eC (.int 0))))) (sSeq (sAsg 8 (e2 dAdd (e2 dMul (e2 dSub (e2 dAt (eVar 6) (eC (.int 1))) (e2 dAt (eVar 5) (eC (.int 1)))) (eVar 4)) (e2 dAt (eVar 2) (eC (.int 1))))) (sIf (mB (e2 dLt (e2 dAdd (e2 dMul (eVar 7) (e2 dAt (eVar 3) (eC (.int 0)))) (e2 dMul (eVar 8) (e2 dAt (eVar 3) (eC (.int 1))))) (eC (.int 0)))) (sRet (eC (.bl false))) (sNil)))
def l2__law_parts : SM := sFor (gNm 6) asL (eVar 1) (l1__law_parts)
def b__law_parts : SM := sSeq (sAsg 4 (e2 dAt (eVar 2) (eC (.int 2)))) (sSeq (sFor (gNm 5) asL (eVar 0) (l2__law_parts)) (sRet (eC (.bl true))))
def F__law_parts : List D → R D := runF 9 b__law_parts
def b__law_direction : SM := sRet (eAnd (eB dIsi (aCons (eVar 0) (aCons (eC (.ty "tuple")) (aNil)))) (eAnd (e2 dEq (eB dLen (aCons (eVar 0) (aNil))) (eC (.int 2))) (eAnd (eF F__law_whole (aCons (e2 dAt (eVar 0) (eC (.int 0))) (aNil))) (eF F__law_whole (aCons (e2 dAt (eVar 0) (eC (.int 1))) (aNil))))))
def F__law_direction : List D → R D := runF 1 b__law_direction
def l1__law_line_right : SM := sIf (mB (eF F__law_parts (aCons (eVar 0) (aCons (eVar 1) (aCons (eVar 2) (aCons (eVar 6) (aNil))))))) (sRet (eC (.bl false))) (sNil)
def b__law_line_right : SM := sSeq (sAsg 4 (eL (aLst (aCons (eL (aB asC (aCons (eVar 0) (aNil)))) (aCons (eL (aB asC (aCons (eVar 1) (aNil)))) (aNil)))))) (sSeq (sAsg 5 (eF F_line (aCons (e2 dAt (eVar 4) (eC (.int 0))) (aCons (e2 dAt (eVar 4) (eC (.int 1))) (aCons (eVar 2) (aNil)))))) (sSeq (sIf (mB (e2 dNe (eVar 4) (eL (aLst (aCons (eVar 0) (aCons (eVar 1) (aNil))))))) (sRet (eC (.bl false))) (sNil)) (sSeq (sIf (mB (e2 dIs (eVar 5) (eC .non))) (sSeq (sFor (gNm 6) asL (eVar 3) (l1__law_line_right)) (sRet (eC (.bl true)))) (sNil)) (sRet (eAnd (eF F__law_direction (aCons (eVar 5) (aNil))) (eAnd (e2 dNe (eVar 5) (eTup (aCons (eC (.int 0)) (aCons (eC (.int 0)) (aNil))))) (eF F__law_parts (aCons (eVar 0) (aCons (eVar 1) (aCons (eVar 2) (aCons (eVar 5) (aNil))))))))))))
def F__law_line_right : List D → R D := runF 7 b__law_line_right
end Law

namespace Law
open PySem PySem.Spec PyProof.Rows L2 GD
def b_crossing : SM := sSeq (sTgt (gTp (gsCons (gNm 3) (gsCons (gNm 4) (gsNil)))) (eVar 0)) (sSeq (sTgt (gTp (gsCons (gNm 5) (gsCons (gNm 6) (gsNil)))) (eVar 1)) (sSeq (sAsg 7 (e2 dAt (eVar 2) (eC (.int 2)))) (sSeq (sAsg 8 (eTup (aCons (e2 dSub (e2 dAt (eVar 4) (eC (.int 0))) (e2 dAt (eVar 3) (eC (.int 0)))) (aCons (e2 dSub (e2 dAt (eVar 4) (eC (.int 1))) (e2 dAt (eVar 3) (eC (.int 1)))) (aNil))))) (sSeq (sAsg 9 (eTup (aCons (e2 dSub (e2 dAt (eVar 6) (eC (.int 0))) (e2 dAt (eVar 5) (eC (.int 0)))) (aCons (e2 dSub (e2 dAt (eVar 6) (eC (.int 1))) (e2 dAt (eVar 5) (eC (.int 1)))) (aNil))))) (sSeq (sAsg 10 (e2 dSub (e2 dMul (e2 dAt (eVar 8) (eC (.int 0))) (e2 dAt (eVar 9) (eC (.int 1)))) (e2 dMul (e2 dAt (eVar 8) (eC (.int 1))) (e2 dAt (eVar 9) (eC (.int 0)))))) (sSeq (sIf (mB (e2 dEq (eVar 10) (eC (.int 0)))) (sRet (eC .non)) (sNil)) (sSeq (sAsg 11 (e2 dAdd (e2 dMul (e2 dSub (e2 dAt (eVar 5) (eC (.int 0))) (e2 dAt (eVar 3) (eC (.int 0)))) (eVar 7)) (e2 dAt (eVar 2) (eC (.int 0))))) (sSeq (sAsg 12 (e2 dAdd (e2 dMul (e2 dSub (e2 dAt (eVar 5) (eC (.int 1))) (e2 dAt (eVar 3) (eC (.int 1)))) (eVar 7)) (e2 dAt (eVar 2) (eC (.int 1))))) (sSeq (sAsg 13 (e2 dSub (e2 dMul (eVar 11) (e2 dAt (eVar 9) (eC (.int 1)))) (e2 dMul (eVar 12) (e2 dAt (eVar 9) (eC (.int 0)))))) (sSeq (sAsg 14 (e2 dSub (e2 dMul (eVar 11) (e2 dAt (eVar 8) (eC (.int 1)))) (e2 dMul (eVar 12) (e2 dAt (eVar 8) (eC (.int 0)))))) (sSeq (sIf (mB (e2 dLt (eVar 10) (eC (.int 0)))) (sSeq (sAsg 10 (e1 dNeg (eVar 10))) (sSeq (sAsg 13 (e1 dNeg (eVar 13))) (sAsg 14 (e1 dNeg (eVar 14))))) (sNil)) (sSeq (sIf (mOr (mNot (mB (eCh dLe dLe (eC (.int 0)) (eVar 13) (e2 dMul (eVar 7) (eVar 10))))) (mNot (mB (eCh dLe dLe (eC (.int 0)) (eVar 14) (e2 dMul (eVar 7) (eVar 10)))))) (sRet (eC .non)) (sNil)) (sRet (eF F_spot (aCons (e2 dAdd (e2 dMul (e2 dMul (e2 dAt (eVar 3) (eC (.int 0))) (eVar 7)) (eVar 10)) (e2 dMul (e2 dAt (eVar 8) (eC (.int 0))) (eVar 13))) (aCons (e2 dAdd (e2 dMul (e2 dMul (e2 dAt (eVar 3) (eC (.int 1))) (eVar 7)) (eVar 10)) (e2 dMul (e2 dAt (eVar 8) (eC (.int 1))) (eVar 13))) (aCons (e2 dMul (eVar 7) (eVar 10)) (aNil))))))))))))))))))
def F_crossing : List D → R D := runF 15 b_crossing
def l1_in_order : SM := sAsg 3 (e2 dAdd (eVar 3) (eC (.int 1)))
def l2_in_order : SM := sSeq (sAsg 3 (eC (.int 0))) (sSeq (sWhile (fuelL 1) (mAnd (mB (e2 dLt (eVar 3) (eOwnLen 1))) (mB (eF F_ahead (aCons (eOwnAt 1 (eVar 3)) (aCons (eVar 2) (aNil)))))) (l1_in_order)) (sIf (mOr (mB (e2 dEq (eVar 3) (eOwnLen 1))) (mB (e2 dNe (eOwnAt 1 (eVar 3)) (eVar 2)))) (sIns 1 (eVar 3) (eVar 2)) (sNil)))
def b_in_order : SM := sSeq (sOwn 1 (aLst (aNil))) (sSeq (sFor (gNm 2) asL (eVar 0) (l2_in_order)) (sFrz 1 (sRet (eVar 1))))
def F_in_order : List D → R D := runF 4 b_in_order
def l1_shared : SM := sSeq (sAsg 5 (eF F_put_at (aCons (eVar 4) (aCons (eC (.tup [.int 0, .int 0, .int 1])) (aNil))))) (sIf (mB (e2 dGe (eF F_where (aCons (eVar 1) (aCons (eVar 2) (aCons (eVar 5) (aNil))))) (eC (.int 0)))) (sApp 3 (eVar 5)) (sNil))
def l2_shared : SM := sSeq (sAsg 5 (eF F_put_at (aCons (eVar 4) (aCons (eVar 2) (aNil))))) (sIf (mB (e2 dGe (eF F_where (aCons (eVar 0) (aCons (eC (.tup [.int 0, .int 0, .int 1])) (aCons (eVar 5) (aNil))))) (eC (.int 0)))) (sApp 3 (eVar 5)) (sNil))
def l3_shared : SM := sSeq (sAsg 5 (eF F_crossing (aCons (eVar 6) (aCons (eVar 7) (aCons (eVar 2) (aNil)))))) (sIf (mB (e2 dIsNot (eVar 5) (eC .non))) (sApp 3 (eVar 5)) (sNil))
def l4_shared : SM := sFor (gNm 7) asL (eF F_sides (aCons (eVar 1) (aNil))) (l3_shared)
def b_shared : SM := sSeq (sOwn 3 (aLst (aNil))) (sSeq (sFor (gNm 4) asL (eVar 0) (l1_shared)) (sSeq (sFor (gNm 4) asL (eVar 1) (l2_shared)) (sSeq (sFor (gNm 6) asL (eF F_sides (aCons (eVar 0) (aNil))) (l4_shared)) (sFrz 3 (sRet (eF F_in_order (aCons (eVar 3) (aNil))))))))
def F_shared : List D → R D := runF 8 b_shared
def l1__law_within : SM := sSeq (sAsg 7 (e2 dAt (eVar 0) (e2 dSub (eVar 6) (eC (.int 1))))) (sSeq (sAsg 8 (e2 dAt (eVar 0) (eVar 6))) (sSeq (sAsg 9 (e2 dMul (e2 dSub (e2 dAt (eVar 8) (eC (.int 0))) (e2 dAt (eVar 7) (eC (.int 0)))) (e2 dSub (eVar 5) (e2 dMul (e2 dAt (eVar 7) (eC (.int 1))) (eVar 3))))) (sIf (mB (e2 dLt (eVar 9) (e2 dMul (e2 dSub (e2 dAt (eVar 8) (eC (.int 1))) (e2 dAt (eVar 7) (eC (.int 1)))) (e2 dSub (eVar 4) (e2 dMul (e2 dAt (eVar 7) (eC (.int 0))) (eVar 3)))))) (sRet (eC (.bl false))) (sNil))))
def b__law_within : SM := sSeq (sAsg 3 (e2 dMul (e2 dAt (eVar 1) (eC (.int 2))) (e2 dAt (eVar 2) (eC (.int 2))))) (sSeq (sAsg 4 (e2 dSub (e2 dMul (e2 dAt (eVar 2) (eC (.int 0))) (e2 dAt (eVar 1) (eC (.int 2)))) (e2 dMul (e2 dAt (eVar 1) (eC (.int 0))) (e2 dAt (eVar 2) (eC (.int 2)))))) (sSeq (sAsg 5 (e2 dSub (e2 dMul (e2 dAt (eVar 2) (eC (.int 1))) (e2 dAt (eVar 1) (eC (.int 2)))) (e2 dMul (e2 dAt (eVar 1) (eC (.int 1))) (e2 dAt (eVar 2) (eC (.int 2)))))) (sSeq (sForR (gNm 6) (aCons (eB dLen (aCons (eVar 0) (aNil))) (aNil)) (l1__law_within)) (sRet (eC (.bl true))))))
def F__law_within : List D → R D := runF 10 b__law_within
def b__law_risen : SM := sSeq (sAsg 2 (e2 dSub (e2 dMul (e2 dAt (eVar 1) (eC (.int 0))) (e2 dAt (eVar 0) (eC (.int 2)))) (e2 dMul (e2 dAt (eVar 0) (eC (.int 0))) (e2 dAt (eVar 1) (eC (.int 2)))))) (sRet (eOr (e2 dGt (eVar 2) (eC (.int 0))) (eAnd (e2 dEq (eVar 2) (eC (.int 0))) (e2 dGt (e2 dMul (e2 dAt (eVar 1) (eC (.int 1))) (e2 dAt (eVar 0) (eC (.int 2)))) (e2 dMul (e2 dAt (eVar 0) (eC (.int 1))) (e2 dAt (eVar 1) (eC (.int 2))))))))
def F__law_risen : List D → R D := runF 3 b__law_risen
def b__law_bend : SM := sSeq (sAsg 3 (e2 dSub (e2 dMul (e2 dAt (eVar 1) (eC (.int 0))) (e2 dAt (eVar 0) (eC (.int 2)))) (e2 dMul (e2 dAt (eVar 0) (eC (.int 0))) (e2 dAt (eVar 1) (eC (.int 2)))))) (sSeq (sAsg 4 (e2 dSub (e2 dMul (e2 dAt (eVar 1) (eC (.int 1))) (e2 dAt (eVar 0) (eC (.int 2)))) (e2 dMul (e2 dAt (eVar 0) (eC (.int 1))) (e2 dAt (eVar 1) (eC (.int 2)))))) (sSeq (sAsg 5 (e2 dMul (eVar 3) (e2 dSub (e2 dMul (e2 dAt (eVar 2) (eC (.int 1))) (e2 dAt (eVar 0) (eC (.int 2)))) (e2 dMul (e2 dAt (eVar 0) (eC (.int 1))) (e2 dAt (eVar 2) (eC (.int 2))))))) (sRet (e2 dSub (eVar 5) (e2 dMul (eVar 4) (e2 dSub (e2 dMul (e2 dAt (eVar 2) (eC (.int 0))) (e2 dAt (eVar 0) (eC (.int 2)))) (e2 dMul (e2 dAt (eVar 0) (eC (.int 0))) (e2 dAt (eVar 2) (eC (.int 2))))))))))
def F__law_bend : List D → R D := runF 6 b__law_bend
def l1__law_spots_right : SM := sIf (mB (e2 dEq (eF F__law_bend (aCons (e2 dAt (eVar 0) (eVar 6)) (aCons (e2 dAt (eVar 0) (eVar 5)) (aCons (e2 dAt (eVar 0) (eVar 4)) (aNil))))) (eC (.int 0)))) (sRet (eC (.bl false))) (sNil)
def l2__law_spots_right : SM := sForR (gNm 6) (aCons (eVar 5) (aNil)) (l1__law_spots_right)
def l3__law_spots_right : SM := sSeq (sIf (mOr (mNot (mB (eF F__law_is_spot (aCons (e2 dAt (eVar 0) (eVar 4)) (aNil))))) (mAnd (mB (e2 dGt (eVar 4) (eC (.int 0)))) (mNot (mB (eF F__law_risen (aCons (e2 dAt (eVar 0) (e2 dSub (eVar 4) (eC (.int 1)))) (aCons (e2 dAt (eVar 0) (eVar 4)) (aNil)))))))) (sRet (eC (.bl false))) (sNil)) (sSeq (sIf (mOr (mNot (mB (eF F__law_within (aCons (eVar 1) (aCons (eTup (aCons (eC (.int 0)) (aCons (eC (.int 0)) (aCons (eC (.int 1)) (aNil))))) (aCons (e2 dAt (eVar 0) (eVar 4)) (aNil))))))) (mNot (mB (eF F__law_within (aCons (eVar 2) (aCons (eVar 3) (aCons (e2 dAt (eVar 0) (eVar 4)) (aNil)))))))) (sRet (eC (.bl false))) (sNil)) (sForR (gNm 5) (aCons (eVar 4) (aNil)) (l2__law_spots_right)))
def b__law_spots_right : SM := sSeq (sForR (gNm 4) (aCons (eB dLen (aCons (eVar 0) (aNil))) (aNil)) (l3__law_spots_right)) (sRet (eC (.bl true)))
def F__law_spots_right : List D → R D := runF 7 b__law_spots_right
def l1__law_corners_there : SM := sSeq (sAsg 5 (eTup (aCons (e2 dAt (eVar 4) (eC (.int 0))) (aCons (e2 dAt (eVar 4) (eC (.int 1))) (aCons (eC (.int 1)) (aNil)))))) (sIf (mAnd (mB (eF F__law_within (aCons (eVar 2) (aCons (eVar 3) (aCons (eVar 5) (aNil)))))) (mB (e2 dNotIn (eVar 5) (eVar 0)))) (sRet (eC (.bl false))) (sNil))
def l2__law_corners_there : SM := sSeq (sAsg 6 (e2 dAdd (e2 dMul (e2 dAt (eVar 4) (eC (.int 0))) (e2 dAt (eVar 3) (eC (.int 2)))) (e2 dAt (eVar 3) (eC (.int 0))))) (sSeq (sAsg 7 (e2 dAdd (e2 dMul (e2 dAt (eVar 4) (eC (.int 1))) (e2 dAt (eVar 3) (eC (.int 2)))) (e2 dAt (eVar 3) (eC (.int 1))))) (sSeq (sAsg 8 (eF F__law_common (aCons (eF F__law_common (aCons (eVar 6) (aCons (eVar 7) (aNil)))) (aCons (e2 dAt (eVar 3) (eC (.int 2))) (aNil))))) (sSeq (sAsg 5 (eTup (aCons (e2 dDiv (eVar 6) (eVar 8)) (aCons (e2 dDiv (eVar 7) (eVar 8)) (aCons (e2 dDiv (e2 dAt (eVar 3) (eC (.int 2))) (eVar 8)) (aNil)))))) (sIf (mAnd (mB (eF F__law_within (aCons (eVar 1) (aCons (eTup (aCons (eC (.int 0)) (aCons (eC (.int 0)) (aCons (eC (.int 1)) (aNil))))) (aCons (eVar 5) (aNil)))))) (mB (e2 dNotIn (eVar 5) (eVar 0)))) (sRet (eC (.bl false))) (sNil)))))
def b__law_corners_there : SM := sSeq (sFor (gNm 4) asL (eVar 1) (l1__law_corners_there)) (sSeq (sFor (gNm 4) asL (eVar 2) (l2__law_corners_there)) (sRet (eC (.bl true))))
def F__law_corners_there : List D → R D := runF 9 b__law_corners_there
def b_amid : SM := sSeq (sAsg 3 (e2 dAdd (e2 dAdd (e2 dMul (e2 dMul (e2 dAt (eVar 0) (eC (.int 0))) (e2 dAt (eVar 1) (eC (.int 2)))) (e2 dAt (eVar 2) (eC (.int 2)))) (e2 dMul (e2 dMul (e2 dAt (eVar 1) (eC (.int 0))) (e2 dAt (eVar 0) (eC (.int 2)))) (e2 dAt (eVar 2) (eC (.int 2))))) (e2 dMul (e2 dMul (e2 dAt (eVar 2) (eC (.int 0))) (e2 dAt (eVar 0) (eC (.int 2)))) (e2 dAt (eVar 1) (eC (.int 2)))))) (sSeq (sAsg 4 (e2 dAdd (e2 dAdd (e2 dMul (e2 dMul (e2 dAt (eVar 0) (eC (.int 1))) (e2 dAt (eVar 1) (eC (.int 2)))) (e2 dAt (eVar 2) (eC (.int 2)))) (e2 dMul (e2 dMul (e2 dAt (eVar 1) (eC (.int 1))) (e2 dAt (eVar 0) (eC (.int 2)))) (e2 dAt (eVar 2) (eC (.int 2))))) (e2 dMul (e2 dMul (e2 dAt (eVar 2) (eC (.int 1))) (e2 dAt (eVar 0) (eC (.int 2)))) (e2 dAt (eVar 1) (eC (.int 2)))))) (sRet (eF F_spot (aCons (eVar 3) (aCons (eVar 4) (aCons (e2 dMul (e2 dMul (e2 dMul (eC (.int 3)) (e2 dAt (eVar 0) (eC (.int 2)))) (e2 dAt (eVar 1) (eC (.int 2)))) (e2 dAt (eVar 2) (eC (.int 2)))) (aNil)))))))
def F_amid : List D → R D := runF 5 b_amid
def b_inner : SM := sSeq (sAsg 3 (eF F_shared (aCons (eVar 0) (aCons (eVar 1) (aCons (eVar 2) (aNil)))))) (sSeq (sIf (mB (e2 dLt (eB dLen (aCons (eVar 3) (aNil))) (eC (.int 3)))) (sRet (eC .non)) (sNil)) (sRet (eF F_amid (aCons (e2 dAt (eVar 3) (eC (.int 0))) (aCons (e2 dAt (eVar 3) (eC (.int 1))) (aCons (e2 dAt (eVar 3) (eC (.int 2))) (aNil)))))))
def F_inner : List D → R D := runF 4 b_inner
def b_overlap : SM := sRet (e2 dIsNot (eF F_inner (aCons (eVar 0) (aCons (eVar 1) (aCons (eVar 2) (aNil))))) (eC .non))
def F_overlap : List D → R D := runF 3 b_overlap
def b__law_gap : SM := sSeq (sAsg 4 (eB dMinL (aCons (eL (aLc asL [5] (gNm 5) (mYes) (eVar 1) (e2 dAdd (e2 dMul (e2 dAt (eVar 5) (eC (.int 0))) (e2 dAt (eVar 3) (eC (.int 0)))) (e2 dMul (e2 dAt (eVar 5) (eC (.int 1))) (e2 dAt (eVar 3) (eC (.int 1))))))) (aNil)))) (sSeq (sAsg 6 (eB dMaxL (aCons (eL (aLc asL [5] (gNm 5) (mYes) (eVar 0) (e2 dAdd (e2 dMul (e2 dAt (eVar 5) (eC (.int 0))) (e2 dAt (eVar 3) (eC (.int 0)))) (e2 dMul (e2 dAt (eVar 5) (eC (.int 1))) (e2 dAt (eVar 3) (eC (.int 1))))))) (aNil)))) (sRet (e2 dAdd (e2 dAdd (e2 dMul (e2 dSub (eVar 4) (eVar 6)) (e2 dAt (eVar 2) (eC (.int 2)))) (e2 dMul (e2 dAt (eVar 2) (eC (.int 0))) (e2 dAt (eVar 3) (eC (.int 0))))) (e2 dMul (e2 dAt (eVar 2) (eC (.int 1))) (e2 dAt (eVar 3) (eC (.int 1)))))))
def F__law_gap : List D → R D := runF 7 b__law_gap
def l1__law_directions_v2 : SM := sApp 2 (eTup (aCons (e2 dSub (e2 dAt (e2 dAt (eVar 0) (eVar 3)) (eC (.int 1))) (e2 dAt (e2 dAt (eVar 0) (e2 dSub (eVar 3) (eC (.int 1)))) (eC (.int 1)))) (aCons (e2 dSub (e2 dAt (e2 dAt (eVar 0) (e2 dSub (eVar 3) (eC (.int 1)))) (eC (.int 0))) (e2 dAt (e2 dAt (eVar 0) (eVar 3)) (eC (.int 0)))) (aNil))))
def l2__law_directions_v2 : SM := sApp 2 (eTup (aCons (e2 dSub (e2 dAt (e2 dAt (eVar 1) (e2 dSub (eVar 3) (eC (.int 1)))) (eC (.int 1))) (e2 dAt (e2 dAt (eVar 1) (eVar 3)) (eC (.int 1)))) (aCons (e2 dSub (e2 dAt (e2 dAt (eVar 1) (eVar 3)) (eC (.int 0))) (e2 dAt (e2 dAt (eVar 1) (e2 dSub (eVar 3) (eC (.int 1)))) (eC (.int 0)))) (aNil))))
def b__law_directions_v2 : SM := sSeq (sOwn 2 (aLst (aNil))) (sSeq (sForR (gNm 3) (aCons (eB dLen (aCons (eVar 0) (aNil))) (aNil)) (l1__law_directions_v2)) (sSeq (sForR (gNm 3) (aCons (eB dLen (aCons (eVar 1) (aNil))) (aNil)) (l2__law_directions_v2)) (sFrz 2 (sRet (eVar 2)))))
def F__law_directions_v2 : List D → R D := runF 4 b__law_directions_v2
def l1__law_inside : SM := sSeq (sAsg 8 (e2 dAt (eVar 0) (e2 dSub (eVar 7) (eC (.int 1))))) (sSeq (sAsg 9 (e2 dAt (eVar 0) (eVar 7))) (sSeq (sAsg 10 (e2 dMul (e2 dSub (e2 dAt (eVar 9) (eC (.int 0))) (e2 dAt (eVar 8) (eC (.int 0)))) (e2 dSub (eVar 5) (e2 dMul (e2 dAt (eVar 8) (eC (.int 1))) (eVar 3))))) (sSeq (sAsg 10 (e2 dSub (eVar 10) (e2 dMul (e2 dSub (e2 dAt (eVar 9) (eC (.int 1))) (e2 dAt (eVar 8) (eC (.int 1)))) (e2 dSub (eVar 4) (e2 dMul (e2 dAt (eVar 8) (eC (.int 0))) (eVar 3)))))) (sIf (mOr (mB (e2 dIs (eVar 6) (eC .non))) (mB (e2 dLt (eVar 10) (eVar 6)))) (sAsg 6 (eVar 10)) (sNil)))))
def b__law_inside : SM := sSeq (sAsg 3 (e2 dMul (e2 dAt (eVar 1) (eC (.int 2))) (e2 dAt (eVar 2) (eC (.int 2))))) (sSeq (sAsg 4 (e2 dSub (e2 dMul (e2 dAt (eVar 2) (eC (.int 0))) (e2 dAt (eVar 1) (eC (.int 2)))) (e2 dMul (e2 dAt (eVar 1) (eC (.int 0))) (e2 dAt (eVar 2) (eC (.int 2)))))) (sSeq (sAsg 5 (e2 dSub (e2 dMul (e2 dAt (eVar 2) (eC (.int 1))) (e2 dAt (eVar 1) (eC (.int 2)))) (e2 dMul (e2 dAt (eVar 1) (eC (.int 1))) (e2 dAt (eVar 2) (eC (.int 2)))))) (sSeq (sAsg 6 (eC .non)) (sSeq (sForR (gNm 7) (aCons (eB dLen (aCons (eVar 0) (aNil))) (aNil)) (l1__law_inside)) (sRet (eVar 6))))))
def F__law_inside : List D → R D := runF 11 b__law_inside
def b__law_right_v2 : SM := sSeq (sAsg 3 (eL (aLst (aCons (eL (aB asC (aCons (eVar 0) (aNil)))) (aCons (eL (aB asC (aCons (eVar 1) (aNil)))) (aNil)))))) (sSeq (sAsg 4 (eF F_inner (aCons (e2 dAt (eVar 3) (eC (.int 0))) (aCons (e2 dAt (eVar 3) (eC (.int 1))) (aCons (eVar 2) (aNil)))))) (sSeq (sAsg 5 (eF F_overlap (aCons (e2 dAt (eVar 3) (eC (.int 0))) (aCons (e2 dAt (eVar 3) (eC (.int 1))) (aCons (eVar 2) (aNil)))))) (sSeq (sIf (mOr (mB (e2 dNe (eVar 3) (eL (aLst (aCons (eVar 0) (aCons (eVar 1) (aNil))))))) (mOr (mNot (mB (eB dIsi (aCons (eVar 5) (aCons (eC (.ty "bool")) (aNil)))))) (mB (e2 dNe (eVar 5) (e2 dIsNot (eVar 4) (eC .non)))))) (sRet (eC (.bl false))) (sNil)) (sSeq (sIf (mB (e2 dIs (eVar 4) (eC .non))) (sRet (e2 dGe (eB dMaxL (aCons (eL (aLc asL [6] (gNm 6) (mYes) (eF F__law_directions_v2 (aCons (eVar 0) (aCons (eVar 1) (aNil)))) (eF F__law_gap (aCons (eVar 0) (aCons (eVar 1) (aCons (eVar 2) (aCons (eVar 6) (aNil)))))))) (aNil))) (eC (.int 0)))) (sNil)) (sSeq (sIf (mNot (mB (eF F__law_is_spot (aCons (eVar 4) (aNil))))) (sRet (eC (.bl false))) (sNil)) (sRet (eAnd (e2 dGt (eF F__law_inside (aCons (eVar 0) (aCons (eTup (aCons (eC (.int 0)) (aCons (eC (.int 0)) (aCons (eC (.int 1)) (aNil))))) (aCons (eVar 4) (aNil))))) (eC (.int 0))) (e2 dGt (eF F__law_inside (aCons (eVar 1) (aCons (eVar 2) (aCons (eVar 4) (aNil))))) (eC (.int 0))))))))))
def F__law_right_v2 : List D → R D := runF 7 b__law_right_v2
def b__law_one_of_both : SM := sSeq (sAsg 3 (eL (aLst (aCons (eL (aB asC (aCons (eVar 0) (aNil)))) (aCons (eL (aB asC (aCons (eVar 1) (aNil)))) (aNil)))))) (sSeq (sAsg 4 (eF F_line (aCons (e2 dAt (eVar 3) (eC (.int 0))) (aCons (e2 dAt (eVar 3) (eC (.int 1))) (aCons (eVar 2) (aNil)))))) (sSeq (sAsg 5 (eF F_inner (aCons (e2 dAt (eVar 3) (eC (.int 0))) (aCons (e2 dAt (eVar 3) (eC (.int 1))) (aCons (eVar 2) (aNil)))))) (sSeq (sIf (mOr (mB (e2 dEq (e2 dIs (eVar 4) (eC .non)) (e2 dIs (eVar 5) (eC .non)))) (mB (e2 dNe (eVar 3) (eL (aLst (aCons (eVar 0) (aCons (eVar 1) (aNil)))))))) (sRet (eC .non)) (sNil)) (sSeq (sIf (mB (e2 dIsNot (eVar 5) (eC .non))) (sSeq (sIf (mAnd (mB (e2 dGt (eF F__law_inside (aCons (eVar 0) (aCons (eTup (aCons (eC (.int 0)) (aCons (eC (.int 0)) (aCons (eC (.int 1)) (aNil))))) (aCons (eVar 5) (aNil))))) (eC (.int 0)))) (mB (e2 dGt (eF F__law_inside (aCons (eVar 1) (aCons (eVar 2) (aCons (eVar 5) (aNil))))) (eC (.int 0))))) (sRet (eC (.str "spot"))) (sNil)) (sRet (eC .non))) (sNil)) (sSeq (sIf (mOr (mB (e2 dEq (eVar 4) (eTup (aCons (eC (.int 0)) (aCons (eC (.int 0)) (aNil)))))) (mB (e2 dLt (eF F__law_gap (aCons (eVar 0) (aCons (eVar 1) (aCons (eVar 2) (aCons (eVar 4) (aNil)))))) (eC (.int 0))))) (sRet (eC .non)) (sNil)) (sRet (eC (.str "line"))))))))
def F__law_one_of_both : List D → R D := runF 6 b__law_one_of_both
def l1_overlap_times : SM := sSeq (sTgt (gTp (gsCons (gNm 7) (gsCons (gNm 8) (gsNil)))) (eF F_gap (aCons (eVar 0) (aCons (eVar 1) (aCons (eVar 2) (aCons (eVar 6) (aNil))))))) (sSeq (sAsg 9 (e1 dNeg (eF F_along (aCons (eVar 3) (aCons (eVar 6) (aNil)))))) (sIf (mB (e2 dEq (eVar 9) (eC (.int 0)))) (sIf (mB (e2 dGe (eVar 7) (eC (.int 0)))) (sRet (eC .non)) (sNil)) (sIf (mB (e2 dGt (eVar 9) (eC (.int 0)))) (sSeq (sAsg 10 (eF F_portion (aCons (eVar 7) (aCons (e2 dMul (eVar 9) (eVar 8)) (aNil))))) (sIf (mOr (mB (e2 dIs (eVar 4) (eC .non))) (mB (eF F_under (aCons (eVar 4) (aCons (eVar 10) (aNil)))))) (sAsg 4 (eVar 10)) (sNil))) (sSeq (sAsg 10 (eF F_portion (aCons (eVar 7) (aCons (e2 dMul (eVar 9) (eVar 8)) (aNil))))) (sIf (mOr (mB (e2 dIs (eVar 5) (eC .non))) (mB (eF F_under (aCons (eVar 10) (aCons (eVar 5) (aNil)))))) (sAsg 5 (eVar 10)) (sNil))))))
def b_overlap_times : SM := sSeq (sAsg 4 (eC .non)) (sSeq (sAsg 5 (eC .non)) (sSeq (sFor (gNm 6) asL (eF F_directions (aCons (eVar 0) (aCons (eVar 1) (aNil)))) (l1_overlap_times)) (sSeq (sIf (mOr (mB (e2 dIs (eVar 4) (eC .non))) (mOr (mB (e2 dLe (e2 dAt (eVar 5) (eC (.int 0))) (eC (.int 0)))) (mNot (mB (eF F_under (aCons (eVar 4) (aCons (eVar 5) (aNil)))))))) (sRet (eC .non)) (sNil)) (sRet (eTup (aCons (eVar 4) (aCons (eVar 5) (aNil))))))))
def F_overlap_times : List D → R D := runF 11 b_overlap_times
def b_clash : SM := sSeq (sIf (mB (e2 dIs (eF F_line (aCons (eVar 0) (aCons (eVar 1) (aCons (eVar 2) (aNil))))) (eC .non))) (sRaise "Crowded") (sNil)) (sSeq (sAsg 4 (eF F_overlap_times (aCons (eVar 0) (aCons (eVar 1) (aCons (eVar 2) (aCons (eVar 3) (aNil))))))) (sSeq (sIf (mB (e2 dIs (eVar 4) (eC .non))) (sRet (eC .non)) (sNil)) (sRet (e2 dAt (eVar 4) (eC (.int 0))))))
def F_clash : List D → R D := runF 5 b_clash
def b__law_speed : SM := sSeq (sAsg 5 (e2 dAt (eVar 0) (e2 dMod (e2 dDiv (eVar 3) (eC (.int 4))) (eB dLen (aCons (eVar 0) (aNil)))))) (sSeq (sAsg 6 (e2 dAt (eVar 1) (e2 dMod (e2 dDiv (eVar 3) (eC (.int 32))) (eB dLen (aCons (eVar 1) (aNil)))))) (sSeq (sAsg 7 (e2 dSub (e2 dMul (e2 dSub (e2 dAt (eVar 5) (eC (.int 0))) (e2 dAt (eVar 6) (eC (.int 0)))) (e2 dAt (eVar 2) (eC (.int 2)))) (e2 dAt (eVar 2) (eC (.int 0))))) (sSeq (sAsg 8 (e2 dSub (e2 dMul (e2 dSub (e2 dAt (eVar 5) (eC (.int 1))) (e2 dAt (eVar 6) (eC (.int 1)))) (e2 dAt (eVar 2) (eC (.int 2)))) (e2 dAt (eVar 2) (eC (.int 1))))) (sSeq (sIf (mB (e2 dEq (e2 dMod (eVar 3) (eC (.int 4))) (eC (.int 0)))) (sRet (eTup (aCons (e2 dSub (e2 dMod (e2 dDiv (eVar 3) (eC (.int 256))) (eC (.int 7))) (eC (.int 3))) (aCons (e2 dSub (e2 dMod (e2 dDiv (eVar 3) (eC (.int 1792))) (eC (.int 7))) (eC (.int 3))) (aNil))))) (sNil)) (sSeq (sIf (mB (e2 dEq (e2 dMod (eVar 3) (eC (.int 4))) (eC (.int 1)))) (sRet (eTup (aCons (eVar 7) (aCons (eVar 8) (aNil))))) (sNil)) (sSeq (sIf (mB (e2 dEq (e2 dMod (eVar 3) (eC (.int 4))) (eC (.int 2)))) (sRet (eTup (aCons (e2 dSub (e2 dAdd (e2 dMul (eC (.int 2)) (eVar 7)) (e2 dMod (eVar 4) (eC (.int 5)))) (eC (.int 2))) (aCons (e2 dSub (e2 dAdd (e2 dMul (eC (.int 2)) (eVar 8)) (e2 dMod (e2 dDiv (eVar 4) (eC (.int 5))) (eC (.int 5)))) (eC (.int 2))) (aNil))))) (sNil)) (sSeq (sAsg 9 (e2 dMod (e2 dDiv (eVar 3) (eC (.int 256))) (eB dLen (aCons (eVar 0) (aNil))))) (sSeq (sAsg 10 (e2 dAdd (eC (.int 1)) (e2 dMod (eVar 4) (eC (.int 1000000))))) (sRet (eTup (aCons (e2 dMul (eVar 10) (e2 dSub (e2 dAt (e2 dAt (eVar 0) (eVar 9)) (eC (.int 0))) (e2 dAt (e2 dAt (eVar 0) (e2 dSub (eVar 9) (eC (.int 1)))) (eC (.int 0))))) (aCons (e2 dMul (eVar 10) (e2 dSub (e2 dAt (e2 dAt (eVar 0) (eVar 9)) (eC (.int 1))) (e2 dAt (e2 dAt (eVar 0) (e2 dSub (eVar 9) (eC (.int 1)))) (eC (.int 1))))) (aNil)))))))))))))
def F__law_speed : List D → R D := runF 11 b__law_speed
def b__law_pair : SM := sSeq (sAsgL 2 (aLcR [3] (gNm 3) (mYes) (aCons (eC (.int 8)) (aNil)) (eF F__law_cell (aCons (eVar 0) (aCons (e2 dAdd (eVar 1) (eVar 3)) (aNil)))))) (sSeq (sAsg 4 (eF F__law_big (aCons (e2 dDiv (e2 dAt (eVar 2) (eC (.int 3))) (eC (.int 7))) (aNil)))) (sSeq (sAsg 5 (eF F_hull (aCons (eF F__law_points (aCons (e2 dAt (eVar 2) (eC (.int 0))) (aCons (e2 dAt (eVar 2) (eC (.int 1))) (aCons (eVar 4) (aNil))))) (aNil)))) (sSeq (sIf (mB (e2 dEq (e2 dMod (e2 dAt (eVar 2) (eC (.int 1))) (eC (.int 8))) (eC (.int 3)))) (sAsg 5 (eF F_hull (aCons (eF F__law_many_sided (aCons (eVar 4) (aNil))) (aNil)))) (sNil)) (sSeq (sAsg 6 (eF F_hull (aCons (eF F__law_points (aCons (e2 dAt (eVar 2) (eC (.int 2))) (aCons (e2 dAt (eVar 2) (eC (.int 3))) (aCons (eVar 4) (aNil))))) (aNil)))) (sSeq (sAsg 7 (eF F__law_shift (aCons (eVar 5) (aCons (eVar 6) (aCons (e2 dAt (eVar 2) (eC (.int 4))) (aCons (e2 dAt (eVar 2) (eC (.int 5))) (aCons (eVar 4) (aNil)))))))) (sRet (eL (aLst (aCons (eVar 5) (aCons (eVar 6) (aCons (eVar 7) (aCons (eF F__law_speed (aCons (eVar 5) (aCons (eVar 6) (aCons (eVar 7) (aCons (e2 dAt (eVar 2) (eC (.int 6))) (aCons (e2 dAt (eVar 2) (eC (.int 7))) (aNil))))))) (aNil)))))))))))))
def F__law_pair : List D → R D := runF 8 b__law_pair
def b__law_later : SM := sSeq (sAsg 3 (e2 dAt (eVar 0) (eC (.int 2)))) (sSeq (sAsg 4 (e2 dAdd (e2 dMul (e2 dAt (eVar 0) (eC (.int 0))) (e2 dAt (eVar 2) (eC (.int 1)))) (e2 dMul (e2 dMul (e2 dAt (eVar 1) (eC (.int 0))) (e2 dAt (eVar 2) (eC (.int 0)))) (eVar 3)))) (sRet (eTup (aCons (eVar 4) (aCons (e2 dAdd (e2 dMul (e2 dAt (eVar 0) (eC (.int 1))) (e2 dAt (eVar 2) (eC (.int 1)))) (e2 dMul (e2 dMul (e2 dAt (eVar 1) (eC (.int 1))) (e2 dAt (eVar 2) (eC (.int 0)))) (eVar 3))) (aCons (e2 dMul (eVar 3) (e2 dAt (eVar 2) (eC (.int 1)))) (aNil)))))))
def F__law_later : List D → R D := runF 5 b__law_later
def b__law_tried : SM := sRet (eL (aCat (eF F__law_directions_v2 (aCons (eVar 0) (aCons (eVar 1) (aNil)))) (eL (aLst (aCons (eTup (aCons (e2 dAt (eVar 2) (eC (.int 1))) (aCons (e2 dSub (eC (.int 0)) (e2 dAt (eVar 2) (eC (.int 0)))) (aNil)))) (aCons (eTup (aCons (e2 dSub (eC (.int 0)) (e2 dAt (eVar 2) (eC (.int 1)))) (aCons (e2 dAt (eVar 2) (eC (.int 0))) (aNil)))) (aNil)))))))
def F__law_tried : List D → R D := runF 3 b__law_tried
def b__law_is_time : SM := sSeq (sIf (mOr (mNot (mB (eB dIsi (aCons (eVar 0) (aCons (eC (.ty "tuple")) (aNil)))))) (mOr (mB (e2 dNe (eB dLen (aCons (eVar 0) (aNil))) (eC (.int 2)))) (mOr (mNot (mB (eF F__law_whole (aCons (e2 dAt (eVar 0) (eC (.int 0))) (aNil))))) (mNot (mB (eF F__law_whole (aCons (e2 dAt (eVar 0) (eC (.int 1))) (aNil)))))))) (sRet (eC (.bl false))) (sNil)) (sRet (eAnd (e2 dGe (e2 dAt (eVar 0) (eC (.int 0))) (eC (.int 0))) (eAnd (e2 dGt (e2 dAt (eVar 0) (eC (.int 1))) (eC (.int 0))) (e2 dEq (eF F__law_common (aCons (e2 dAt (eVar 0) (eC (.int 0))) (aCons (e2 dAt (eVar 0) (eC (.int 1))) (aNil)))) (eC (.int 1))))))
def F__law_is_time : List D → R D := runF 1 b__law_is_time
def l1__law_never : SM := sIf (mAnd (mB (e2 dNe (eVar 4) (eTup (aCons (eC (.int 0)) (aCons (eC (.int 0)) (aNil)))))) (mAnd (mB (e2 dGe (eF F__law_gap (aCons (eVar 0) (aCons (eVar 1) (aCons (eVar 2) (aCons (eVar 4) (aNil)))))) (eC (.int 0)))) (mB (e2 dGe (e2 dAdd (e2 dMul (e2 dAt (eVar 4) (eC (.int 0))) (e2 dAt (eVar 3) (eC (.int 0)))) (e2 dMul (e2 dAt (eVar 4) (eC (.int 1))) (e2 dAt (eVar 3) (eC (.int 1))))) (eC (.int 0)))))) (sRet (eC (.bl true))) (sNil)
def b__law_never : SM := sSeq (sFor (gNm 4) asL (eF F__law_tried (aCons (eVar 0) (aCons (eVar 1) (aCons (eVar 3) (aNil))))) (l1__law_never)) (sRet (eC (.bl false)))
def F__law_never : List D → R D := runF 5 b__law_never
def l1__law_then : SM := sSeq (sAsg 7 (eF F__law_gap (aCons (eVar 0) (aCons (eVar 1) (aCons (eVar 5) (aCons (eVar 6) (aNil))))))) (sIf (mOr (mB (e2 dGt (eVar 7) (eC (.int 0)))) (mAnd (mB (e2 dEq (eVar 7) (eC (.int 0)))) (mB (e2 dGe (e2 dAdd (e2 dMul (e2 dAt (eVar 6) (eC (.int 0))) (e2 dAt (eVar 3) (eC (.int 0)))) (e2 dMul (e2 dAt (eVar 6) (eC (.int 1))) (e2 dAt (eVar 3) (eC (.int 1))))) (eC (.int 0)))))) (sRet (eC (.bl false))) (sNil))
def l2__law_then : SM := sIf (mAnd (mB (e2 dGe (eF F__law_gap (aCons (eVar 0) (aCons (eVar 1) (aCons (eVar 2) (aCons (eVar 6) (aNil)))))) (eC (.int 0)))) (mB (e2 dGe (eF F__law_gap (aCons (eVar 0) (aCons (eVar 1) (aCons (eVar 5) (aCons (eVar 6) (aNil)))))) (eC (.int 0))))) (sRet (eC (.bl true))) (sNil)
def b__law_then : SM := sSeq (sAsg 5 (eF F__law_later (aCons (eVar 2) (aCons (eVar 3) (aCons (eVar 4) (aNil)))))) (sSeq (sFor (gNm 6) asL (eF F__law_directions_v2 (aCons (eVar 0) (aCons (eVar 1) (aNil)))) (l1__law_then)) (sSeq (sFor (gNm 6) asL (eF F__law_tried (aCons (eVar 0) (aCons (eVar 1) (aCons (eVar 3) (aNil))))) (l2__law_then)) (sRet (eC (.bl false)))))
def F__law_then : List D → R D := runF 8 b__law_then
def l1_line_up_to : SM := sIf (mB (e2 dGe (e2 dAt (eF F_gap (aCons (eVar 0) (aCons (eVar 1) (aCons (eVar 2) (aCons (eVar 6) (aNil)))))) (eC (.int 0))) (eC (.int 0)))) (sIf (mB (e2 dIs (eVar 4) (eC .non))) (sIf (mB (e2 dGe (eF F_along (aCons (eVar 3) (aCons (eVar 6) (aNil)))) (eC (.int 0)))) (sRet (eVar 6)) (sNil)) (sIf (mB (e2 dGe (e2 dAt (eF F_gap (aCons (eVar 0) (aCons (eVar 1) (aCons (eF F_gone_on (aCons (eVar 2) (aCons (eVar 3) (aCons (eVar 4) (aNil))))) (aCons (eVar 6) (aNil)))))) (eC (.int 0))) (eC (.int 0)))) (sRet (eVar 6)) (sNil))) (sNil)
def b_line_up_to : SM := sSeq (sAsg 5 (eF F_directions (aCons (eVar 0) (aCons (eVar 1) (aNil))))) (sSeq (sIf (mB (e2 dNe (eVar 3) (eTup (aCons (eC (.int 0)) (aCons (eC (.int 0)) (aNil)))))) (sAsg 5 (eL (aCat (eVar 5) (eL (aLst (aCons (eTup (aCons (e2 dAt (eVar 3) (eC (.int 1))) (aCons (e1 dNeg (e2 dAt (eVar 3) (eC (.int 0)))) (aNil)))) (aCons (eTup (aCons (e1 dNeg (e2 dAt (eVar 3) (eC (.int 1)))) (aCons (e2 dAt (eVar 3) (eC (.int 0))) (aNil)))) (aNil)))))))) (sNil)) (sSeq (sFor (gNm 6) asL (eVar 5) (l1_line_up_to)) (sRet (eC .non))))
def F_line_up_to : List D → R D := runF 7 b_line_up_to
def b__law_pair_v2 : SM := sSeq (sAsgL 2 (aLcR [3] (gNm 3) (mYes) (aCons (eC (.int 8)) (aNil)) (eF F__law_cell (aCons (eVar 0) (aCons (e2 dAdd (eVar 1) (eVar 3)) (aNil)))))) (sSeq (sAsg 4 (eF F__law_big (aCons (e2 dDiv (e2 dAt (eVar 2) (eC (.int 3))) (eC (.int 7))) (aNil)))) (sSeq (sAsg 5 (eF F_hull (aCons (eF F__law_points (aCons (e2 dAt (eVar 2) (eC (.int 0))) (aCons (e2 dAt (eVar 2) (eC (.int 1))) (aCons (eVar 4) (aNil))))) (aNil)))) (sSeq (sAsg 6 (eF F_hull (aCons (eF F__law_points (aCons (e2 dAt (eVar 2) (eC (.int 2))) (aCons (e2 dAt (eVar 2) (eC (.int 3))) (aCons (eVar 4) (aNil))))) (aNil)))) (sSeq (sAsg 7 (eF F__law_shift (aCons (eVar 5) (aCons (eVar 6) (aCons (e2 dAt (eVar 2) (eC (.int 4))) (aCons (e2 dAt (eVar 2) (eC (.int 5))) (aCons (eVar 4) (aNil)))))))) (sRet (eL (aLst (aCons (eVar 5) (aCons (eVar 6) (aCons (eVar 7) (aCons (eF F__law_speed (aCons (eVar 5) (aCons (eVar 6) (aCons (eVar 7) (aCons (e2 dAt (eVar 2) (eC (.int 6))) (aCons (e2 dAt (eVar 2) (eC (.int 7))) (aNil))))))) (aNil))))))))))))
def F__law_pair_v2 : List D → R D := runF 8 b__law_pair_v2
def b__law_direction_v2 : SM := sSeq (sIf (mOr (mNot (mB (eB dIsi (aCons (eVar 0) (aCons (eC (.ty "tuple")) (aNil)))))) (mOr (mB (e2 dNe (eB dLen (aCons (eVar 0) (aNil))) (eC (.int 2)))) (mOr (mNot (mB (eF F__law_whole (aCons (e2 dAt (eVar 0) (eC (.int 0))) (aNil))))) (mNot (mB (eF F__law_whole (aCons (e2 dAt (eVar 0) (eC (.int 1))) (aNil)))))))) (sRet (eC (.bl false))) (sNil)) (sRet (e2 dNe (eVar 0) (eTup (aCons (eC (.int 0)) (aCons (eC (.int 0)) (aNil))))))
def F__law_direction_v2 : List D → R D := runF 1 b__law_direction_v2
def b__law_time : SM := sSeq (sAsg 3 (e2 dMod (e2 dDiv (eVar 1) (eC (.int 4))) (eC (.int 40)))) (sSeq (sAsg 4 (e2 dAdd (eC (.int 1)) (e2 dMod (eVar 2) (eC (.int 12))))) (sSeq (sIf (mAnd (mB (e2 dIsNot (eVar 0) (eC .non))) (mB (e2 dLt (e2 dMod (eVar 1) (eC (.int 4))) (eC (.int 3))))) (sSeq (sAsg 3 (e2 dMul (e2 dAt (eVar 0) (eC (.int 0))) (e2 dAt (eL (aLst (aCons (eC (.int 1)) (aCons (eC (.int 1)) (aCons (eC (.int 15)) (aNil)))))) (e2 dMod (eVar 1) (eC (.int 4)))))) (sAsg 4 (e2 dMul (e2 dAt (eVar 0) (eC (.int 1))) (e2 dAt (eL (aLst (aCons (eC (.int 1)) (aCons (eC (.int 2)) (aCons (eC (.int 14)) (aNil)))))) (e2 dMod (eVar 1) (eC (.int 4))))))) (sNil)) (sSeq (sAsg 5 (eF F__law_common (aCons (eVar 3) (aCons (eVar 4) (aNil))))) (sRet (eTup (aCons (e2 dDiv (eVar 3) (eVar 5)) (aCons (e2 dDiv (eVar 4) (eVar 5)) (aNil))))))))
def F__law_time : List D → R D := runF 6 b__law_time
def b__law_up_to_right : SM := sSeq (sAsg 6 (eL (aLst (aCons (eL (aB asC (aCons (eVar 0) (aNil)))) (aCons (eL (aB asC (aCons (eVar 1) (aNil)))) (aNil)))))) (sSeq (sAsg 7 (eF F_line_up_to (aCons (e2 dAt (eVar 6) (eC (.int 0))) (aCons (e2 dAt (eVar 6) (eC (.int 1))) (aCons (eVar 2) (aCons (eVar 3) (aCons (eVar 4) (aNil)))))))) (sSeq (sIf (mB (e2 dNe (eVar 6) (eL (aLst (aCons (eVar 0) (aCons (eVar 1) (aNil))))))) (sRet (eC (.bl false))) (sNil)) (sSeq (sIf (mNot (mB (eVar 5))) (sRet (e2 dIs (eVar 7) (eC .non))) (sNil)) (sSeq (sIf (mOr (mNot (mB (eF F__law_direction_v2 (aCons (eVar 7) (aNil))))) (mB (e2 dLt (eF F__law_gap (aCons (eVar 0) (aCons (eVar 1) (aCons (eVar 2) (aCons (eVar 7) (aNil)))))) (eC (.int 0))))) (sRet (eC (.bl false))) (sNil)) (sRet (e2 dGe (eF F__law_gap (aCons (eVar 0) (aCons (eVar 1) (aCons (eF F__law_later (aCons (eVar 2) (aCons (eVar 3) (aCons (eVar 4) (aNil))))) (aCons (eVar 7) (aNil)))))) (eC (.int 0))))))))
def F__law_up_to_right : List D → R D := runF 8 b__law_up_to_right
def b__law_ever_right : SM := sSeq (sAsg 5 (eF F_line_up_to (aCons (eL (aB asC (aCons (eVar 0) (aNil)))) (aCons (eL (aB asC (aCons (eVar 1) (aNil)))) (aCons (eVar 2) (aCons (eVar 3) (aCons (eC .non) (aNil)))))))) (sSeq (sIf (mNot (mB (eVar 4))) (sRet (e2 dIs (eVar 5) (eC .non))) (sNil)) (sSeq (sIf (mOr (mNot (mB (eF F__law_direction_v2 (aCons (eVar 5) (aNil))))) (mB (e2 dLt (eF F__law_gap (aCons (eVar 0) (aCons (eVar 1) (aCons (eVar 2) (aCons (eVar 5) (aNil)))))) (eC (.int 0))))) (sRet (eC (.bl false))) (sNil)) (sRet (e2 dGe (e2 dAdd (e2 dMul (e2 dAt (eVar 5) (eC (.int 0))) (e2 dAt (eVar 3) (eC (.int 0)))) (e2 dMul (e2 dAt (eVar 5) (eC (.int 1))) (e2 dAt (eVar 3) (eC (.int 1))))) (eC (.int 0))))))
def F__law_ever_right : List D → R D := runF 6 b__law_ever_right
def b__law_lowest_v2 : SM := sSeq (sAsg 2 (eF F__law_common (aCons (eVar 0) (aCons (eVar 1) (aNil))))) (sRet (eTup (aCons (e2 dDiv (eVar 0) (eVar 2)) (aCons (e2 dDiv (eVar 1) (eVar 2)) (aNil)))))
def F__law_lowest_v2 : List D → R D := runF 3 b__law_lowest_v2
def b__law_parted : SM := sSeq (sAsg 5 (eF F_gone_on (aCons (eVar 2) (aCons (eVar 3) (aCons (eVar 4) (aNil)))))) (sSeq (sAsg 6 (eF F_line (aCons (eL (aB asC (aCons (eVar 0) (aNil)))) (aCons (eL (aB asC (aCons (eVar 1) (aNil)))) (aCons (eVar 5) (aNil)))))) (sSeq (sIf (mOr (mB (e2 dIs (eVar 6) (eC .non))) (mOr (mB (e2 dEq (eVar 6) (eTup (aCons (eC (.int 0)) (aCons (eC (.int 0)) (aNil)))))) (mB (e2 dLt (eF F__law_gap (aCons (eVar 0) (aCons (eVar 1) (aCons (eVar 5) (aCons (eVar 6) (aNil)))))) (eC (.int 0)))))) (sRet (eC (.bl false))) (sNil)) (sRet (e2 dIs (eF F_inner (aCons (eL (aB asC (aCons (eVar 0) (aNil)))) (aCons (eL (aB asC (aCons (eVar 1) (aNil)))) (aCons (eVar 5) (aNil))))) (eC .non)))))
def F__law_parted : List D → R D := runF 7 b__law_parted
def b__law_overlaps : SM := sSeq (sAsg 5 (eF F_gone_on (aCons (eVar 2) (aCons (eVar 3) (aCons (eVar 4) (aNil)))))) (sSeq (sAsg 6 (eF F_inner (aCons (eL (aB asC (aCons (eVar 0) (aNil)))) (aCons (eL (aB asC (aCons (eVar 1) (aNil)))) (aCons (eVar 5) (aNil)))))) (sSeq (sIf (mOr (mB (e2 dIs (eVar 6) (eC .non))) (mB (e2 dIsNot (eF F_line (aCons (eL (aB asC (aCons (eVar 0) (aNil)))) (aCons (eL (aB asC (aCons (eVar 1) (aNil)))) (aCons (eVar 5) (aNil))))) (eC .non)))) (sRet (eC (.bl false))) (sNil)) (sRet (eAnd (e2 dGt (eF F__law_inside (aCons (eVar 0) (aCons (eTup (aCons (eC (.int 0)) (aCons (eC (.int 0)) (aCons (eC (.int 1)) (aNil))))) (aCons (eVar 6) (aNil))))) (eC (.int 0))) (e2 dGt (eF F__law_inside (aCons (eVar 1) (aCons (eVar 5) (aCons (eVar 6) (aNil))))) (eC (.int 0)))))))
def F__law_overlaps : List D → R D := runF 7 b__law_overlaps
def l1__law_end : SM := sSeq (sAsg 6 (e2 dAdd (e2 dMul (e2 dAt (eVar 5) (eC (.int 0))) (e2 dAt (eVar 3) (eC (.int 0)))) (e2 dMul (e2 dAt (eVar 5) (eC (.int 1))) (e2 dAt (eVar 3) (eC (.int 1)))))) (sIf (mB (e2 dGt (eVar 6) (eC (.int 0)))) (sSeq (sAsg 7 (e2 dSub (eC (.int 0)) (eF F__law_gap (aCons (eVar 0) (aCons (eVar 1) (aCons (eVar 2) (aCons (eVar 5) (aNil)))))))) (sSeq (sAsg 8 (e2 dMul (eVar 6) (e2 dAt (eVar 2) (eC (.int 2))))) (sIf (mOr (mB (e2 dIs (eVar 4) (eC .non))) (mB (e2 dLt (e2 dMul (eVar 7) (e2 dAt (eVar 4) (eC (.int 1)))) (e2 dMul (e2 dAt (eVar 4) (eC (.int 0))) (eVar 8))))) (sAsg 4 (eTup (aCons (eVar 7) (aCons (eVar 8) (aNil))))) (sNil)))) (sNil))
def b__law_end : SM := sSeq (sAsg 4 (eC .non)) (sSeq (sFor (gNm 5) asL (eF F__law_directions_v2 (aCons (eVar 0) (aCons (eVar 1) (aNil)))) (l1__law_end)) (sRet (eVar 4)))
def F__law_end : List D → R D := runF 9 b__law_end
def b__law_moved_on : SM := sSeq (sAsg 6 (eF F__law_lowest_v2 (aCons (e2 dMul (e2 dAt (eVar 4) (eC (.int 0))) (eVar 5)) (aCons (e2 dMul (e2 dAt (eVar 4) (eC (.int 1))) (eC (.int 7))) (aNil))))) (sSeq (sAsg 7 (eF F_clash (aCons (eL (aB asC (aCons (eVar 0) (aNil)))) (aCons (eL (aB asC (aCons (eVar 1) (aNil)))) (aCons (eF F_gone_on (aCons (eVar 2) (aCons (eVar 3) (aCons (eVar 6) (aNil))))) (aCons (eVar 3) (aNil))))))) (sRet (e2 dEq (eVar 7) (eF F__law_lowest_v2 (aCons (e2 dMul (e2 dAt (eVar 4) (eC (.int 0))) (e2 dSub (eC (.int 7)) (eVar 5))) (aCons (e2 dMul (e2 dAt (eVar 4) (eC (.int 1))) (eC (.int 7))) (aNil)))))))
def F__law_moved_on : List D → R D := runF 8 b__law_moved_on
def b__law_right_v3 : SM := sSeq (sAsg 5 (eF F_clash (aCons (eL (aB asC (aCons (eVar 0) (aNil)))) (aCons (eL (aB asC (aCons (eVar 1) (aNil)))) (aCons (eVar 2) (aCons (eVar 3) (aNil))))))) (sSeq (sAsg 6 (eF F__law_lowest_v2 (aCons (e2 dMod (eVar 4) (eC (.int 60))) (aCons (e2 dAdd (eC (.int 1)) (e2 dMod (e2 dDiv (eVar 4) (eC (.int 60))) (eC (.int 12)))) (aNil))))) (sSeq (sIf (mB (e2 dIs (eVar 5) (eC .non))) (sRet (eF F__law_parted (aCons (eVar 0) (aCons (eVar 1) (aCons (eVar 2) (aCons (eVar 3) (aCons (eVar 6) (aNil)))))))) (sNil)) (sSeq (sAsg 7 (e2 dMod (e2 dDiv (eVar 4) (eC (.int 720))) (eC (.int 8)))) (sSeq (sAsg 6 (eF F__law_lowest_v2 (aCons (e2 dMul (e2 dAt (eVar 5) (eC (.int 0))) (eVar 7)) (aCons (e2 dMul (e2 dAt (eVar 5) (eC (.int 1))) (eC (.int 7))) (aNil))))) (sSeq (sIf (mOr (mNot (mB (eF F__law_parted (aCons (eVar 0) (aCons (eVar 1) (aCons (eVar 2) (aCons (eVar 3) (aCons (eVar 6) (aNil))))))))) (mNot (mB (eF F__law_parted (aCons (eVar 0) (aCons (eVar 1) (aCons (eVar 2) (aCons (eVar 3) (aCons (eVar 5) (aNil)))))))))) (sRet (eC (.bl false))) (sNil)) (sSeq (sAsg 8 (eF F__law_end (aCons (eVar 0) (aCons (eVar 1) (aCons (eVar 2) (aCons (eVar 3) (aNil))))))) (sSeq (sAsg 9 (e2 dAdd (eC (.int 1)) (e2 dMod (e2 dDiv (eVar 4) (eC (.int 5760))) (eC (.int 40))))) (sSeq (sAsg 10 (e2 dAdd (e2 dMul (e2 dMul (e2 dAt (eVar 5) (eC (.int 0))) (e2 dAt (eVar 8) (eC (.int 1)))) (e2 dSub (eVar 9) (eC (.int 1)))) (e2 dMul (e2 dAt (eVar 8) (eC (.int 0))) (e2 dAt (eVar 5) (eC (.int 1)))))) (sSeq (sAsg 11 (eF F__law_lowest_v2 (aCons (eVar 10) (aCons (e2 dMul (e2 dMul (e2 dAt (eVar 5) (eC (.int 1))) (e2 dAt (eVar 8) (eC (.int 1)))) (eVar 9)) (aNil))))) (sSeq (sIf (mAnd (mB (e2 dGt (eVar 9) (eC (.int 1)))) (mNot (mB (eF F__law_overlaps (aCons (eVar 0) (aCons (eVar 1) (aCons (eVar 2) (aCons (eVar 3) (aCons (eVar 11) (aNil)))))))))) (sRet (eC (.bl false))) (sNil)) (sRet (eF F__law_moved_on (aCons (eVar 0) (aCons (eVar 1) (aCons (eVar 2) (aCons (eVar 3) (aCons (eVar 5) (aCons (eVar 7) (aNil)))))))))))))))))))
def F__law_right_v3 : List D → R D := runF 12 b__law_right_v3
def b__law_again : SM := sRet (eF F_clash (aCons (eF F_hull (aCons (eVar 0) (aNil))) (aCons (eF F_hull (aCons (eVar 1) (aNil))) (aCons (eF F_spot (aCons (e2 dAt (eVar 2) (eC (.int 0))) (aCons (e2 dAt (eVar 2) (eC (.int 1))) (aCons (e2 dAt (eVar 2) (eC (.int 2))) (aNil))))) (aCons (eVar 3) (aNil))))))
def F__law_again : List D → R D := runF 4 b__law_again
def b__law_made : SM := sSeq (sIf (mB (e2 dEq (eVar 1) (eC (.int 0)))) (sRet (eL (aLc asL [3, 4] (gTp (gsCons (gNm 3) (gsCons (gNm 4) (gsNil)))) (mYes) (eVar 0) (eTup (aCons (e2 dSub (eC (.int 0)) (eVar 3)) (aCons (eVar 4) (aNil))))))) (sNil)) (sSeq (sIf (mB (e2 dEq (eVar 1) (eC (.int 1)))) (sRet (eL (aLc asL [3, 4] (gTp (gsCons (gNm 3) (gsCons (gNm 4) (gsNil)))) (mYes) (eVar 0) (eTup (aCons (eVar 4) (aCons (eVar 3) (aNil))))))) (sNil)) (sRet (eL (aLc asL [3, 4] (gTp (gsCons (gNm 3) (gsCons (gNm 4) (gsNil)))) (mYes) (eVar 0) (eTup (aCons (e2 dMul (eVar 2) (eVar 3)) (aCons (e2 dMul (eVar 2) (eVar 4)) (aNil))))))))
def F__law_made : List D → R D := runF 5 b__law_made
def b__law_part_of : SM := sSeq (sIf (mB (e2 dIs (eVar 0) (eC .non))) (sRet (eC .non)) (sNil)) (sSeq (sAsg 2 (eF F__law_common (aCons (e2 dAt (eVar 0) (eC (.int 0))) (aCons (e2 dMul (e2 dAt (eVar 0) (eC (.int 1))) (eVar 1)) (aNil))))) (sRet (eTup (aCons (e2 dDiv (e2 dAt (eVar 0) (eC (.int 0))) (eVar 2)) (aCons (e2 dDiv (e2 dMul (e2 dAt (eVar 0) (eC (.int 1))) (eVar 1)) (eVar 2)) (aNil))))))
def F__law_part_of : List D → R D := runF 3 b__law_part_of
def l1__law_right_v4 : SM := sSeq (sAsg 8 (e2 dAt (eF F__law_made (aCons (eL (aLst (aCons (eTup (aCons (e2 dAt (eVar 2) (eC (.int 0))) (aCons (e2 dAt (eVar 2) (eC (.int 1))) (aNil)))) (aNil)))) (aCons (eVar 7) (aCons (eVar 4) (aNil))))) (eC (.int 0)))) (sSeq (sAsg 9 (e2 dAt (eF F__law_made (aCons (eL (aLst (aCons (eVar 3) (aNil)))) (aCons (eVar 7) (aCons (eVar 4) (aNil))))) (eC (.int 0)))) (sSeq (sAsg 10 (eF F__law_made (aCons (eVar 0) (aCons (eVar 7) (aCons (eVar 4) (aNil)))))) (sIf (mB (e2 dNe (eF F__law_again (aCons (eVar 10) (aCons (eF F__law_made (aCons (eVar 1) (aCons (eVar 7) (aCons (eVar 4) (aNil))))) (aCons (eTup (aCons (e2 dAt (eVar 8) (eC (.int 0))) (aCons (e2 dAt (eVar 8) (eC (.int 1))) (aCons (e2 dAt (eVar 2) (eC (.int 2))) (aNil))))) (aCons (eVar 9) (aNil)))))) (eVar 5))) (sRet (eC (.bl false))) (sNil))))
def b__law_right_v4 : SM := sSeq (sAsg 5 (eF F_clash (aCons (eL (aB asC (aCons (eVar 0) (aNil)))) (aCons (eL (aB asC (aCons (eVar 1) (aNil)))) (aCons (eVar 2) (aCons (eVar 3) (aNil))))))) (sSeq (sAsg 6 (eTup (aCons (e2 dSub (eC (.int 0)) (e2 dAt (eVar 2) (eC (.int 0)))) (aCons (e2 dSub (eC (.int 0)) (e2 dAt (eVar 2) (eC (.int 1)))) (aCons (e2 dAt (eVar 2) (eC (.int 2))) (aNil)))))) (sSeq (sIf (mB (e2 dNe (eF F_clash (aCons (eL (aB asC (aCons (eVar 1) (aNil)))) (aCons (eL (aB asC (aCons (eVar 0) (aNil)))) (aCons (eVar 6) (aCons (eTup (aCons (e2 dSub (eC (.int 0)) (e2 dAt (eVar 3) (eC (.int 0)))) (aCons (e2 dSub (eC (.int 0)) (e2 dAt (eVar 3) (eC (.int 1)))) (aNil)))) (aNil)))))) (eVar 5))) (sRet (eC (.bl false))) (sNil)) (sSeq (sForR (gNm 7) (aCons (eC (.int 3)) (aNil)) (l1__law_right_v4)) (sSeq (sAsg 11 (eTup (aCons (e2 dMul (eVar 4) (e2 dAt (eVar 3) (eC (.int 0)))) (aCons (e2 dMul (eVar 4) (e2 dAt (eVar 3) (eC (.int 1)))) (aNil))))) (sRet (e2 dEq (eF F_clash (aCons (eL (aB asC (aCons (eVar 0) (aNil)))) (aCons (eL (aB asC (aCons (eVar 1) (aNil)))) (aCons (eVar 2) (aCons (eVar 11) (aNil)))))) (eF F__law_part_of (aCons (eVar 5) (aCons (eVar 4) (aNil))))))))))
def F__law_right_v4 : List D → R D := runF 12 b__law_right_v4
def xCt7 : Str → Bool := fun y => (["Crowded", "Flat", "NoNumber"] : List Str).contains y
def xLy7 : List Str := ["Crowded", "Flat", "NoNumber"]
def xLc7 : List (Str × Str × Bool) := [("Crowded", "Crowded", true), ("Crowded", "Flat", false), ("Crowded", "NoName", false), ("Crowded", "NoNumber", false), ("Crowded", "NoRow", false), ("Crowded", "NoText", false), ("Crowded", "Past", false), ("Crowded", "Twice", false), ("Flat", "Crowded", false), ("Flat", "Flat", true), ("Flat", "NoName", false), ("Flat", "NoNumber", false), ("Flat", "NoRow", false), ("Flat", "NoText", false), ("Flat", "Past", false), ("Flat", "Twice", false), ("NoNumber", "Crowded", false), ("NoNumber", "Flat", false), ("NoNumber", "NoName", false), ("NoNumber", "NoNumber", true), ("NoNumber", "NoRow", false), ("NoNumber", "NoText", false), ("NoNumber", "Past", false), ("NoNumber", "Twice", false)]
def xLt7 : List (Str × String × Bool) := [("Crowded", "ValueError", true), ("Flat", "ValueError", true), ("NoNumber", "ValueError", true)]
def b__law_word : SM := sSeq (sIf (mB (e2 dIs (eVar 0) (eC .non))) (sRet (eC (.str "told"))) (sNil)) (sSeq (sAsg 1 (eB (dIsX xLy7 xLc7 xLt7) (aCons (eVar 0) (aCons (eTup (aCons (eC (.cls "NoNumber")) (aCons (eC (.cls "Flat")) (aCons (eC (.cls "NoName")) (aCons (eC (.cls "Twice")) (aCons (eC (.cls "Past")) (aCons (eC (.cls "NoText")) (aCons (eC (.cls "NoRow")) (aNil))))))))) (aNil))))) (sSeq (sIf (mAnd (mB (eB (dIsX xLy7 xLc7 xLt7) (aCons (eVar 0) (aCons (eC (.cls "Crowded")) (aNil))))) (mAnd (mB (eB (dIsX xLy7 xLc7 xLt7) (aCons (eVar 0) (aCons (eC (.ty "ValueError")) (aNil))))) (mNot (mB (eVar 1))))) (sRet (eC (.str "crowded"))) (sNil)) (sRet (eC (.str "another")))))
def F__law_word : List D → R D := runF 2 b__law_word
def b__law_clash_word : SM := sSeq (sAsg 4 (eC .non)) (sSeq (sTry xCt7 5 4 (sExpr (eF F_clash (aCons (eVar 0) (aCons (eVar 1) (aCons (eVar 2) (aCons (eVar 3) (aNil)))))))) (sRet (eF F__law_word (aCons (eVar 4) (aNil)))))
def F__law_clash_word : List D → R D := runF 6 b__law_clash_word
def b__law_right_v5 : SM := sSeq (sAsg 4 (eC (.str "crowded"))) (sSeq (sIf (mB (e2 dGe (eB dMaxL (aCons (eL (aLc asL [5] (gNm 5) (mYes) (eF F__law_directions_v2 (aCons (eVar 0) (aCons (eVar 1) (aNil)))) (eF F__law_gap (aCons (eVar 0) (aCons (eVar 1) (aCons (eVar 2) (aCons (eVar 5) (aNil)))))))) (aNil))) (eC (.int 0)))) (sAsg 4 (eC (.str "told"))) (sNil)) (sRet (e2 dEq (eF F__law_clash_word (aCons (eL (aB asC (aCons (eVar 0) (aNil)))) (aCons (eL (aB asC (aCons (eVar 1) (aNil)))) (aCons (eVar 2) (aCons (eVar 3) (aNil)))))) (eVar 4))))
def F__law_right_v5 : List D → R D := runF 6 b__law_right_v5
end Law

namespace Law
open PySem PySem.Spec PyProof.Rows L2 GD
def l1__law_on_a_side : SM := sSeq (sAsg 6 (eTup (aCons (e2 dAdd (e2 dMul (e2 dAt (e2 dAt (eVar 2) (e2 dSub (eVar 5) (eC (.int 1)))) (eC (.int 0))) (eVar 4)) (e2 dAt (eVar 3) (eC (.int 0)))) (aCons (e2 dAdd (e2 dMul (e2 dAt (e2 dAt (eVar 2) (e2 dSub (eVar 5) (eC (.int 1)))) (eC (.int 1))) (eVar 4)) (e2 dAt (eVar 3) (eC (.int 1)))) (aCons (eVar 4) (aNil)))))) (sSeq (sAsg 7 (eTup (aCons (e2 dAdd (e2 dMul (e2 dAt (e2 dAt (eVar 2) (eVar 5)) (eC (.int 0))) (eVar 4)) (e2 dAt (eVar 3) (eC (.int 0)))) (aCons (e2 dAdd (e2 dMul (e2 dAt (e2 dAt (eVar 2) (eVar 5)) (eC (.int 1))) (eVar 4)) (e2 dAt (eVar 3) (eC (.int 1)))) (aCons (eVar 4) (aNil)))))) (sIf (mAnd (mB (e2 dEq (eF F__law_bend (aCons (eVar 6) (aCons (eVar 7) (aCons (eVar 0) (aNil))))) (eC (.int 0)))) (mB (e2 dEq (eF F__law_bend (aCons (eVar 6) (aCons (eVar 7) (aCons (eVar 1) (aNil))))) (eC (.int 0))))) (sRet (eC (.bl true))) (sNil)))
def b__law_on_a_side : SM := sSeq (sAsg 4 (e2 dAt (eVar 3) (eC (.int 2)))) (sSeq (sForR (gNm 5) (aCons (eB dLen (aCons (eVar 2) (aNil))) (aNil)) (l1__law_on_a_side)) (sRet (eC (.bl false))))
def F__law_on_a_side : List D → R D := runF 8 b__law_on_a_side
def l1__law_outer : SM := sSeq (sAsg 6 (eF F__law_bend (aCons (eVar 1) (aCons (eVar 2) (aCons (eVar 5) (aNil)))))) (sSeq (sAsg 3 (e2 dAdd (eVar 3) (eB dInt (aCons (e2 dGt (eVar 6) (eC (.int 0))) (aNil))))) (sAsg 4 (e2 dAdd (eVar 4) (eB dInt (aCons (e2 dLt (eVar 6) (eC (.int 0))) (aNil))))))
def b__law_outer : SM := sSeq (sAsg 3 (eC (.int 0))) (sSeq (sAsg 4 (eC (.int 0))) (sSeq (sFor (gNm 5) asL (eVar 0) (l1__law_outer)) (sRet (eOr (e2 dEq (eVar 3) (eC (.int 0))) (e2 dEq (eVar 4) (eC (.int 0)))))))
def F__law_outer : List D → R D := runF 7 b__law_outer
def l1__law_region_right : SM := sIf (mB (eF F__law_outer (aCons (eVar 0) (aCons (e2 dAt (eVar 0) (eVar 5)) (aCons (e2 dAt (eVar 0) (eVar 4)) (aNil)))))) (sIf (mNot (mB (eF F__law_on_a_side (aCons (e2 dAt (eVar 0) (eVar 5)) (aCons (e2 dAt (eVar 0) (eVar 4)) (aCons (eVar 1) (aCons (eTup (aCons (eC (.int 0)) (aCons (eC (.int 0)) (aCons (eC (.int 1)) (aNil))))) (aNil)))))))) (sIf (mNot (mB (eF F__law_on_a_side (aCons (e2 dAt (eVar 0) (eVar 5)) (aCons (e2 dAt (eVar 0) (eVar 4)) (aCons (eVar 2) (aCons (eVar 3) (aNil)))))))) (sRet (eC (.bl false))) (sNil)) (sNil)) (sNil)
def l2__law_region_right : SM := sForR (gNm 5) (aCons (eVar 4) (aNil)) (l1__law_region_right)
def b__law_region_right : SM := sSeq (sIf (mB (e2 dLt (eB dLen (aCons (eVar 0) (aNil))) (eC (.int 3)))) (sRet (eC (.bl false))) (sNil)) (sSeq (sForR (gNm 4) (aCons (eB dLen (aCons (eVar 0) (aNil))) (aNil)) (l2__law_region_right)) (sRet (eC (.bl true))))
def F__law_region_right : List D → R D := runF 6 b__law_region_right
def b__law_span : SM := sSeq (sAsgL 4 (aLc asL [5] (gNm 5) (mYes) (eVar 0) (e2 dMul (eVar 3) (e2 dAdd (e2 dMul (e2 dAt (eVar 5) (eC (.int 0))) (e2 dAt (eVar 2) (eC (.int 0)))) (e2 dMul (e2 dAt (eVar 5) (eC (.int 1))) (e2 dAt (eVar 2) (eC (.int 1)))))))) (sSeq (sAsgL 6 (aLcR [7] (gNm 7) (mB (e2 dEq (e2 dAt (eVar 4) (eVar 7)) (eB dMaxL (aCons (eVar 4) (aNil))))) (aCons (eB dLen (aCons (eVar 0) (aNil))) (aNil)) (e2 dAt (eVar 0) (eVar 7)))) (sSeq (sAsg 8 (e2 dAt (eVar 1) (eC (.int 2)))) (sSeq (sAsgL 9 (aLc asL [5] (gNm 5) (mYes) (eVar 6) (e2 dSub (e2 dMul (e2 dAt (eVar 2) (eC (.int 0))) (e2 dAt (eVar 5) (eC (.int 1)))) (e2 dMul (e2 dAt (eVar 2) (eC (.int 1))) (e2 dAt (eVar 5) (eC (.int 0))))))) (sSeq (sAsg 10 (e2 dSub (e2 dMul (e2 dAt (eVar 2) (eC (.int 0))) (e2 dAt (eVar 1) (eC (.int 1)))) (e2 dMul (e2 dAt (eVar 2) (eC (.int 1))) (e2 dAt (eVar 1) (eC (.int 0)))))) (sRet (eL (aLst (aCons (e2 dAdd (e2 dMul (eB dMinL (aCons (eVar 9) (aNil))) (eVar 8)) (eVar 10)) (aCons (e2 dAdd (e2 dMul (eB dMaxL (aCons (eVar 9) (aNil))) (eVar 8)) (eVar 10)) (aNil))))))))))
def F__law_span : List D → R D := runF 11 b__law_span
def l1__law_touch_right : SM := sSeq (sAsg 12 (e2 dMul (e2 dSub (e2 dMul (e2 dAt (eVar 4) (eC (.int 0))) (e2 dAt (eVar 11) (eC (.int 1)))) (e2 dMul (e2 dAt (eVar 4) (eC (.int 1))) (e2 dAt (eVar 11) (eC (.int 0))))) (eVar 7))) (sAsg 10 (eL (aLst (aCons (e2 dAdd (e2 dAt (eVar 10) (eC (.int 0))) (eB dInt (aCons (e2 dEq (eVar 12) (e2 dMul (eVar 8) (e2 dAt (eVar 11) (eC (.int 2))))) (aNil)))) (aCons (e2 dAdd (e2 dAt (eVar 10) (eC (.int 1))) (eB dInt (aCons (e2 dEq (eVar 12) (e2 dMul (eVar 9) (e2 dAt (eVar 11) (eC (.int 2))))) (aNil)))) (aNil))))))
def b__law_touch_right : SM := sSeq (sAsg 5 (eF F__law_span (aCons (eVar 1) (aCons (eTup (aCons (eC (.int 0)) (aCons (eC (.int 0)) (aCons (eC (.int 1)) (aNil))))) (aCons (eVar 4) (aCons (eC (.int 1)) (aNil))))))) (sSeq (sAsg 6 (eF F__law_span (aCons (eVar 2) (aCons (eVar 3) (aCons (eVar 4) (aCons (eC (.int (-1))) (aNil))))))) (sSeq (sAsg 7 (e2 dAt (eVar 3) (eC (.int 2)))) (sSeq (sAsg 8 (eB dMax2 (aCons (e2 dMul (e2 dAt (eVar 5) (eC (.int 0))) (eVar 7)) (aCons (e2 dAt (eVar 6) (eC (.int 0))) (aNil))))) (sSeq (sAsg 9 (eB dMin2 (aCons (e2 dMul (e2 dAt (eVar 5) (eC (.int 1))) (eVar 7)) (aCons (e2 dAt (eVar 6) (eC (.int 1))) (aNil))))) (sSeq (sIf (mB (e2 dGt (eVar 8) (eVar 9))) (sRet (e2 dEq (eVar 0) (eL (aLst (aNil))))) (sNil)) (sSeq (sAsg 10 (eL (aLst (aCons (eC (.int 0)) (aCons (eC (.int 0)) (aNil)))))) (sSeq (sFor (gNm 11) asL (eVar 0) (l1__law_touch_right)) (sRet (eAnd (e2 dEq (eVar 10) (eL (aLst (aCons (eC (.int 1)) (aCons (eC (.int 1)) (aNil)))))) (e2 dEq (eB dLen (aCons (eVar 0) (aNil))) (e2 dAdd (eC (.int 1)) (eB dInt (aCons (e2 dLt (eVar 8) (eVar 9)) (aNil))))))))))))))
def F__law_touch_right : List D → R D := runF 13 b__law_touch_right
end Law

namespace Law
open PySem PySem.Spec PyProof.Rows L2 GD
def xCt14 : Str → Bool := fun y => (["NoText"] : List Str).contains y
def xLy14 : List Str := ["NoText"]
def xLc14 : List (Str × Str × Bool) := [("NoText", "Crowded", false), ("NoText", "Flat", false), ("NoText", "NoName", false), ("NoText", "NoNumber", false), ("NoText", "NoRow", false), ("NoText", "NoText", true), ("NoText", "Past", false), ("NoText", "Twice", false)]
def xLt14 : List (Str × String × Bool) := [("NoText", "ValueError", true)]
def b_read_number : SM := sSeq (sIf (mNot (mB (eB dIsi (aCons (eVar 0) (aCons (eC (.ty "str")) (aNil)))))) (sRaise "NoText") (sNil)) (sSeq (sAsg 1 (eVar 0)) (sSeq (sIf (mB (e2 dEq (eCut (eVar 0) (oNone) (oSome (eC (.int 1)))) (eC (.str "-")))) (sAsg 1 (eCut (eVar 0) (oSome (eC (.int 1))) (oNone))) (sNil)) (sSeq (sIf (mOr (mB (e2 dLt (eB dLen (aCons (eVar 1) (aNil))) (eC (.int 1)))) (mB (e2 dGt (eB dLen (aCons (eVar 1) (aNil))) (eC (.int 60))))) (sRaise "NoText") (sNil)) (sSeq (sIf (mNot (mB (eB dAll (aCons (eL (aLc asS [2] (gNm 2) (mYes) (eVar 1) (e2 dIn (eVar 2) (eC (.str "0123456789"))))) (aNil))))) (sRaise "NoText") (sNil)) (sSeq (sIf (mAnd (mB (e2 dEq (e2 dAt (eVar 1) (eC (.int 0))) (eC (.str "0")))) (mB (e2 dNe (eVar 0) (eC (.str "0"))))) (sRaise "NoText") (sNil)) (sRet (eB dIntS (aCons (eVar 0) (aNil)))))))))
def F_read_number : List D → R D := runF 3 b_read_number
def b_read_portion : SM := sSeq (sIf (mNot (mB (eB dIsi (aCons (eVar 0) (aCons (eC (.ty "str")) (aNil)))))) (sRaise "NoText") (sNil)) (sSeq (sAsg 1 (eL (aSplit (eVar 0) (eC (.str "/"))))) (sSeq (sIf (mB (e2 dGt (eB dLen (aCons (eVar 1) (aNil))) (eC (.int 2)))) (sRaise "NoText") (sNil)) (sSeq (sIf (mB (e2 dEq (eB dLen (aCons (eVar 1) (aNil))) (eC (.int 1)))) (sRet (eTup (aCons (eF F_read_number (aCons (eVar 0) (aNil))) (aCons (eC (.int 1)) (aNil))))) (sNil)) (sSeq (sAsg 2 (eF F_read_number (aCons (e2 dAt (eVar 1) (eC (.int 0))) (aNil)))) (sSeq (sAsg 3 (eF F_read_number (aCons (e2 dAt (eVar 1) (eC (.int 1))) (aNil)))) (sSeq (sIf (mOr (mB (e2 dLt (eVar 3) (eC (.int 2)))) (mB (e2 dNe (eF F_divisor (aCons (eVar 2) (aCons (eVar 3) (aNil)))) (eC (.int 1))))) (sRaise "NoText") (sNil)) (sRet (eTup (aCons (eVar 2) (aCons (eVar 3) (aNil)))))))))))
def F_read_portion : List D → R D := runF 4 b_read_portion
def b_show_portion : SM := sSeq (sIf (mB (e2 dEq (e2 dAt (eVar 0) (eC (.int 1))) (eC (.int 1)))) (sRet (eB dStr (aCons (e2 dAt (eVar 0) (eC (.int 0))) (aNil)))) (sNil)) (sRet (e2 dAdd (e2 dAdd (eB dStr (aCons (e2 dAt (eVar 0) (eC (.int 0))) (aNil))) (eC (.str "/"))) (eB dStr (aCons (e2 dAt (eVar 0) (eC (.int 1))) (aNil)))))
def F_show_portion : List D → R D := runF 1 b_show_portion
def l1__law_number_due : SM := sSeq (sIf (mOr (mB (e2 dLt (eB dOrd (aCons (eVar 3) (aNil))) (eC (.int 48)))) (mB (e2 dGt (eB dOrd (aCons (eVar 3) (aNil))) (eC (.int 57))))) (sRet (eC .non)) (sNil)) (sAsg 2 (e2 dSub (e2 dAdd (e2 dMul (eC (.int 10)) (eVar 2)) (eB dOrd (aCons (eVar 3) (aNil)))) (eC (.int 48))))
def b__law_number_due : SM := sSeq (sAsg 1 (eVar 0)) (sSeq (sIf (mB (e2 dEq (eCut (eVar 0) (oNone) (oSome (eC (.int 1)))) (eC (.str "-")))) (sAsg 1 (eCut (eVar 0) (oSome (eC (.int 1))) (oNone))) (sNil)) (sSeq (sIf (mOr (mB (e2 dEq (eVar 1) (eC (.str "")))) (mOr (mB (e2 dGt (eB dLen (aCons (eVar 1) (aNil))) (eC (.int 60)))) (mAnd (mB (e2 dEq (e2 dAt (eVar 1) (eC (.int 0))) (eC (.str "0")))) (mB (e2 dNe (eVar 0) (eC (.str "0"))))))) (sRet (eC .non)) (sNil)) (sSeq (sAsg 2 (eC (.int 0))) (sSeq (sFor (gNm 3) asS (eVar 1) (l1__law_number_due)) (sSeq (sIf (mB (e2 dEq (eCut (eVar 0) (oNone) (oSome (eC (.int 1)))) (eC (.str "-")))) (sRet (e2 dSub (eC (.int 0)) (eVar 2))) (sNil)) (sRet (eVar 2)))))))
def F__law_number_due : List D → R D := runF 4 b__law_number_due
def l1__law_cut_at : SM := sIf (mB (e2 dEq (eVar 3) (eVar 1))) (sApp 2 (eC (.str ""))) (sPut 2 (eC (.int (-1))) (e2 dAdd (eOwnAt 2 (eC (.int (-1)))) (eVar 3)))
def b__law_cut_at : SM := sSeq (sOwn 2 (aLst (aCons (eC (.str "")) (aNil)))) (sSeq (sFor (gNm 3) asS (eVar 0) (l1__law_cut_at)) (sFrz 2 (sRet (eVar 2))))
def F__law_cut_at : List D → R D := runF 4 b__law_cut_at
def b__law_written : SM := sSeq (sIf (mB (e2 dEq (e2 dMod (eVar 0) (eC (.int 2))) (eC (.int 1)))) (sRet (e2 dAdd (eC (.str "-")) (eB dStr (aCons (e2 dMod (e2 dDiv (eVar 0) (eC (.int 2))) (eC (.int 1000000000000000000000000000000000000000000000000000000000000))) (aNil))))) (sNil)) (sRet (eB dStr (aCons (e2 dMod (e2 dDiv (eVar 0) (eC (.int 2))) (eC (.int 1000000000000000000000000000000000000000000000000000000000000))) (aNil))))
def F__law_written : List D → R D := runF 1 b__law_written
def b__law_two : SM := sSeq (sIf (mB (e2 dEq (e2 dMod (eVar 0) (eC (.int 3))) (eC (.int 0)))) (sRet (e2 dAdd (e2 dAdd (eB dStr (aCons (e2 dSub (e2 dMod (e2 dDiv (eVar 0) (eC (.int 3))) (eC (.int 23))) (eC (.int 11))) (aNil))) (eC (.str "/"))) (eB dStr (aCons (e2 dMod (e2 dDiv (eVar 0) (eC (.int 69))) (eC (.int 12))) (aNil))))) (sNil)) (sRet (e2 dAdd (e2 dAdd (eB dStr (aCons (e2 dSub (e2 dMod (e2 dDiv (eVar 0) (eC (.int 3))) (eC (.int 100000000000000000000))) (eC (.int 50000000000000000000))) (aNil))) (eC (.str "/"))) (eB dStr (aCons (e2 dMod (e2 dDiv (eVar 0) (eC (.int 7))) (eC (.int 1000000000000000000))) (aNil)))))
def F__law_two : List D → R D := runF 1 b__law_two
def b__law_other : SM := sSeq (sAsg 1 (eL (aLst (aCons (eC .non) (aCons (eC (.int 7)) (aCons (eC (.bl true)) (aCons (eL (aLst (aCons (eC (.str "7")) (aNil)))) (aCons (eTup (aCons (eC (.str "7")) (aNil))) (aCons (eC (.dct [] [])) (aCons (eL (aLst (aNil))) (aCons (e2 dSub (eC (.int 0)) (e2 dMod (eVar 0) (eC (.int 100000000000000000000000000000000000000000000000000000000000)))) (aCons (eL (aLst (aCons (eC (.int 7)) (aNil)))) (aCons (eTup (aCons (eC (.int 1)) (aCons (eC (.int 2)) (aNil)))) (aNil)))))))))))))) (sRet (e2 dAt (eVar 1) (e2 dMod (eVar 0) (eC (.int 10)))))
def F__law_other : List D → R D := runF 2 b__law_other
def b__law_thing : SM := sSeq (sAsg 1 (e2 dMod (eVar 0) (eC (.int 8)))) (sSeq (sAsg 0 (e2 dDiv (eVar 0) (eC (.int 8)))) (sSeq (sAsg 2 (eF F__law_written (aCons (eVar 0) (aNil)))) (sSeq (sIf (mOr (mB (e2 dEq (eVar 1) (eC (.int 1)))) (mB (e2 dEq (eVar 1) (eC (.int 2))))) (sAsg 2 (eF F__law_two (aCons (eVar 0) (aNil)))) (sNil)) (sSeq (sIf (mOr (mB (e2 dEq (eVar 1) (eC (.int 2)))) (mB (e2 dEq (eVar 1) (eC (.int 3))))) (sSeq (sAsg 3 (e2 dMod (e2 dDiv (eVar 0) (eC (.int 40))) (e2 dAdd (eB dLen (aCons (eVar 2) (aNil))) (eC (.int 1))))) (sRet (e2 dAdd (e2 dAdd (eCut (eVar 2) (oNone) (oSome (eVar 3))) (e2 dAt (eC (.str "0123456789-+, \n\t_a./")) (e2 dMod (e2 dDiv (eVar 0) (eC (.int 2))) (eC (.int 20))))) (eCut (eVar 2) (oSome (eVar 3)) (oNone))))) (sNil)) (sSeq (sIf (mB (e2 dEq (eVar 1) (eC (.int 4)))) (sRet (e2 dAdd (e2 dAdd (e2 dMulS (eC (.str "-")) (e2 dMod (eVar 0) (eC (.int 2)))) (e2 dMulS (eC (.str "0")) (e2 dMod (e2 dDiv (eVar 0) (eC (.int 2))) (eC (.int 3))))) (eB dStr (aCons (e2 dMod (e2 dDiv (eVar 0) (eC (.int 6))) (eC (.int 10000000000000000000000000000000000000000))) (aNil))))) (sNil)) (sSeq (sIf (mB (e2 dEq (eVar 1) (eC (.int 5)))) (sRet (e2 dAdd (e2 dAdd (e2 dMulS (eC (.str "-")) (e2 dMod (eVar 0) (eC (.int 2)))) (eB dStr (aCons (e2 dAdd (eC (.int 1)) (e2 dMod (e2 dDiv (eVar 0) (eC (.int 2))) (eC (.int 9)))) (aNil)))) (e2 dMulS (eC (.str "7")) (e2 dAdd (eC (.int 58)) (e2 dMod (e2 dDiv (eVar 0) (eC (.int 18))) (eC (.int 4))))))) (sNil)) (sSeq (sIf (mB (e2 dEq (eVar 1) (eC (.int 6)))) (sRet (eF F__law_other (aCons (eVar 0) (aNil)))) (sNil)) (sRet (eVar 2)))))))))
def F__law_thing : List D → R D := runF 4 b__law_thing
def b__law_portion_due : SM := sSeq (sAsg 1 (eF F__law_cut_at (aCons (eVar 0) (aCons (eC (.str "/")) (aNil))))) (sSeq (sIf (mB (e2 dGt (eB dLen (aCons (eVar 1) (aNil))) (eC (.int 2)))) (sRet (eC .non)) (sNil)) (sSeq (sAsg 2 (eF F__law_number_due (aCons (e2 dAt (eVar 1) (eC (.int 0))) (aNil)))) (sSeq (sIf (mOr (mB (e2 dIs (eVar 2) (eC .non))) (mAnd (mB (e2 dEq (eB dLen (aCons (eVar 1) (aNil))) (eC (.int 1)))) (mB (e2 dNe (e2 dAt (eVar 1) (eC (.int 0))) (eVar 0))))) (sRet (eC .non)) (sNil)) (sSeq (sIf (mB (e2 dEq (eB dLen (aCons (eVar 1) (aNil))) (eC (.int 1)))) (sRet (eTup (aCons (eVar 2) (aCons (eC (.int 1)) (aNil))))) (sNil)) (sSeq (sAsg 3 (eF F__law_number_due (aCons (e2 dAt (eVar 1) (eC (.int 1))) (aNil)))) (sSeq (sIf (mOr (mB (e2 dIs (eVar 3) (eC .non))) (mOr (mB (e2 dLt (eVar 3) (eC (.int 2)))) (mB (e2 dNe (eF F__law_common (aCons (eVar 2) (aCons (eVar 3) (aNil)))) (eC (.int 1)))))) (sRet (eC .non)) (sNil)) (sRet (eTup (aCons (eVar 2) (aCons (eVar 3) (aNil)))))))))))
def F__law_portion_due : List D → R D := runF 4 b__law_portion_due
def b__law_kind : SM := sSeq (sIf (mOr (mNot (mB (eB (dIsX xLy14 xLc14 xLt14) (aCons (eVar 0) (aCons (eC (.ty "ValueError")) (aNil)))))) (mNot (mB (eB (dIsX xLy14 xLc14 xLt14) (aCons (eVar 0) (aCons (eC (.cls "NoText")) (aNil))))))) (sRet (eC (.str "another"))) (sNil)) (sSeq (sIf (mB (eB (dIsX xLy14 xLc14 xLt14) (aCons (eVar 0) (aCons (eTup (aCons (eC (.cls "NoNumber")) (aCons (eC (.cls "Flat")) (aCons (eC (.cls "Crowded")) (aCons (eC (.cls "NoName")) (aCons (eC (.cls "Twice")) (aCons (eC (.cls "Past")) (aCons (eC (.cls "NoRow")) (aNil))))))))) (aNil))))) (sRet (eC (.str "another"))) (sNil)) (sRet (eC (.str "text"))))
def F__law_kind : List D → R D := runF 1 b__law_kind
def b__law_number_word : SM := sSeq (sAsg 1 (eC .non)) (sSeq (sAsg 2 (eC .non)) (sSeq (sTry xCt14 3 1 (sAsg 2 (eF F_read_number (aCons (eVar 0) (aNil))))) (sSeq (sIf (mB (e2 dIsNot (eVar 1) (eC .non))) (sRet (eF F__law_kind (aCons (eVar 1) (aNil)))) (sNil)) (sRet (eL (aLst (aCons (eC (.str "told")) (aCons (eVar 2) (aNil)))))))))
def F__law_number_word : List D → R D := runF 4 b__law_number_word
def b__law_portion_word : SM := sSeq (sAsg 1 (eC .non)) (sSeq (sAsg 2 (eC .non)) (sSeq (sTry xCt14 3 1 (sAsg 2 (eF F_read_portion (aCons (eVar 0) (aNil))))) (sSeq (sIf (mB (e2 dIsNot (eVar 1) (eC .non))) (sRet (eF F__law_kind (aCons (eVar 1) (aNil)))) (sNil)) (sRet (eL (aLst (aCons (eC (.str "told")) (aCons (eVar 2) (aNil)))))))))
def F__law_portion_word : List D → R D := runF 4 b__law_portion_word
def b__law_right_v7 : SM := sSeq (sAsg 1 (eC .non)) (sSeq (sAsg 2 (eC .non)) (sSeq (sIf (mB (eB dIsi (aCons (eVar 0) (aCons (eC (.ty "str")) (aNil))))) (sSeq (sAsg 1 (eF F__law_number_due (aCons (eVar 0) (aNil)))) (sAsg 2 (eF F__law_portion_due (aCons (eVar 0) (aNil))))) (sNil)) (sSeq (sAsg 3 (eF F__law_number_word (aCons (eVar 0) (aNil)))) (sSeq (sIf (mAnd (mB (e2 dIs (eVar 1) (eC .non))) (mB (e2 dNe (eVar 3) (eC (.str "text"))))) (sRet (eC (.bl false))) (sNil)) (sSeq (sIf (mAnd (mB (e2 dIsNot (eVar 1) (eC .non))) (mOr (mB (e2 dNe (eVar 3) (eL (aLst (aCons (eC (.str "told")) (aCons (eVar 1) (aNil))))))) (mNot (mB (eF F__law_whole (aCons (e2 dAt (eVar 3) (eC (.int 1))) (aNil))))))) (sRet (eC (.bl false))) (sNil)) (sSeq (sAsg 3 (eF F__law_portion_word (aCons (eVar 0) (aNil)))) (sSeq (sIf (mB (e2 dIs (eVar 2) (eC .non))) (sRet (e2 dEq (eVar 3) (eC (.str "text")))) (sNil)) (sSeq (sIf (mOr (mB (e2 dNe (eVar 3) (eL (aLst (aCons (eC (.str "told")) (aCons (eVar 2) (aNil))))))) (mNot (mB (eB dIsi (aCons (e2 dAt (eVar 3) (eC (.int 1))) (aCons (eC (.ty "tuple")) (aNil))))))) (sRet (eC (.bl false))) (sNil)) (sSeq (sAsg 4 (eF F_show_portion (aCons (eVar 2) (aNil)))) (sRet (eAnd (eB dIsi (aCons (eVar 4) (aCons (eC (.ty "str")) (aNil)))) (e2 dEq (eVar 4) (eVar 0)))))))))))))
def F__law_right_v7 : List D → R D := runF 5 b__law_right_v7
end Law

namespace Law
open PySem PySem.Spec PyProof.Rows L2 GD
local macro_rules | `(tactic| walk_at "gd") => `(tactic| simp (config := {failIfUnchanged := false}) only [runF, sSeq, sIf, sAsg, sRet, sRetN, sExpr, sNil, sRaise, sPar, sTgt, sFor, sForR, sWhile, eVar, eC, e1, e2, mB, aNil, aCons, eF, eB, eTup, aLst, eL, mNot, mAnd, mOr, eNot, eAnd, eOr, gNm, gTp, gsNil, gsCons, asL, asT,
  bind_ok, bind_er, bind_st, ofO_some, asB_bl, ofR_ok, ofR_er, dAdd_int, dSub_int, dNeg_int, dLt_int, dLe_int, dGt_int, dGe_int, dEq_int, dNe_int, dEq_bl, dMod_int, dDiv_lit, dMul_int, Int.reduceLT, Int.reduceEq, Int.cast_ofNat_Int, eq_self, line_le, Nat.reduceLeDiff,  dIs_non, dIsNot_non, dAt_t0, dAt_t1, dAt_t2, dAt_l0, dAt_l1, dAt_l2, dAt_l3, dAt_l4, dAt_l5, dAt_l6, dAt_l7, dAbs, dMax2, dMin2, dLen,
  List.getElem?_cons_zero, List.getElem?_cons_succ, List.set_cons_zero, List.set_cons_succ, List.map_cons, List.map_nil, List.length_cons, List.length_nil, List.cons_append, List.nil_append, List.replicate_succ, List.replicate_zero, Nat.reduceSub, Nat.reduceAdd,
  decide_eq_true_eq, Bool.not_eq_true', if_true, if_false, ite_true, ite_false, Option.bind_some, Option.map_some, Bool.not_true, Bool.not_false, reduceIte, Bool.false_eq_true, Bool.true_eq_false, decide_true, decide_false])
local macro_rules | `(tactic| walk_at "gdh") => `(tactic| simp (config := {failIfUnchanged := false}) only [runF, sSeq, sIf, sAsg, sRet, sRetN, sExpr, sNil, sRaise, sPar, sTgt, sFor, sForR, sWhile, eVar, eC, e1, e2, mB, aNil, aCons, eF, eB, eTup, aLst, eL, mNot, mAnd, mOr, eNot, eAnd, eOr, gNm, gTp, gsNil, gsCons, asL, asT,
  bind_ok, bind_er, bind_st, ofO_some, asB_bl, ofR_ok, ofR_er, dAdd_int, dSub_int, dNeg_int, dLt_int, dLe_int, dGt_int, dGe_int, dEq_int, dNe_int, dEq_bl, dMod_int, dDiv_lit, dMul_int, Int.reduceLT, Int.reduceEq, Int.cast_ofNat_Int, eq_self, line_le, Nat.reduceLeDiff,  dIs_non, dIsNot_non, dAt_t0, dAt_t1, dAt_t2, dAt_l0, dAt_l1, dAt_l2, dAt_l3, dAt_l4, dAt_l5, dAt_l6, dAt_l7, dAbs, dMax2, dMin2, dLen,
  List.getElem?_cons_zero, List.getElem?_cons_succ, List.set_cons_zero, List.set_cons_succ, List.map_cons, List.map_nil, List.length_cons, List.length_nil, List.cons_append, List.nil_append, List.replicate_succ, List.replicate_zero, Nat.reduceSub, Nat.reduceAdd,
  decide_eq_true_eq, Bool.not_eq_true', if_true, if_false, ite_true, ite_false, Option.bind_some, Option.map_some, Bool.not_true, Bool.not_false, reduceIte, Bool.false_eq_true, Bool.true_eq_false, decide_true, decide_false, *])
/-! ### the greatest common divisor -/
theorem while_divisor : ∀ (n : Nat) (a b : Nat), b < n → whileN (mB (e2 dGt (eVar 1) (eC (.int 0)))) l1_divisor n [.v (.int a), .v (.int b)] = .nx [.v (.int (Nat.gcd a b)), .v (.int 0)]
  | 0, a, b, h => absurd h (by omega)
  | n + 1, a, b, h => by
    unfold whileN
    walk_at "gd"
    by_cases hb : (0 : Int) < (b : Int)
    · rw [if_pos hb]
      unfold l1_divisor
      walk_at "gd"
      rw [dMod_int hb]
      walk_at "gd"
      have e : ((a : Int) % (b : Int)) = ((a % b : Nat) : Int) := by simp
      have w := while_divisor n b (a % b) (by have := Nat.mod_lt a (show 0 < b by omega); omega)
      unfold l1_divisor at w
      rw [e, w, Nat.gcd_comm b (a % b), ← Nat.gcd_rec b a, Nat.gcd_comm b a]
    · rw [if_neg hb]
      have : b = 0 := by omega
      subst this
      simp
theorem divisor_eq (a b : Int) : F_divisor [.int a, .int b] = .ok (.int (Int.gcd a b)) := by
  unfold F_divisor b_divisor
  walk_at "gd"
  unfold fuelI
  walk_at "gd"
  rw [while_divisor _ _ _ (by simp)]
  walk_at "gd"
  rfl
theorem while_common : ∀ (n : Nat) (a b : Nat), a < n → whileN (mB (e2 dGt (eVar 0) (eC (.int 0)))) l1__law_common n [.v (.int a), .v (.int b)] = .nx [.v (.int 0), .v (.int (Nat.gcd a b))]
  | 0, a, b, h => absurd h (by omega)
  | n + 1, a, b, h => by
    unfold whileN
    walk_at "gd"
    by_cases hb : (0 : Int) < (a : Int)
    · rw [if_pos hb]
      unfold l1__law_common
      walk_at "gd"
      rw [dMod_int hb]
      walk_at "gd"
      have e : ((b : Int) % (a : Int)) = ((b % a : Nat) : Int) := by simp
      have w := while_common n (b % a) a (by have := Nat.mod_lt b (show 0 < a by omega); omega)
      unfold l1__law_common at w
      rw [e, w, Nat.gcd_rec a b]
    · rw [if_neg hb]
      have : a = 0 := by omega
      subst this
      simp
theorem common_eq (a b : Int) : F__law_common [.int a, .int b] = .ok (.int (Int.gcd a b)) := by
  unfold F__law_common b__law_common
  walk_at "gd"
  unfold fuelI
  walk_at "gd"
  rw [while_common _ _ _ (by simp)]
  walk_at "gd"
  rfl
theorem whole_int (i : Int) : F__law_whole [.int i] = .ok (.bl true) := by
  unfold F__law_whole b__law_whole
  walk_at "gd"
  rw [isi_int _ _ _ _ rfl kb_int_int, isi_int _ _ _ _ rfl kb_int_bool]
  walk_at "gd"
/-! ### cells -/
theorem cell_loop (ns : List Int) (k : D) : ∀ (l : List Int) (n : Nat) (x : Int) (y : Sl), n + 12 * l.length < 900000 → Bd n x → 32 ≤ n →
    ∃ x' y', loop (gNm 3) l1__law_cell (l.map D.int) [.v (.scr ns), .v k, .v (.int x), y] = .nx [.v (.scr ns), .v k, .v (.int x'), y'] ∧ Bd (n + 12 * l.length) x'
  | [], n, x, y, _, h, _ => ⟨x, y, rfl, h⟩
  | z :: l, n, x, y, hn, h, h32 => by
    have b1 : Bd 10 1009 := by decide
    have b2 : Bd 20 (z % 1000003) := Bd.of_range (Int.emod_nonneg _ (by decide)) (Int.lt_trans (Int.emod_lt_of_pos z (by decide)) (by decide))
    have b3 : Bd (n + 11) (x * 1009 + z % 1000003) := ((h.mul b1).add b2).mono (by omega)
    obtain ⟨x', y', e, hb⟩ := cell_loop ns k l (n + 12) (x * 1009 + z % 1000003) (.v (.int z)) (by rw [List.length_cons] at hn; omega) (b3.mono (by omega)) (by omega)
    refine ⟨x', y', ?_, hb.mono (by rw [List.length_cons]; omega)⟩
    rw [List.map_cons, loop_cons (ρ1 := [.v (.scr ns), .v k, .v (.int x), .v (.int z)]) (ρ2 := [.v (.scr ns), .v k, .v (.int (x * 1009 + z % 1000003)), .v (.int z)]) rfl ?_]
    · exact e
    · unfold l1__law_cell
      walk_at "gd"
      rw [dMul_int (mok h b1 (by omega))]
      walk_at "gd"
theorem cell_spec (ns : List Int) (k : Int) (h0 : 0 ≤ k) (hk : k < 1000) : ∃ c : Int, 0 ≤ c ∧ c < 10 ^ 60 ∧ F__law_cell [.scr ns, .int k] = .ok (.int c) := by
  obtain ⟨j, rfl⟩ := Int.eq_ofNat_of_zero_le h0
  unfold F__law_cell b__law_cell
  by_cases hl : (j : Int) < ns.length
  · have hj : j < ns.length := by omega
    refine ⟨ns[j] % 10 ^ 60, Int.emod_nonneg _ (by decide), Int.emod_lt_of_pos _ (by decide), ?_⟩
    walk_at "gd"
    rw [if_pos hl, dAt_scr (List.getElem?_eq_getElem hj)]
    walk_at "gd"
    rfl
  · walk_at "gd"
    rw [if_neg hl]
    walk_at "gd"
    rw [dMul_int (mok (Bd.of_range (n := 10) h0 (by omega)) (show Bd 13 7907 by decide) (by decide))]
    walk_at "gd"
    simp only [aCut, oNone, oSome, eVar, eC]
    walk_at "gd"
    rw [cutL_ints]
    have b0 : Bd 32 ((j : Int) * 7907 + 3571) := Bd.of_range (by omega) (by omega)
    have hl3 := cutL_len ns 3
    obtain ⟨x', y', e, hb⟩ := cell_loop ns (.int j) (cutL ns none (some 3)) 32 _ .un (by have : (cutL ns none (some 3)).length ≤ 3 := hl3; omega) b0 (by decide)
    rw [e]
    walk_at "gd"
    have b1 : Bd 31 (x' % 2147483647) := Bd.of_range (Int.emod_nonneg _ (by decide)) (Int.lt_trans (Int.emod_lt_of_pos x' (by decide)) (by decide))
    rw [dMul_int (mok b1 b1 (by decide))]
    walk_at "gd"
    exact ⟨_, Int.emod_nonneg _ (by decide), Int.lt_trans (Int.emod_lt_of_pos _ (by decide)) (by decide), rfl⟩
theorem number_spec (c : Int) : ∃ r, Bd 200 r ∧ F__law_number [.int c] = .ok (.int r) := by
  unfold F__law_number b__law_number
  walk_at "gd"
  by_cases h : c % 3 = 0
  · rw [if_pos h]
    walk_at "gd"
    exact ⟨_, (Bd.of_range (n := 10) (Int.emod_nonneg _ (by decide)) (Int.lt_trans (Int.emod_lt_of_pos _ (by decide)) (by decide))).sub (show Bd 10 4 by decide) |>.mono (by decide), rfl⟩
  · rw [if_neg h]
    walk_at "gd"
    exact ⟨_, (Bd.of_range (n := 198) (Int.emod_nonneg _ (by decide)) (Int.lt_trans (Int.emod_lt_of_pos _ (by decide)) (by decide))).sub (show Bd 198 (10 ^ 58) by decide) |>.mono (by decide), rfl⟩
end Law

namespace Law
open PySem PySem.Spec PyProof.Rows L2 GD
local macro_rules | `(tactic| walk_at "gd") => `(tactic| simp (config := {failIfUnchanged := false}) only [runF, sSeq, sIf, sAsg, sRet, sRetN, sExpr, sNil, sRaise, sPar, sTgt, sFor, sForR, sWhile, eVar, eC, e1, e2, mB, aNil, aCons, eF, eB, eTup, aLst, eL, mNot, mAnd, mOr, eNot, eAnd, eOr, gNm, gTp, gsNil, gsCons, asL, asT,
  bind_ok, bind_er, bind_st, ofO_some, asB_bl, ofR_ok, ofR_er, dAdd_int, dSub_int, dNeg_int, dLt_int, dLe_int, dGt_int, dGe_int, dEq_int, dNe_int, dEq_bl, dMod_int, dDiv_lit, dMul_int, Int.reduceLT, Int.reduceEq, Int.cast_ofNat_Int, eq_self, line_le, Nat.reduceLeDiff,  dIs_non, dIsNot_non, dAt_t0, dAt_t1, dAt_t2, dAt_l0, dAt_l1, dAt_l2, dAt_l3, dAt_l4, dAt_l5, dAt_l6, dAt_l7, dAbs, dMax2, dMin2, dLen,
  List.getElem?_cons_zero, List.getElem?_cons_succ, List.set_cons_zero, List.set_cons_succ, List.map_cons, List.map_nil, List.length_cons, List.length_nil, List.cons_append, List.nil_append, List.replicate_succ, List.replicate_zero, Nat.reduceSub, Nat.reduceAdd,
  decide_eq_true_eq, Bool.not_eq_true', if_true, if_false, ite_true, ite_false, Option.bind_some, Option.map_some, Bool.not_true, Bool.not_false, reduceIte, Bool.false_eq_true, Bool.true_eq_false, decide_true, decide_false])
local macro_rules | `(tactic| walk_at "gdh") => `(tactic| simp (config := {failIfUnchanged := false}) only [runF, sSeq, sIf, sAsg, sRet, sRetN, sExpr, sNil, sRaise, sPar, sTgt, sFor, sForR, sWhile, eVar, eC, e1, e2, mB, aNil, aCons, eF, eB, eTup, aLst, eL, mNot, mAnd, mOr, eNot, eAnd, eOr, gNm, gTp, gsNil, gsCons, asL, asT,
  bind_ok, bind_er, bind_st, ofO_some, asB_bl, ofR_ok, ofR_er, dAdd_int, dSub_int, dNeg_int, dLt_int, dLe_int, dGt_int, dGe_int, dEq_int, dNe_int, dEq_bl, dMod_int, dDiv_lit, dMul_int, Int.reduceLT, Int.reduceEq, Int.cast_ofNat_Int, eq_self, line_le, Nat.reduceLeDiff,  dIs_non, dIsNot_non, dAt_t0, dAt_t1, dAt_t2, dAt_l0, dAt_l1, dAt_l2, dAt_l3, dAt_l4, dAt_l5, dAt_l6, dAt_l7, dAbs, dMax2, dMin2, dLen,
  List.getElem?_cons_zero, List.getElem?_cons_succ, List.set_cons_zero, List.set_cons_succ, List.map_cons, List.map_nil, List.length_cons, List.length_nil, List.cons_append, List.nil_append, List.replicate_succ, List.replicate_zero, Nat.reduceSub, Nat.reduceAdd,
  decide_eq_true_eq, Bool.not_eq_true', if_true, if_false, ite_true, ite_false, Option.bind_some, Option.map_some, Bool.not_true, Bool.not_false, reduceIte, Bool.false_eq_true, Bool.true_eq_false, decide_true, decide_false, *])
/-! ### lowest terms -/
theorem gcd_split (a b : Int) (h : 0 < Int.gcd a b) : ∃ p q : Int, a = Int.gcd a b * p ∧ b = Int.gcd a b * q ∧ Int.gcd p q = 1 := by
  obtain ⟨p, hp⟩ := Int.gcd_dvd_left a b
  obtain ⟨q, hq⟩ := Int.gcd_dvd_right a b
  refine ⟨p, q, hp, hq, ?_⟩
  have e : Int.gcd (Int.gcd a b * p) (Int.gcd a b * q) = Int.gcd a b * Int.gcd p q := by
    rw [Int.gcd_mul_left]
    simp
  rw [← hp, ← hq] at e
  have h2 : Int.gcd a b * 1 = Int.gcd a b * Int.gcd p q := by rw [Nat.mul_one]; exact e
  exact (Nat.eq_of_mul_eq_mul_left h h2).symm
/-- top and bottom of the fraction of two whole numbers -/
def fT (t b : Int) : Int := (if b < 0 then -t else t) / (Int.gcd t b : Int)
def fB (t b : Int) : Int := (b.natAbs : Int) / (Int.gcd t b : Int)
theorem gcd_posR {t b : Int} (h : b ≠ 0) : 0 < Int.gcd t b := by
  have : Int.gcd t b ≠ 0 := fun z => h (Int.gcd_eq_zero_iff.mp z).2
  omega
theorem gcd_leR {t b : Int} (h : b ≠ 0) : Int.gcd t b ≤ b.natAbs := Nat.le_of_dvd (by omega) (by have := Int.natAbs_dvd_natAbs.mpr (Int.gcd_dvd_right t b); simpa using this)
theorem fr_of {t b p q : Int} (h : b ≠ 0) (hp : t = Int.gcd t b * p) (hq : b = Int.gcd t b * q) : fT t b = (if b < 0 then -p else p) ∧ fB t b = q.natAbs := by
  have hg := gcd_posR (t := t) h
  have hg' : ((Int.gcd t b : Nat) : Int) ≠ 0 := by omega
  constructor
  · unfold fT
    split
    · conv => lhs; lhs; rw [hp]
      rw [← Int.mul_neg, Int.mul_ediv_cancel_left _ hg']
    · conv => lhs; lhs; rw [hp]
      rw [Int.mul_ediv_cancel_left _ hg']
  · unfold fB
    have e : (b.natAbs : Int) = Int.gcd t b * (q.natAbs : Int) := by
      conv => lhs; rw [hq]
      rw [Int.natAbs_mul]
      simp
    rw [e, Int.mul_ediv_cancel_left _ hg']
theorem fB_pos {t b : Int} (h : b ≠ 0) : 0 < fB t b := by
  obtain ⟨p, q, hp, hq, _⟩ := gcd_split t b (gcd_posR h)
  rw [(fr_of h hp hq).2]
  have : q ≠ 0 := fun z => h (by rw [hq, z, Int.mul_zero])
  omega
theorem f_gcd {t b : Int} (h : b ≠ 0) : Int.gcd (fT t b) (fB t b) = 1 := by
  obtain ⟨p, q, hp, hq, hg⟩ := gcd_split t b (gcd_posR h)
  rw [(fr_of h hp hq).1, (fr_of h hp hq).2]
  have e : Int.gcd p (q.natAbs : Int) = Int.gcd p q := by simp [Int.gcd]
  split
  · rw [Int.neg_gcd, e]
    exact hg
  · rw [e]
    exact hg
theorem f_eq {t b : Int} (h : b ≠ 0) : fT t b * b = t * fB t b := by
  obtain ⟨p, q, hp, hq, hg⟩ := gcd_split t b (gcd_posR h)
  rw [(fr_of h hp hq).1, (fr_of h hp hq).2]
  have hgp := gcd_posR (t := t) h
  split
  · rename_i hb
    have hq0 : q < 0 := by
      apply Decidable.byContradiction
      intro z
      have : 0 ≤ (Int.gcd t b : Int) * q := Int.mul_nonneg (by omega) (by omega)
      omega
    have e : (q.natAbs : Int) = -q := by omega
    rw [e]
    conv => lhs; rw [hq]
    conv => rhs; rw [hp]
    grind
  · rename_i hb
    have hq0 : 0 ≤ q := by
      apply Decidable.byContradiction
      intro z
      have : (Int.gcd t b : Int) * q < 0 := Int.mul_neg_of_pos_of_neg (by omega) (by omega)
      omega
    have e : (q.natAbs : Int) = q := by omega
    rw [e]
    conv => lhs; rw [hq]
    conv => rhs; rw [hp]
    grind
theorem fT_le (t b : Int) : (fT t b).natAbs ≤ t.natAbs := by
  unfold fT
  have := Int.natAbs_ediv_le_natAbs (if b < 0 then -t else t) (Int.gcd t b)
  split at this <;> split <;> omega
theorem fB_le (t b : Int) : (fB t b).natAbs ≤ b.natAbs := by
  unfold fB
  have := Int.natAbs_ediv_le_natAbs (b.natAbs : Int) (Int.gcd t b)
  omega
theorem bd_fT {n : Nat} {t b : Int} (h : Bd n t) : Bd n (fT t b) := h.of_le (fT_le t b)
theorem bd_fB {n : Nat} {t b : Int} (h : Bd n b) : Bd n (fB t b) := h.of_le (fB_le t b)
/-- the fraction as data -/
def fr (t b : Int) : D := .tup [.int (fT t b), .int (fB t b)]
theorem portion_zero (t : Int) : F_portion [.int t, .int 0] = .er "NoNumber" := by
  unfold F_portion b_portion
  walk_at "gd"
theorem portion_eq {t b : Int} (h : b ≠ 0) (hb : Bd 8900 b) : F_portion [.int t, .int b] = .ok (fr t b) := by
  have hg := gcd_posR (t := t) h
  have hd : divOk (Int.gcd t b : Int) := dok (by omega) (hb.of_le (by have := gcd_leR (t := t) h; omega)) (by decide)
  unfold F_portion b_portion
  walk_at "gd"
  rw [if_neg h]
  walk_at "gd"
  by_cases hn : b < 0
  · rw [if_pos hn]
    walk_at "gd"
    rw [divisor_eq, Int.gcd_neg, Int.neg_gcd]
    walk_at "gd"
    rw [dDiv_int hd, dDiv_int hd]
    walk_at "gd"
    unfold fr fT fB
    rw [if_pos hn, show ((b.natAbs : Nat) : Int) = -b by omega]
  · rw [if_neg hn]
    walk_at "gd"
    rw [divisor_eq]
    walk_at "gd"
    rw [dDiv_int hd, dDiv_int hd]
    walk_at "gd"
    unfold fr fT fB
    rw [if_neg hn, show ((b.natAbs : Nat) : Int) = b by omega]
def D2 (x y : Int) : D := .tup [.int x, .int y]
def D3 (x y z : Int) : D := .tup [.int x, .int y, .int z]
theorem plus_eq {a b c d : Int} {n : Nat} (ha : Bd n a) (hb : Bd n b) (hc : Bd n c) (hd : Bd n d) (hn : n ≤ 4000) (hb0 : b ≠ 0) (hd0 : d ≠ 0) : F_plus [D2 a b, D2 c d] = .ok (fr (a * d + c * b) (b * d)) := by
  have m1 : mulOk a d := mok ha hd (by omega)
  have m2 : mulOk c b := mok hc hb (by omega)
  have m3 : mulOk b d := mok hb hd (by omega)
  unfold F_plus b_plus D2
  walk_at "gdh"
  rw [portion_eq (Int.mul_ne_zero hb0 hd0) ((hb.mul hd).mono (by omega))]
  rfl
theorem minus_eq {a b c d : Int} {n : Nat} (ha : Bd n a) (hb : Bd n b) (hc : Bd n c) (hd : Bd n d) (hn : n ≤ 4000) (hb0 : b ≠ 0) (hd0 : d ≠ 0) : F_minus [D2 a b, D2 c d] = .ok (fr (a * d - c * b) (b * d)) := by
  have m1 : mulOk a d := mok ha hd (by omega)
  have m2 : mulOk c b := mok hc hb (by omega)
  have m3 : mulOk b d := mok hb hd (by omega)
  unfold F_minus b_minus D2
  walk_at "gdh"
  rw [portion_eq (Int.mul_ne_zero hb0 hd0) ((hb.mul hd).mono (by omega))]
  rfl
theorem times_eq {a b c d : Int} {n : Nat} (ha : Bd n a) (hb : Bd n b) (hc : Bd n c) (hd : Bd n d) (hn : n ≤ 4000) (hb0 : b ≠ 0) (hd0 : d ≠ 0) : F_times [D2 a b, D2 c d] = .ok (fr (a * c) (b * d)) := by
  have m1 : mulOk a c := mok ha hc (by omega)
  have m3 : mulOk b d := mok hb hd (by omega)
  unfold F_times b_times D2
  walk_at "gdh"
  rw [portion_eq (Int.mul_ne_zero hb0 hd0) ((hb.mul hd).mono (by omega))]
  rfl
theorem under_eq {a b c d : Int} {n : Nat} (ha : Bd n a) (hb : Bd n b) (hc : Bd n c) (hd : Bd n d) (hn : n ≤ 400000) : F_under [D2 a b, D2 c d] = .ok (.bl (decide (a * d < c * b))) := by
  have m1 : mulOk a d := mok ha hd (by omega)
  have m2 : mulOk c b := mok hc hb (by omega)
  unfold F_under b_under D2
  walk_at "gdh"
end Law

namespace Law
open PySem PySem.Spec PyProof.Rows L2 GD
local macro_rules | `(tactic| walk_at "gd") => `(tactic| simp (config := {failIfUnchanged := false}) only [runF, sSeq, sIf, sAsg, sRet, sRetN, sExpr, sNil, sRaise, sPar, sTgt, sFor, sForR, sWhile, eVar, eC, e1, e2, mB, aNil, aCons, eF, eB, eTup, aLst, eL, mNot, mAnd, mOr, eNot, eAnd, eOr, gNm, gTp, gsNil, gsCons, asL, asT,
  bind_ok, bind_er, bind_st, ofO_some, asB_bl, ofR_ok, ofR_er, dAdd_int, dSub_int, dNeg_int, dLt_int, dLe_int, dGt_int, dGe_int, dEq_int, dNe_int, dEq_bl, dMod_int, dDiv_lit, dMul_int, Int.reduceLT, Int.reduceEq, Int.cast_ofNat_Int, eq_self, line_le, Nat.reduceLeDiff,  dIs_non, dIsNot_non, dAt_t0, dAt_t1, dAt_t2, dAt_l0, dAt_l1, dAt_l2, dAt_l3, dAt_l4, dAt_l5, dAt_l6, dAt_l7, dAbs, dMax2, dMin2, dLen,
  List.getElem?_cons_zero, List.getElem?_cons_succ, List.set_cons_zero, List.set_cons_succ, List.map_cons, List.map_nil, List.length_cons, List.length_nil, List.cons_append, List.nil_append, List.replicate_succ, List.replicate_zero, Nat.reduceSub, Nat.reduceAdd,
  decide_eq_true_eq, Bool.not_eq_true', if_true, if_false, ite_true, ite_false, Option.bind_some, Option.map_some, Bool.not_true, Bool.not_false, reduceIte, Bool.false_eq_true, Bool.true_eq_false, decide_true, decide_false])
local macro_rules | `(tactic| walk_at "gdh") => `(tactic| simp (config := {failIfUnchanged := false}) only [runF, sSeq, sIf, sAsg, sRet, sRetN, sExpr, sNil, sRaise, sPar, sTgt, sFor, sForR, sWhile, eVar, eC, e1, e2, mB, aNil, aCons, eF, eB, eTup, aLst, eL, mNot, mAnd, mOr, eNot, eAnd, eOr, gNm, gTp, gsNil, gsCons, asL, asT,
  bind_ok, bind_er, bind_st, ofO_some, asB_bl, ofR_ok, ofR_er, dAdd_int, dSub_int, dNeg_int, dLt_int, dLe_int, dGt_int, dGe_int, dEq_int, dNe_int, dEq_bl, dMod_int, dDiv_lit, dMul_int, Int.reduceLT, Int.reduceEq, Int.cast_ofNat_Int, eq_self, line_le, Nat.reduceLeDiff,  dIs_non, dIsNot_non, dAt_t0, dAt_t1, dAt_t2, dAt_l0, dAt_l1, dAt_l2, dAt_l3, dAt_l4, dAt_l5, dAt_l6, dAt_l7, dAbs, dMax2, dMin2, dLen,
  List.getElem?_cons_zero, List.getElem?_cons_succ, List.set_cons_zero, List.set_cons_succ, List.map_cons, List.map_nil, List.length_cons, List.length_nil, List.cons_append, List.nil_append, List.replicate_succ, List.replicate_zero, Nat.reduceSub, Nat.reduceAdd,
  decide_eq_true_eq, Bool.not_eq_true', if_true, if_false, ite_true, ite_false, Option.bind_some, Option.map_some, Bool.not_true, Bool.not_false, reduceIte, Bool.false_eq_true, Bool.true_eq_false, decide_true, decide_false, *])
/-! ### spots in lowest terms -/
def g3 (x y w : Int) : Nat := Int.gcd (Int.gcd x y : Int) w
def sg (w t : Int) : Int := if w < 0 then -t else t
def sX (x y w : Int) : Int := sg w x / (g3 x y w : Int)
def sY (x y w : Int) : Int := sg w y / (g3 x y w : Int)
def sW (x y w : Int) : Int := (w.natAbs : Int) / (g3 x y w : Int)
theorem g3_pos {x y w : Int} (h : w ≠ 0) : 0 < g3 x y w := gcd_posR h
theorem g3_le {x y w : Int} (h : w ≠ 0) : g3 x y w ≤ w.natAbs := gcd_leR h
theorem g3_split (x y w : Int) (h : w ≠ 0) : ∃ p q r : Int, x = g3 x y w * p ∧ y = g3 x y w * q ∧ w = g3 x y w * r ∧ g3 p q r = 1 := by
  have hd : ((g3 x y w : Nat) : Int) ∣ (Int.gcd x y : Int) := Int.gcd_dvd_left _ _
  obtain ⟨p, hp⟩ : ((g3 x y w : Nat) : Int) ∣ x := Int.dvd_trans hd (Int.gcd_dvd_left x y)
  obtain ⟨q, hq⟩ : ((g3 x y w : Nat) : Int) ∣ y := Int.dvd_trans hd (Int.gcd_dvd_right x y)
  obtain ⟨r, hr⟩ : ((g3 x y w : Nat) : Int) ∣ w := Int.gcd_dvd_right _ _
  refine ⟨p, q, r, hp, hq, hr, ?_⟩
  have hg := g3_pos (x := x) (y := y) h
  generalize hG : g3 x y w = G at *
  have e1 : Int.gcd x y = G * Int.gcd p q := by rw [hp, hq, Int.gcd_mul_left]; simp
  have e2 : g3 x y w = G * g3 p q r := by
    unfold g3
    rw [e1, hr]
    show Int.gcd ((G * Int.gcd p q : Nat) : Int) (G * r) = _
    rw [Int.natCast_mul, Int.gcd_mul_left]
    simp
  rw [hG] at e2
  have h2 : G * 1 = G * g3 p q r := by omega
  exact (Nat.eq_of_mul_eq_mul_left hg h2).symm
theorem sg_mul (w G p : Int) : sg w (G * p) = G * sg w p := by
  unfold sg
  split
  · rw [Int.mul_neg]
  · rfl
theorem sp_of {x y w p q r : Int} (h : w ≠ 0) (hp : x = g3 x y w * p) (hq : y = g3 x y w * q) (hr : w = g3 x y w * r) : sX x y w = sg w p ∧ sY x y w = sg w q ∧ sW x y w = r.natAbs := by
  have hg := g3_pos (x := x) (y := y) h
  have hg' : ((g3 x y w : Nat) : Int) ≠ 0 := by omega
  refine ⟨?_, ?_, ?_⟩
  · unfold sX
    conv => lhs; lhs; rw [hp, sg_mul]
    rw [Int.mul_ediv_cancel_left _ hg']
  · unfold sY
    conv => lhs; lhs; rw [hq, sg_mul]
    rw [Int.mul_ediv_cancel_left _ hg']
  · unfold sW
    have e : (w.natAbs : Int) = g3 x y w * (r.natAbs : Int) := by
      conv => lhs; rw [hr]
      rw [Int.natAbs_mul]
      simp
    rw [e, Int.mul_ediv_cancel_left _ hg']
theorem sW_pos {x y w : Int} (h : w ≠ 0) : 0 < sW x y w := by
  obtain ⟨p, q, r, hp, hq, hr, _⟩ := g3_split x y w h
  rw [(sp_of h hp hq hr).2.2]
  have : r ≠ 0 := fun z => h (by rw [hr, z, Int.mul_zero])
  omega
theorem gcd_sg (w p q : Int) : Int.gcd (sg w p) (sg w q) = Int.gcd p q := by
  unfold sg
  split
  · rw [Int.neg_gcd, Int.gcd_neg]
  · rfl
theorem s_gcd {x y w : Int} (h : w ≠ 0) : g3 (sX x y w) (sY x y w) (sW x y w) = 1 := by
  obtain ⟨p, q, r, hp, hq, hr, hg⟩ := g3_split x y w h
  obtain ⟨e1, e2, e3⟩ := sp_of h hp hq hr
  rw [e1, e2, e3]
  unfold g3 at hg ⊢
  rw [gcd_sg]
  have e : ∀ a, Int.gcd a (r.natAbs : Int) = Int.gcd a r := fun a => by simp [Int.gcd]
  rw [e]
  exact hg
theorem s_eq {x y w : Int} (h : w ≠ 0) : sX x y w * w = x * sW x y w ∧ sY x y w * w = y * sW x y w := by
  obtain ⟨p, q, r, hp, hq, hr, hg⟩ := g3_split x y w h
  obtain ⟨e1, e2, e3⟩ := sp_of h hp hq hr
  have hgp := g3_pos (x := x) (y := y) h
  have e4 : (r.natAbs : Int) = sg w r := by
    unfold sg
    split
    · rename_i hb
      have hq0 : r < 0 := by
        apply Decidable.byContradiction
        intro z
        have : 0 ≤ (g3 x y w : Int) * r := Int.mul_nonneg (by omega) (by omega)
        omega
      omega
    · rename_i hb
      have hq0 : 0 ≤ r := by
        apply Decidable.byContradiction
        intro z
        have : (g3 x y w : Int) * r < 0 := Int.mul_neg_of_pos_of_neg (by omega) (by omega)
        omega
      omega
  rw [e1, e2, e3, e4]
  generalize (g3 x y w : Int) = G at hp hq hr
  constructor
  · unfold sg
    split
    · grind
    · grind
  · unfold sg
    split
    · grind
    · grind
theorem sg_abs (w t : Int) : (sg w t).natAbs = t.natAbs := by
  unfold sg
  split <;> omega
theorem bd_sX {n : Nat} {x y w : Int} (h : Bd n x) : Bd n (sX x y w) := h.of_le (by have := Int.natAbs_ediv_le_natAbs (sg w x) (g3 x y w); rw [sg_abs] at this; exact this)
theorem bd_sY {n : Nat} {x y w : Int} (h : Bd n y) : Bd n (sY x y w) := h.of_le (by have := Int.natAbs_ediv_le_natAbs (sg w y) (g3 x y w); rw [sg_abs] at this; exact this)
theorem bd_sW {n : Nat} {x y w : Int} (h : Bd n w) : Bd n (sW x y w) := h.of_le (by have := Int.natAbs_ediv_le_natAbs (w.natAbs : Int) (g3 x y w); exact this)
def sp (x y w : Int) : D := D3 (sX x y w) (sY x y w) (sW x y w)
theorem spot_zero (x y : Int) : F_spot [.int x, .int y, .int 0] = .er "NoNumber" := by
  unfold F_spot b_spot
  walk_at "gd"
theorem spot_eq {x y w : Int} (h : w ≠ 0) (hb : Bd 8900 w) : F_spot [.int x, .int y, .int w] = .ok (sp x y w) := by
  have hg := g3_pos (x := x) (y := y) h
  have hd : divOk (g3 x y w : Int) := dok (by omega) (hb.of_le (by have := g3_le (x := x) (y := y) h; omega)) (by decide)
  unfold F_spot b_spot
  walk_at "gd"
  rw [if_neg h]
  walk_at "gd"
  by_cases hn : w < 0
  · rw [if_pos hn]
    walk_at "gd"
    rw [divisor_eq]
    walk_at "gd"
    rw [divisor_eq]
    walk_at "gd"
    rw [Int.gcd_neg, Int.neg_gcd, Int.gcd_neg, show Int.gcd (Int.gcd x y : Int) w = g3 x y w from rfl]
    rw [dDiv_int hd, dDiv_int hd, dDiv_int hd]
    walk_at "gd"
    unfold sp D3 sX sY sW sg
    rw [if_pos hn, if_pos hn, show ((w.natAbs : Nat) : Int) = -w by omega]
  · rw [if_neg hn]
    walk_at "gd"
    rw [divisor_eq]
    walk_at "gd"
    rw [divisor_eq]
    walk_at "gd"
    rw [show Int.gcd (Int.gcd x y : Int) w = g3 x y w from rfl]
    rw [dDiv_int hd, dDiv_int hd, dDiv_int hd]
    walk_at "gd"
    unfold sp D3 sX sY sW sg
    rw [if_neg hn, if_neg hn, show ((w.natAbs : Nat) : Int) = w by omega]
theorem put_at_eq {a b x y w : Int} {n : Nat} (ha : Bd n a) (hb : Bd n b) (hw : Bd n w) (hn : n ≤ 4000) (h0 : w ≠ 0) : F_put_at [D2 a b, D3 x y w] = .ok (sp (a * w + x) (b * w + y) w) := by
  have m1 : mulOk a w := mok ha hw (by omega)
  have m2 : mulOk b w := mok hb hw (by omega)
  unfold F_put_at b_put_at D2 D3
  walk_at "gdh"
  rw [spot_eq h0 (hw.mono (by omega))]
  rfl
theorem gone_on_eq {x y w a b t u : Int} {n : Nat} (hx : Bd n x) (hy : Bd n y) (hw : Bd n w) (ha : Bd n a) (hb : Bd n b) (ht : Bd n t) (hu : Bd n u) (hn : n ≤ 4000) (h0 : w ≠ 0) (h1 : u ≠ 0) : F_gone_on [D3 x y w, D2 a b, D2 t u] = .ok (sp (x * u + a * t * w) (y * u + b * t * w) (w * u)) := by
  have m1 : mulOk x u := mok hx hu (by omega)
  have m2 : mulOk y u := mok hy hu (by omega)
  have m3 : mulOk a t := mok ha ht (by omega)
  have m4 : mulOk b t := mok hb ht (by omega)
  have m5 : mulOk (a * t) w := mok (ha.mul ht) hw (by omega)
  have m6 : mulOk (b * t) w := mok (hb.mul ht) hw (by omega)
  have m7 : mulOk w u := mok hw hu (by omega)
  unfold F_gone_on b_gone_on D2 D3
  walk_at "gdh"
  rw [spot_eq (Int.mul_ne_zero h0 h1) ((hw.mul hu).mono (by omega))]
  rfl
theorem way_from_eq {x y w a b c : Int} {n : Nat} (hx : Bd n x) (hy : Bd n y) (hw : Bd n w) (ha : Bd n a) (hb : Bd n b) (hc : Bd n c) (hn : n ≤ 4000) (h0 : w ≠ 0) (h1 : c ≠ 0) : F_way_from [D3 x y w, D3 a b c] = .ok (sp (a * w - x * c) (b * w - y * c) (w * c)) := by
  have m1 : mulOk a w := mok ha hw (by omega)
  have m2 : mulOk x c := mok hx hc (by omega)
  have m3 : mulOk b w := mok hb hw (by omega)
  have m4 : mulOk y c := mok hy hc (by omega)
  have m7 : mulOk w c := mok hw hc (by omega)
  unfold F_way_from b_way_from D3
  walk_at "gdh"
  rw [spot_eq (Int.mul_ne_zero h0 h1) ((hw.mul hc).mono (by omega))]
  rfl
theorem ahead_eq {x y w a b c : Int} {n : Nat} (hx : Bd n x) (hy : Bd n y) (hw : Bd n w) (ha : Bd n a) (hb : Bd n b) (hc : Bd n c) (hn : n ≤ 4000) : F_ahead [D3 x y w, D3 a b c] = .ok (.bl (if x * c = a * w then decide (y * c < b * w) else decide (x * c < a * w))) := by
  have m1 : mulOk x c := mok hx hc (by omega)
  have m2 : mulOk a w := mok ha hw (by omega)
  have m3 : mulOk y c := mok hy hc (by omega)
  have m4 : mulOk b w := mok hb hw (by omega)
  unfold F_ahead b_ahead D3
  by_cases h : x * c = a * w
  · rw [if_pos h]
    walk_at "gdh"
  · rw [if_neg h]
    walk_at "gdh"
/-! ### comprehensions whose every turn is good -/
theorem lc_ex {g : D → En → Option En} {m : EM} {ρ : En} {P : D → D → Prop} : ∀ ds : List D, (∀ d ∈ ds, ∃ ρ1 x, g d ρ = some ρ1 ∧ m ρ1 = .ok x ∧ P d x) → ∃ xs : List D, lcGo g mYes m ds ρ = .ok xs ∧ xs.length = ds.length ∧ ∀ (i : Nat) (d x : D), ds[i]? = some d → xs[i]? = some x → P d x
  | [], _ => ⟨[], rfl, rfl, fun i d x h => by simp at h⟩
  | d :: r, hs => by
    obtain ⟨ρ1, x, h1, h2, h3⟩ := hs d List.mem_cons_self
    obtain ⟨xs, e, l, hp⟩ := lc_ex r (fun d' hd => hs d' (List.mem_cons_of_mem _ hd))
    refine ⟨x :: xs, ?_, by simp [l], fun i d' x' hd hx => ?_⟩
    · unfold lcGo
      rw [h1]
      show (noEr (R.ok true)).bind (fun b => if b = true then (noEr (m ρ1)).bind fun x => (lcGo g mYes m r ρ).bind fun xs => .ok (x :: xs) else lcGo g mYes m r ρ) = _
      rw [h2, e]
      rfl
    · cases i with
      | zero => simp at hd hx; subst hd; subst hx; exact h3
      | succ i => exact hp i d' x' (by simpa using hd) (by simpa using hx)
end Law

/-! the monotone chain: plain. -/
namespace Hl
open GD
abbrev lp (x y : Int) : Prop := 0 < x ∨ (x = 0 ∧ 0 < y)
theorem lx_lp {p q : Pt} (h : lx p q) : lp (q.1 - p.1) (q.2 - p.2) := by
  unfold lx at h
  unfold lp
  omega
theorem mul_neg_lt {a b : Int} (ha : 0 < a) (hb : b < 0) : a * b < 0 := Int.mul_neg_of_pos_of_neg ha hb
/-- left turns carry on, among vectors of one half -/
theorem trW {ux uy vx vy wx wy : Int} (hu : lp ux uy) (hv : lp vx vy) (hw : lp wx wy) (h1 : 0 ≤ ux * vy - uy * vx) (h2 : 0 ≤ vx * wy - vy * wx) : 0 ≤ ux * wy - uy * wx := by
  have ux0 : 0 ≤ ux := by unfold lp at hu; omega
  have wx0 : 0 ≤ wx := by unfold lp at hw; omega
  rcases hv with hv | ⟨rfl, hv⟩
  · have id : vx * (ux * wy - uy * wx) = ux * (vx * wy - vy * wx) + wx * (ux * vy - uy * vx) := by grind
    have g1 := Int.mul_nonneg ux0 h2
    have g2 := Int.mul_nonneg wx0 h1
    apply Decidable.byContradiction
    intro z
    have := mul_neg_lt hv (show ux * wy - uy * wx < 0 by omega)
    omega
  · rw [Int.zero_mul] at h2
    have : wx = 0 := by
      apply Decidable.byContradiction
      intro z
      have := Int.mul_pos hv (show 0 < wx by omega)
      omega
    subst this
    have hy : 0 < wy := by unfold lp at hw; omega
    have := Int.mul_nonneg ux0 (show 0 ≤ wy by omega)
    rw [Int.mul_zero]
    omega
theorem trS {ux uy vx vy wx wy : Int} (hu : lp ux uy) (hv : lp vx vy) (hw : lp wx wy) (h1 : 0 < ux * vy - uy * vx) (h2 : 0 < vx * wy - vy * wx) : 0 < ux * wy - uy * wx := by
  have wx0 : 0 ≤ wx := by unfold lp at hw; omega
  rcases hv with hv | ⟨rfl, hv⟩
  · have ux0 : 0 < ux := by
      rcases hu with hu | ⟨rfl, hu⟩
      · exact hu
      · have := Int.mul_pos hu hv
        rw [Int.zero_mul] at h1
        omega
    have id : vx * (ux * wy - uy * wx) = ux * (vx * wy - vy * wx) + wx * (ux * vy - uy * vx) := by grind
    have g1 := Int.mul_pos ux0 h2
    have g2 := Int.mul_nonneg wx0 (show 0 ≤ ux * vy - uy * vx by omega)
    apply Decidable.byContradiction
    intro z
    have := Int.mul_nonneg (show 0 ≤ vx by omega) (show 0 ≤ -(ux * wy - uy * wx) by omega)
    rw [Int.mul_neg] at this
    omega
  · rw [Int.zero_mul] at h2
    have := Int.mul_nonneg (show 0 ≤ vy by omega) wx0
    omega
def bnd (a b c : Pt) : Int := (b.1 - a.1) * (c.2 - a.2) - (b.2 - a.2) * (c.1 - a.1)
theorem bnd_self (a b : Pt) : bnd a b a = 0 := by unfold bnd; grind
theorem bnd_self2 (a b : Pt) : bnd a b b = 0 := by unfold bnd; grind
theorem bnd_self3 (a b : Pt) : bnd a a b = 0 := by unfold bnd; grind
theorem bnd_rot (a b c : Pt) : bnd a b c = bnd b c a := by unfold bnd; grind
theorem bnd_swap (a b c : Pt) : bnd b a c = - bnd a b c := by unfold bnd; grind
/-- a < b < c < p, left at b, left at c: p lies left of a b -/
theorem leftA {a b c p : Pt} (h1 : lx a b) (h2 : lx b c) (h3 : lx c p) (t1 : 0 < bnd a b c) (t2 : 0 < bnd b c p) : 0 < bnd a b p := by
  have e1 : bnd a b c = (b.1 - a.1) * (c.2 - b.2) - (b.2 - a.2) * (c.1 - b.1) := by unfold bnd; grind
  have e2 : bnd b c p = (c.1 - b.1) * (p.2 - c.2) - (c.2 - b.2) * (p.1 - c.1) := by unfold bnd; grind
  have e3 : bnd a b p = ((b.1 - a.1) * (c.2 - b.2) - (b.2 - a.2) * (c.1 - b.1)) + ((b.1 - a.1) * (p.2 - c.2) - (b.2 - a.2) * (p.1 - c.1)) := by unfold bnd; grind
  rw [e1] at t1
  rw [e2] at t2
  have := trS (lx_lp h1) (lx_lp h2) (lx_lp h3) t1 t2
  omega
/-- b < a, q, p; q left of b a, p right of it or on it: q left of b p -/
theorem leftB {a b p q : Pt} (h1 : lx b a) (h2 : lx b q) (h3 : lx b p) (t1 : 0 ≤ bnd b a q) (t2 : bnd b a p ≤ 0) : 0 ≤ bnd b p q := by
  unfold bnd at *
  exact trW (lx_lp h3) (lx_lp h1) (lx_lp h2) (by grind) t1
/-- q < s < p, b < s; q left of b s or on it, p left of it: q left of s p -/
theorem leftC {b s p q : Pt} (h1 : lx b s) (h2 : lx q s) (h3 : lx s p) (t1 : 0 ≤ bnd b s q) (t2 : 0 ≤ bnd b s p) : 0 ≤ bnd s p q := by
  have e1 : bnd b s q = (s.1 - q.1) * (s.2 - b.2) - (s.2 - q.2) * (s.1 - b.1) := by unfold bnd; grind
  have e2 : bnd b s p = (s.1 - b.1) * (p.2 - s.2) - (s.2 - b.2) * (p.1 - s.1) := by unfold bnd; grind
  have e3 : bnd s p q = (s.1 - q.1) * (p.2 - s.2) - (s.2 - q.2) * (p.1 - s.1) := by unfold bnd; grind
  rw [e1] at t1
  rw [e2] at t2
  rw [e3]
  exact trW (lx_lp h2) (lx_lp h1) (lx_lp h3) t1 t2

/-! ### the stack, its top first -/
/-- left turns all along -/
def Cv : List Pt → Prop
  | a :: b :: c :: r => 0 < bnd c b a ∧ Cv (b :: c :: r)
  | _ => True
/-- q is left of every edge, or on it -/
def Lf (q : Pt) : List Pt → Prop
  | a :: b :: r => 0 ≤ bnd b a q ∧ Lf q (b :: r)
  | _ => True
abbrev Dc (st : List Pt) : Prop := st.Pairwise fun a b => lx b a
def popW (p : Pt) : List Pt → List Pt
  | a :: b :: r => if bnd b a p ≤ 0 then popW p (b :: r) else a :: b :: r
  | st => st
def pushP (st : List Pt) (p : Pt) : List Pt := p :: popW p st
theorem Cv.tail {a : Pt} : ∀ {st : List Pt}, Cv (a :: st) → Cv st
  | [], _ => trivial
  | [_], _ => trivial
  | _ :: _ :: _, h => h.2
theorem Lf.tail {q a : Pt} : ∀ {st : List Pt}, Lf q (a :: st) → Lf q st
  | [], _ => trivial
  | _ :: _, h => h.2
/-- the stack that is left -/
theorem pop_suffix (p : Pt) : ∀ st : List Pt, ∃ t, st = t ++ popW p st
  | [] => ⟨[], rfl⟩
  | [a] => ⟨[], rfl⟩
  | a :: b :: r => by
    unfold popW
    split
    · obtain ⟨t, h⟩ := pop_suffix p (b :: r)
      exact ⟨a :: t, congrArg (a :: ·) h⟩
    · exact ⟨[], rfl⟩
theorem pop_ne (p : Pt) : ∀ {st : List Pt}, st ≠ [] → popW p st ≠ []
  | [], h => absurd rfl h
  | [a], _ => by simp [popW]
  | a :: b :: r, _ => by
    unfold popW
    split
    · exact pop_ne p (by simp)
    · simp
theorem suf_cv {t : List Pt} : ∀ {s : List Pt}, Cv (s ++ t) → Cv t
  | [], h => h
  | a :: s, h => suf_cv (s := s) (Cv.tail (st := s ++ t) h)
theorem suf_lf {q : Pt} {t : List Pt} : ∀ {s : List Pt}, Lf q (s ++ t) → Lf q t
  | [], h => h
  | a :: s, h => suf_lf (s := s) (Lf.tail (st := s ++ t) h)
/-- behind the last pop the new point turns left -/
theorem pop_cv (p : Pt) : ∀ {st : List Pt}, Cv st → Cv (p :: popW p st)
  | [], _ => trivial
  | [a], _ => trivial
  | a :: b :: r, h => by
    unfold popW
    split
    · exact pop_cv p (Cv.tail h)
    · rename_i n
      exact ⟨by omega, h⟩
/-- what turns left at the top lies left of all edges -/
theorem lf_new {p : Pt} : ∀ {st : List Pt}, Dc (p :: st) → Cv (p :: st) → Lf p st
  | [], _, _ => trivial
  | [_], _, _ => trivial
  | [s, b], _, h => ⟨by have := h.1; omega, trivial⟩
  | s :: b :: c :: r, d, h => by
    obtain ⟨h1, h2, h3⟩ := h
    obtain ⟨d1, d2⟩ := List.pairwise_cons.mp d
    obtain ⟨d3, d4⟩ := List.pairwise_cons.mp d2
    obtain ⟨d5, d6⟩ := List.pairwise_cons.mp d4
    have k : 0 < bnd c b p := leftA (d5 c List.mem_cons_self) (d3 b List.mem_cons_self) (d1 s List.mem_cons_self) h2 h1
    refine ⟨by omega, lf_new (st := b :: c :: r) (List.pairwise_cons.mpr ⟨fun x hx => d1 x (List.mem_cons_of_mem _ hx), d4⟩) ⟨k, h3⟩⟩
/-- the points before lie left of the new edge -/
theorem lf_old {p q : Pt} : ∀ {st : List Pt}, Dc (p :: st) → Lf q st → (∀ b ∈ st.getLast?, ¬ lx q b) → (∀ a ∈ st.head?, lx q a ∨ q = a ∨ 0 ≤ bnd a p q) → Lf q (p :: popW p st)
  | [], _, _, _, _ => trivial
  | [s], _, _, hl, hh => by
    refine ⟨?_, trivial⟩
    rcases hh s (by simp) with h | h | h
    · exact absurd h (hl s (by simp))
    · subst h
      rw [bnd_self]
      exact Int.le_refl _
    · exact h
  | a :: b :: r, d, hf, hl, hh => by
    obtain ⟨d1, d2⟩ := List.pairwise_cons.mp d
    obtain ⟨d3, d4⟩ := List.pairwise_cons.mp d2
    unfold popW
    split
    · rename_i hp
      refine lf_old (st := b :: r) (List.pairwise_cons.mpr ⟨fun x hx => d1 x (List.mem_cons_of_mem _ hx), d4⟩) (Lf.tail hf) (fun x hx => hl x (by simpa using hx)) fun x hx => ?_
      have e : b = x := by simpa using hx
      subst e
      rcases lx_tot q b with h | h | h
      · exact .inl h
      · exact .inr (.inl h)
      · exact .inr (.inr (leftB (d3 b List.mem_cons_self) h (d1 b (by simp)) hf.1 hp))
    · rename_i hp
      refine ⟨?_, hf⟩
      rcases hh a (by simp) with h | h | h
      · exact leftC (d3 b List.mem_cons_self) h (d1 a List.mem_cons_self) hf.1 (by omega)
      · subst h
        rw [bnd_self]
        exact Int.le_refl _
      · exact h
end Hl

/-! the monotone chain over a sorted list; both chains. -/
namespace Hl
open GD
theorem leftD {z b s p : Pt} (h1 : lx z b) (h2 : lx b s) (h3 : lx s p) (t1 : 0 < bnd z b s) (t2 : 0 < bnd b s p) : 0 < bnd z s p := by
  have e1 : bnd z b s = (b.1 - z.1) * (s.2 - b.2) - (b.2 - z.2) * (s.1 - b.1) := by unfold bnd; grind
  have e2 : bnd b s p = (s.1 - b.1) * (p.2 - s.2) - (s.2 - b.2) * (p.1 - s.1) := by unfold bnd; grind
  have e3 : bnd z s p = ((b.1 - z.1) * (p.2 - s.2) - (b.2 - z.2) * (p.1 - s.1)) + ((s.1 - b.1) * (p.2 - s.2) - (s.2 - b.2) * (p.1 - s.1)) := by unfold bnd; grind
  rw [e1] at t1
  rw [e2] at t2
  have := trS (lx_lp h1) (lx_lp h2) (lx_lp h3) t1 t2
  omega
structure Chn (done st : List Pt) : Prop where
  dc : Dc st
  cv : Cv st
  lf : ∀ q ∈ done, Lf q st
  mem : ∀ x ∈ st, x ∈ done
  top : st.head? = done.getLast?
  bot : st.getLast? = done.head?
theorem Chn.nil : Chn [] [] := ⟨.nil, trivial, fun q h => absurd h (by simp), fun x h => absurd h (by simp), rfl, rfl⟩
theorem last_suf {a t : List Pt} (h : t ≠ []) : (a ++ t).getLast? = t.getLast? := by
  rw [List.getLast?_append]
  cases e : t.getLast? with
  | none => exact absurd (List.getLast?_eq_none_iff.mp e) h
  | some x => rfl
theorem Chn.push {done st : List Pt} {p : Pt} (c : Chn done st) (hs : (done ++ [p]).Pairwise lx) : Chn (done ++ [p]) (pushP st p) := by
  obtain ⟨s1, _, s3⟩ := List.pairwise_append.mp hs
  have hp : ∀ q ∈ done, lx q p := fun q hq => s3 q hq p (by simp)
  have dcp : Dc (p :: st) := List.pairwise_cons.mpr ⟨fun x hx => hp x (c.mem x hx), c.dc⟩
  obtain ⟨t, ht⟩ := pop_suffix p st
  have sub : ∀ x ∈ popW p st, x ∈ st := fun x hx => by rw [ht]; exact List.mem_append_right _ hx
  have dn : Dc (p :: popW p st) := by
    refine List.pairwise_cons.mpr ⟨fun x hx => hp x (c.mem x (sub x hx)), ?_⟩
    have := c.dc
    rw [ht] at this
    exact (List.pairwise_append.mp this).2.1
  have cn : Cv (p :: popW p st) := pop_cv p c.cv
  refine ⟨dn, cn, fun q hq => ?_, fun x hx => ?_, ?_, ?_⟩
  · rcases List.mem_append.mp hq with hq | hq
    · refine lf_old dcp (c.lf q hq) (fun b hb => ?_) fun a ha => ?_
      · rw [c.bot] at hb
        cases done with
        | nil => exact absurd hq (by simp)
        | cons d r =>
          have e : d = b := by simpa using hb
          subst e
          rcases List.mem_cons.mp hq with h | h
          · rw [h]; exact lx_irr d
          · intro z
            exact lx_irr d (lx_tr ((List.pairwise_cons.mp s1).1 q h) z)
      · rw [c.top] at ha
        obtain ⟨r, hr⟩ := List.getLast?_eq_some_iff.mp ha
        rw [hr] at hq s1
        rcases List.mem_append.mp hq with h | h
        · exact .inl ((List.pairwise_append.mp s1).2.2 q h a (by simp))
        · exact .inr (.inl (List.mem_singleton.mp h))
    · have e := List.mem_singleton.mp hq
      subst e
      have k := lf_new dn cn
      cases e : popW q st with
      | nil => show Lf q (q :: popW q st); rw [e]; exact trivial
      | cons s r =>
        show Lf q (q :: popW q st)
        rw [e] at k ⊢
        exact ⟨by rw [bnd_self2]; exact Int.le_refl _, k⟩
  · rcases List.mem_cons.mp hx with h | h
    · rw [h]; simp
    · exact List.mem_append_left _ (c.mem x (sub x h))
  · simp [pushP]
  · by_cases h : st = []
    · subst h
      have : done = [] := by
        have := c.top
        simp at this
        exact List.getLast?_eq_none_iff.mp this.symm
      subst this
      rfl
    · have hd : done ≠ [] := by
        intro z
        subst z
        exact h (List.head?_eq_none_iff.mp c.top)
      have e1 : (pushP st p).getLast? = st.getLast? := by
        show ([p] ++ popW p st).getLast? = _
        rw [last_suf (pop_ne p h)]
        conv => rhs; rw [ht]
        rw [last_suf (pop_ne p h)]
      rw [e1, c.bot]
      cases done with
      | nil => exact absurd rfl hd
      | cons d r => rfl
def chainP (ps : List Pt) : List Pt := ps.foldl pushP []
theorem chn_go : ∀ (ps done st : List Pt), Chn done st → (done ++ ps).Pairwise lx → Chn (done ++ ps) (ps.foldl pushP st)
  | [], done, st, c, _ => by simpa using c
  | p :: ps, done, st, c, h => by
    have e : done ++ p :: ps = (done ++ [p]) ++ ps := by simp
    rw [e] at h ⊢
    exact chn_go ps (done ++ [p]) (pushP st p) (c.push (List.pairwise_append.mp h).1) h
theorem chn_all {ps : List Pt} (h : ps.Pairwise lx) : Chn ps (chainP ps) := by
  have := chn_go ps [] [] Chn.nil (by simpa using h)
  simpa [chainP] using this
/-- what lies between the ends lies strictly right of the line from the first to the last -/
theorem mid_strict {p z : Pt} : ∀ {mid : List Pt}, Dc (p :: mid ++ [z]) → Cv (p :: mid ++ [z]) → ∀ x ∈ mid, 0 < bnd z x p
  | [], _, _, x, hx => absurd hx (by simp)
  | [s], d, c, x, hx => by
    have e := List.mem_singleton.mp hx
    subst e
    exact c.1
  | s :: b :: r, d, c, x, hx => by
    obtain ⟨d1, d2⟩ := List.pairwise_cons.mp d
    obtain ⟨d3, d4⟩ := List.pairwise_cons.mp d2
    obtain ⟨d5, d6⟩ := List.pairwise_cons.mp d4
    -- the stack without s
    have dd : Dc (p :: (b :: r) ++ [z]) := List.pairwise_cons.mpr ⟨fun y hy => d1 y (List.mem_cons_of_mem _ hy), d4⟩
    have cc : Cv (p :: (b :: r) ++ [z]) := by
      have c1 := c.1
      cases r with
      | nil => exact ⟨leftA (d5 z (by simp)) (d3 b (by simp)) (d1 s (by simp)) c.2.1 c1, trivial⟩
      | cons y r => exact ⟨leftA (d5 y (by simp)) (d3 b (by simp)) (d1 s (by simp)) c.2.1 c1, c.2.2⟩
    rcases List.mem_cons.mp hx with h | h
    · subst h
      have k : 0 < bnd z b x := mid_strict (p := x) (mid := b :: r) d2 c.tail b (by simp)
      exact leftD (d5 z (by simp)) (d3 b (by simp)) (d1 x (by simp)) k c.1
    · exact mid_strict (mid := b :: r) dd cc x h
/-! ### the other way round -/
def ng (p : Pt) : Pt := (-p.1, -p.2)
theorem ng_ng (p : Pt) : ng (ng p) = p := by unfold ng; simp
theorem bnd_ng (a b c : Pt) : bnd (ng a) (ng b) (ng c) = bnd a b c := by unfold bnd ng; grind
theorem lx_ng {a b : Pt} : lx (ng a) (ng b) ↔ lx b a := by unfold lx ng; omega
theorem pop_ng (p : Pt) : ∀ st : List Pt, popW (ng p) (st.map ng) = (popW p st).map ng
  | [] => rfl
  | [a] => rfl
  | a :: b :: r => by
    show (if bnd (ng b) (ng a) (ng p) ≤ 0 then popW (ng p) ((b :: r).map ng) else (a :: b :: r).map ng) = (if bnd b a p ≤ 0 then popW p (b :: r) else a :: b :: r).map ng
    rw [bnd_ng, pop_ng p (b :: r)]
    split <;> rfl
theorem chain_ng : ∀ (ps st : List Pt), (ps.map ng).foldl pushP (st.map ng) = (ps.foldl pushP st).map ng
  | [], _ => rfl
  | p :: ps, st => by
    rw [List.map_cons, List.foldl_cons, List.foldl_cons, ← chain_ng ps]
    congr 1
    show ng p :: popW (ng p) (st.map ng) = (p :: popW p st).map ng
    rw [pop_ng, List.map_cons]
theorem cv_ng : ∀ {st : List Pt}, Cv (st.map ng) → Cv st
  | [], _ => trivial
  | [_], _ => trivial
  | [_, _], _ => trivial
  | a :: b :: c :: r, h => ⟨by have := h.1; rw [bnd_ng] at this; exact this, cv_ng (st := b :: c :: r) h.2⟩
theorem lf_ng {q : Pt} : ∀ {st : List Pt}, Lf (ng q) (st.map ng) → Lf q st
  | [], _ => trivial
  | [_], _ => trivial
  | a :: b :: r, h => ⟨by have := h.1; rw [bnd_ng] at this; exact this, lf_ng (st := b :: r) h.2⟩
/-- the chain over the list from its end on -/
structure Chr (ps st : List Pt) : Prop where
  dc : st.Pairwise lx
  cv : Cv st
  lf : ∀ q ∈ ps, Lf q st
  mem : ∀ x ∈ st, x ∈ ps
  top : st.head? = ps.head?
  bot : st.getLast? = ps.getLast?
  mid : ∀ (p z : Pt) (m : List Pt), st = p :: m ++ [z] → ∀ x ∈ m, 0 < bnd z x p
theorem chr_all {ps : List Pt} (h : ps.Pairwise lx) : Chr ps (chainP ps.reverse) := by
  have hs : (ps.reverse.map ng).Pairwise lx := by
    rw [List.pairwise_map, List.pairwise_reverse]
    exact h.imp fun hh => lx_ng.mpr hh
  have c := chn_all hs
  have e : chainP (ps.reverse.map ng) = (chainP ps.reverse).map ng := chain_ng ps.reverse []
  rw [e] at c
  have hm : ∀ {x : Pt} {l : List Pt}, ng x ∈ l.map ng → x ∈ l := fun {x l} hx => by
    obtain ⟨y, hy, ey⟩ := List.mem_map.mp hx
    rw [← ng_ng x, ← ey, ng_ng]
    exact hy
  have hj : ∀ {o u : Option Pt}, o.map ng = u.map ng → o = u := fun {o u} hh => by
    cases o with
    | none => cases u with
      | none => rfl
      | some _ => cases hh
    | some a => cases u with
      | none => cases hh
      | some b =>
        have := Option.some.inj hh
        rw [← ng_ng a, this, ng_ng]
  refine ⟨?_, cv_ng c.cv, fun q hq => lf_ng (c.lf (ng q) (List.mem_map_of_mem (List.mem_reverse.mpr hq))), fun x hx => List.mem_reverse.mp (hm (c.mem (ng x) (List.mem_map_of_mem hx))), hj ?_, hj ?_, fun p z m em x hx => ?_⟩
  · exact (List.pairwise_map.mp c.dc).imp fun hh => lx_ng.mp hh
  · have := c.top
    rw [List.head?_map, List.getLast?_map, List.getLast?_reverse] at this
    exact this
  · have := c.bot
    rw [List.head?_map, List.getLast?_map, List.head?_reverse] at this
    exact this
  · have d := c.dc
    have v := c.cv
    rw [em, List.map_append, List.map_cons] at d v
    have := mid_strict (p := ng p) (z := ng z) (mid := m.map ng) d v (ng x) (List.mem_map_of_mem hx)
    rw [bnd_ng] at this
    exact this
end Hl

/-! both chains together: the corners. -/
namespace Hl
open GD
theorem par0 {ux uy vx vy wx wy : Int} (hu : lp ux uy) (hv : lp vx vy) (h0 : ux * vy - uy * vx = 0) (h1 : 0 ≤ ux * wy - uy * wx) (h2 : vx * wy - vy * wx ≤ 0) : ux * wy - uy * wx = 0 := by
  rcases hv with hv | ⟨rfl, hv⟩
  · have ux0 : 0 < ux := by
      rcases hu with hu | ⟨rfl, hu⟩
      · exact hu
      · have := Int.mul_pos hu hv
        rw [Int.zero_mul] at h0
        omega
    have id : vx * (ux * wy - uy * wx) = ux * (vx * wy - vy * wx) := by grind
    apply Decidable.byContradiction
    intro z
    have g1 := Int.mul_pos hv (show 0 < ux * wy - uy * wx by omega)
    have g2 := Int.mul_nonneg (show 0 ≤ ux by omega) (show 0 ≤ -(vx * wy - vy * wx) by omega)
    rw [Int.mul_neg] at g2
    omega
  · have u0 : ux = 0 := by
      rcases hu with hu | ⟨h, _⟩
      · have := Int.mul_pos hu hv
        omega
      · exact h
    subst u0
    have uy0 : 0 < uy := by unfold lp at hu; omega
    have w1 : 0 ≤ wx := by
      apply Decidable.byContradiction
      intro z
      have := Int.mul_pos hv (show 0 < -wx by omega)
      rw [Int.mul_neg] at this
      omega
    have w2 : wx ≤ 0 := by
      apply Decidable.byContradiction
      intro z
      have := Int.mul_pos uy0 (show 0 < wx by omega)
      omega
    have : wx = 0 := by omega
    subst this
    simp
/-- all on one line -/
def Col (ps : List Pt) : Prop := ∀ a ∈ ps, ∀ b ∈ ps, ∀ c ∈ ps, bnd a b c = 0
theorem col_of {ps : List Pt} {y z : Pt} (hne : y ≠ z) (h : ∀ q ∈ ps, bnd y z q = 0) : Col ps := by
  intro a ha b hb c hc
  have ka := h a ha
  have kb := h b hb
  have kc := h c hc
  have i1 : (z.1 - y.1) * bnd a b c = (b.1 - a.1) * (bnd y z c - bnd y z a) - (c.1 - a.1) * (bnd y z b - bnd y z a) := by unfold bnd; grind
  have i2 : (z.2 - y.2) * bnd a b c = (b.2 - a.2) * (bnd y z c - bnd y z a) - (c.2 - a.2) * (bnd y z b - bnd y z a) := by unfold bnd; grind
  rw [ka, kb, kc] at i1 i2
  simp only [Int.sub_self, Int.mul_zero] at i1 i2
  rcases Int.mul_eq_zero.mp i1 with e1 | e1
  · rcases Int.mul_eq_zero.mp i2 with e2 | e2
    · exact absurd (Prod.ext (by omega) (by omega)) hne
    · exact e2
  · exact e1
theorem junc {ps : List Pt} {y z x : Pt} (h1 : lx y z) (h2 : lx x z) (A : ∀ q ∈ ps, 0 ≤ bnd y z q) (B : ∀ q ∈ ps, 0 ≤ bnd z x q) (hx : x ∈ ps) (nc : ¬ Col ps) : 0 < bnd y z x := by
  have g := A x hx
  apply Decidable.byContradiction
  intro n
  have e0 : bnd y z x = 0 := by omega
  refine nc (col_of (y := y) (z := z) (fun e => lx_irr z (e ▸ h1)) fun q hq => ?_)
  have a := A q hq
  have b := B q hq
  have e1 : bnd y z x = -((z.1 - y.1) * (z.2 - x.2) - (z.2 - y.2) * (z.1 - x.1)) := by unfold bnd; grind
  have e2 : bnd y z q = (z.1 - y.1) * (q.2 - z.2) - (z.2 - y.2) * (q.1 - z.1) := by unfold bnd; grind
  have e3 : bnd z x q = -((z.1 - x.1) * (q.2 - z.2) - (z.2 - x.2) * (q.1 - z.1)) := by unfold bnd; grind
  rw [e2] at a ⊢
  rw [e3] at b
  rw [e1] at e0
  exact par0 (lx_lp h1) (lx_lp h2) (by omega) a (by omega)
theorem lf_join {q a : Pt} {t : List Pt} : ∀ {s : List Pt}, Lf q (s ++ [a]) → Lf q (a :: t) → Lf q (s ++ a :: t)
  | [], _, h => h
  | [x], h, g => ⟨h.1, g⟩
  | x :: y :: s, h, g => ⟨h.1, lf_join (s := y :: s) h.2 g⟩
theorem cv_join {x a y : Pt} {t : List Pt} (hj : 0 < bnd y a x) : ∀ {s : List Pt}, Cv (s ++ [x, a]) → Cv (a :: y :: t) → Cv (s ++ x :: a :: y :: t)
  | [], _, h => ⟨hj, h⟩
  | [u], h, g => ⟨h.1, hj, g⟩
  | u :: v :: s, h, g => by
    cases s with
    | nil => exact ⟨h.1, cv_join (s := [v]) hj h.2 g⟩
    | cons w s => exact ⟨h.1, cv_join (s := v :: w :: s) hj h.2 g⟩
/-- what the corners are of the points -/
structure Poly (ps C : List Pt) : Prop where
  len : 3 ≤ C.length
  sub : ∀ x ∈ C, x ∈ ps
  nd : C.Nodup
  fst : C.head? = ps.head?
  edge : ∀ q ∈ ps, Lf q (C ++ C.take 1).reverse
  turn : Cv (C ++ C.take 2).reverse
def hullP (ps : List Pt) : List Pt := (chainP ps).tail.reverse ++ (chainP ps.reverse).tail.reverse
/-- two or more points in order: how both chains look -/
theorem ends_of {ps : List Pt} (h : ps.Pairwise lx) {F L : Pt} {r : List Pt} (e : ps = F :: (r ++ [L])) :
    ∃ m1 m2, chainP ps = L :: (m1 ++ [F]) ∧ chainP ps.reverse = F :: (m2 ++ [L]) := by
  have c := chn_all h
  have d := chr_all h
  have hF : ps.head? = some F := by rw [e]; rfl
  have hL : ps.getLast? = some L := by rw [e, ← List.cons_append, List.getLast?_append]; rfl
  have hne : F ≠ L := by
    intro z
    subst z
    rw [e] at h
    exact lx_irr F ((List.pairwise_cons.mp h).1 F (by simp))
  have shape : ∀ {st : List Pt} {a z : Pt}, st.head? = some a → st.getLast? = some z → a ≠ z → ∃ m, st = a :: (m ++ [z]) := by
    intro st a z h1 h2 h3
    cases st with
    | nil => cases h1
    | cons u st =>
      have e1 : u = a := Option.some.inj h1
      subst e1
      cases st with
      | nil => exact absurd (Option.some.inj h2) h3
      | cons v st =>
        rw [List.getLast?_cons_cons] at h2
        obtain ⟨m, hm⟩ := List.getLast?_eq_some_iff.mp h2
        exact ⟨m, by rw [hm]⟩
  obtain ⟨m1, h1⟩ := shape (c.top.trans hL) (c.bot.trans hF) (Ne.symm hne)
  obtain ⟨m2, h2⟩ := shape (d.top.trans hF) (d.bot.trans hL) hne
  exact ⟨m1, m2, h1, h2⟩
theorem hull_eq {ps m1 m2 : List Pt} {F L : Pt} (h1 : chainP ps = L :: (m1 ++ [F])) (h2 : chainP ps.reverse = F :: (m2 ++ [L])) : hullP ps = F :: (m1.reverse ++ L :: m2.reverse) := by
  unfold hullP
  rw [h1, h2]
  simp
theorem shapes (ps : List Pt) : ps = [] ∨ (∃ a, ps = [a]) ∨ ∃ F L r, ps = F :: (r ++ [L]) := by
  cases ps with
  | nil => exact .inl rfl
  | cons a r =>
    rcases List.eq_nil_or_concat r with h | ⟨r', b, h⟩
    · subst h; exact .inr (.inl ⟨a, rfl⟩)
    · subst h
      refine .inr (.inr ⟨a, b, r', ?_⟩)
      simp
theorem hull_flat {ps : List Pt} (h : ps.Pairwise lx) (c : Col ps) : (hullP ps).length < 3 := by
  rcases shapes ps with e | ⟨a, e⟩ | ⟨F, L, r, e⟩
  · subst e; decide
  · subst e; show 0 < 3; decide
  · obtain ⟨m1, m2, h1, h2⟩ := ends_of h e
    rw [hull_eq h1 h2]
    have k : ∀ {st : List Pt}, Cv st → (∀ x ∈ st, x ∈ ps) → st.length < 3 := by
      intro st v s
      match st, v, s with
      | [], _, _ => decide
      | [_], _, _ => show 1 < 3; decide
      | [_, _], _, _ => show 2 < 3; decide
      | x :: y :: z :: t, v, s =>
        have g := v.1
        rw [c z (s z (by simp)) y (s y (by simp)) x (s x (by simp))] at g
        exact absurd g (by omega)
    have c1 := chn_all h
    have c2 := chr_all h
    have l1 := k c1.cv c1.mem
    have l2 := k c2.cv c2.mem
    rw [h1] at l1
    rw [h2] at l2
    simp only [List.length_cons, List.length_append, List.length_reverse, List.length_nil] at l1 l2 ⊢
    omega
theorem hull_poly {ps : List Pt} (h : ps.Pairwise lx) (nc : ¬ Col ps) : Poly ps (hullP ps) := by
  rcases shapes ps with e | ⟨a, e⟩ | ⟨F, L, r, e⟩
  · subst e
    exact absurd (fun a ha => absurd ha (by simp)) nc
  · subst e
    refine absurd (fun x hx y hy z hz => ?_) nc
    rw [List.mem_singleton.mp hx, List.mem_singleton.mp hy]
    exact bnd_self3 _ _
  obtain ⟨m1, m2, h1, h2⟩ := ends_of h e
  have c1 := chn_all h
  have c2 := chr_all h
  have eC := hull_eq h1 h2
  have FL : F ≠ L := by
    intro z
    subst z
    rw [e] at h
    exact lx_irr F ((List.pairwise_cons.mp h).1 F (by simp))
  have d1 := c1.dc
  have v1 := c1.cv
  have f1 := c1.lf
  have s1 := c1.mem
  have d2 := c2.dc
  have v2 := c2.cv
  have f2 := c2.lf
  have s2 := c2.mem
  have k1 : ∀ x ∈ m1, 0 < bnd F x L := mid_strict (p := L) (z := F) (mid := m1) (by rw [h1] at d1; exact d1) (by rw [h1] at v1; exact v1)
  have k2 : ∀ x ∈ m2, 0 < bnd L x F := c2.mid F L m2 h2
  rw [h1] at d1 v1 s1
  rw [h2] at d2 v2 s2
  have f1' : ∀ q ∈ ps, Lf q (L :: (m1 ++ [F])) := fun q hq => h1 ▸ f1 q hq
  have f2' : ∀ q ∈ ps, Lf q (F :: (m2 ++ [L])) := fun q hq => h2 ▸ f2 q hq
  have hFps : F ∈ ps := by rw [e]; simp
  have hLps : L ∈ ps := by rw [e]; simp
  -- the neighbours of the ends
  obtain ⟨y, t1, ey⟩ : ∃ y t1, m1 ++ [F] = y :: t1 := by
    cases m1 with
    | nil => exact ⟨F, [], rfl⟩
    | cons y m => exact ⟨y, m ++ [F], rfl⟩
  obtain ⟨x, t2, ex⟩ : ∃ x t2, F :: m2 = t2 ++ [x] := by
    rcases List.eq_nil_or_concat m2 with hm | ⟨m, b, hm⟩
    · subst hm; exact ⟨F, [], rfl⟩
    · subst hm; exact ⟨b, F :: m, by simp⟩
  have jL : 0 < bnd y L x := by
    have yL : lx y L := (List.pairwise_cons.mp d1).1 y (by rw [ey]; simp)
    have e2 : F :: (m2 ++ [L]) = t2 ++ [x, L] := by
      rw [← List.cons_append, ex]; simp
    have xL : lx x L := by
      rw [e2] at d2
      exact (List.pairwise_cons.mp (List.pairwise_append.mp d2).2.1).1 L (by simp)
    refine junc yL xL (fun q hq => ?_) (fun q hq => ?_) (s2 x (by rw [e2]; simp)) nc
    · have := f1' q hq
      rw [ey] at this
      exact this.1
    · have := f2' q hq
      rw [e2] at this
      exact (suf_lf (s := t2) this).1
  obtain ⟨u, t3, eu⟩ : ∃ u t3, L :: m1 = t3 ++ [u] := by
    rcases List.eq_nil_or_concat m1 with hm | ⟨m, b, hm⟩
    · subst hm; exact ⟨L, [], rfl⟩
    · subst hm; exact ⟨b, L :: m, by simp⟩
  obtain ⟨v, t4, ev⟩ : ∃ v t4, m2 ++ [L] = v :: t4 := by
    cases m2 with
    | nil => exact ⟨L, [], rfl⟩
    | cons y m => exact ⟨y, m ++ [L], rfl⟩
  have e3 : L :: (m1 ++ [F]) = t3 ++ [u, F] := by
    rw [← List.cons_append, eu]; simp
  have jF : 0 < bnd v F u := by
    have nc' : ¬ Col (ps.map ng) := by
      intro hc
      refine nc fun a ha b hb c hcc => ?_
      have := hc (ng a) (List.mem_map_of_mem ha) (ng b) (List.mem_map_of_mem hb) (ng c) (List.mem_map_of_mem hcc)
      rw [bnd_ng] at this
      exact this
    have vF : lx F v := (List.pairwise_cons.mp d2).1 v (by rw [ev]; simp)
    have uF : lx F u := by
      rw [e3] at d1
      exact (List.pairwise_cons.mp (List.pairwise_append.mp d1).2.1).1 F (by simp)
    have a1 : ∀ q ∈ ps.map ng, 0 ≤ bnd (ng v) (ng F) q := by
      intro q' hq'
      obtain ⟨q, hq, rfl⟩ := List.mem_map.mp hq'
      have := f2' q hq
      rw [ev] at this
      rw [bnd_ng]
      exact this.1
    have a2 : ∀ q ∈ ps.map ng, 0 ≤ bnd (ng F) (ng u) q := by
      intro q' hq'
      obtain ⟨q, hq, rfl⟩ := List.mem_map.mp hq'
      have := f1' q hq
      rw [e3] at this
      rw [bnd_ng]
      exact (suf_lf (s := t3) this).1
    have := junc (lx_ng.mpr vF) (lx_ng.mpr uF) a1 a2 (List.mem_map_of_mem (s1 u (by rw [e3]; simp))) nc'
    rw [bnd_ng] at this
    exact this
  rw [eC]
  have nd1 : (L :: (m1 ++ [F])).Nodup := List.Pairwise.imp (fun {a b} (hh : lx b a) (z : a = b) => lx_irr b (by rw [z] at hh; exact hh)) d1
  have nd2 : (F :: (m2 ++ [L])).Nodup := List.Pairwise.imp (fun {a b} (hh : lx a b) (z : a = b) => lx_irr b (by rw [z] at hh; exact hh)) d2
  have eRev : (L :: m1).reverse = u :: t3.reverse := by rw [eu]; simp
  have eC2 : F :: (m1.reverse ++ L :: m2.reverse) = F :: u :: (t3.reverse ++ m2.reverse) := by
    have : m1.reverse ++ L :: m2.reverse = (L :: m1).reverse ++ m2.reverse := by simp
    rw [this, eRev]
    rfl
  refine ⟨?_, fun z hz => ?_, ?_, ?_, fun q hq => ?_, ?_⟩
  · have : m1 ≠ [] ∨ m2 ≠ [] := by
      apply Decidable.byContradiction
      intro n
      have n1 : m1 = [] := Decidable.byContradiction fun z => n (.inl z)
      have n2 : m2 = [] := Decidable.byContradiction fun z => n (.inr z)
      subst n1 n2
      refine nc (col_of FL fun q hq => ?_)
      have g1 := (f1' q hq).1
      have g2 := (f2' q hq).1
      rw [bnd_swap] at g2
      omega
    simp only [List.length_cons, List.length_append, List.length_reverse]
    rcases this with g | g
    · have := List.length_pos_iff.mpr g; omega
    · have := List.length_pos_iff.mpr g; omega
  · rcases List.mem_cons.mp hz with g | g
    · rw [g]; exact hFps
    · rcases List.mem_append.mp g with g | g
      · exact s1 z (by simp [List.mem_reverse.mp g])
      · rcases List.mem_cons.mp g with g | g
        · rw [g]; exact hLps
        · exact s2 z (by simp [List.mem_reverse.mp g])
  · obtain ⟨a1, a2⟩ := List.nodup_cons.mp nd1
    obtain ⟨b1, b2⟩ := List.nodup_cons.mp nd2
    obtain ⟨a3, _, a4⟩ := List.nodup_append.mp a2
    obtain ⟨b3, _, b4⟩ := List.nodup_append.mp b2
    refine List.nodup_cons.mpr ⟨fun g => ?_, List.nodup_append.mpr ⟨(List.reverse_perm m1).nodup_iff.mpr a3, List.nodup_cons.mpr ⟨fun g => b4 L (List.mem_reverse.mp g) L (by simp) rfl, (List.reverse_perm m2).nodup_iff.mpr b3⟩, fun z hz w hw => ?_⟩⟩
    · rcases List.mem_append.mp g with g | g
      · exact a4 F (List.mem_reverse.mp g) F (by simp) rfl
      · rcases List.mem_cons.mp g with g | g
        · exact FL g
        · exact b1 (List.mem_append_left _ (List.mem_reverse.mp g))
    · intro zw
      subst zw
      have hz' := List.mem_reverse.mp hz
      rcases List.mem_cons.mp hw with g | g
      · rw [g] at hz'
        exact a1 (List.mem_append_left _ hz')
      · have g1 := k1 z hz'
        have g2 := k2 z (List.mem_reverse.mp g)
        have : bnd L z F = - bnd F z L := by unfold bnd; grind
        omega
  · rw [e]; rfl
  · have : (F :: (m1.reverse ++ L :: m2.reverse) ++ (F :: (m1.reverse ++ L :: m2.reverse)).take 1).reverse = (F :: m2) ++ L :: (m1 ++ [F]) := by simp
    rw [this]
    exact lf_join (s := F :: m2) (by simpa using f2' q hq) (f1' q hq)
  · have e4 : (F :: (m1.reverse ++ L :: m2.reverse) ++ (F :: (m1.reverse ++ L :: m2.reverse)).take 2).reverse = u :: F :: (m2 ++ L :: (m1 ++ [F])) := by
      conv => lhs; rw [eC2]
      have e5 : (F :: u :: (t3.reverse ++ m2.reverse) ++ (F :: u :: (t3.reverse ++ m2.reverse)).take 2).reverse = u :: F :: (m2 ++ ((t3 ++ [u]) ++ [F])) := by simp
      rw [e5, ← eu]
      simp
    rw [e4]
    have full : Cv (F :: (m2 ++ L :: (m1 ++ [F]))) := by
      have e6 : F :: (m2 ++ L :: (m1 ++ [F])) = t2 ++ x :: L :: y :: t1 := by
        rw [← List.cons_append, ex, ey]; simp
      rw [e6]
      refine cv_join jL ?_ (by rw [ey] at v1; exact v1)
      have e7 : F :: (m2 ++ [L]) = t2 ++ [x, L] := by
        rw [← List.cons_append, ex]; simp
      rw [e7] at v2
      exact v2
    have e8 : m2 ++ L :: (m1 ++ [F]) = v :: (t4 ++ (m1 ++ [F])) := by
      have : m2 ++ L :: (m1 ++ [F]) = (m2 ++ [L]) ++ (m1 ++ [F]) := by simp
      rw [this, ev]
      rfl
    rw [e8] at full ⊢
    exact ⟨jF, full⟩
end Hl

namespace Law
open PySem PySem.Spec PyProof.Rows L2 GD Hl
local macro_rules | `(tactic| walk_at "gd") => `(tactic| simp (config := {failIfUnchanged := false}) only [runF, sSeq, sIf, sAsg, sRet, sRetN, sExpr, sNil, sRaise, sPar, sTgt, sFor, sForR, sWhile, eVar, eC, e1, e2, mB, aNil, aCons, eF, eB, eTup, aLst, eL, mNot, mAnd, mOr, eNot, eAnd, eOr, gNm, gTp, gsNil, gsCons, asL, asT,
  bind_ok, bind_er, bind_st, ofO_some, asB_bl, ofR_ok, ofR_er, dAdd_int, dSub_int, dNeg_int, dLt_int, dLe_int, dGt_int, dGe_int, dEq_int, dNe_int, dEq_bl, dMod_int, dDiv_lit, dMul_int, Int.reduceLT, Int.reduceEq, Int.cast_ofNat_Int, eq_self, line_le, Nat.reduceLeDiff,  dIs_non, dIsNot_non, dAt_t0, dAt_t1, dAt_t2, dAt_l0, dAt_l1, dAt_l2, dAt_l3, dAt_l4, dAt_l5, dAt_l6, dAt_l7, dAbs, dMax2, dMin2, dLen,
  List.getElem?_cons_zero, List.getElem?_cons_succ, List.set_cons_zero, List.set_cons_succ, List.map_cons, List.map_nil, List.length_cons, List.length_nil, List.cons_append, List.nil_append, List.replicate_succ, List.replicate_zero, Nat.reduceSub, Nat.reduceAdd,
  decide_eq_true_eq, Bool.not_eq_true', if_true, if_false, ite_true, ite_false, Option.bind_some, Option.map_some, Bool.not_true, Bool.not_false, reduceIte, Bool.false_eq_true, Bool.true_eq_false, decide_true, decide_false])
local macro_rules | `(tactic| walk_at "gdh") => `(tactic| simp (config := {failIfUnchanged := false}) only [runF, sSeq, sIf, sAsg, sRet, sRetN, sExpr, sNil, sRaise, sPar, sTgt, sFor, sForR, sWhile, eVar, eC, e1, e2, mB, aNil, aCons, eF, eB, eTup, aLst, eL, mNot, mAnd, mOr, eNot, eAnd, eOr, gNm, gTp, gsNil, gsCons, asL, asT,
  bind_ok, bind_er, bind_st, ofO_some, asB_bl, ofR_ok, ofR_er, dAdd_int, dSub_int, dNeg_int, dLt_int, dLe_int, dGt_int, dGe_int, dEq_int, dNe_int, dEq_bl, dMod_int, dDiv_lit, dMul_int, Int.reduceLT, Int.reduceEq, Int.cast_ofNat_Int, eq_self, line_le, Nat.reduceLeDiff,  dIs_non, dIsNot_non, dAt_t0, dAt_t1, dAt_t2, dAt_l0, dAt_l1, dAt_l2, dAt_l3, dAt_l4, dAt_l5, dAt_l6, dAt_l7, dAbs, dMax2, dMin2, dLen,
  List.getElem?_cons_zero, List.getElem?_cons_succ, List.set_cons_zero, List.set_cons_succ, List.map_cons, List.map_nil, List.length_cons, List.length_nil, List.cons_append, List.nil_append, List.replicate_succ, List.replicate_zero, Nat.reduceSub, Nat.reduceAdd,
  decide_eq_true_eq, Bool.not_eq_true', if_true, if_false, ite_true, ite_false, Option.bind_some, Option.map_some, Bool.not_true, Bool.not_false, reduceIte, Bool.false_eq_true, Bool.true_eq_false, decide_true, decide_false, *])
/-! ### hull -/
def BdP (n : Nat) (p : Pt) : Prop := Bd n p.1 ∧ Bd n p.2
theorem dAt_p0 (p : Pt) : dAt (D2p p) (.int 0) = some (.int p.1) := rfl
theorem dAt_p1 (p : Pt) : dAt (D2p p) (.int 1) = some (.int p.2) := rfl
theorem bend_eq {a b c : Pt} {n : Nat} (ha : BdP n a) (hb : BdP n b) (hc : BdP n c) (hn : n ≤ 400000) : F_bend [D2p a, D2p b, D2p c] = .ok (.int (bnd a b c)) := by
  have m1 : mulOk (b.1 - a.1) (c.2 - a.2) := mok (hb.1.sub ha.1) (hc.2.sub ha.2) (by omega)
  have m2 : mulOk (b.2 - a.2) (c.1 - a.1) := mok (hb.2.sub ha.2) (hc.1.sub ha.1) (by omega)
  have p0 := dAt_p0
  have p1 := dAt_p1
  unfold F_bend b_bend
  clear ha hb hc hn
  walk_at "gdh"
  rfl
theorem at_m1 (l : List D) (b a : D) : L2.atI (l ++ [b, a]) (-1) = some a := by
  have e : l ++ [b, a] = (l ++ [b]) ++ [a] := by simp
  rw [e]
  exact atI_last _ _
theorem at_m2 (l : List D) (b a : D) : L2.atI (l ++ [b, a]) (-2) = some b := by
  unfold L2.atI
  have e : L2.ixN (l ++ [b, a]).length (-2) = some l.length := by
    unfold L2.ixN
    simp only [List.length_append, List.length_cons, List.length_nil]
    rw [if_neg (by decide), if_pos (by omega)]
    congr 1
    omega
  rw [e]
  simp
/-- the stack as the program's list -/
def stD (st : List Pt) : List D := st.reverse.map D2p
theorem stD_two (a b : Pt) (r : List Pt) : stD (a :: b :: r) = stD r ++ [D2p b, D2p a] := by
  unfold stD
  simp
theorem stD_len (st : List Pt) : (stD st).length = st.length := by simp [stD]
theorem stD_drop (a : Pt) (st : List Pt) : (stD (a :: st)).dropLast = stD st := by
  unfold stD
  rw [List.reverse_cons, List.map_append]
  simp
theorem while_chain {N : Nat} (hN : N ≤ 400000) {p : Pt} (hp : BdP N p) (x : Sl) : ∀ (st : List Pt) (n : Nat), (∀ q ∈ st, BdP N q) → st.length < n →
    whileN (mAnd (mB (e2 dGt (eOwnLen 1) (eC (.int 1)))) (mB (e2 dLe (eF F_bend (aCons (eOwnAt 1 (eC (.int (-2)))) (aCons (eOwnAt 1 (eC (.int (-1)))) (aCons (eVar 2) (aNil))))) (eC (.int 0))))) l1_chain n [x, .l (stD st), .v (D2p p)] = .nx [x, .l (stD (popW p st)), .v (D2p p)]
  | [], 0, _, h => absurd h (by simp)
  | [], n + 1, _, _ => by
    unfold whileN
    rfl
  | [a], 0, _, h => absurd h (by simp)
  | [a], n + 1, _, _ => by
    unfold whileN
    rfl
  | a :: b :: r, 0, _, h => absurd h (by simp)
  | a :: b :: r, n + 1, hq, h => by
    have e := bend_eq (hq b (by simp)) (hq a (by simp)) hp hN
    have l2 : (stD (a :: b :: r)).length = r.length + 2 := by rw [stD_len]; simp
    have g1 : (1 : Int) < ((stD (a :: b :: r)).length : Nat) := by rw [l2]; omega
    have i1 : L2.atI (stD (a :: b :: r)) (-1) = some (D2p a) := by rw [stD_two]; exact at_m1 _ _ _
    have i2 : L2.atI (stD (a :: b :: r)) (-2) = some (D2p b) := by rw [stD_two]; exact at_m2 _ _ _
    have w := while_chain hN hp x (b :: r) n (fun q hq' => hq q (List.mem_cons_of_mem _ hq')) (by simp at h ⊢; omega)
    have dr := stD_drop a (b :: r)
    have ne : stD (a :: b :: r) ≠ [] := by
      intro z
      rw [z] at l2
      simp at l2
    unfold whileN
    unfold popW
    generalize hfull : stD (a :: b :: r) = full at *
    by_cases hb : bnd b a p ≤ 0
    · rw [if_pos hb]
      rw [← w]
      simp only [eOwnLen, eOwnAt, l1_chain, sPop, mAnd, mB, e2, eC, eF, aCons, aNil, eVar, List.getElem?_cons_zero, List.getElem?_cons_succ, bind_ok, ofO_some, dGt_int, g1, asB_bl, decide_true, if_true, i1, i2, e, dLe_int, hb, ofR_ok, ne, if_false, dr, List.set_cons_zero, List.set_cons_succ]
    · rw [if_neg hb]
      simp only [eOwnLen, eOwnAt, mAnd, mB, e2, eC, eF, aCons, aNil, eVar, List.getElem?_cons_zero, List.getElem?_cons_succ, bind_ok, ofO_some, dGt_int, g1, asB_bl, decide_true, if_true, i1, i2, e, dLe_int, hb, ofR_ok, decide_false, Bool.false_eq_true, if_false]
      rw [hfull]
theorem stD_push (p : Pt) (st : List Pt) : stD st ++ [D2p p] = stD (p :: st) := by
  unfold stD
  rw [List.reverse_cons, List.map_append]
  rfl
theorem pop_len (p : Pt) (st : List Pt) : (popW p st).length ≤ st.length := by
  obtain ⟨t, ht⟩ := pop_suffix p st
  have := congrArg List.length ht
  rw [List.length_append] at this
  omega
theorem pop_sub {p q : Pt} {st : List Pt} (h : q ∈ popW p st) : q ∈ st := by
  obtain ⟨t, ht⟩ := pop_suffix p st
  rw [ht]
  exact List.mem_append_right _ h
theorem chain_turn {N : Nat} (hN : N ≤ 400000) {p : Pt} (hp : BdP N p) (x : Sl) {st : List Pt} (hq : ∀ q ∈ st, BdP N q) (hl : st.length < 10000) : l2_chain [x, .l (stD st), .v (D2p p)] = .nx [x, .l (stD (pushP st p)), .v (D2p p)] := by
  have w := while_chain hN hp x st ((stD st).length + 1) hq (by rw [stD_len]; omega)
  have hz : (stD (popW p st)).length < sizeLine := by
    have := pop_len p st
    rw [stD_len, sizeLine_eq]
    omega
  have ap := stD_push p (popW p st)
  unfold l2_chain
  show (match whileN _ l1_chain ((stD st).length + 1) [x, .l (stD st), .v (D2p p)] with
    | .nx ρ' => sApp 1 (eVar 2) ρ'
    | o => o) = _
  rw [w]
  simp only [sApp, eVar, List.getElem?_cons_zero, List.getElem?_cons_succ, ofR_ok, hz, if_true, ap, List.set_cons_zero, List.set_cons_succ]
  rfl
theorem chain_loop {N : Nat} (hN : N ≤ 400000) (x : Sl) : ∀ (ps st : List Pt) (y : Sl), (∀ q ∈ ps, BdP N q) → (∀ q ∈ st, BdP N q) → st.length + ps.length < 10000 → ∃ y', loop (gNm 2) l2_chain (ps.map D2p) [x, .l (stD st), y] = .nx [x, .l (stD (ps.foldl pushP st)), y']
  | [], st, y, _, _, _ => ⟨y, rfl⟩
  | p :: ps, st, y, h1, h2, hl => by
    have hp := h1 p List.mem_cons_self
    have h3 : ∀ q ∈ pushP st p, BdP N q := fun q hq => by
      rcases List.mem_cons.mp hq with e | e
      · rw [e]; exact hp
      · exact h2 q (pop_sub e)
    have l3 : (pushP st p).length ≤ st.length + 1 := by
      have := pop_len p st
      show (p :: popW p st).length ≤ _
      rw [List.length_cons]
      omega
    obtain ⟨y', e⟩ := chain_loop hN x ps (pushP st p) (.v (D2p p)) (fun q hq => h1 q (List.mem_cons_of_mem _ hq)) h3 (by rw [List.length_cons] at hl; omega)
    refine ⟨y', ?_⟩
    rw [List.map_cons, loop_cons rfl (chain_turn hN hp x h2 (by rw [List.length_cons] at hl; omega))]
    exact e
theorem chain_eq {N : Nat} (hN : N ≤ 400000) (ps : List Pt) (h : ∀ q ∈ ps, BdP N q) (hl : ps.length < 10000) : F_chain [.lst (ps.map D2p)] = .ok (.lst ((chainP ps).reverse.map D2p)) := by
  obtain ⟨y', e⟩ := chain_loop hN (.v (.lst (ps.map D2p))) ps [] .un h (fun q hq => absurd hq (by simp)) (by simpa using hl)
  unfold F_chain b_chain
  have e' : loop (gNm 2) l2_chain (ps.map D2p) [.v (.lst (ps.map D2p)), .l [], .un] = .nx [.v (.lst (ps.map D2p)), .l (stD (chainP ps)), y'] := e
  have z0 : ((0 : Nat) ≤ sizeLine) = True := eq_true (Nat.zero_le _)
  simp only [runF, sSeq, sOwn, aLst, aNil, bind_ok, ofR_ok, List.length_nil, z0, if_true, sFor, eVar, asL, ofO_some, sFrz, frz, sRet, List.map_cons, List.map_nil, List.cons_append, List.nil_append, List.length_cons, Nat.reduceAdd, Nat.reduceSub, List.replicate_succ, List.replicate_zero,
    List.getElem?_cons_zero, List.getElem?_cons_succ, List.set_cons_zero, List.set_cons_succ, e']
  rfl
theorem insP_len (p : Pt) : ∀ l : List Pt, (insP p l).length ≤ l.length + 1
  | [] => Nat.le_refl _
  | q :: r => by
    unfold insP
    split
    · simp
    · split
      · simp
      · have := insP_len p r
        rw [List.length_cons, List.length_cons]
        omega
theorem srtP_len : ∀ ps : List Pt, (srtP ps).length ≤ ps.length
  | [] => Nat.le_refl _
  | p :: ps => by
    have h1 := insP_len p (srtP ps)
    have h2 := srtP_len ps
    show (insP p (srtP ps)).length ≤ _
    rw [List.length_cons]
    omega
theorem chain_len : ∀ (ps st : List Pt), (ps.foldl pushP st).length ≤ st.length + ps.length
  | [], st => Nat.le_refl _
  | p :: ps, st => by
    have h1 := chain_len ps (pushP st p)
    have h2 := pop_len p st
    have h3 : (pushP st p).length = (popW p st).length + 1 := rfl
    rw [List.foldl_cons, List.length_cons]
    omega
theorem hull_len (ps : List Pt) : (hullP ps).length ≤ 2 * ps.length := by
  have h1 := chain_len ps []
  have h2 := chain_len ps.reverse []
  unfold hullP chainP
  rw [List.length_append, List.length_reverse, List.length_reverse, List.length_tail, List.length_tail]
  rw [List.length_nil] at h1 h2
  rw [List.length_reverse] at h2
  omega
theorem cut_m1 {α : Type} (xs : List α) : cutL xs none (some (-1)) = xs.dropLast := by
  have e : HT.sIx xs.length xs.length (some (-1)) = xs.length - 1 := by
    show (if (-1 : Int) < 0 then ((-1 : Int) + (xs.length : Int)).toNat else min (-1 : Int).toNat xs.length) = _
    rw [if_pos (by decide)]
    omega
  unfold cutL
  rw [e, HT.sIx_none, List.drop_zero, Nat.sub_zero, List.dropLast_eq_take]
theorem cut_chain (st : List Pt) : cutL (st.reverse.map D2p) none (some (-1)) = st.tail.reverse.map D2p := by
  rw [cut_m1]
  cases st with
  | nil => rfl
  | cons a st => simp
/-- what hull answers -/
theorem hull_all {N : Nat} (hN : N ≤ 400000) (ps : List Pt) (h : ∀ q ∈ ps, BdP N q) (hl : ps.length < 10000) : F_hull [.lst (ps.map D2p)] = if (hullP (srtP ps)).length < 3 then .er "Flat" else .ok (.lst ((hullP (srtP ps)).map D2p)) := by
  have hs : ∀ q ∈ srtP ps, BdP N q := fun q hq => h q ((mem_srtP q ps).mp hq)
  have ls := srtP_len ps
  have c1 := chain_eq hN (srtP ps) hs (by omega)
  have c2 := chain_eq hN (srtP ps).reverse (fun q hq => hs q (List.mem_reverse.mp hq)) (by rw [List.length_reverse]; omega)
  have hz : (ps.map D2p).length < sizeLine := by rw [List.length_map, sizeLine_eq]; omega
  have pp := pPts_map ps
  have k1 := cut_chain (chainP (srtP ps))
  have k2 := cut_chain (chainP (srtP ps).reverse)
  have er : ((srtP ps).map D2p).reverse = (srtP ps).reverse.map D2p := by rw [List.map_reverse]
  have l1 : (hullP (srtP ps)).length ≤ 30000 := by
    have := hull_len (srtP ps)
    omega
  have ec : ((chainP (srtP ps)).tail.reverse.map D2p) ++ ((chainP (srtP ps).reverse).tail.reverse.map D2p) = (hullP (srtP ps)).map D2p := by
    unfold hullP
    rw [List.map_append]
  have lc : (((chainP (srtP ps)).tail.reverse.map D2p).length + ((chainP (srtP ps).reverse).tail.reverse.map D2p).length ≤ sizeLine) = True := eq_true (by
    rw [← List.length_append, ec, List.length_map, sizeLine_eq]; omega)
  have ll : (((hullP (srtP ps)).map D2p).length : Int) = ((hullP (srtP ps)).length : Int) := by rw [List.length_map]
  unfold F_hull b_hull
  have z1 : (1 < 7) = True := eq_true (by decide)
  have z2 : (2 < 7) = True := eq_true (by decide)
  by_cases h3 : (hullP (srtP ps)).length < 3
  · rw [if_pos h3]
    have h3' : (((hullP (srtP ps)).length : Int) < 3) = True := eq_true (by omega)
    simp only [runF, sSeq, sSeen, sAsg, sIf, sRaise, eVar, eF, eL, aLRev, aCat, catL, aCut, oNone, oSome, aCons, aNil, eC, e2, mB, eB, dLen, asL, bind_ok, ofO_some, ofR_ok, List.map_cons, List.map_nil, List.cons_append, List.nil_append, List.length_cons, List.length_nil, Nat.reduceAdd, Nat.reduceSub, List.replicate_succ, List.replicate_zero,
      List.getElem?_cons_zero, List.getElem?_cons_succ, List.set_cons_zero, List.set_cons_succ, z1, z2, and_self, not_true, if_false, hz, if_true, pp, c1, c2, er, k1, k2, lc, ec, dLt_int, ll, h3', asB_bl, decide_true]
  · rw [if_neg h3]
    have h3' : (((hullP (srtP ps)).length : Int) < 3) = False := eq_false (by omega)
    simp only [runF, sSeq, sSeen, sAsg, sIf, sRet, sNil, eVar, eF, eL, aLRev, aCat, catL, aCut, oNone, oSome, aCons, aNil, eC, e2, mB, eB, dLen, asL, bind_ok, ofO_some, ofR_ok, List.map_cons, List.map_nil, List.cons_append, List.nil_append, List.length_cons, List.length_nil, Nat.reduceAdd, Nat.reduceSub, List.replicate_succ, List.replicate_zero,
      List.getElem?_cons_zero, List.getElem?_cons_succ, List.set_cons_zero, List.set_cons_succ, z1, z2, and_self, not_true, if_false, hz, if_true, pp, c1, c2, er, k1, k2, lc, ec, dLt_int, ll, h3', asB_bl, decide_false, Bool.false_eq_true]
end Law

namespace Law
open PySem PySem.Spec PyProof.Rows L2 GD Hl
local macro_rules | `(tactic| walk_at "gd") => `(tactic| simp (config := {failIfUnchanged := false}) only [runF, sSeq, sIf, sAsg, sRet, sRetN, sExpr, sNil, sRaise, sPar, sTgt, sFor, sForR, sWhile, eVar, eC, e1, e2, mB, aNil, aCons, eF, eB, eTup, aLst, eL, mNot, mAnd, mOr, eNot, eAnd, eOr, gNm, gTp, gsNil, gsCons, asL, asT,
  bind_ok, bind_er, bind_st, ofO_some, asB_bl, ofR_ok, ofR_er, dAdd_int, dSub_int, dNeg_int, dLt_int, dLe_int, dGt_int, dGe_int, dEq_int, dNe_int, dEq_bl, dMod_int, dDiv_lit, dMul_int, Int.reduceLT, Int.reduceEq, Int.cast_ofNat_Int, eq_self, line_le, Nat.reduceLeDiff,  dIs_non, dIsNot_non, dAt_t0, dAt_t1, dAt_t2, dAt_l0, dAt_l1, dAt_l2, dAt_l3, dAt_l4, dAt_l5, dAt_l6, dAt_l7, dAbs, dMax2, dMin2, dLen,
  List.getElem?_cons_zero, List.getElem?_cons_succ, List.set_cons_zero, List.set_cons_succ, List.map_cons, List.map_nil, List.length_cons, List.length_nil, List.cons_append, List.nil_append, List.replicate_succ, List.replicate_zero, Nat.reduceSub, Nat.reduceAdd,
  decide_eq_true_eq, Bool.not_eq_true', if_true, if_false, ite_true, ite_false, Option.bind_some, Option.map_some, Bool.not_true, Bool.not_false, reduceIte, Bool.false_eq_true, Bool.true_eq_false, decide_true, decide_false])
local macro_rules | `(tactic| walk_at "gdh") => `(tactic| simp (config := {failIfUnchanged := false}) only [runF, sSeq, sIf, sAsg, sRet, sRetN, sExpr, sNil, sRaise, sPar, sTgt, sFor, sForR, sWhile, eVar, eC, e1, e2, mB, aNil, aCons, eF, eB, eTup, aLst, eL, mNot, mAnd, mOr, eNot, eAnd, eOr, gNm, gTp, gsNil, gsCons, asL, asT,
  bind_ok, bind_er, bind_st, ofO_some, asB_bl, ofR_ok, ofR_er, dAdd_int, dSub_int, dNeg_int, dLt_int, dLe_int, dGt_int, dGe_int, dEq_int, dNe_int, dEq_bl, dMod_int, dDiv_lit, dMul_int, Int.reduceLT, Int.reduceEq, Int.cast_ofNat_Int, eq_self, line_le, Nat.reduceLeDiff,  dIs_non, dIsNot_non, dAt_t0, dAt_t1, dAt_t2, dAt_l0, dAt_l1, dAt_l2, dAt_l3, dAt_l4, dAt_l5, dAt_l6, dAt_l7, dAbs, dMax2, dMin2, dLen,
  List.getElem?_cons_zero, List.getElem?_cons_succ, List.set_cons_zero, List.set_cons_succ, List.map_cons, List.map_nil, List.length_cons, List.length_nil, List.cons_append, List.nil_append, List.replicate_succ, List.replicate_zero, Nat.reduceSub, Nat.reduceAdd,
  decide_eq_true_eq, Bool.not_eq_true', if_true, if_false, ite_true, ite_false, Option.bind_some, Option.map_some, Bool.not_true, Bool.not_false, reduceIte, Bool.false_eq_true, Bool.true_eq_false, decide_true, decide_false, *])
/-! ### the drawn points of a body -/
theorem lcc {g : D → En → Option En} {m : EM} {ρ ρ1 : En} {d x : D} {r xs : List D} (h1 : g d ρ = some ρ1) (h2 : m ρ1 = .ok x) (h3 : lcGo g mYes m r ρ = .ok xs) : lcGo g mYes m (d :: r) ρ = .ok (x :: xs) := by
  unfold lcGo
  rw [h1]
  show (noEr (R.ok true)).bind (fun b => if b = true then (noEr (m ρ1)).bind fun x => (lcGo g mYes m r ρ).bind fun xs => .ok (x :: xs) else lcGo g mYes m r ρ) = _
  rw [h2, h3]
  rfl
theorem lc_pts {g : D → En → Option En} {m : EM} {ρ : En} {f : Pt → Pt} : ∀ ps : List Pt, (∀ p ∈ ps, ∃ ρ1, g (D2p p) ρ = some ρ1 ∧ m ρ1 = .ok (D2p (f p))) → lcGo g mYes m (ps.map D2p) ρ = .ok ((ps.map f).map D2p)
  | [], _ => rfl
  | p :: ps, h => by
    obtain ⟨ρ1, h1, h2⟩ := h p List.mem_cons_self
    exact lcc h1 h2 (lc_pts ps fun q hq => h q (List.mem_cons_of_mem _ hq))
/-- three of them are not on a line -/
def NC (ps : List Pt) : Prop := ∃ a ∈ ps, ∃ b ∈ ps, ∃ c ∈ ps, bnd a b c ≠ 0
theorem NC.not {ps : List Pt} (h : NC ps) : ¬ Col ps := fun k => by
  obtain ⟨a, ha, b, hb, c, hc, e⟩ := h
  exact e (k a ha b hb c hc)
theorem NC.map {ps : List Pt} {f : Pt → Pt} {k : Int} (h : NC ps) (hk : k ≠ 0) (hf : ∀ a b c, bnd (f a) (f b) (f c) = k * bnd a b c) : NC (ps.map f) := by
  obtain ⟨a, ha, b, hb, c, hc, e⟩ := h
  exact ⟨_, List.mem_map_of_mem ha, _, List.mem_map_of_mem hb, _, List.mem_map_of_mem hc, by rw [hf]; exact Int.mul_ne_zero hk e⟩
theorem NC.app {ps qs : List Pt} (h : NC ps) : NC (ps ++ qs) := by
  obtain ⟨a, ha, b, hb, c, hc, e⟩ := h
  exact ⟨a, List.mem_append_left _ ha, b, List.mem_append_left _ hb, c, List.mem_append_left _ hc, e⟩
theorem mod_bd {n : Nat} (x : Int) {k : Int} (hk : 0 < k) (hn : k ≤ 2 ^ n) : Bd n (x % k) := Bd.of_range (Int.emod_nonneg _ (by omega)) (Int.lt_of_lt_of_le (Int.emod_lt_of_pos x hk) hn)
theorem pts_turn (c B a b cc s7 : Sl) (m : Int) (ps : List Pt) (hl : ps.length < 1000) : l1__law_points [c, .v (.int m), B, a, b, cc, .l (ps.map D2p), s7, .un, .un, .un, .un] = .nx [c, .v (.int (m / 81)), B, a, b, cc, .l ((ps ++ [(m % 9 - 2, m / 9 % 9 - 2)]).map D2p), s7, .un, .un, .un, .un] := by
  have hz : ((ps.map D2p).length < sizeLine) = True := eq_true (by rw [List.length_map, sizeLine_eq]; omega)
  have d1 : dMod (.int m) (.int 9) = some (.int (m % 9)) := dMod_int (by decide)
  have d2 : dDiv (.int m) (.int 9) = some (.int (m / 9)) := dDiv_lit (by decide) (by decide)
  have d3 : dMod (.int (m / 9)) (.int 9) = some (.int (m / 9 % 9)) := dMod_int (by decide)
  have d4 : dDiv (.int m) (.int 81) = some (.int (m / 81)) := dDiv_lit (by decide) (by decide)
  have z2 : ([D.int (m % 9 - 2), D.int (m / 9 % 9 - 2)].length ≤ sizeLine) = True := eq_true (by rw [sizeLine_eq]; exact (by decide : 2 ≤ 16777216))
  unfold l1__law_points
  simp only [sSeq, sApp, sAsg, eTup, aCons, aNil, e2, eVar, eC, bind_ok, ofO_some, ofR_ok, d1, d2, d3, d4, dSub_int, z2, if_true, hz, List.getElem?_cons_zero, List.getElem?_cons_succ, List.set_cons_zero, List.set_cons_succ]
  rw [List.map_append]
  rfl
theorem pts_loop (c B a b cc : Sl) : ∀ (ds : List D) (ps : List Pt) (m : Int) (s7 : Sl), ps.length + ds.length < 1000 → ∃ ext m' s7', loop (gNm 7) l1__law_points ds [c, .v (.int m), B, a, b, cc, .l (ps.map D2p), s7, .un, .un, .un, .un] = .nx [c, .v (.int m'), B, a, b, cc, .l ((ps ++ ext).map D2p), s7', .un, .un, .un, .un] ∧ ext.length = ds.length ∧ ∀ q ∈ ext, BdP 8 q
  | [], ps, m, s7, _ => ⟨[], m, s7, by rw [List.append_nil]; rfl, rfl, fun q hq => absurd hq (by simp)⟩
  | d :: ds, ps, m, s7, hl => by
    obtain ⟨ext, m', s7', e, l, hb⟩ := pts_loop c B a b cc ds (ps ++ [(m % 9 - 2, m / 9 % 9 - 2)]) (m / 81) (.v d) (by rw [List.length_append, List.length_singleton]; rw [List.length_cons] at hl; omega)
    refine ⟨(m % 9 - 2, m / 9 % 9 - 2) :: ext, m', s7', ?_, by rw [List.length_cons, List.length_cons, l], fun q hq => ?_⟩
    · rw [loop_cons rfl (pts_turn c B a b cc (.v d) m ps (by omega)), e]
      simp
    · rcases List.mem_cons.mp hq with h | h
      · rw [h]
        exact ⟨((mod_bd m (k := 9) (n := 4) (by decide) (by decide)).sub (show Bd 4 2 by decide)).mono (by decide), ((mod_bd (m / 9) (k := 9) (n := 4) (by decide) (by decide)).sub (show Bd 4 2 by decide)).mono (by decide)⟩
      · exact hb q h
def swP (p : Pt) : Pt := (p.2, p.1)
def miP (p : Pt) : Pt := (0 - p.1, p.2)
def afP (g a u : Int) (p : Pt) : Pt := (g * (p.1 + a), g * (p.2 + u))
theorem two_le {x y : D} : ([x, y].length ≤ sizeLine) = True := eq_true (by rw [sizeLine_eq]; exact (by decide : 2 ≤ 16777216))
theorem p_sw (cell m g : Int) (a b cc s7 : Sl) (ps : List Pt) (hl : ps.length < 1000) (hp : ∀ q ∈ ps, BdP 8 q) (nc : NC ps) :
    ∃ qs : List Pt, (sIf (mB (e2 dEq (e2 dMod (e2 dDiv (eVar 0) (eC (.int 900))) (eC (.int 2))) (eC (.int 1)))) (sFrz 6 (sOwn 6 (aLc asL [8, 9] (gTp (gsCons (gNm 8) (gsCons (gNm 9) (gsNil)))) (mYes) (eVar 6) (eTup (aCons (eVar 9) (aCons (eVar 8) (aNil))))))) (sNil)) [.v (.int cell), .v (.int m), .v (.int g), a, b, cc, .l (ps.map D2p), s7, .un, .un, .un, .un] = .nx [.v (.int cell), .v (.int m), .v (.int g), a, b, cc, .l (qs.map D2p), s7, .un, .un, .un, .un] ∧ qs.length = ps.length ∧ (∀ q ∈ qs, BdP 8 q) ∧ NC qs := by
  have d1 : dDiv (.int cell) (.int 900) = some (.int (cell / 900)) := dDiv_lit (by decide) (by decide)
  have d2 : dMod (.int (cell / 900)) (.int 2) = some (.int (cell / 900 % 2)) := dMod_int (by decide)
  by_cases h : cell / 900 % 2 = 1
  · have hz : ((ps.map D2p).length ≤ sizeLine) = True := eq_true (by rw [List.length_map, sizeLine_eq]; omega)
    have lc : lcGo (gTp (gsCons (gNm 8) (gsCons (gNm 9) (gsNil)))) mYes (eTup (aCons (eVar 9) (aCons (eVar 8) (aNil)))) (ps.map D2p) (wipeE [8, 9] [.v (.int cell), .v (.int m), .v (.int g), a, b, cc, .v (.lst (ps.map D2p)), s7, .un, .un, .un, .un]) = .ok ((ps.map swP).map D2p) :=
      lc_pts ps fun p _ => ⟨[.v (.int cell), .v (.int m), .v (.int g), a, b, cc, .v (.lst (ps.map D2p)), s7, .v (.int p.1), .v (.int p.2), .un, .un], rfl, by
        simp only [eTup, aCons, aNil, eVar, bind_ok, List.getElem?_cons_zero, List.getElem?_cons_succ, two_le, if_true]
        rfl⟩
    refine ⟨ps.map swP, ?_, List.length_map .., fun q hq => ?_, nc.map (k := -1) (by decide) (fun a b c => by unfold bnd swP; grind)⟩
    · simp only [sIf, mB, e2, eVar, eC, bind_ok, ofO_some, ofR_ok, d1, d2, dEq_int, h, asB_bl, decide_true, if_true, sFrz, frz, sOwn, aLc, asL, hz, lc, List.getElem?_cons_zero, List.getElem?_cons_succ, List.set_cons_zero, List.set_cons_succ]
    · obtain ⟨p, hp', rfl⟩ := List.mem_map.mp hq
      exact ⟨(hp p hp').2, (hp p hp').1⟩
  · refine ⟨ps, ?_, rfl, hp, nc⟩
    simp only [sIf, mB, e2, eVar, eC, bind_ok, ofO_some, ofR_ok, d1, d2, dEq_int, h, asB_bl, decide_false, Bool.false_eq_true, if_false, sNil, List.getElem?_cons_zero, List.getElem?_cons_succ]
theorem p_mi (cell m g : Int) (a b cc s7 : Sl) (ps : List Pt) (hl : ps.length < 1000) (hp : ∀ q ∈ ps, BdP 8 q) (nc : NC ps) :
    ∃ qs : List Pt, (sIf (mB (e2 dEq (e2 dMod (e2 dDiv (eVar 0) (eC (.int 1800))) (eC (.int 2))) (eC (.int 1)))) (sFrz 6 (sOwn 6 (aLc asL [8, 9] (gTp (gsCons (gNm 8) (gsCons (gNm 9) (gsNil)))) (mYes) (eVar 6) (eTup (aCons (e2 dSub (eC (.int 0)) (eVar 8)) (aCons (eVar 9) (aNil))))))) (sNil)) [.v (.int cell), .v (.int m), .v (.int g), a, b, cc, .l (ps.map D2p), s7, .un, .un, .un, .un] = .nx [.v (.int cell), .v (.int m), .v (.int g), a, b, cc, .l (qs.map D2p), s7, .un, .un, .un, .un] ∧ qs.length = ps.length ∧ (∀ q ∈ qs, BdP 9 q) ∧ NC qs := by
  have d1 : dDiv (.int cell) (.int 1800) = some (.int (cell / 1800)) := dDiv_lit (by decide) (by decide)
  have d2 : dMod (.int (cell / 1800)) (.int 2) = some (.int (cell / 1800 % 2)) := dMod_int (by decide)
  by_cases h : cell / 1800 % 2 = 1
  · have hz : ((ps.map D2p).length ≤ sizeLine) = True := eq_true (by rw [List.length_map, sizeLine_eq]; omega)
    have lc : lcGo (gTp (gsCons (gNm 8) (gsCons (gNm 9) (gsNil)))) mYes (eTup (aCons (e2 dSub (eC (.int 0)) (eVar 8)) (aCons (eVar 9) (aNil)))) (ps.map D2p) (wipeE [8, 9] [.v (.int cell), .v (.int m), .v (.int g), a, b, cc, .v (.lst (ps.map D2p)), s7, .un, .un, .un, .un]) = .ok ((ps.map miP).map D2p) :=
      lc_pts ps fun p _ => ⟨[.v (.int cell), .v (.int m), .v (.int g), a, b, cc, .v (.lst (ps.map D2p)), s7, .v (.int p.1), .v (.int p.2), .un, .un], rfl, by
        simp only [eTup, aCons, aNil, eVar, e2, eC, ofO_some, dSub_int, bind_ok, List.getElem?_cons_zero, List.getElem?_cons_succ, two_le, if_true]
        rfl⟩
    refine ⟨ps.map miP, ?_, List.length_map .., fun q hq => ?_, nc.map (k := -1) (by decide) (fun a b c => by unfold bnd miP; grind)⟩
    · simp only [sIf, mB, e2, eVar, eC, bind_ok, ofO_some, ofR_ok, d1, d2, dEq_int, h, asB_bl, decide_true, if_true, sFrz, frz, sOwn, aLc, asL, hz, lc, List.getElem?_cons_zero, List.getElem?_cons_succ, List.set_cons_zero, List.set_cons_succ]
    · obtain ⟨p, hp', rfl⟩ := List.mem_map.mp hq
      exact ⟨((show Bd 1 0 by decide).sub (hp p hp').1).mono (by decide), (hp p hp').2.mono (by decide)⟩
  · refine ⟨ps, ?_, rfl, fun q hq => ⟨(hp q hq).1.mono (by decide), (hp q hq).2.mono (by decide)⟩, nc⟩
    simp only [sIf, mB, e2, eVar, eC, bind_ok, ofO_some, ofR_ok, d1, d2, dEq_int, h, asB_bl, decide_false, Bool.false_eq_true, if_false, sNil, List.getElem?_cons_zero, List.getElem?_cons_succ]
def MulP (g : Int) (qs : List Pt) : Prop := ∀ q ∈ qs, ∃ a b : Int, q = (g * a, g * b)
theorem p_af (cell m g : Int) (a b cc s7 : Sl) (ps : List Pt) (hl : ps.length < 1000) (hp : ∀ q ∈ ps, BdP 9 q) (nc : NC ps) (hg : 0 < g) (bg : Bd 100 g) :
    ∃ qs : List Pt, (sSeq (sAsg 10 (e2 dSub (e2 dMod (e2 dDiv (eVar 0) (eC (.int 3600))) (eC (.int 61))) (eC (.int 30)))) (sSeq (sAsg 11 (e2 dSub (e2 dMod (e2 dDiv (eVar 0) (eC (.int 219600))) (eC (.int 61))) (eC (.int 30)))) (sFrz 6 (sRet (eL (aLc asL [8, 9] (gTp (gsCons (gNm 8) (gsCons (gNm 9) (gsNil)))) (mYes) (eVar 6) (eTup (aCons (e2 dMul (eVar 2) (e2 dAdd (eVar 8) (eVar 10))) (aCons (e2 dMul (eVar 2) (e2 dAdd (eVar 9) (eVar 11))) (aNil)))))))))) [.v (.int cell), .v (.int m), .v (.int g), a, b, cc, .l (ps.map D2p), s7, .un, .un, .un, .un] = .rt (.lst (qs.map D2p)) ∧ qs.length = ps.length ∧ (∀ q ∈ qs, BdP 120 q) ∧ NC qs ∧ MulP g qs := by
  have d1 : dDiv (.int cell) (.int 3600) = some (.int (cell / 3600)) := dDiv_lit (by decide) (by decide)
  have d2 : dMod (.int (cell / 3600)) (.int 61) = some (.int (cell / 3600 % 61)) := dMod_int (by decide)
  have d3 : dDiv (.int cell) (.int 219600) = some (.int (cell / 219600)) := dDiv_lit (by decide) (by decide)
  have d4 : dMod (.int (cell / 219600)) (.int 61) = some (.int (cell / 219600 % 61)) := dMod_int (by decide)
  have b1 : Bd 10 (cell / 3600 % 61 - 30) := ((mod_bd (cell / 3600) (k := 61) (n := 7) (by decide) (by decide)).sub (show Bd 7 30 by decide)).mono (by decide)
  have b2 : Bd 10 (cell / 219600 % 61 - 30) := ((mod_bd (cell / 219600) (k := 61) (n := 7) (by decide) (by decide)).sub (show Bd 7 30 by decide)).mono (by decide)
  have hz : ((ps.map D2p).length ≤ sizeLine) = True := eq_true (by rw [List.length_map, sizeLine_eq]; omega)
  have lc : ∀ u w : Int, Bd 10 u → Bd 10 w → lcGo (gTp (gsCons (gNm 8) (gsCons (gNm 9) (gsNil)))) mYes (eTup (aCons (e2 dMul (eVar 2) (e2 dAdd (eVar 8) (eVar 10))) (aCons (e2 dMul (eVar 2) (e2 dAdd (eVar 9) (eVar 11))) (aNil)))) (ps.map D2p) (wipeE [8, 9] [.v (.int cell), .v (.int m), .v (.int g), a, b, cc, .v (.lst (ps.map D2p)), s7, .un, .un, .v (.int u), .v (.int w)]) = .ok ((ps.map (afP g u w)).map D2p) := fun u w bu bw =>
    lc_pts ps fun p hp' => ⟨[.v (.int cell), .v (.int m), .v (.int g), a, b, cc, .v (.lst (ps.map D2p)), s7, .v (.int p.1), .v (.int p.2), .v (.int u), .v (.int w)], rfl, by
      have m1 : mulOk g (p.1 + u) := mok bg ((hp p hp').1.add bu) (by decide)
      have m2 : mulOk g (p.2 + w) := mok bg ((hp p hp').2.add bw) (by decide)
      simp only [eTup, aCons, aNil, eVar, e2, eC, ofO_some, dAdd_int, dMul_int m1, dMul_int m2, bind_ok, List.getElem?_cons_zero, List.getElem?_cons_succ, two_le, if_true]
      rfl⟩
  have lc2 := lc _ _ b1 b2
  refine ⟨ps.map (afP g (cell / 3600 % 61 - 30) (cell / 219600 % 61 - 30)), ?_, List.length_map .., fun q hq => ?_, nc.map (k := g * g) (Int.mul_ne_zero (by omega) (by omega)) (fun a b c => by unfold bnd afP; grind), fun q hq => ?_⟩
  · simp only [sSeq, sAsg, sFrz, frz, sRet, eL, aLc, asL, e2, eVar, eC, bind_ok, ofO_some, ofR_ok, d1, d2, d3, d4, dSub_int, hz, if_true, lc2, List.getElem?_cons_zero, List.getElem?_cons_succ, List.set_cons_zero, List.set_cons_succ]
  · obtain ⟨p, hp', rfl⟩ := List.mem_map.mp hq
    exact ⟨(bg.mul ((hp p hp').1.add b1)).mono (by decide), (bg.mul ((hp p hp').2.add b2)).mono (by decide)⟩
  · obtain ⟨p, hp', rfl⟩ := List.mem_map.mp hq
    exact ⟨_, _, rfl⟩
theorem sSeq_nx {a b : SM} {ρ ρ1 : En} (h : a ρ = .nx ρ1) : sSeq a b ρ = b ρ1 := by
  show (match a ρ with
    | .nx ρ' => b ρ'
    | o => o) = _
  rw [h]
theorem rest_pts (cell m g : Int) (a b cc s7 : Sl) (ps : List Pt) (hl : ps.length < 1000) (hp : ∀ q ∈ ps, BdP 8 q) (nc : NC ps) (hg : 0 < g) (bg : Bd 100 g) :
    ∃ qs : List Pt, (sSeq (sIf (mB (e2 dEq (e2 dMod (e2 dDiv (eVar 0) (eC (.int 900))) (eC (.int 2))) (eC (.int 1)))) (sFrz 6 (sOwn 6 (aLc asL [8, 9] (gTp (gsCons (gNm 8) (gsCons (gNm 9) (gsNil)))) (mYes) (eVar 6) (eTup (aCons (eVar 9) (aCons (eVar 8) (aNil))))))) (sNil)) (sSeq (sIf (mB (e2 dEq (e2 dMod (e2 dDiv (eVar 0) (eC (.int 1800))) (eC (.int 2))) (eC (.int 1)))) (sFrz 6 (sOwn 6 (aLc asL [8, 9] (gTp (gsCons (gNm 8) (gsCons (gNm 9) (gsNil)))) (mYes) (eVar 6) (eTup (aCons (e2 dSub (eC (.int 0)) (eVar 8)) (aCons (eVar 9) (aNil))))))) (sNil)) (sSeq (sAsg 10 (e2 dSub (e2 dMod (e2 dDiv (eVar 0) (eC (.int 3600))) (eC (.int 61))) (eC (.int 30)))) (sSeq (sAsg 11 (e2 dSub (e2 dMod (e2 dDiv (eVar 0) (eC (.int 219600))) (eC (.int 61))) (eC (.int 30)))) (sFrz 6 (sRet (eL (aLc asL [8, 9] (gTp (gsCons (gNm 8) (gsCons (gNm 9) (gsNil)))) (mYes) (eVar 6) (eTup (aCons (e2 dMul (eVar 2) (e2 dAdd (eVar 8) (eVar 10))) (aCons (e2 dMul (eVar 2) (e2 dAdd (eVar 9) (eVar 11))) (aNil)))))))))))) [.v (.int cell), .v (.int m), .v (.int g), a, b, cc, .l (ps.map D2p), s7, .un, .un, .un, .un] = .rt (.lst (qs.map D2p)) ∧ qs.length = ps.length ∧ (∀ q ∈ qs, BdP 120 q) ∧ NC qs ∧ MulP g qs := by
  obtain ⟨p1, e1, l1, h1, n1⟩ := p_sw cell m g a b cc s7 ps hl hp nc
  obtain ⟨p2, e2', l2, h2, n2⟩ := p_mi cell m g a b cc s7 p1 (by omega) h1 n1
  obtain ⟨p3, e3, l3, h3, n3⟩ := p_af cell m g a b cc s7 p2 (by omega) h2 n2 hg bg
  refine ⟨p3, ?_, by omega, h3, n3⟩
  rw [sSeq_nx e1, sSeq_nx e2']
  exact e3
theorem points_spec (cell m g : Int) (hg : 0 < g) (bg : Bd 100 g) : ∃ qs : List Pt, F__law_points [.int cell, .int m, .int g] = .ok (.lst (qs.map D2p)) ∧ qs.length ≤ 6 ∧ (∀ q ∈ qs, BdP 120 q) ∧ NC qs ∧ MulP g qs := by
  have d1 : dMod (.int cell) (.int 5) = some (.int (cell % 5)) := dMod_int (by decide)
  have d2 : dDiv (.int cell) (.int 5) = some (.int (cell / 5)) := dDiv_lit (by decide) (by decide)
  have d3 : dMod (.int (cell / 5)) (.int 5) = some (.int (cell / 5 % 5)) := dMod_int (by decide)
  have d4 : dDiv (.int cell) (.int 25) = some (.int (cell / 25)) := dDiv_lit (by decide) (by decide)
  have d5 : dMod (.int (cell / 25)) (.int 9) = some (.int (cell / 25 % 9)) := dMod_int (by decide)
  have d6 : dDiv (.int cell) (.int 225) = some (.int (cell / 225)) := dDiv_lit (by decide) (by decide)
  have d7 : dMod (.int (cell / 225)) (.int 4) = some (.int (cell / 225 % 4)) := dMod_int (by decide)
  have k1 := Int.emod_nonneg (cell / 225) (show (4 : Int) ≠ 0 by decide)
  have k2 := Int.emod_lt_of_pos (cell / 225) (show (0 : Int) < 4 by decide)
  have hr : dRange [.int (cell / 225 % 4)] = some (rg 0 1 (cell / 225 % 4).toNat) := if_pos ⟨by omega, by omega⟩
  have a1 : 0 < 1 + cell % 5 := by have := Int.emod_nonneg cell (show (5 : Int) ≠ 0 by decide); omega
  have a2 : 0 < 1 + cell / 5 % 5 := by have := Int.emod_nonneg (cell / 5) (show (5 : Int) ≠ 0 by decide); omega
  have b1 : Bd 8 (1 + cell % 5) := ((show Bd 1 1 by decide).add (mod_bd cell (k := 5) (n := 4) (by decide) (by decide))).mono (by decide)
  have b2 : Bd 8 (1 + cell / 5 % 5) := ((show Bd 1 1 by decide).add (mod_bd (cell / 5) (k := 5) (n := 4) (by decide) (by decide))).mono (by decide)
  have b3 : Bd 8 (cell / 25 % 9 - 2) := ((mod_bd (cell / 25) (k := 9) (n := 4) (by decide) (by decide)).sub (show Bd 4 2 by decide)).mono (by decide)
  have three : ([D2p (0, 0), D2p (1 + cell % 5, 0), D2p (cell / 25 % 9 - 2, 1 + cell / 5 % 5)].length ≤ sizeLine) = True := eq_true (by rw [sizeLine_eq]; exact (by decide : 3 ≤ 16777216))
  obtain ⟨ext, m', s7', e, l, hb⟩ := pts_loop (.v (.int cell)) (.v (.int g)) (.v (.int (1 + cell % 5))) (.v (.int (1 + cell / 5 % 5))) (.v (.int (cell / 25 % 9 - 2))) (rg 0 1 (cell / 225 % 4).toNat) [(0, 0), (1 + cell % 5, 0), (cell / 25 % 9 - 2, 1 + cell / 5 % 5)] m .un (by
    have : (rg 0 1 (cell / 225 % 4).toNat).length = (cell / 225 % 4).toNat := by simp [rg]
    rw [this]
    show 3 + _ < 1000
    omega)
  have lr : ext.length ≤ 3 := by
    have : (rg 0 1 (cell / 225 % 4).toNat).length = (cell / 225 % 4).toNat := by simp [rg]
    omega
  obtain ⟨qs, eq, lq, hq, nq⟩ := rest_pts cell m' g (.v (.int (1 + cell % 5))) (.v (.int (1 + cell / 5 % 5))) (.v (.int (cell / 25 % 9 - 2))) s7' ([(0, 0), (1 + cell % 5, 0), (cell / 25 % 9 - 2, 1 + cell / 5 % 5)] ++ ext) (by
      rw [List.length_append]
      show 3 + _ < 1000
      omega)
    (fun q hq => by
      rcases List.mem_append.mp hq with h | h
      · simp only [List.mem_cons, List.not_mem_nil, or_false] at h
        have z : Bd 8 (0 : Int) := by decide
        rcases h with rfl | rfl | rfl
        · exact ⟨z, z⟩
        · exact ⟨b1, z⟩
        · exact ⟨b3, b2⟩
      · exact hb q h)
    (NC.app ⟨_, List.mem_cons_self, _, List.mem_cons_of_mem _ List.mem_cons_self, _, List.mem_cons_of_mem _ (List.mem_cons_of_mem _ List.mem_cons_self), by
      have : bnd (0, 0) (1 + cell % 5, 0) (cell / 25 % 9 - 2, 1 + cell / 5 % 5) = (1 + cell % 5) * (1 + cell / 5 % 5) := by unfold bnd; grind
      rw [this]
      exact Int.mul_ne_zero (by omega) (by omega)⟩) hg bg
  refine ⟨qs, ?_, ?_, hq, nq⟩
  · clear hq nq lq lr l hb b1 b2 b3 a1 a2 k1 k2
    have e' := e
    simp only [List.map_cons, List.map_nil, D2p] at e' three
    unfold F__law_points b__law_points
    simp only [runF, List.map_cons, List.map_nil, List.cons_append, List.nil_append, List.length_cons, List.length_nil, Nat.reduceAdd, Nat.reduceSub, List.replicate_succ, List.replicate_zero]
    rw [sSeq_nx (show sAsg 3 _ _ = .nx [.v (.int cell), .v (.int m), .v (.int g), .v (.int (1 + cell % 5)), .un, .un, .un, .un, .un, .un, .un, .un] by
      simp only [sAsg, e2, eVar, eC, bind_ok, ofO_some, ofR_ok, d1, dAdd_int, List.getElem?_cons_zero, List.getElem?_cons_succ, List.set_cons_zero, List.set_cons_succ])]
    rw [sSeq_nx (show sAsg 4 _ _ = .nx [.v (.int cell), .v (.int m), .v (.int g), .v (.int (1 + cell % 5)), .v (.int (1 + cell / 5 % 5)), .un, .un, .un, .un, .un, .un, .un] by
      simp only [sAsg, e2, eVar, eC, bind_ok, ofO_some, ofR_ok, d2, d3, dAdd_int, List.getElem?_cons_zero, List.getElem?_cons_succ, List.set_cons_zero, List.set_cons_succ])]
    rw [sSeq_nx (show sAsg 5 _ _ = .nx [.v (.int cell), .v (.int m), .v (.int g), .v (.int (1 + cell % 5)), .v (.int (1 + cell / 5 % 5)), .v (.int (cell / 25 % 9 - 2)), .un, .un, .un, .un, .un, .un] by
      simp only [sAsg, e2, eVar, eC, bind_ok, ofO_some, ofR_ok, d4, d5, dSub_int, List.getElem?_cons_zero, List.getElem?_cons_succ, List.set_cons_zero, List.set_cons_succ])]
    rw [sSeq_nx (show sOwn 6 _ _ = .nx [.v (.int cell), .v (.int m), .v (.int g), .v (.int (1 + cell % 5)), .v (.int (1 + cell / 5 % 5)), .v (.int (cell / 25 % 9 - 2)), .l [D2p (0, 0), D2p (1 + cell % 5, 0), D2p (cell / 25 % 9 - 2, 1 + cell / 5 % 5)], .un, .un, .un, .un, .un] by
      simp only [sOwn, aLst, eTup, aCons, aNil, eVar, eC, bind_ok, ofR_ok, two_le, if_true, three, List.getElem?_cons_zero, List.getElem?_cons_succ, List.set_cons_zero, List.set_cons_succ, D2p])]
    rw [sSeq_nx (show sForR (gNm 7) _ l1__law_points _ = .nx _ by
      simp only [sForR, aCons, aNil, e2, eVar, eC, bind_ok, ofO_some, d6, d7, hr, ofR_ok, List.getElem?_cons_zero, List.getElem?_cons_succ]
      exact e)]
    rw [eq]
  · rw [lq, List.length_append]
    show 3 + _ ≤ 6
    omega
end Law

namespace Law
open PySem PySem.Spec PyProof.Rows L2 GD Hl
local macro_rules | `(tactic| walk_at "gd") => `(tactic| simp (config := {failIfUnchanged := false}) only [runF, sSeq, sIf, sAsg, sRet, sRetN, sExpr, sNil, sRaise, sPar, sTgt, sFor, sForR, sWhile, eVar, eC, e1, e2, mB, aNil, aCons, eF, eB, eTup, aLst, eL, mNot, mAnd, mOr, eNot, eAnd, eOr, gNm, gTp, gsNil, gsCons, asL, asT,
  bind_ok, bind_er, bind_st, ofO_some, asB_bl, ofR_ok, ofR_er, dAdd_int, dSub_int, dNeg_int, dLt_int, dLe_int, dGt_int, dGe_int, dEq_int, dNe_int, dEq_bl, dMod_int, dDiv_lit, dMul_int, Int.reduceLT, Int.reduceEq, Int.cast_ofNat_Int, eq_self, line_le, Nat.reduceLeDiff,  dIs_non, dIsNot_non, dAt_t0, dAt_t1, dAt_t2, dAt_l0, dAt_l1, dAt_l2, dAt_l3, dAt_l4, dAt_l5, dAt_l6, dAt_l7, dAbs, dMax2, dMin2, dLen,
  List.getElem?_cons_zero, List.getElem?_cons_succ, List.set_cons_zero, List.set_cons_succ, List.map_cons, List.map_nil, List.length_cons, List.length_nil, List.cons_append, List.nil_append, List.replicate_succ, List.replicate_zero, Nat.reduceSub, Nat.reduceAdd,
  decide_eq_true_eq, Bool.not_eq_true', if_true, if_false, ite_true, ite_false, Option.bind_some, Option.map_some, Bool.not_true, Bool.not_false, reduceIte, Bool.false_eq_true, Bool.true_eq_false, decide_true, decide_false])
local macro_rules | `(tactic| walk_at "gdh") => `(tactic| simp (config := {failIfUnchanged := false}) only [runF, sSeq, sIf, sAsg, sRet, sRetN, sExpr, sNil, sRaise, sPar, sTgt, sFor, sForR, sWhile, eVar, eC, e1, e2, mB, aNil, aCons, eF, eB, eTup, aLst, eL, mNot, mAnd, mOr, eNot, eAnd, eOr, gNm, gTp, gsNil, gsCons, asL, asT,
  bind_ok, bind_er, bind_st, ofO_some, asB_bl, ofR_ok, ofR_er, dAdd_int, dSub_int, dNeg_int, dLt_int, dLe_int, dGt_int, dGe_int, dEq_int, dNe_int, dEq_bl, dMod_int, dDiv_lit, dMul_int, Int.reduceLT, Int.reduceEq, Int.cast_ofNat_Int, eq_self, line_le, Nat.reduceLeDiff,  dIs_non, dIsNot_non, dAt_t0, dAt_t1, dAt_t2, dAt_l0, dAt_l1, dAt_l2, dAt_l3, dAt_l4, dAt_l5, dAt_l6, dAt_l7, dAbs, dMax2, dMin2, dLen,
  List.getElem?_cons_zero, List.getElem?_cons_succ, List.set_cons_zero, List.set_cons_succ, List.map_cons, List.map_nil, List.length_cons, List.length_nil, List.cons_append, List.nil_append, List.replicate_succ, List.replicate_zero, Nat.reduceSub, Nat.reduceAdd,
  decide_eq_true_eq, Bool.not_eq_true', if_true, if_false, ite_true, ite_false, Option.bind_some, Option.map_some, Bool.not_true, Bool.not_false, reduceIte, Bool.false_eq_true, Bool.true_eq_false, decide_true, decide_false, *])
/-! ### lists of points compared -/
theorem pt_shape (p : Pt) : (toP (D2p p)).canLay0 = true ∧ (toP (D2p p)).depth = 1 := ⟨rfl, rfl⟩
theorem pts_shape : ∀ ps : List Pt, PyData.canLayAll0 (toPs (ps.map D2p)) = true ∧ PyData.depthAll (toPs (ps.map D2p)) ≤ 1
  | [] => ⟨rfl, by decide⟩
  | p :: ps => by
    obtain ⟨h1, h2⟩ := pts_shape ps
    obtain ⟨g1, g2⟩ := pt_shape p
    constructor
    · show ((toP (D2p p)).canLay0 && PyData.canLayAll0 (toPs (ps.map D2p))) = true
      rw [g1, h1]
      rfl
    · show max (toP (D2p p)).depth (PyData.depthAll (toPs (ps.map D2p))) ≤ 1
      rw [g2]
      omega
theorem lst_shape (ps : List Pt) : SeqAt.shaped (toP (.lst (ps.map D2p))) = true := by
  obtain ⟨h1, h2⟩ := pts_shape ps
  unfold SeqAt.shaped
  rw [Bool.and_eq_true]
  constructor
  · show PyData.canLayAll0 (toPs (ps.map D2p)) = true
    exact h1
  · refine decide_eq_true ?_
    show PyData.depthAll (toPs (ps.map D2p)) + 1 ≤ 64
    omega
theorem eqv_pt (p q : Pt) : PyData.eqv (toP (D2p p)) (toP (D2p q)) = decide (p = q) := by
  show ((p.1 == q.1) && ((p.2 == q.2) && true)) = _
  rw [Bool.and_true, Bool.beq_eq_decide_eq, Bool.beq_eq_decide_eq, ← Bool.decide_and]
  exact decide_eq_decide.mpr ⟨fun h => Prod.ext h.1 h.2, fun h => by rw [h]; exact ⟨rfl, rfl⟩⟩
theorem eqv_pts : ∀ ps qs : List Pt, PyData.eqvAll (toPs (ps.map D2p)) (toPs (qs.map D2p)) = decide (ps = qs)
  | [], [] => rfl
  | [], _ :: _ => rfl
  | _ :: _, [] => rfl
  | p :: ps, q :: qs => by
    show (PyData.eqv (toP (D2p p)) (toP (D2p q)) && PyData.eqvAll (toPs (ps.map D2p)) (toPs (qs.map D2p))) = _
    rw [eqv_pt, eqv_pts ps qs, ← Bool.decide_and]
    exact decide_eq_decide.mpr ⟨fun h => by rw [h.1, h.2], fun h => List.cons.inj h⟩
theorem dNe_pts (ps qs : List Pt) : dNe (.lst (ps.map D2p)) (.lst (qs.map D2p)) = some (.bl (!decide (ps = qs))) := by
  unfold dNe
  rw [if_pos ⟨lst_shape ps, lst_shape qs⟩]
  show some (D.bl (!PyData.eqvAll (toPs (ps.map D2p)) (toPs (qs.map D2p)))) = _
  rw [eqv_pts]
theorem dEq_pts (ps qs : List Pt) : dEq (.lst (ps.map D2p)) (.lst (qs.map D2p)) = some (.bl (decide (ps = qs))) := by
  unfold dEq
  rw [if_pos ⟨lst_shape ps, lst_shape qs⟩]
  show some (D.bl (PyData.eqvAll (toPs (ps.map D2p)) (toPs (qs.map D2p)))) = _
  rw [eqv_pts]
theorem dNe_pt (p q : Pt) : dNe (D2p p) (D2p q) = some (.bl (!decide (p = q))) := by
  unfold dNe
  rw [if_pos ⟨rfl, rfl⟩, eqv_pt]
theorem dEq_pt (p q : Pt) : dEq (D2p p) (D2p q) = some (.bl (decide (p = q))) := by
  unfold dEq
  rw [if_pos ⟨rfl, rfl⟩, eqv_pt]
/-! ### how far along a direction -/
def dotp (p n : Pt) : Int := p.1 * n.1 + p.2 * n.2
theorem dot_bd {m k : Nat} {p n : Pt} (hp : BdP m p) (hn : BdP k n) : Bd (m + k + 1) (dotp p n) := ((hp.1.mul hn.1).add (hp.2.mul hn.2)).mono (by omega)
theorem along_eq {m k : Nat} {p n : Pt} (hp : BdP m p) (hn : BdP k n) (hl : m + k < 1000000) : F_along [D2p p, D2p n] = .ok (.int (dotp p n)) := by
  have m1 : mulOk p.1 n.1 := mok hp.1 hn.1 hl
  have m2 : mulOk p.2 n.2 := mok hp.2 hn.2 hl
  have p0 := dAt_p0
  have p1 := dAt_p1
  clear hp hn
  unfold F_along b_along
  walk_at "gdh"
  rfl
theorem lc_ints {g : D → En → Option En} {m : EM} {ρ : En} {f : Pt → Int} : ∀ ps : List Pt, (∀ p ∈ ps, ∃ ρ1, g (D2p p) ρ = some ρ1 ∧ m ρ1 = .ok (.int (f p))) → lcGo g mYes m (ps.map D2p) ρ = .ok ((ps.map f).map D.int)
  | [], _ => rfl
  | p :: ps, h => by
    obtain ⟨ρ1, h1, h2⟩ := h p List.mem_cons_self
    exact lcc h1 h2 (lc_ints ps fun q hq => h q (List.mem_cons_of_mem _ hq))
theorem ints_map : ∀ ns : List Int, intsOf (ns.map D.int) = some ns
  | [] => rfl
  | n :: ns => by
    show (intsOf (ns.map D.int)).map (fun l => n :: l) = some (n :: ns)
    rw [ints_map ns]
    rfl
theorem min_fold : ∀ (xs : List Int) (a : Int), (xs.foldl min a = a ∨ xs.foldl min a ∈ xs) ∧ xs.foldl min a ≤ a ∧ ∀ x ∈ xs, xs.foldl min a ≤ x
  | [], a => ⟨.inl rfl, Int.le_refl _, fun x h => absurd h (by simp)⟩
  | y :: xs, a => by
    obtain ⟨h1, h2, h3⟩ := min_fold xs (min a y)
    rw [List.foldl_cons]
    refine ⟨?_, by omega, fun x hx => ?_⟩
    · rcases h1 with h | h
      · by_cases z : a ≤ y
        · left; omega
        · right
          have : xs.foldl min (min a y) = y := by omega
          rw [this]
          exact List.mem_cons_self
      · exact .inr (List.mem_cons_of_mem _ h)
    · rcases List.mem_cons.mp hx with e | e
      · rw [e]; omega
      · exact h3 x e
theorem max_fold : ∀ (xs : List Int) (a : Int), (xs.foldl max a = a ∨ xs.foldl max a ∈ xs) ∧ a ≤ xs.foldl max a ∧ ∀ x ∈ xs, x ≤ xs.foldl max a
  | [], a => ⟨.inl rfl, Int.le_refl _, fun x h => absurd h (by simp)⟩
  | y :: xs, a => by
    obtain ⟨h1, h2, h3⟩ := max_fold xs (max a y)
    rw [List.foldl_cons]
    refine ⟨?_, by omega, fun x hx => ?_⟩
    · rcases h1 with h | h
      · by_cases z : y ≤ a
        · left; omega
        · right
          have : xs.foldl max (max a y) = y := by omega
          rw [this]
          exact List.mem_cons_self
      · exact .inr (List.mem_cons_of_mem _ h)
    · rcases List.mem_cons.mp hx with e | e
      · rw [e]; omega
      · exact h3 x e
theorem min_ex {xs : List Int} (h : xs ≠ []) : ∃ m, xs.min? = some m ∧ m ∈ xs ∧ ∀ x ∈ xs, m ≤ x := by
  cases xs with
  | nil => exact absurd rfl h
  | cons a r =>
    obtain ⟨h1, h2, h3⟩ := min_fold r a
    refine ⟨_, rfl, ?_, fun x hx => ?_⟩
    · rcases h1 with e | e
      · rw [e]; exact List.mem_cons_self
      · exact List.mem_cons_of_mem _ e
    · rcases List.mem_cons.mp hx with e | e
      · rw [e]; exact h2
      · exact h3 x e
theorem max_ex {xs : List Int} (h : xs ≠ []) : ∃ m, xs.max? = some m ∧ m ∈ xs ∧ ∀ x ∈ xs, x ≤ m := by
  cases xs with
  | nil => exact absurd rfl h
  | cons a r =>
    obtain ⟨h1, h2, h3⟩ := max_fold r a
    refine ⟨_, rfl, ?_, fun x hx => ?_⟩
    · rcases h1 with e | e
      · rw [e]; exact List.mem_cons_self
      · exact List.mem_cons_of_mem _ e
    · rcases List.mem_cons.mp hx with e | e
      · rw [e]; exact h2
      · exact h3 x e
theorem along_all {m k : Nat} {n : Pt} {ps : List Pt} (hp : ∀ p ∈ ps, BdP m p) (hn : BdP k n) (hl : m + k < 1000000) : lcGo (gNm 2) mYes (eF F_along (aCons (eVar 2) (aCons (eVar 1) (aNil)))) (ps.map D2p) [.v (.lst (ps.map D2p)), .v (D2p n), .un] = .ok ((ps.map (dotp · n)).map D.int) :=
  lc_ints ps fun p h => ⟨[.v (.lst (ps.map D2p)), .v (D2p n), .v (D2p p)], rfl, by
    simp only [eF, aCons, aNil, eVar, bind_ok, List.getElem?_cons_zero, List.getElem?_cons_succ]
    exact along_eq (hp p h) hn hl⟩
theorem least_eq {m k : Nat} {n : Pt} {ps : List Pt} (hp : ∀ p ∈ ps, BdP m p) (hn : BdP k n) (hl : m + k < 1000000) (ne : ps ≠ []) (len : ps.length < 10000) : ∃ z, F_least [.lst (ps.map D2p), D2p n] = .ok (.int z) ∧ (∃ p ∈ ps, dotp p n = z) ∧ ∀ p ∈ ps, z ≤ dotp p n := by
  obtain ⟨z, e, h1, h2⟩ := min_ex (xs := ps.map (dotp · n)) (by simpa using ne)
  have lc := along_all hp hn hl
  have im := ints_map (ps.map (dotp · n))
  have hz : ((ps.map D2p).length ≤ sizeLine) = True := eq_true (by rw [List.length_map, sizeLine_eq]; omega)
  have hw : wipeE [2] [.v (.lst (ps.map D2p)), .v (D2p n), .un] = [.v (.lst (ps.map D2p)), .v (D2p n), .un] := rfl
  obtain ⟨p, hp', ep⟩ := List.mem_map.mp h1
  refine ⟨z, ?_, ⟨p, hp', ep⟩, fun p h => h2 _ (List.mem_map_of_mem h)⟩
  unfold F_least b_least
  clear h1 h2 ep
  simp only [runF, sRet, eB, aCons, aNil, eL, aLc, eVar, asL, bind_ok, ofO_some, ofR_ok, hz, if_true, hw, lc, dMinL, im, e, Option.bind_some, Option.map_some, List.map_cons, List.map_nil, List.cons_append, List.nil_append, List.length_cons, List.length_nil, Nat.reduceAdd, Nat.reduceSub, List.replicate_succ, List.replicate_zero, List.getElem?_cons_zero, List.getElem?_cons_succ]
theorem most_eq {m k : Nat} {n : Pt} {ps : List Pt} (hp : ∀ p ∈ ps, BdP m p) (hn : BdP k n) (hl : m + k < 1000000) (ne : ps ≠ []) (len : ps.length < 10000) : ∃ z, F_most [.lst (ps.map D2p), D2p n] = .ok (.int z) ∧ (∃ p ∈ ps, dotp p n = z) ∧ ∀ p ∈ ps, dotp p n ≤ z := by
  obtain ⟨z, e, h1, h2⟩ := max_ex (xs := ps.map (dotp · n)) (by simpa using ne)
  have lc := along_all hp hn hl
  have im := ints_map (ps.map (dotp · n))
  have hz : ((ps.map D2p).length ≤ sizeLine) = True := eq_true (by rw [List.length_map, sizeLine_eq]; omega)
  have hw : wipeE [2] [.v (.lst (ps.map D2p)), .v (D2p n), .un] = [.v (.lst (ps.map D2p)), .v (D2p n), .un] := rfl
  obtain ⟨p, hp', ep⟩ := List.mem_map.mp h1
  refine ⟨z, ?_, ⟨p, hp', ep⟩, fun p h => h2 _ (List.mem_map_of_mem h)⟩
  unfold F_most b_most
  clear h1 h2 ep
  simp only [runF, sRet, eB, aCons, aNil, eL, aLc, eVar, asL, bind_ok, ofO_some, ofR_ok, hz, if_true, hw, lc, dMaxL, im, e, Option.bind_some, Option.map_some, List.map_cons, List.map_nil, List.cons_append, List.nil_append, List.length_cons, List.length_nil, Nat.reduceAdd, Nat.reduceSub, List.replicate_succ, List.replicate_zero, List.getElem?_cons_zero, List.getElem?_cons_succ]
/-- hull of drawn points: a polygon -/
theorem body_spec (cell m g : Int) (hg : 0 < g) (bg : Bd 100 g) : ∃ (ps C : List Pt), F__law_points [.int cell, .int m, .int g] = .ok (.lst (ps.map D2p)) ∧ F_hull [.lst (ps.map D2p)] = .ok (.lst (C.map D2p)) ∧ Poly (srtP ps) C ∧ C.length ≤ 12 ∧ ∀ q ∈ C, BdP 120 q := by
  obtain ⟨ps, e1, l, b, nc, _⟩ := points_spec cell m g hg bg
  have nc2 : ¬ Col (srtP ps) := by
    obtain ⟨x, hx, y, hy, z, hz, e⟩ := nc
    exact fun k => e (k x ((mem_srtP x ps).mpr hx) y ((mem_srtP y ps).mpr hy) z ((mem_srtP z ps).mpr hz))
  have P := hull_poly (srtP_srt ps) nc2
  have hl := hull_len (srtP ps)
  have sl := srtP_len ps
  refine ⟨ps, hullP (srtP ps), e1, ?_, P, by omega, fun q hq => b q ((mem_srtP q ps).mp (P.sub q hq))⟩
  rw [hull_all (by decide : 120 ≤ 400000) ps b (by omega), if_neg (by have := P.len; omega)]
end Law

/-! a corner lies strictly left of every side it is not an end of. -/
namespace Hl
open GD
/-- where c lies on the line through a and b: the measure along it -/
def dtp (a b c : Pt) : Int := (b.1 - a.1) * (c.1 - a.1) + (b.2 - a.2) * (c.2 - a.2)
def sq (a b : Pt) : Int := (b.1 - a.1) * (b.1 - a.1) + (b.2 - a.2) * (b.2 - a.2)
theorem sq_pos {a b : Pt} (h : a ≠ b) : 0 < sq a b := by
  unfold sq
  have s : ∀ x : Int, 0 ≤ x * x := fun x => by
    rcases Int.le_total 0 x with h | h
    · exact Int.mul_nonneg h h
    · have := Int.mul_nonneg (show 0 ≤ -x by omega) (show 0 ≤ -x by omega)
      rwa [Int.neg_mul_neg] at this
  have s0 : ∀ x : Int, x ≠ 0 → 0 < x * x := fun x hx => by
    have := s x
    have : x * x ≠ 0 := Int.mul_ne_zero hx hx
    omega
  have h1 := s (b.1 - a.1)
  have h2 := s (b.2 - a.2)
  by_cases z : b.1 - a.1 = 0
  · have : b.2 - a.2 ≠ 0 := fun z2 => h (Prod.ext (by omega) (by omega))
    have := s0 _ this
    omega
  · have := s0 _ z
    omega
/-- on the line: any turn over c is the share of the turn over b -/
theorem share {a b c x : Pt} (h : bnd a b c = 0) : sq a b * bnd x a c = dtp a b c * bnd x a b := by
  have id : sq a b * bnd x a c - dtp a b c * bnd x a b = bnd a b c * ((a.1 - x.1) * (b.1 - a.1) + (a.2 - x.2) * (b.2 - a.2)) := by unfold sq dtp bnd; grind
  rw [h, Int.zero_mul] at id
  omega
theorem share2 {a b c x : Pt} (h : bnd a b c = 0) : sq a b * bnd b x c = (sq a b - dtp a b c) * bnd a b x := by
  have id : sq a b * bnd b x c - (sq a b - dtp a b c) * bnd a b x = bnd a b c * ((x.1 - b.1) * (b.1 - a.1) + (x.2 - b.2) * (b.2 - a.2)) := by unfold sq dtp bnd; grind
  rw [h, Int.zero_mul] at id
  omega
theorem on1 {a b c : Pt} (h : bnd a b c = 0) : sq a b * (c.1 - a.1) = dtp a b c * (b.1 - a.1) ∧ sq a b * (c.2 - a.2) = dtp a b c * (b.2 - a.2) := by
  have i1 : sq a b * (c.1 - a.1) - dtp a b c * (b.1 - a.1) = - bnd a b c * (b.2 - a.2) := by unfold sq dtp bnd; grind
  have i2 : sq a b * (c.2 - a.2) - dtp a b c * (b.2 - a.2) = bnd a b c * (b.1 - a.1) := by unfold sq dtp bnd; grind
  rw [h] at i1 i2
  constructor
  · have : -(0 : Int) * (b.2 - a.2) = 0 := by simp
    omega
  · have : (0 : Int) * (b.1 - a.1) = 0 := by simp
    omega
theorem mid0 {S t A B : Int} (h1 : 0 < t) (h2 : t < S) {X : Int} (hA : 0 ≤ A) (hB : 0 ≤ B) (e1 : S * A = -t * X) (e2 : S * B = (S - t) * X) : X = 0 := by
  have g1 := Int.mul_nonneg (show 0 ≤ S by omega) hA
  have g2 := Int.mul_nonneg (show 0 ≤ S by omega) hB
  rcases Int.lt_trichotomy X 0 with h | h | h
  · have := Int.mul_neg_of_pos_of_neg (show 0 < S - t by omega) h
    omega
  · exact h
  · have := Int.mul_pos h1 h
    rw [Int.neg_mul] at e1
    omega
theorem nn_of {S t x y : Int} (hS : 0 < S) (hx : 0 ≤ x) (hy : 0 < y) (e : S * x = t * y) : 0 ≤ t := by
  have g := Int.mul_nonneg (show 0 ≤ S by omega) hx
  apply Decidable.byContradiction
  intro n
  have := Int.mul_neg_of_neg_of_pos (show t < 0 by omega) hy
  omega
theorem strict_side {a' a b b' c' c c'' : Pt} (hab : a ≠ b) (e0 : 0 ≤ bnd a b c) (ta : 0 < bnd a' a b) (ea : 0 ≤ bnd a' a c) (tb : 0 < bnd a b b') (eb : 0 ≤ bnd b b' c) (ca : c ≠ a) (cb : c ≠ b)
    (tc : 0 < bnd c' c c'') (e1 : 0 ≤ bnd c' c a) (e2 : 0 ≤ bnd c' c b) (e3 : 0 ≤ bnd c c'' a) (e4 : 0 ≤ bnd c c'' b) : 0 < bnd a b c := by
  apply Decidable.byContradiction
  intro n
  have h : bnd a b c = 0 := by omega
  have hS := sq_pos hab
  have t0 := nn_of hS ea ta (share (x := a') h)
  have t1 := nn_of hS eb tb (share2 (x := b') h)
  obtain ⟨o1, o2⟩ := on1 h
  have t2 : dtp a b c ≠ 0 := fun z => by
    rw [z, Int.zero_mul] at o1 o2
    rcases Int.mul_eq_zero.mp o1 with g | g
    · omega
    · rcases Int.mul_eq_zero.mp o2 with g' | g'
      · omega
      · exact ca (Prod.ext (by omega) (by omega))
  have t3 : dtp a b c ≠ sq a b := fun z => by
    rw [z] at o1 o2
    have g1 := Int.eq_of_mul_eq_mul_left (show sq a b ≠ 0 by omega) o1
    have g2 := Int.eq_of_mul_eq_mul_left (show sq a b ≠ 0 by omega) o2
    exact cb (Prod.ext (by omega) (by omega))
  generalize hs : sq a b = S at *
  generalize ht : dtp a b c = t at *
  have x1 : S * bnd c' c a = -t * ((c.1 - c'.1) * (b.2 - a.2) - (c.2 - c'.2) * (b.1 - a.1)) := by
    have : S * bnd c' c a = (c.2 - c'.2) * (S * (c.1 - a.1)) - (c.1 - c'.1) * (S * (c.2 - a.2)) := by unfold bnd; grind
    rw [this, o1, o2]
    grind
  have x2 : S * bnd c' c b = (S - t) * ((c.1 - c'.1) * (b.2 - a.2) - (c.2 - c'.2) * (b.1 - a.1)) := by
    have : S * bnd c' c b = S * ((c.1 - c'.1) * (b.2 - a.2) - (c.2 - c'.2) * (b.1 - a.1)) + ((c.2 - c'.2) * (S * (c.1 - a.1)) - (c.1 - c'.1) * (S * (c.2 - a.2))) := by unfold bnd; grind
    rw [this, o1, o2]
    grind
  have x3 : S * bnd c c'' a = -t * ((c''.1 - c.1) * (b.2 - a.2) - (c''.2 - c.2) * (b.1 - a.1)) := by
    have : S * bnd c c'' a = (c''.2 - c.2) * (S * (c.1 - a.1)) - (c''.1 - c.1) * (S * (c.2 - a.2)) := by unfold bnd; grind
    rw [this, o1, o2]
    grind
  have x4 : S * bnd c c'' b = (S - t) * ((c''.1 - c.1) * (b.2 - a.2) - (c''.2 - c.2) * (b.1 - a.1)) := by
    have : S * bnd c c'' b = S * ((c''.1 - c.1) * (b.2 - a.2) - (c''.2 - c.2) * (b.1 - a.1)) + ((c''.2 - c.2) * (S * (c.1 - a.1)) - (c''.1 - c.1) * (S * (c.2 - a.2))) := by unfold bnd; grind
    rw [this, o1, o2]
    grind
  have X := mid0 (by omega) (by omega) e1 e2 x1 x2
  have Y := mid0 (by omega) (by omega) e3 e4 x3 x4
  have i1 : (b.1 - a.1) * bnd c' c c'' = (c''.1 - c.1) * ((c.1 - c'.1) * (b.2 - a.2) - (c.2 - c'.2) * (b.1 - a.1)) - (c.1 - c'.1) * ((c''.1 - c.1) * (b.2 - a.2) - (c''.2 - c.2) * (b.1 - a.1)) := by unfold bnd; grind
  have i2 : (b.2 - a.2) * bnd c' c c'' = (c''.2 - c.2) * ((c.1 - c'.1) * (b.2 - a.2) - (c.2 - c'.2) * (b.1 - a.1)) - (c.2 - c'.2) * ((c''.1 - c.1) * (b.2 - a.2) - (c''.2 - c.2) * (b.1 - a.1)) := by unfold bnd; grind
  rw [X, Y, Int.mul_zero, Int.mul_zero, Int.sub_self] at i1 i2
  rcases Int.mul_eq_zero.mp i1 with g | g
  · rcases Int.mul_eq_zero.mp i2 with g' | g'
    · exact hab (Prod.ext (by omega) (by omega))
    · omega
  · omega
end Hl

/-! polygons by index, round and round. -/
namespace Hl
open GD
def cy (C : List Pt) (k : Nat) : Pt := C.getD (k % C.length) (0, 0)
theorem lf_idx {q : Pt} : ∀ {st : List Pt}, Lf q st → ∀ (i : Nat) (a b : Pt), st[i]? = some a → st[i + 1]? = some b → 0 ≤ bnd b a q
  | [], _, i, a, b, h, _ => by simp at h
  | [x], _, 0, a, b, _, h => by simp at h
  | [x], _, i + 1, a, b, h, _ => by simp at h
  | x :: y :: r, h, 0, a, b, h1, h2 => by
    simp at h1 h2
    subst h1 h2
    exact h.1
  | x :: y :: r, h, i + 1, a, b, h1, h2 => lf_idx (st := y :: r) h.2 i a b (by simpa using h1) (by simpa using h2)
theorem cv_idx : ∀ {st : List Pt}, Cv st → ∀ (i : Nat) (a b c : Pt), st[i]? = some a → st[i + 1]? = some b → st[i + 2]? = some c → 0 < bnd c b a
  | [], _, i, a, b, c, h, _, _ => by simp at h
  | [x], _, i, a, b, c, _, h, _ => by simp at h
  | [x, y], _, i, a, b, c, _, _, h => by simp at h
  | x :: y :: z :: r, h, 0, a, b, c, h1, h2, h3 => by
    simp at h1 h2 h3
    subst h1 h2 h3
    exact h.1
  | x :: y :: z :: r, h, i + 1, a, b, c, h1, h2, h3 => cv_idx (st := y :: z :: r) h.2 i a b c (by simpa using h1) (by simpa using h2) (by simpa using h3)
theorem cy_at {C : List Pt} {k : Nat} (h : k < C.length) : C[k]? = some (cy C k) := by
  unfold cy
  rw [Nat.mod_eq_of_lt h, List.getD_eq_getElem?_getD, List.getElem?_eq_getElem h]
  rfl
theorem cy_mod (C : List Pt) (k : Nat) : cy C (k % C.length) = cy C k := by
  unfold cy
  rw [Nat.mod_mod]
theorem cy_add (C : List Pt) (k j : Nat) : cy C (k % C.length + j) = cy C (k + j) := by
  unfold cy
  rw [Nat.mod_add_mod]
theorem cy_mem {C : List Pt} (hn : C ≠ []) (k : Nat) : cy C k ∈ C := by
  have hl : 0 < C.length := List.length_pos_iff.mpr hn
  rw [← cy_mod]
  exact List.mem_of_getElem? (cy_at (Nat.mod_lt k hl))
theorem mem_cy {C : List Pt} {c : Pt} (h : c ∈ C) : ∃ k, k < C.length ∧ cy C k = c := by
  obtain ⟨k, hk, e⟩ := List.getElem_of_mem h
  refine ⟨k, hk, ?_⟩
  have := cy_at hk
  rw [List.getElem?_eq_getElem hk, e] at this
  exact (Option.some.inj this).symm
/-- the corners, told on round the start -/
theorem ext_at {C : List Pt} {j k : Nat} (hj : j ≤ C.length) (hk : k < C.length + j) (hn : 0 < C.length) : (C ++ C.take j)[k]? = some (cy C k) := by
  by_cases h : k < C.length
  · rw [List.getElem?_append_left h]
    exact cy_at h
  · have hh : k - C.length < C.length := by omega
    rw [List.getElem?_append_right (by omega), List.getElem?_take_of_lt (by omega), cy_at hh]
    congr 1
    unfold cy
    rw [← Nat.mod_eq_sub_mod (by omega)]
theorem rev_at {T : List Pt} {k i : Nat} (h : k < T.length) (e : i = T.length - 1 - k) : T.reverse[i]? = T[k]? := by
  rw [List.getElem?_reverse (by omega)]
  congr 1
  omega
theorem poly_edge {ps C : List Pt} (P : Poly ps C) {q : Pt} (hq : q ∈ ps) (k : Nat) : 0 ≤ bnd (cy C k) (cy C (k + 1)) q := by
  have hn : 3 ≤ C.length := P.len
  suffices h : ∀ k, k < C.length → 0 ≤ bnd (cy C k) (cy C (k + 1)) q by
    have := h (k % C.length) (Nat.mod_lt _ (by omega))
    rwa [cy_mod, cy_add] at this
  intro k hk
  have hT : (C ++ C.take 1).length = C.length + 1 := by
    rw [List.length_append, List.length_take]
    omega
  have a1 := ext_at (C := C) (j := 1) (k := k) (by omega) (by omega) (by omega)
  have a2 := ext_at (C := C) (j := 1) (k := k + 1) (by omega) (by omega) (by omega)
  refine lf_idx (P.edge q hq) (C.length - 1 - k) _ _ ?_ ?_
  · rw [rev_at (k := k + 1) (by omega) (by omega)]
    exact a2
  · rw [rev_at (k := k) (by omega) (by omega)]
    exact a1
theorem poly_turn {ps C : List Pt} (P : Poly ps C) (k : Nat) : 0 < bnd (cy C k) (cy C (k + 1)) (cy C (k + 2)) := by
  have hn : 3 ≤ C.length := P.len
  suffices h : ∀ k, k < C.length → 0 < bnd (cy C k) (cy C (k + 1)) (cy C (k + 2)) by
    have := h (k % C.length) (Nat.mod_lt _ (by omega))
    rwa [cy_mod, cy_add, cy_add] at this
  intro k hk
  have hT : (C ++ C.take 2).length = C.length + 2 := by
    rw [List.length_append, List.length_take]
    omega
  have a1 := ext_at (C := C) (j := 2) (k := k) (by omega) (by omega) (by omega)
  have a2 := ext_at (C := C) (j := 2) (k := k + 1) (by omega) (by omega) (by omega)
  have a3 := ext_at (C := C) (j := 2) (k := k + 2) (by omega) (by omega) (by omega)
  refine cv_idx P.turn (C.length - 1 - k) _ _ _ ?_ ?_ ?_
  · rw [rev_at (k := k + 2) (by omega) (by omega)]
    exact a3
  · rw [rev_at (k := k + 1) (by omega) (by omega)]
    exact a2
  · rw [rev_at (k := k) (by omega) (by omega)]
    exact a1
theorem poly_strict {ps C : List Pt} (P : Poly ps C) (k : Nat) {c : Pt} (hc : c ∈ C) (h1 : c ≠ cy C k) (h2 : c ≠ cy C (k + 1)) : 0 < bnd (cy C k) (cy C (k + 1)) c := by
  have hn : 3 ≤ C.length := P.len
  have ne : C ≠ [] := fun z => by rw [z] at hn; simp at hn
  have sub : ∀ j, cy C j ∈ ps := fun j => P.sub _ (cy_mem ne j)
  obtain ⟨m, hm, rfl⟩ := mem_cy hc
  -- the corners ahead of k and of m
  have up : ∀ j i, cy C (j + C.length + i) = cy C (j + i) := fun j i => by
    unfold cy
    rw [show j + C.length + i = j + i + C.length by omega, Nat.add_mod_right]
  have tk := poly_turn P (k + (C.length - 1))
  have ek := poly_edge P (sub m) (k + (C.length - 1))
  have tm := poly_turn P (m + (C.length - 1))
  have em := fun q hq => poly_edge P (q := q) hq (m + (C.length - 1))
  have r1 : ∀ j, cy C (j + (C.length - 1) + 1) = cy C j := fun j => by
    rw [show j + (C.length - 1) + 1 = j + C.length + 0 by omega, up]
    rfl
  have r2 : ∀ j, cy C (j + (C.length - 1) + 2) = cy C (j + 1) := fun j => by
    rw [show j + (C.length - 1) + 2 = j + C.length + 1 by omega, up]
  rw [r1, r2] at tk tm
  rw [r1] at ek
  have hab : cy C k ≠ cy C (k + 1) := fun z => by
    have := poly_turn P k
    rw [z, bnd_self3] at this
    omega
  exact strict_side hab (poly_edge P (sub m) k) tk ek (poly_turn P k) (poly_edge P (sub m) (k + 1)) h1 h2 tm (by have := em _ (sub k); rwa [r1] at this) (by have := em _ (sub (k + 1)); rwa [r1] at this) (poly_edge P (sub k) m) (poly_edge P (sub (k + 1)) m)
end Hl

namespace Law
open PySem PySem.Spec PyProof.Rows L2 GD Hl
local macro_rules | `(tactic| walk_at "gd") => `(tactic| simp (config := {failIfUnchanged := false}) only [runF, sSeq, sIf, sAsg, sRet, sRetN, sExpr, sNil, sRaise, sPar, sTgt, sFor, sForR, sWhile, eVar, eC, e1, e2, mB, aNil, aCons, eF, eB, eTup, aLst, eL, mNot, mAnd, mOr, eNot, eAnd, eOr, gNm, gTp, gsNil, gsCons, asL, asT,
  bind_ok, bind_er, bind_st, ofO_some, asB_bl, ofR_ok, ofR_er, dAdd_int, dSub_int, dNeg_int, dLt_int, dLe_int, dGt_int, dGe_int, dEq_int, dNe_int, dEq_bl, dMod_int, dDiv_lit, dMul_int, Int.reduceLT, Int.reduceEq, Int.cast_ofNat_Int, eq_self, line_le, Nat.reduceLeDiff,  dIs_non, dIsNot_non, dAt_t0, dAt_t1, dAt_t2, dAt_l0, dAt_l1, dAt_l2, dAt_l3, dAt_l4, dAt_l5, dAt_l6, dAt_l7, dAbs, dMax2, dMin2, dLen,
  List.getElem?_cons_zero, List.getElem?_cons_succ, List.set_cons_zero, List.set_cons_succ, List.map_cons, List.map_nil, List.length_cons, List.length_nil, List.cons_append, List.nil_append, List.replicate_succ, List.replicate_zero, Nat.reduceSub, Nat.reduceAdd,
  decide_eq_true_eq, Bool.not_eq_true', if_true, if_false, ite_true, ite_false, Option.bind_some, Option.map_some, Bool.not_true, Bool.not_false, reduceIte, Bool.false_eq_true, Bool.true_eq_false, decide_true, decide_false])
local macro_rules | `(tactic| walk_at "gdh") => `(tactic| simp (config := {failIfUnchanged := false}) only [runF, sSeq, sIf, sAsg, sRet, sRetN, sExpr, sNil, sRaise, sPar, sTgt, sFor, sForR, sWhile, eVar, eC, e1, e2, mB, aNil, aCons, eF, eB, eTup, aLst, eL, mNot, mAnd, mOr, eNot, eAnd, eOr, gNm, gTp, gsNil, gsCons, asL, asT,
  bind_ok, bind_er, bind_st, ofO_some, asB_bl, ofR_ok, ofR_er, dAdd_int, dSub_int, dNeg_int, dLt_int, dLe_int, dGt_int, dGe_int, dEq_int, dNe_int, dEq_bl, dMod_int, dDiv_lit, dMul_int, Int.reduceLT, Int.reduceEq, Int.cast_ofNat_Int, eq_self, line_le, Nat.reduceLeDiff,  dIs_non, dIsNot_non, dAt_t0, dAt_t1, dAt_t2, dAt_l0, dAt_l1, dAt_l2, dAt_l3, dAt_l4, dAt_l5, dAt_l6, dAt_l7, dAbs, dMax2, dMin2, dLen,
  List.getElem?_cons_zero, List.getElem?_cons_succ, List.set_cons_zero, List.set_cons_succ, List.map_cons, List.map_nil, List.length_cons, List.length_nil, List.cons_append, List.nil_append, List.replicate_succ, List.replicate_zero, Nat.reduceSub, Nat.reduceAdd,
  decide_eq_true_eq, Bool.not_eq_true', if_true, if_false, ite_true, ite_false, Option.bind_some, Option.map_some, Bool.not_true, Bool.not_false, reduceIte, Bool.false_eq_true, Bool.true_eq_false, decide_true, decide_false, *])
/-! ### sides, normals -/
def D22 (s : Pt × Pt) : D := .tup [D2p s.1, D2p s.2]
def sidesP (C : List Pt) : List (Pt × Pt) := (List.range C.length).map fun k => (cy C k, cy C (k + 1))
def nrm (a b : Pt) : Pt := (b.2 - a.2, a.1 - b.1)
def normalsP (C : List Pt) : List Pt := (List.range C.length).map fun k => nrm (cy C k) (cy C (k + 1))
theorem lc_gen {α : Type} {g : D → En → Option En} {m : EM} {ρ : En} {h f : α → D} : ∀ is : List α, (∀ i ∈ is, ∃ ρ1, g (h i) ρ = some ρ1 ∧ m ρ1 = .ok (f i)) → lcGo g mYes m (is.map h) ρ = .ok (is.map f)
  | [], _ => rfl
  | i :: is, hh => by
    obtain ⟨ρ1, h1, h2⟩ := hh i List.mem_cons_self
    exact lcc h1 h2 (lc_gen is fun q hq => hh q (List.mem_cons_of_mem _ hq))
theorem runF_ret {n : Nat} {ds : List D} {m : EM} {d : D} (h : m (ds.map Sl.v ++ List.replicate (n - ds.length) Sl.un) = .ok d) : runF n (sRet m) ds = .ok d := by
  unfold runF sRet
  rw [h]
  rfl
theorem dRange2 {i j : Int} (h1 : -(2 ^ 62) ≤ i) (h2 : i < 2 ^ 62) (h3 : -(2 ^ 62) ≤ j) (h4 : j < 2 ^ 62) : dRange [.int i, .int j] = some (rg i 1 (j - i).toNat) := if_pos ⟨h1, h2, h3, h4⟩
theorem at_cy {C : List Pt} {k : Nat} (h : k < C.length) : dAt (.lst (C.map D2p)) (.int (k : Int)) = some (D2p (cy C k)) := dAt_lst (by rw [List.getElem?_map, cy_at h]; rfl)
theorem at_last {C : List Pt} (h : 0 < C.length) : dAt (.lst (C.map D2p)) (.int (-1)) = some (D2p (cy C (C.length - 1))) := by
  show L2.atI (C.map D2p) (-1) = _
  unfold L2.atI
  have e : L2.ixN (C.map D2p).length (-1) = some (C.length - 1) := by
    rw [List.length_map]
    unfold L2.ixN
    rw [if_neg (by decide), if_pos (by omega)]
    congr 1
    omega
  rw [e, Option.bind_some, List.getElem?_map, cy_at (by omega)]
  rfl
theorem cy_wrap (C : List Pt) (h : 0 < C.length) : cy C (C.length - 1 + 1) = cy C 0 := by
  unfold cy
  rw [show C.length - 1 + 1 = C.length by omega, Nat.mod_self, Nat.zero_mod]
theorem sides_split (C : List Pt) (h : 0 < C.length) : sidesP C = ((List.range (C.length - 1)).map fun k => (cy C k, cy C (k + 1))) ++ [(cy C (C.length - 1), cy C 0)] := by
  unfold sidesP
  have : C.length = C.length - 1 + 1 := by omega
  conv => lhs; rw [this]
  rw [List.range_succ, List.map_append, List.map_singleton, cy_wrap C h]
theorem sides_eq {C : List Pt} (h : 0 < C.length) (hl : C.length < 10000) : F_sides [.lst (C.map D2p)] = .ok (.lst ((sidesP C).map D22)) := by
  have hr : dRange [.int 1, .int (C.length : Int)] = some (rg 1 1 (C.length - 1)) := by
    have e : (((C.length : Int)) - 1).toNat = C.length - 1 := by omega
    have : dRange [.int 1, .int (C.length : Int)] = some (rg 1 1 ((C.length : Int) - 1).toNat) := dRange2 (by omega) (by omega) (by omega) (by omega)
    rw [this, e]
  have lr : ((rg 1 1 (C.length - 1)).length ≤ sizeLine) = True := eq_true (by
    unfold rg
    rw [List.length_map, List.length_range, sizeLine_eq]
    omega)
  have lc : lcGo (gNm 1) mYes (eTup (aCons (e2 dAt (eVar 0) (e2 dSub (eVar 1) (eC (.int 1)))) (aCons (e2 dAt (eVar 0) (eVar 1)) (aNil)))) (rg 1 1 (C.length - 1)) [.v (.lst (C.map D2p)), .un] = .ok ((List.range (C.length - 1)).map fun k => D22 (cy C k, cy C (k + 1))) := by
    unfold rg
    refine lc_gen _ fun i hi => ⟨[.v (.lst (C.map D2p)), .v (.int (1 + (i : Nat) * 1))], rfl, ?_⟩
    have hi' := List.mem_range.mp hi
    have e1 : 1 + (i : Int) * 1 = ((i + 1 : Nat) : Int) := by omega
    have e2' : ((i + 1 : Nat) : Int) - 1 = (i : Int) := by omega
    have a1 := at_cy (C := C) (k := i) (by omega)
    have a2 := at_cy (C := C) (k := i + 1) (by omega)
    rw [e1]
    simp only [eTup, aCons, aNil, e2, eVar, eC, bind_ok, ofO_some, dSub_int, e2', a1, a2, two_le, if_true, List.getElem?_cons_zero, List.getElem?_cons_succ]
    rfl
  have hw : wipeE [1] [.v (.lst (C.map D2p)), .un] = [.v (.lst (C.map D2p)), .un] := rfl
  have b1 := at_last h
  have b0 : dAt (.lst (C.map D2p)) (.int 0) = some (D2p (cy C 0)) := at_cy (k := 0) h
  have ll : ((C.map D2p).length : Int) = (C.length : Int) := by rw [List.length_map]
  have one : (1 ≤ sizeLine) = True := eq_true (by rw [sizeLine_eq]; decide)
  have two : (2 ≤ sizeLine) = True := eq_true (by rw [sizeLine_eq]; exact (by decide : 2 ≤ 16777216))
  have ct : catL (.lst ((List.range (C.length - 1)).map fun k => D22 (cy C k, cy C (k + 1)))) (.lst [.tup [D2p (cy C (C.length - 1)), D2p (cy C 0)]]) = some ((sidesP C).map D22) := by
    have le : ((List.range (C.length - 1)).map fun k => D22 (cy C k, cy C (k + 1))).length + [D.tup [D2p (cy C (C.length - 1)), D2p (cy C 0)]].length ≤ sizeLine := by
      rw [List.length_map, List.length_range, sizeLine_eq]
      show C.length - 1 + 1 ≤ _
      omega
    have : catL (.lst ((List.range (C.length - 1)).map fun k => D22 (cy C k, cy C (k + 1)))) (.lst [.tup [D2p (cy C (C.length - 1)), D2p (cy C 0)]]) = some (((List.range (C.length - 1)).map fun k => D22 (cy C k, cy C (k + 1))) ++ [.tup [D2p (cy C (C.length - 1)), D2p (cy C 0)]]) := if_pos le
    rw [this, sides_split C h, List.map_append, List.map_map]
    rfl
  have hA : aLcR [1] (gNm 1) (mYes) (aCons (eC (.int 1)) (aCons (eB dLen (aCons (eVar 0) (aNil))) (aNil))) (eTup (aCons (e2 dAt (eVar 0) (e2 dSub (eVar 1) (eC (.int 1)))) (aCons (e2 dAt (eVar 0) (eVar 1)) (aNil)))) [.v (.lst (C.map D2p)), .un] = .ok ((List.range (C.length - 1)).map fun k => D22 (cy C k, cy C (k + 1))) := by
    have h1 : aCons (eC (.int 1)) (aCons (eB dLen (aCons (eVar 0) (aNil))) (aNil)) [.v (.lst (C.map D2p)), .un] = .ok [.int 1, .int (C.length : Int)] := by
      rw [← ll]
      rfl
    unfold aLcR
    rw [h1, bind_ok, hr, ofO_some, bind_ok, if_pos (of_eq_true lr), hw]
    exact lc
  have hB : aLst (aCons (eTup (aCons (e2 dAt (eVar 0) (eC (.int (-1)))) (aCons (e2 dAt (eVar 0) (eC (.int 0))) (aNil)))) (aNil)) [.v (.lst (C.map D2p)), .un] = .ok [.tup [D2p (cy C (C.length - 1)), D2p (cy C 0)]] := by
    have t0 : eVar 0 [.v (.lst (C.map D2p)), .un] = .ok (.lst (C.map D2p)) := rfl
    have e0 : e2 dAt (eVar 0) (eC (.int (-1))) [.v (.lst (C.map D2p)), .un] = .ok (D2p (cy C (C.length - 1))) := by
      unfold e2
      rw [t0, bind_ok, show eC (.int (-1)) [.v (.lst (C.map D2p)), .un] = .ok (.int (-1)) from rfl, bind_ok, b1, ofO_some]
    have e1 : e2 dAt (eVar 0) (eC (.int 0)) [.v (.lst (C.map D2p)), .un] = .ok (D2p (cy C 0)) := by
      unfold e2
      rw [t0, bind_ok, show eC (.int 0) [.v (.lst (C.map D2p)), .un] = .ok (.int 0) from rfl, bind_ok, b0, ofO_some]
    simp only [aLst, aCons, aNil, eTup, e0, e1, bind_ok, two, if_true, List.length_cons, List.length_nil, Nat.reduceAdd, one]
  have hS : (eL (aCat (eL (aLcR [1] (gNm 1) (mYes) (aCons (eC (.int 1)) (aCons (eB dLen (aCons (eVar 0) (aNil))) (aNil))) (eTup (aCons (e2 dAt (eVar 0) (e2 dSub (eVar 1) (eC (.int 1)))) (aCons (e2 dAt (eVar 0) (eVar 1)) (aNil)))))) (eL (aLst (aCons (eTup (aCons (e2 dAt (eVar 0) (eC (.int (-1)))) (aCons (e2 dAt (eVar 0) (eC (.int 0))) (aNil)))) (aNil)))))) [.v (.lst (C.map D2p)), .un] = .ok (.lst ((sidesP C).map D22)) := by
    simp only [eL, aCat, hA, hB, bind_ok, ct, ofO_some]
  unfold F_sides b_sides
  exact runF_ret (n := 2) (ds := [.lst (C.map D2p)]) hS
theorem normals_gen {x : D} {ds es : List D} (s : F_sides [x] = .ok (.lst ds)) (lz : ds.length ≤ sizeLine) (lc : lcGo (gTp (gsCons (gNm 1) (gsCons (gNm 2) (gsNil)))) mYes (eTup (aCons (e2 dSub (e2 dAt (eVar 2) (eC (.int 1))) (e2 dAt (eVar 1) (eC (.int 1)))) (aCons (e2 dSub (e2 dAt (eVar 1) (eC (.int 0))) (e2 dAt (eVar 2) (eC (.int 0)))) (aNil)))) ds [.v x, .un, .un] = .ok es) : F_normals [x] = .ok (.lst es) := by
  have hE : eF F_sides (aCons (eVar 0) (aNil)) [.v x, .un, .un] = .ok (.lst ds) := by
    simp only [eF, aCons, aNil, eVar, bind_ok, List.getElem?_cons_zero]
    exact s
  have hw : wipeE [1, 2] [.v x, .un, .un] = [.v x, .un, .un] := rfl
  have lz' : (ds.length ≤ sizeLine) = True := eq_true lz
  have hN : eL (aLc asL [1, 2] (gTp (gsCons (gNm 1) (gsCons (gNm 2) (gsNil)))) (mYes) (eF F_sides (aCons (eVar 0) (aNil))) (eTup (aCons (e2 dSub (e2 dAt (eVar 2) (eC (.int 1))) (e2 dAt (eVar 1) (eC (.int 1)))) (aCons (e2 dSub (e2 dAt (eVar 1) (eC (.int 0))) (e2 dAt (eVar 2) (eC (.int 0)))) (aNil))))) [.v x, .un, .un] = .ok (.lst es) := by
    simp only [eL, aLc, hE, bind_ok, asL, ofO_some, lz', if_true, hw, lc]
  unfold F_normals b_normals
  exact runF_ret (n := 3) (ds := [x]) hN
theorem normals_eq {C : List Pt} (h : 0 < C.length) (hl : C.length < 10000) : F_normals [.lst (C.map D2p)] = .ok (.lst ((normalsP C).map D2p)) := by
  have s := sides_eq h hl
  have lz : (((sidesP C).map D22).length ≤ sizeLine) = True := eq_true (by
    unfold sidesP
    rw [List.length_map, List.length_map, List.length_range, sizeLine_eq]
    omega)
  have lc : lcGo (gTp (gsCons (gNm 1) (gsCons (gNm 2) (gsNil)))) mYes (eTup (aCons (e2 dSub (e2 dAt (eVar 2) (eC (.int 1))) (e2 dAt (eVar 1) (eC (.int 1)))) (aCons (e2 dSub (e2 dAt (eVar 1) (eC (.int 0))) (e2 dAt (eVar 2) (eC (.int 0)))) (aNil)))) ((sidesP C).map D22) [.v (.lst (C.map D2p)), .un, .un] = .ok ((normalsP C).map D2p) := by
    have e : (normalsP C).map D2p = (sidesP C).map fun s => D2p (nrm s.1 s.2) := by
      unfold normalsP sidesP
      rw [List.map_map, List.map_map]
      rfl
    rw [e]
    refine lc_gen _ fun s _ => ⟨[.v (.lst (C.map D2p)), .v (D2p s.1), .v (D2p s.2)], rfl, ?_⟩
    have p0 := dAt_p0
    have p1 := dAt_p1
    simp only [eTup, aCons, aNil, e2, eVar, eC, bind_ok, ofO_some, dSub_int, p0, p1, two_le, if_true, List.getElem?_cons_zero, List.getElem?_cons_succ]
    rfl
  exact normals_gen s (of_eq_true lz) lc
end Law

namespace Law
open PySem PySem.Spec PyProof.Rows L2 GD Hl
local macro_rules | `(tactic| walk_at "gd") => `(tactic| simp (config := {failIfUnchanged := false}) only [runF, sSeq, sIf, sAsg, sRet, sRetN, sExpr, sNil, sRaise, sPar, sTgt, sFor, sForR, sWhile, eVar, eC, e1, e2, mB, aNil, aCons, eF, eB, eTup, aLst, eL, mNot, mAnd, mOr, eNot, eAnd, eOr, gNm, gTp, gsNil, gsCons, asL, asT,
  bind_ok, bind_er, bind_st, ofO_some, asB_bl, ofR_ok, ofR_er, dAdd_int, dSub_int, dNeg_int, dLt_int, dLe_int, dGt_int, dGe_int, dEq_int, dNe_int, dEq_bl, dMod_int, dDiv_lit, dMul_int, Int.reduceLT, Int.reduceEq, Int.cast_ofNat_Int, eq_self, line_le, Nat.reduceLeDiff,  dIs_non, dIsNot_non, dAt_t0, dAt_t1, dAt_t2, dAt_l0, dAt_l1, dAt_l2, dAt_l3, dAt_l4, dAt_l5, dAt_l6, dAt_l7, dAbs, dMax2, dMin2, dLen,
  List.getElem?_cons_zero, List.getElem?_cons_succ, List.set_cons_zero, List.set_cons_succ, List.map_cons, List.map_nil, List.length_cons, List.length_nil, List.cons_append, List.nil_append, List.replicate_succ, List.replicate_zero, Nat.reduceSub, Nat.reduceAdd,
  decide_eq_true_eq, Bool.not_eq_true', if_true, if_false, ite_true, ite_false, Option.bind_some, Option.map_some, Bool.not_true, Bool.not_false, reduceIte, Bool.false_eq_true, Bool.true_eq_false, decide_true, decide_false])
local macro_rules | `(tactic| walk_at "gdh") => `(tactic| simp (config := {failIfUnchanged := false}) only [runF, sSeq, sIf, sAsg, sRet, sRetN, sExpr, sNil, sRaise, sPar, sTgt, sFor, sForR, sWhile, eVar, eC, e1, e2, mB, aNil, aCons, eF, eB, eTup, aLst, eL, mNot, mAnd, mOr, eNot, eAnd, eOr, gNm, gTp, gsNil, gsCons, asL, asT,
  bind_ok, bind_er, bind_st, ofO_some, asB_bl, ofR_ok, ofR_er, dAdd_int, dSub_int, dNeg_int, dLt_int, dLe_int, dGt_int, dGe_int, dEq_int, dNe_int, dEq_bl, dMod_int, dDiv_lit, dMul_int, Int.reduceLT, Int.reduceEq, Int.cast_ofNat_Int, eq_self, line_le, Nat.reduceLeDiff,  dIs_non, dIsNot_non, dAt_t0, dAt_t1, dAt_t2, dAt_l0, dAt_l1, dAt_l2, dAt_l3, dAt_l4, dAt_l5, dAt_l6, dAt_l7, dAbs, dMax2, dMin2, dLen,
  List.getElem?_cons_zero, List.getElem?_cons_succ, List.set_cons_zero, List.set_cons_succ, List.map_cons, List.map_nil, List.length_cons, List.length_nil, List.cons_append, List.nil_append, List.replicate_succ, List.replicate_zero, Nat.reduceSub, Nat.reduceAdd,
  decide_eq_true_eq, Bool.not_eq_true', if_true, if_false, ite_true, ite_false, Option.bind_some, Option.map_some, Bool.not_true, Bool.not_false, reduceIte, Bool.false_eq_true, Bool.true_eq_false, decide_true, decide_false, *])
/-! ### k08: a normal points out -/
theorem far_eq {m k : Nat} {p n : Pt} (hp : BdP m p) (hn : BdP k n) (hl : m + k < 1000000) : F__law_far [D2p p, D2p n] = .ok (.int (dotp p n)) := by
  have m1 : mulOk p.1 n.1 := mok hp.1 hn.1 hl
  have m2 : mulOk p.2 n.2 := mok hp.2 hn.2 hl
  have p0 := dAt_p0
  have p1 := dAt_p1
  clear hp hn
  unfold F__law_far b__law_far
  walk_at "gdh"
  rfl
theorem dot_nrm (a b c : Pt) : dotp c (nrm a b) = dotp a (nrm a b) - bnd a b c := by unfold dotp nrm bnd; grind
theorem dot_nrm2 (a b : Pt) : dotp b (nrm a b) = dotp a (nrm a b) := by rw [dot_nrm, bnd_self2]; omega
theorem bd_nrm {m : Nat} {a b : Pt} (ha : BdP m a) (hb : BdP m b) : BdP (m + 1) (nrm a b) := ⟨(hb.2.sub ha.2).mono (by omega), (ha.1.sub hb.1).mono (by omega)⟩
theorem out_turn {m : Nat} (hm : m ≤ 100000) {a b c : Pt} (x : Sl) (ha : BdP m a) (hb : BdP m b) (hc : BdP m c) (h : c ≠ a → c ≠ b → 0 < bnd a b c) :
    l1__law_points_out [.v (D2p (nrm a b)), .v (D2p a), .v (D2p b), x, .v (D2p c)] = .nx [.v (D2p (nrm a b)), .v (D2p a), .v (D2p b), x, .v (D2p c)] := by
  have hn := bd_nrm ha hb
  have f1 := far_eq hc hn (by omega)
  have f2 := far_eq ha hn (by omega)
  have n1 := dNe_pt c a
  have n2 := dNe_pt c b
  have dn := dot_nrm a b c
  clear hn ha hb hc
  unfold l1__law_points_out
  by_cases e1 : c = a
  · have t1 : decide (c = a) = true := decide_eq_true e1
    simp only [sIf, mAnd, mB, e2, eVar, bind_ok, ofO_some, ofR_ok, n1, t1, Bool.not_true, asB_bl, Bool.false_eq_true, if_false, sNil, List.getElem?_cons_zero, List.getElem?_cons_succ]
  · have t1 : decide (c = a) = false := decide_eq_false e1
    by_cases e2' : c = b
    · have t2 : decide (c = b) = true := decide_eq_true e2'
      simp only [sIf, mAnd, mB, e2, eVar, bind_ok, ofO_some, ofR_ok, n1, n2, t1, t2, Bool.not_false, Bool.not_true, asB_bl, Bool.false_eq_true, if_true, if_false, sNil, List.getElem?_cons_zero, List.getElem?_cons_succ]
    · have t2 : decide (c = b) = false := decide_eq_false e2'
      have g := h e1 e2'
      have t3 : (dotp a (nrm a b) ≤ dotp c (nrm a b)) = False := eq_false (by omega)
      simp only [sIf, mAnd, mB, e2, eF, aCons, aNil, eVar, bind_ok, ofO_some, ofR_ok, n1, n2, t1, t2, f1, f2, dGe_int, t3, decide_false, Bool.not_false, asB_bl, Bool.false_eq_true, if_true, if_false, sNil, List.getElem?_cons_zero, List.getElem?_cons_succ]
theorem out_loop {m : Nat} (hm : m ≤ 100000) {a b : Pt} (x : Sl) (ha : BdP m a) (hb : BdP m b) : ∀ (cs : List Pt) (y : Sl), (∀ c ∈ cs, BdP m c ∧ (c ≠ a → c ≠ b → 0 < bnd a b c)) →
    ∃ y', loop (gNm 4) l1__law_points_out (cs.map D2p) [.v (D2p (nrm a b)), .v (D2p a), .v (D2p b), x, y] = .nx [.v (D2p (nrm a b)), .v (D2p a), .v (D2p b), x, y']
  | [], y, _ => ⟨y, rfl⟩
  | c :: cs, y, h => by
    obtain ⟨hc, hs⟩ := h c List.mem_cons_self
    obtain ⟨y', e⟩ := out_loop hm x ha hb cs (.v (D2p c)) (fun d hd => h d (List.mem_cons_of_mem _ hd))
    refine ⟨y', ?_⟩
    rw [List.map_cons, loop_cons rfl (out_turn hm x ha hb hc hs), e]
theorem out_gen {m : Nat} (hm : m ≤ 100000) {a b : Pt} {cs : List Pt} {x : D} (hx : asL x = some (cs.map D2p)) (ha : BdP m a) (hb : BdP m b) (h : ∀ c ∈ cs, BdP m c ∧ (c ≠ a → c ≠ b → 0 < bnd a b c)) : F__law_points_out [D2p (nrm a b), D2p a, D2p b, x] = .ok (.bl true) := by
  have hn := bd_nrm ha hb
  have f1 := far_eq ha hn (by omega)
  have f2 := far_eq hb hn (by omega)
  have dn := dot_nrm2 a b
  obtain ⟨y', e⟩ := out_loop hm (.v x) ha hb cs .un h
  have p0 := dAt_p0
  have p1 := dAt_p1
  have w1 := whole_int (nrm a b).1
  have w2 := whole_int (nrm a b).2
  have it : dIsi [D2p (nrm a b), .ty "tuple"] = some (.bl true) := isi_int _ _ _ _ rfl kb_tuple_tuple
  have ln : dLen [D2p (nrm a b)] = some (.int 2) := rfl
  have ab : ∀ i : Int, dAbs [.int i] = some (.int (i.natAbs : Int)) := fun _ => rfl
  have g1 : (((nrm a b).1.natAbs : Int) = ((b.2 - a.2).natAbs : Int)) = True := eq_true rfl
  have g2 : (((nrm a b).2.natAbs : Int) = ((b.1 - a.1).natAbs : Int)) = True := eq_true (by show ((a.1 - b.1).natAbs : Int) = _; omega)
  have f2' := f2
  rw [dn] at f2'
  clear hn ha hb h f2 dn
  unfold F__law_points_out b__law_points_out
  simp only [runF, sSeq, sIf, sNil, sFor, sRet, mOr, mNot, mB, e2, eF, eB, aCons, aNil, eVar, eC, bind_ok, ofO_some, ofR_ok, asB_bl, it, ln, p0, p1, w1, w2, ab, dNe_int, dSub_int, g1, g2, f1, f2', decide_true, Bool.not_true, Bool.false_eq_true, if_false, if_true, hx, e,
    List.map_cons, List.map_nil, List.cons_append, List.nil_append, List.length_cons, List.length_nil, Nat.reduceAdd, Nat.reduceSub, List.replicate_succ, List.replicate_zero, List.getElem?_cons_zero, List.getElem?_cons_succ]
end Law

namespace Law
open PySem PySem.Spec PyProof.Rows L2 GD Hl
/-! ### weakest preconditions of mirrors -/
def WO (o : Out) (N : En → Prop) (T : D → Prop) (X : Str → Prop) : Prop := match o with
  | .nx ρ => N ρ
  | .rt d => T d
  | .er x _ => X x
  | _ => False
section
variable {N : En → Prop} {T : D → Prop} {X : Str → Prop} {ρ : En} {a b body m : SM} {n : Nat} {ds : List D} {d e : D} {me ma mb mc : EM} {mr : AM} {t u : TM}
theorem fn_ok (h : WO (m (ds.map Sl.v ++ List.replicate (n - ds.length) Sl.un)) (fun _ => D.non = d) (fun e => e = d) (fun _ => False)) : runF n m ds = .ok d := by
  unfold runF
  cases h' : m (ds.map Sl.v ++ List.replicate (n - ds.length) Sl.un) with
  | nx ρ => rw [h'] at h; exact congrArg R.ok h
  | rt d => rw [h'] at h; exact congrArg R.ok h
  | er x ρ => rw [h'] at h; exact h.elim
  | bk ρ => rw [h'] at h; exact h.elim
  | ct ρ => rw [h'] at h; exact h.elim
  | st => rw [h'] at h; exact h.elim
theorem fn_ex {P : D → Prop} (h : WO (m (ds.map Sl.v ++ List.replicate (n - ds.length) Sl.un)) (fun _ => P .non) P (fun _ => False)) : ∃ d, runF n m ds = .ok d ∧ P d := by
  unfold runF
  cases h' : m (ds.map Sl.v ++ List.replicate (n - ds.length) Sl.un) with
  | nx ρ => rw [h'] at h; exact ⟨_, rfl, h⟩
  | rt d => rw [h'] at h; exact ⟨_, rfl, h⟩
  | er x ρ => rw [h'] at h; exact h.elim
  | bk ρ => rw [h'] at h; exact h.elim
  | ct ρ => rw [h'] at h; exact h.elim
  | st => rw [h'] at h; exact h.elim
theorem fn_er {x : Str} (h : WO (m (ds.map Sl.v ++ List.replicate (n - ds.length) Sl.un)) (fun _ => False) (fun _ => False) (fun y => y = x)) : runF n m ds = .er x := by
  unfold runF
  cases h' : m (ds.map Sl.v ++ List.replicate (n - ds.length) Sl.un) with
  | nx ρ => rw [h'] at h; exact h.elim
  | rt d => rw [h'] at h; exact h.elim
  | er y ρ => rw [h'] at h; exact congrArg R.er h
  | bk ρ => rw [h'] at h; exact h.elim
  | ct ρ => rw [h'] at h; exact h.elim
  | st => rw [h'] at h; exact h.elim
theorem WO.mono {o : Out} {N' : En → Prop} {T' : D → Prop} {X' : Str → Prop} (h : WO o N T X) (hn : ∀ ρ, N ρ → N' ρ) (ht : ∀ d, T d → T' d) (hx : ∀ x, X x → X' x) : WO o N' T' X' := by
  cases o with
  | nx ρ => exact hn _ h
  | rt d => exact ht _ h
  | er x ρ => exact hx _ h
  | bk ρ => exact h.elim
  | ct ρ => exact h.elim
  | st => exact h.elim
theorem wo_seq (h : WO (a ρ) (fun ρ' => WO (b ρ') N T X) T X) : WO (sSeq a b ρ) N T X := by
  unfold sSeq
  cases h' : a ρ with
  | nx ρ' => rw [h'] at h; exact h
  | rt d => rw [h'] at h; exact h
  | er y ρ => rw [h'] at h; exact h
  | bk ρ => rw [h'] at h; exact h.elim
  | ct ρ => rw [h'] at h; exact h.elim
  | st => rw [h'] at h; exact h.elim
/-- a join: what holds behind the first statement -/
theorem wo_cut (I : En → Prop) {o : Out} (h : WO o I T X) (k : ∀ ρ', I ρ' → N ρ') : WO o N T X := h.mono k (fun _ h => h) (fun _ h => h)
theorem wo_asg {i : Nat} (h : me ρ = .ok d) (k : N (ρ.set i (.v d))) : WO (sAsg i me ρ) N T X := by
  unfold sAsg; rw [h]; exact k
theorem wo_asgL {i : Nat} (h : mr ρ = .ok ds) (k : N (ρ.set i (.v (.lst ds)))) : WO (sAsgL i mr ρ) N T X := by
  unfold sAsgL; rw [h]; exact k
theorem wo_own {i : Nat} (h : mr ρ = .ok ds) (k : N (ρ.set i (.l ds))) : WO (sOwn i mr ρ) N T X := by
  unfold sOwn; rw [h]; exact k
theorem wo_tgt {g : D → En → Option En} {ρ' : En} (h : me ρ = .ok d) (hg : g d ρ = some ρ') (k : N ρ') : WO (sTgt g me ρ) N T X := by
  unfold sTgt; rw [h, ofR_ok, hg]; exact k
theorem wo_par {i j : Nat} (h1 : ma ρ = .ok d) (h2 : mb ρ = .ok e) (k : N ((ρ.set i (.v d)).set j (.v e))) : WO (sPar i j ma mb ρ) N T X := by
  unfold sPar; rw [h1, bind_ok, h2, bind_ok, ofR_ok]; exact k
theorem wo_nil (k : N ρ) : WO (sNil ρ) N T X := k
theorem wo_ret (h : me ρ = .ok d) (k : T d) : WO (sRet me ρ) N T X := by
  unfold sRet; rw [h]; exact k
theorem wo_raise {x : Str} (k : X x) : WO (sRaise x ρ) N T X := k
theorem wo_frz {i : Nat} (k : WO (a (frz i ρ)) N T X) : WO (sFrz i a ρ) N T X := k
theorem wo_if {c : Bool} (h : t ρ = .ok c) (k1 : c = true → WO (a ρ) N T X) (k2 : c = false → WO (b ρ) N T X) : WO (sIf t a b ρ) N T X := by
  unfold sIf
  rw [h, ofR_ok]
  cases c with
  | true => exact k1 rfl
  | false => exact k2 rfl
theorem wo_ifx {c : Bool} {P1 P2 : Prop} (h : t ρ = .ok c) (e1 : (c = true) = P1) (e2 : (c = false) = P2) (k1 : P1 → WO (a ρ) N T X) (k2 : P2 → WO (b ρ) N T X) : WO (sIf t a b ρ) N T X :=
  wo_if h (fun z => k1 (e1 ▸ z)) (fun z => k2 (e2 ▸ z))
theorem wo_ift {c : Bool} (h : t ρ = .ok c) (e : c = true) (k : WO (a ρ) N T X) : WO (sIf t a b ρ) N T X := wo_if h (fun _ => k) (fun z => by rw [e] at z; cases z)
theorem wo_iff {c : Bool} (h : t ρ = .ok c) (e : c = false) (k : WO (b ρ) N T X) : WO (sIf t a b ρ) N T X := wo_if h (fun z => by rw [e] at z; cases z) (fun _ => k)
theorem wo_app {i : Nat} (h0 : ρ[i]? = some (.l ds)) (h : me ρ = .ok d) (hl : ds.length < 16777216) (k : N (ρ.set i (.l (ds ++ [d])))) : WO (sApp i me ρ) N T X := by
  unfold sApp
  rw [h0]
  show WO (ofR (me ρ) ρ fun d => if ds.length < sizeLine then Out.nx (ρ.set i (.l (ds ++ [d]))) else .st) N T X
  rw [h, ofR_ok, if_pos (by rw [sizeLine_eq]; exact hl)]
  exact k
theorem wo_loop {α : Type} {h : α → D} (l : List α) {g : D → En → Option En} (I : List α → En → Prop)
    (step : ∀ x r ρ, x ∈ l → I (x :: r) ρ → ∃ ρ1, g (h x) ρ = some ρ1 ∧ WO (body ρ1) (I r) T X) : ∀ r ρ, (∀ x ∈ r, x ∈ l) → I r ρ → WO (loop g body (r.map h) ρ) (I []) T X
  | [], ρ, _, i => i
  | x :: r, ρ, sub, i => by
    obtain ⟨ρ1, h1, h2⟩ := step x r ρ (sub x List.mem_cons_self) i
    show WO (match g (h x) ρ with
      | none => Out.st
      | some ρ' => match body ρ' with
        | .nx ρ2 => loop g body (r.map h) ρ2
        | .ct ρ2 => loop g body (r.map h) ρ2
        | .bk ρ2 => .nx ρ2
        | o => o) _ _ _
    rw [h1]
    show WO (match body ρ1 with
        | .nx ρ2 => loop g body (r.map h) ρ2
        | .ct ρ2 => loop g body (r.map h) ρ2
        | .bk ρ2 => .nx ρ2
        | o => o) _ _ _
    cases h' : body ρ1 with
    | nx ρ2 => rw [h'] at h2; exact wo_loop l I step r ρ2 (fun y hy => sub y (List.mem_cons_of_mem _ hy)) h2
    | rt d => rw [h'] at h2; exact h2
    | er y ρ => rw [h'] at h2; exact h2
    | bk ρ => rw [h'] at h2; exact h2.elim
    | ct ρ => rw [h'] at h2; exact h2.elim
    | st => rw [h'] at h2; exact h2.elim
/-- a loop over a list: what holds ahead of the rest -/
theorem wo_for {α : Type} {h : α → D} {l : List α} {g : D → En → Option En} {f : D → Option (List D)} (I : List α → En → Prop) (hm : me ρ = .ok d) (hf : f d = some (l.map h)) (i0 : I l ρ)
    (step : ∀ x r ρ, x ∈ l → I (x :: r) ρ → ∃ ρ1, g (h x) ρ = some ρ1 ∧ WO (body ρ1) (I r) T X) (fin : ∀ ρ, I [] ρ → N ρ) : WO (sFor g f me body ρ) N T X := by
  unfold sFor
  rw [hm, bind_ok, hf, ofO_some, ofR_ok]
  exact (wo_loop l I step l ρ (fun _ h => h) i0).mono fin (fun _ h => h) (fun _ h => h)
/-- a loop over a range: what holds ahead of turn j -/
theorem wo_range {as : List D} {a0 c : Int} {k : Nat} {g : D → En → Option En} (I : Nat → En → Prop) (hm : mr ρ = .ok as) (hr : dRange as = some (rg a0 c k)) (i0 : I 0 ρ)
    (step : ∀ j ρ, j < k → I j ρ → ∃ ρ1, g (.int (a0 + (j : Nat) * c)) ρ = some ρ1 ∧ WO (body ρ1) (I (j + 1)) T X) (fin : ∀ ρ, I k ρ → N ρ) : WO (sForR g mr body ρ) N T X := by
  unfold sForR
  rw [hm, bind_ok, hr, ofO_some, ofR_ok]
  have key : ∀ q j ρ, j + q = k → I j ρ → WO (loop g body ((List.range' j q).map fun i => D.int (a0 + (i : Nat) * c)) ρ) (I k) T X := by
    intro q
    induction q with
    | zero => intro j ρ e i; rw [← e]; exact i
    | succ q ih =>
      intro j ρ e i
      obtain ⟨ρ1, h1, h2⟩ := step j ρ (by omega) i
      rw [List.range'_succ, List.map_cons]
      show WO (match g (D.int (a0 + (j : Nat) * c)) ρ with
      | none => Out.st
      | some ρ' => match body ρ' with
        | .nx ρ2 => loop g body ((List.range' (j + 1) q).map fun i => D.int (a0 + (i : Nat) * c)) ρ2
        | .ct ρ2 => loop g body ((List.range' (j + 1) q).map fun i => D.int (a0 + (i : Nat) * c)) ρ2
        | .bk ρ2 => .nx ρ2
        | o => o) _ _ _
      rw [h1]
      show WO (match body ρ1 with
        | .nx ρ2 => loop g body ((List.range' (j + 1) q).map fun i => D.int (a0 + (i : Nat) * c)) ρ2
        | .ct ρ2 => loop g body ((List.range' (j + 1) q).map fun i => D.int (a0 + (i : Nat) * c)) ρ2
        | .bk ρ2 => .nx ρ2
        | o => o) _ _ _
      cases h' : body ρ1 with
      | nx ρ2 => rw [h'] at h2; exact ih (j + 1) ρ2 (by omega) h2
      | rt d => rw [h'] at h2; exact h2
      | er y ρ => rw [h'] at h2; exact h2
      | bk ρ => rw [h'] at h2; exact h2.elim
      | ct ρ => rw [h'] at h2; exact h2.elim
      | st => rw [h'] at h2; exact h2.elim
  unfold rg
  rw [List.range_eq_range']
  exact (key k 0 ρ (by omega) i0).mono fin (fun _ h => h) (fun _ h => h)
/-! ### expressions -/
theorem ev_c (d : D) : eC d ρ = .ok d := rfl
theorem ev_var {i : Nat} (h : ρ[i]? = some (.v d)) : eVar i ρ = .ok d := by unfold eVar; rw [h]
theorem ev_e1 {g : D → Option D} (h1 : ma ρ = .ok d) (h2 : g d = some e) : e1 g ma ρ = .ok e := by unfold e1; rw [h1, bind_ok, h2]; rfl
theorem ev_e2 {g : D → D → Option D} {x y z : D} (h1 : ma ρ = .ok x) (h2 : mb ρ = .ok y) (h3 : g x y = some z) : e2 g ma mb ρ = .ok z := by unfold e2; rw [h1, bind_ok, h2, bind_ok, h3]; rfl
theorem ev_nil : aNil ρ = .ok [] := rfl
theorem ev_cons {x : D} {xs : List D} (h1 : ma ρ = .ok x) (h2 : mr ρ = .ok xs) : aCons ma mr ρ = .ok (x :: xs) := by unfold aCons; rw [h1, bind_ok, h2]; rfl
theorem ev_F {F : List D → R D} (h1 : mr ρ = .ok ds) (h2 : F ds = .ok d) : eF F mr ρ = .ok d := by unfold eF; rw [h1, bind_ok, h2]
theorem ev_B {g : List D → Option D} (h1 : mr ρ = .ok ds) (h2 : g ds = some d) : eB g mr ρ = .ok d := by unfold eB; rw [h1, bind_ok, h2]; rfl
theorem ev_mB {c : Bool} (h : ma ρ = .ok (.bl c)) : mB ma ρ = .ok c := by unfold mB; rw [h]; rfl
theorem ev_tup (h : mr ρ = .ok ds) (hl : ds.length ≤ 16777216) : eTup mr ρ = .ok (.tup ds) := by unfold eTup; rw [h, bind_ok, if_pos (by rw [sizeLine_eq]; exact hl)]
theorem ev_tup2 {x y : Int} (h1 : ma ρ = .ok (.int x)) (h2 : mb ρ = .ok (.int y)) : eTup (aCons ma (aCons mb aNil)) ρ = .ok (D2p (x, y)) := ev_tup (ev_cons h1 (ev_cons h2 ev_nil)) (by decide : 2 ≤ 16777216)
theorem ev_tup3 {x y z : Int} (h1 : ma ρ = .ok (.int x)) (h2 : mb ρ = .ok (.int y)) (h3 : mc ρ = .ok (.int z)) : eTup (aCons ma (aCons mb (aCons mc aNil))) ρ = .ok (D3 x y z) := ev_tup (ev_cons h1 (ev_cons h2 (ev_cons h3 ev_nil))) (by decide : 3 ≤ 16777216)
theorem ev_lst (h : mr ρ = .ok ds) (hl : ds.length ≤ 16777216) : aLst mr ρ = .ok ds := by unfold aLst; rw [h, bind_ok, if_pos (by rw [sizeLine_eq]; exact hl)]
theorem ev_L (h : mr ρ = .ok ds) : eL mr ρ = .ok (.lst ds) := by unfold eL; rw [h]; rfl
theorem ev_copy {g : List D → Option (List D)} {es : List D} (h : mr ρ = .ok ds) (h2 : g ds = some es) : aB g mr ρ = .ok es := by unfold aB; rw [h, bind_ok, h2]; rfl
theorem ev_not {c : Bool} (h : t ρ = .ok c) : mNot t ρ = .ok (!c) := by unfold mNot; rw [h]; rfl
theorem ev_and0 (h : t ρ = .ok false) : mAnd t u ρ = .ok false := by unfold mAnd; rw [h]; rfl
theorem ev_or1 (h : t ρ = .ok true) : mOr t u ρ = .ok true := by unfold mOr; rw [h]; rfl
theorem ev_and {b c : Bool} (h : t ρ = .ok b) (k : b = true → u ρ = .ok c) : mAnd t u ρ = .ok (b && c) := by
  unfold mAnd; rw [h, bind_ok]
  cases b with
  | true => exact k rfl
  | false => rfl
theorem ev_or {b c : Bool} (h : t ρ = .ok b) (k : b = false → u ρ = .ok c) : mOr t u ρ = .ok (b || c) := by
  unfold mOr; rw [h, bind_ok]
  cases b with
  | true => rfl
  | false => exact k rfl
theorem ev_eNot {c : Bool} (h : ma ρ = .ok (.bl c)) : eNot ma ρ = .ok (.bl (!c)) := by unfold eNot; rw [ev_mB h]; rfl
theorem ev_eAnd0 (h : ma ρ = .ok (.bl false)) : eAnd ma mb ρ = .ok (.bl false) := by unfold eAnd; rw [ev_mB h, bind_ok]; rfl
theorem ev_eOr1 (h : ma ρ = .ok (.bl true)) : eOr ma mb ρ = .ok (.bl true) := by unfold eOr; rw [ev_mB h, bind_ok]; rfl
theorem ev_eAnd {b c : Bool} (h : ma ρ = .ok (.bl b)) (k : b = true → mb ρ = .ok (.bl c)) : eAnd ma mb ρ = .ok (.bl (b && c)) := by
  unfold eAnd; rw [ev_mB h, bind_ok]
  cases b with
  | true => exact k rfl
  | false => rfl
theorem ev_eOr {b c : Bool} (h : ma ρ = .ok (.bl b)) (k : b = false → mb ρ = .ok (.bl c)) : eOr ma mb ρ = .ok (.bl (b || c)) := by
  unfold eOr; rw [ev_mB h, bind_ok]
  cases b with
  | true => rfl
  | false => exact k rfl
theorem ev_ch {g g' : D → D → Option D} {x y w : D} {b c : Bool} (h1 : ma ρ = .ok x) (h2 : mb ρ = .ok y) (h3 : g x y = some (.bl b)) (h4 : b = true → mc ρ = .ok w) (h5 : b = true → g' y w = some (.bl c)) : eCh g g' ma mb mc ρ = .ok (.bl (b && c)) := by
  unfold eCh; rw [h1, bind_ok, h2, bind_ok, h3, ofO_some, bind_ok, asB_bl, ofO_some, bind_ok]
  cases b with
  | true => rw [if_pos rfl, h4 rfl, bind_ok, h5 rfl]; rfl
  | false => rfl
theorem ev_lc {α : Type} {h : α → D} {f' : α → D} {l : List α} {f : D → Option (List D)} {vs : List Nat} {g : D → En → Option En} (h1 : ma ρ = .ok d) (h2 : f d = some (l.map h)) (hl : l.length ≤ 16777216)
    (h3 : ∀ x, x ∈ l → ∃ ρ1, g (h x) (wipeE vs ρ) = some ρ1 ∧ mb ρ1 = .ok (f' x)) : aLc f vs g mYes ma mb ρ = .ok (l.map f') := by
  unfold aLc
  rw [h1, bind_ok, h2, ofO_some, bind_ok, if_pos (by rw [List.length_map, sizeLine_eq]; exact hl)]
  exact lc_gen l h3
theorem ev_lcR {as : List D} {a0 c : Int} {k : Nat} {f' : Nat → D} {vs : List Nat} {g : D → En → Option En} (h1 : mr ρ = .ok as) (h2 : dRange as = some (rg a0 c k)) (hl : k ≤ 16777216)
    (h3 : ∀ x, x < k → ∃ ρ1, g (.int (a0 + (x : Nat) * c)) (wipeE vs ρ) = some ρ1 ∧ mb ρ1 = .ok (f' x)) : aLcR vs g mYes mr mb ρ = .ok ((List.range k).map f') := by
  unfold aLcR
  rw [h1, bind_ok, h2, ofO_some, bind_ok, if_pos (by unfold rg; rw [List.length_map, List.length_range, sizeLine_eq]; exact hl)]
  unfold rg
  exact lc_gen _ fun x hx => h3 x (List.mem_range.mp hx)
theorem ev_cat {xs ys : List D} (h1 : ma ρ = .ok (.lst xs)) (h2 : mb ρ = .ok (.lst ys)) (hl : xs.length + ys.length ≤ 16777216) : aCat ma mb ρ = .ok (xs ++ ys) := by
  unfold aCat
  rw [h1, bind_ok, h2, bind_ok, show catL (.lst xs) (.lst ys) = some (xs ++ ys) from if_pos (by rw [sizeLine_eq]; exact hl)]
  rfl
theorem ev_ownLen {i : Nat} (h : ρ[i]? = some (.l ds)) : eOwnLen i ρ = .ok (.int ds.length) := by unfold eOwnLen; rw [h]
theorem ev_ownAt {i : Nat} {ds : List D} {k : Int} {m : EM} (h : ρ[i]? = some (.l ds)) (h2 : m ρ = .ok (.int k)) (h3 : dAt (.lst ds) (.int k) = some d) : eOwnAt i m ρ = .ok d := by
  unfold eOwnAt
  rw [h]
  show (m ρ).bind _ = _
  rw [h2, bind_ok]
  show R.ofO (L2.atI ds k) = _
  rw [show L2.atI ds k = some d from h3]
  rfl
theorem its_map {α : Type} {h : α → D} {l : List α} : asL (.lst (l.map h)) = some (l.map h) := rfl
theorem its_map2 {α : Type} {h : α → D} {l : List α} : asT (.tup (l.map h)) = some (l.map h) := rfl
theorem rng1 {k : Int} (h1 : -(2 ^ 62) ≤ k) (h2 : k < 2 ^ 62) : dRange [.int k] = some (rg 0 1 k.toNat) := if_pos ⟨h1, h2⟩
theorem rng2 {i j : Int} (h1 : -(2 ^ 62) ≤ i) (h2 : i < 2 ^ 62) (h3 : -(2 ^ 62) ≤ j) (h4 : j < 2 ^ 62) : dRange [.int i, .int j] = some (rg i 1 (j - i).toNat) := if_pos ⟨h1, h2, h3, h4⟩
end
/-! ### operations -/
theorem dAt_q0 (x y z : Int) : dAt (D3 x y z) (.int 0) = some (.int x) := rfl
theorem dAt_q1 (x y z : Int) : dAt (D3 x y z) (.int 1) = some (.int y) := rfl
theorem dAt_q2 (x y z : Int) : dAt (D3 x y z) (.int 2) = some (.int z) := rfl
theorem dAt_pp0 (x y : Int) : dAt (D2p (x, y)) (.int 0) = some (.int x) := rfl
theorem dAt_pp1 (x y : Int) : dAt (D2p (x, y)) (.int 1) = some (.int y) := rfl
theorem dAt_f0 (x y : Int) : dAt (D2 x y) (.int 0) = some (.int x) := rfl
theorem dAt_f1 (x y : Int) : dAt (D2 x y) (.int 1) = some (.int y) := rfl
theorem dAbs_int (x : Int) : dAbs [.int x] = some (.int (x.natAbs : Int)) := rfl
theorem dMax2_int (x y : Int) : dMax2 [.int x, .int y] = some (.int (max x y)) := by rfl
theorem dMin2_int (x y : Int) : dMin2 [.int x, .int y] = some (.int (min x y)) := by rfl
theorem dInt_bl (b : Bool) : dInt [.bl b] = some (.int (if b then 1 else 0)) := rfl
theorem dNe_bl (a b : Bool) : dNe (.bl a) (.bl b) = some (.bl (!(a == b))) := rfl
theorem dLen_pts {α : Type} {f : α → D} (l : List α) : dLen [.lst (l.map f)] = some (.int (l.length : Int)) := by
  show some (D.int (((l.map f).length : Nat) : Int)) = _
  rw [List.length_map]
theorem at_lst {α : Type} {f : α → D} {l : List α} {k : Nat} (h : k < l.length) : dAt (.lst (l.map f)) (.int (k : Int)) = some (f l[k]) := dAt_lst (by rw [List.getElem?_map, List.getElem?_eq_getElem h]; rfl)
theorem eqv_D3 (a b c x y z : Int) : PyData.eqv (toP (D3 a b c)) (toP (D3 x y z)) = decide (a = x ∧ b = y ∧ c = z) := by
  show ((a == x) && ((b == y) && ((c == z) && true))) = _
  rw [Bool.and_true, Bool.beq_eq_decide_eq, Bool.beq_eq_decide_eq, Bool.beq_eq_decide_eq, ← Bool.decide_and, ← Bool.decide_and]
theorem dNe_D3 (a b c x y z : Int) : dNe (D3 a b c) (D3 x y z) = some (.bl (!decide (a = x ∧ b = y ∧ c = z))) := by
  unfold dNe
  rw [if_pos ⟨rfl, rfl⟩, eqv_D3]
theorem dEq_D3 (a b c x y z : Int) : dEq (D3 a b c) (D3 x y z) = some (.bl (decide (a = x ∧ b = y ∧ c = z))) := by
  unfold dEq
  rw [if_pos ⟨rfl, rfl⟩, eqv_D3]
theorem dEq_np (p : Pt) : dEq .non (D2p p) = some (.bl false) := rfl
theorem dNe_np (p : Pt) : dNe .non (D2p p) = some (.bl true) := rfl
theorem Bd.litO (k : Nat) : Bd (k.log2 + 1) (OfNat.ofNat k : Int) := by
  unfold Bd
  show (k : Int).natAbs < _
  rw [Int.natAbs_natCast]
  exact Nat.lt_log2_self
theorem Bd.emod {x k : Int} (h : 0 < k) : Bd (k.natAbs.log2 + 1) (x % k) := by
  have h1 := Int.emod_nonneg x (by omega : k ≠ 0)
  have h2 := Int.emod_lt_of_pos x h
  have h3 : k.natAbs < 2 ^ (k.natAbs.log2 + 1) := Nat.lt_log2_self
  unfold Bd
  omega
theorem Bd.ediv {n : Nat} {x k : Int} (h : Bd n x) : Bd n (x / k) := h.of_le (Int.natAbs_ediv_le_natAbs x k)
theorem dok_lit {k : Int} (h : 0 < k) (g : k < 2 ^ 3000) : divOk k := dok (n := 3000) h (Bd.of_range (by omega) g) (by decide)
theorem bd_abs {n : Nat} {x : Int} (h : Bd n x) : Bd n (x.natAbs : Int) := h.of_le (by omega)
theorem bd_ite1 {c : Prop} [Decidable c] : Bd 1 (if c then (1 : Int) else 0) := by
  unfold Bd
  split <;> decide
theorem bd_ite {c : Prop} [Decidable c] {m n : Nat} {x y : Int} (h : Bd m x) (g : Bd n y) : Bd (max m n) (if c then x else y) := by
  split
  · exact h.mono (Nat.le_max_left ..)
  · exact g.mono (Nat.le_max_right ..)
theorem BdP.a {n : Nat} {p : Pt} (h : BdP n p) : Bd n p.1 := h.1
theorem BdP.b {n : Nat} {p : Pt} (h : BdP n p) : Bd n p.2 := h.2
theorem BdP.mk {m n : Nat} {x y : Int} (h : Bd m x) (g : Bd n y) : BdP (max m n) (x, y) := ⟨h.mono (Nat.le_max_left ..), g.mono (Nat.le_max_right ..)⟩
theorem BdP.mono {m n : Nat} {p : Pt} (h : BdP m p) (l : m ≤ n) : BdP n p := ⟨h.1.mono l, h.2.mono l⟩
theorem bd_mem {n : Nat} {C : List Pt} {p : Pt} (h : ∀ q ∈ C, BdP n q) (hp : p ∈ C) : BdP n p := h p hp
theorem bd_get {n : Nat} {C : List Pt} {i : Nat} {hi : i < C.length} (h : ∀ q ∈ C, BdP n q) : BdP n C[i] := h _ (List.getElem_mem hi)
theorem bd_cy {n : Nat} {C : List Pt} (h : ∀ q ∈ C, BdP n q) (hc : 0 < C.length) (k : Nat) : BdP n (cy C k) := h _ (cy_mem (by intro z; rw [z] at hc; simp at hc) k)
/-! ### shapes, for == -/
def Shp (n : Nat) (d : D) : Prop := (toP d).canLay0 = true ∧ (toP d).depth ≤ n
theorem Shp.shaped {n : Nat} {d : D} (h : Shp n d) (hn : n ≤ 64) : SeqAt.shaped (toP d) = true := by
  unfold SeqAt.shaped
  rw [h.1, Bool.true_and]
  exact decide_eq_true (Nat.le_trans h.2 hn)
theorem shp_int (i : Int) : Shp 0 (.int i) := ⟨rfl, Nat.le_refl 0⟩
theorem shp_bl (i : Bool) : Shp 0 (.bl i) := ⟨rfl, Nat.le_refl 0⟩
theorem shp_non : Shp 0 .non := ⟨rfl, by decide⟩
theorem shp_pt (p : Pt) : Shp 1 (D2p p) := ⟨(pt_shape p).1, by rw [(pt_shape p).2]; decide⟩
theorem shp_D2 (x y : Int) : Shp 1 (D2 x y) := ⟨rfl, Nat.le_refl 1⟩
theorem shp_fr (x y : Int) : Shp 1 (fr x y) := ⟨rfl, Nat.le_refl 1⟩
theorem shp_D3 (x y z : Int) : Shp 1 (D3 x y z) := ⟨rfl, Nat.le_refl 1⟩
theorem shp_sp (x y z : Int) : Shp 1 (sp x y z) := ⟨rfl, Nat.le_refl 1⟩
theorem shp_pts (ps : List Pt) : Shp 2 (.lst (ps.map D2p)) := by
  obtain ⟨h1, h2⟩ := pts_shape ps
  exact ⟨h1, by show PyData.depthAll (toPs (ps.map D2p)) + 1 ≤ 2; omega⟩
theorem shp_nilL : Shp 1 (.lst []) := ⟨rfl, by decide⟩
theorem shp_nilT : Shp 1 (.tup []) := ⟨rfl, by decide⟩
theorem shp_consL {m n : Nat} {d : D} {ds : List D} (h : Shp m d) (g : Shp n (.lst ds)) : Shp (max (m + 1) n) (.lst (d :: ds)) := by
  constructor
  · show ((toP d).canLay0 && PyData.canLayAll0 (toPs ds)) = true
    rw [h.1]
    exact g.1
  · have h2 := h.2
    have g2 : PyData.depthAll (toPs ds) + 1 ≤ n := g.2
    show max (toP d).depth (PyData.depthAll (toPs ds)) + 1 ≤ _
    omega
theorem shp_consT {m n : Nat} {d : D} {ds : List D} (h : Shp m d) (g : Shp n (.tup ds)) : Shp (max (m + 1) n) (.tup (d :: ds)) := by
  constructor
  · show ((toP d).canLay0 && PyData.canLayAll0 (toPs ds)) = true
    rw [h.1]
    exact g.1
  · have h2 := h.2
    have g2 : PyData.depthAll (toPs ds) + 1 ≤ n := g.2
    show max (toP d).depth (PyData.depthAll (toPs ds)) + 1 ≤ _
    omega
theorem eqv_ints : ∀ ns : List Int, PyData.eqvAll (ns.map PyData.int) (ns.map PyData.int) = true
  | [] => rfl
  | n :: ns => by
    show ((n == n) && PyData.eqvAll (ns.map PyData.int) (ns.map PyData.int)) = true
    rw [eqv_ints ns]; simp
mutual
theorem eqv_refl : ∀ d : D, (toP d).canLay0 = true → PyData.eqv (toP d) (toP d) = true
  | .non, _ => rfl
  | .bl b, _ => by show (b == b) = true; simp
  | .int i, _ => by show (i == i) = true; simp
  | .str x, _ => by show PyData.eqv (.str x) (.str x) = true; simp [PyData.eqv]
  | .tup ds, h => eqv_reflL ds h
  | .lst ds, h => eqv_reflL ds h
  | .scr ns, _ => eqv_ints ns
  | .dct _ _, h => by simp [toP, PyData.canLay0] at h
  | .exc _, h => by simp [toP, PyData.canLay0] at h
  | .ty _, h => by simp [toP, PyData.canLay0] at h
  | .cls _, h => by simp [toP, PyData.canLay0] at h
  | .obj _ _ _, h => by simp [toP, PyData.canLay0] at h
theorem eqv_reflL : ∀ ds : List D, PyData.canLayAll0 (toPs ds) = true → PyData.eqvAll (toPs ds) (toPs ds) = true
  | [], _ => rfl
  | d :: ds, h => by
    have h' : ((toP d).canLay0 && PyData.canLayAll0 (toPs ds)) = true := h
    rw [Bool.and_eq_true] at h'
    show (PyData.eqv (toP d) (toP d) && PyData.eqvAll (toPs ds) (toPs ds)) = true
    rw [eqv_refl d h'.1, eqv_reflL ds h'.2]
    rfl
end
theorem dNe_self {n : Nat} {d : D} (h : Shp n d) (hn : n ≤ 64) : dNe d d = some (.bl false) := by
  unfold dNe
  rw [if_pos ⟨h.shaped hn, h.shaped hn⟩, eqv_refl d h.1]
  rfl
theorem dEq_self {n : Nat} {d : D} (h : Shp n d) (hn : n ≤ 64) : dEq d d = some (.bl true) := by
  unfold dEq
  rw [if_pos ⟨h.shaped hn, h.shaped hn⟩, eqv_refl d h.1]
end Law

namespace Law
open PySem PySem.Spec PyProof.Rows L2 GD Hl
local macro_rules | `(tactic| walk_at "bd") => `(tactic| first
  | with_reducible assumption
  | with_reducible exact Bd.litO _
  | ((with_reducible refine' Bd.mul ?h ?g); (case h => walk_at "bd"); (case g => walk_at "bd"))
  | ((with_reducible refine' Bd.add ?h ?g); (case h => walk_at "bd"); (case g => walk_at "bd"))
  | ((with_reducible refine' Bd.sub ?h ?g); (case h => walk_at "bd"); (case g => walk_at "bd"))
  | ((with_reducible refine' Bd.neg ?h); (case h => walk_at "bd"))
  | ((with_reducible refine' Bd.emod ?h); (case h => walk_at "pos"))
  | ((with_reducible refine' Bd.ediv ?h); (case h => walk_at "bd"))
  | ((with_reducible refine' bd_fT ?h); (case h => walk_at "bd"))
  | ((with_reducible refine' bd_fB ?h); (case h => walk_at "bd"))
  | ((with_reducible refine' bd_sX ?h); (case h => walk_at "bd"))
  | ((with_reducible refine' bd_sY ?h); (case h => walk_at "bd"))
  | ((with_reducible refine' bd_sW ?h); (case h => walk_at "bd"))
  | ((with_reducible refine' bd_abs ?h); (case h => walk_at "bd"))
  | ((with_reducible refine' BdP.a ?h); (case h => walk_at "bdq"))
  | ((with_reducible refine' BdP.b ?h); (case h => walk_at "bdq"))
  | with_reducible exact bd_ite1
  | ((with_reducible refine' bd_ite ?h ?g); (case h => walk_at "bd"); (case g => walk_at "bd")))
local macro_rules | `(tactic| walk_at "pos") => `(tactic| first
  | with_reducible assumption
  | decide
  | omega)
local macro_rules | `(tactic| walk_at "bdq") => `(tactic| first
  | with_reducible assumption
  | ((with_reducible refine' bd_cy ?h ?g _); (case h => with_reducible assumption); (case g => first | with_reducible assumption | omega))
  | ((with_reducible refine' bd_mem ?h ?g); (case g => with_reducible assumption); (case h => with_reducible assumption))
  | ((with_reducible refine' bd_get ?h); (case h => with_reducible assumption)))
local macro_rules | `(tactic| walk_at "bdp") => `(tactic| first
  | walk_at "bdq"
  | ((with_reducible refine' BdP.mk ?h ?g); (case h => walk_at "bd"); (case g => walk_at "bd")))
local macro_rules | `(tactic| walk_at "num") => `(tactic| first
  | with_reducible assumption
  | omega
  | decide +kernel
  | (simp only [Nat.reduceLog2]; omega))
local macro_rules | `(tactic| walk_at "dis") => `(tactic| first
  | with_reducible assumption
  | ((with_reducible refine' mok ?h ?g ?l); (case h => walk_at "bd"); (case g => walk_at "bd"); (case l => walk_at "num"))
  | ((with_reducible refine' Bd.mono ?h ?l); (case h => walk_at "bd"); (case l => walk_at "num"))
  | ((with_reducible refine' BdP.mono ?h ?l); (case h => walk_at "bdp"); (case l => walk_at "num"))
  | ((with_reducible show divOk _); first | with_reducible assumption | decide +kernel | (refine' dok ?p ?h ?l; (case p => first | with_reducible assumption | omega); (case h => walk_at "bd"); (case l => walk_at "num")))
  | omega)
local macro_rules | `(tactic| walk_at "op") => `(tactic| first
  | with_reducible exact dAdd_int _ _
  | with_reducible exact dSub_int _ _
  | ((with_reducible refine dMul_int ?_); walk_at "dis")
  | with_reducible exact dAt_pp0 _ _
  | with_reducible exact dAt_pp1 _ _
  | with_reducible exact dAt_p0 _
  | with_reducible exact dAt_p1 _
  | with_reducible exact dAt_t0
  | with_reducible exact dAt_t1
  | with_reducible exact dAt_t2
  | with_reducible exact dAt_q0 _ _ _
  | with_reducible exact dAt_q1 _ _ _
  | with_reducible exact dAt_q2 _ _ _
  | with_reducible exact dAt_f0 _ _
  | with_reducible exact dAt_f1 _ _
  | with_reducible exact dLt_int _ _
  | with_reducible exact dLe_int _ _
  | with_reducible exact dGt_int _ _
  | with_reducible exact dGe_int _ _
  | with_reducible exact dEq_int _ _
  | with_reducible exact dNe_int _ _
  | ((with_reducible refine dMod_int ?_); walk_at "dis")
  | ((with_reducible refine dDiv_int ?_); walk_at "dis")
  | with_reducible exact dNeg_int _
  | with_reducible exact dIs_non _
  | with_reducible exact dIsNot_non _
  | with_reducible exact dAbs_int _
  | with_reducible exact dMax2_int _ _
  | with_reducible exact dMin2_int _ _
  | with_reducible exact dInt_bl _
  | with_reducible exact dLen_pts _
  | with_reducible exact dEq_pt _ _
  | with_reducible exact dNe_pt _ _
  | with_reducible exact dEq_pts _ _
  | with_reducible exact dNe_pts _ _
  | with_reducible exact dNe_bl _ _
  | with_reducible exact dEq_bl _ _
  | with_reducible exact dEq_D3 _ _ _ _ _ _
  | with_reducible exact dNe_D3 _ _ _ _ _ _
  | with_reducible exact dEq_np _
  | with_reducible exact dNe_np _
  | ((with_reducible refine at_last ?_); walk_at "dis")
  | with_reducible exact dAt_l0
  | with_reducible exact dAt_l1
  | with_reducible exact dAt_l2
  | with_reducible exact dAt_l3
  | with_reducible exact dAt_l4
  | with_reducible exact dAt_l5
  | with_reducible exact dAt_l6
  | with_reducible exact dAt_l7
  | ((with_reducible refine' dNe_self ?h ?l); (case h => walk_at "shp"); (case l => decide))
  | ((with_reducible refine' dEq_self ?h ?l); (case h => walk_at "shp"); (case l => decide))
  | with_reducible assumption
  | exact isi_int _ _ _ _ rfl kb_tuple_tuple
  | exact isi_int _ _ _ _ rfl kb_list_list
  | exact isi_int _ _ _ _ rfl kb_int_int
  | exact isi_int _ _ _ _ rfl kb_bool_bool
  | exact isi_int _ _ _ _ rfl kb_int_bool
  | exact isi_int _ _ _ _ rfl kb_list_tuple
  | exact isi_int _ _ _ _ rfl kb_tuple_list
  | with_reducible rfl)
local macro_rules | `(tactic| walk_at "shp") => `(tactic| first
  | with_reducible exact shp_int _
  | with_reducible exact shp_bl _
  | with_reducible exact shp_non
  | with_reducible exact shp_pt _
  | with_reducible exact shp_pts _
  | with_reducible exact shp_D2 _ _
  | with_reducible exact shp_fr _ _
  | with_reducible exact shp_D3 _ _ _
  | with_reducible exact shp_sp _ _ _
  | with_reducible exact shp_nilL
  | with_reducible exact shp_nilT
  | ((with_reducible refine' shp_consL ?h ?g); (case h => walk_at "shp"); (case g => walk_at "shp"))
  | ((with_reducible refine' shp_consT ?h ?g); (case h => walk_at "shp"); (case g => walk_at "shp"))
  | with_reducible assumption)
local macro_rules | `(tactic| walk_at "fn") => `(tactic| first
  | with_reducible assumption
  | with_reducible exact whole_int _
  | with_reducible exact divisor_eq _ _
  | with_reducible exact common_eq _ _)
local macro_rules | `(tactic| walk_at "ev") => `(tactic| first
  | with_reducible exact ev_c _
  | ((with_reducible refine' ev_var ?h1); (case h1 => exact rfl))
  | ((with_reducible refine' ev_e2 ?h1 ?h2 ?h3); (case h1 => walk_at "ev"); (case h2 => walk_at "ev"); (case h3 => walk_at "op"))
  | with_reducible exact ev_nil
  | ((with_reducible refine' ev_cons ?h1 ?h2); (case h1 => walk_at "ev"); (case h2 => walk_at "ev"))
  | ((with_reducible refine' ev_F ?h1 ?h2); (case h1 => walk_at "ev"); (case h2 => walk_at "fn"))
  | ((with_reducible refine' ev_mB ?h1); (case h1 => walk_at "ev"))
  | ((with_reducible refine' ev_B ?h1 ?h2); (case h1 => walk_at "ev"); (case h2 => walk_at "op"))
  | ((with_reducible refine' ev_tup2 ?h1 ?h2); (case h1 => walk_at "ev"); (case h2 => walk_at "ev"))
  | ((with_reducible refine' ev_tup3 ?h1 ?h2 ?h3); (case h1 => walk_at "ev"); (case h2 => walk_at "ev"); (case h3 => walk_at "ev"))
  | ((with_reducible refine' ev_tup ?h1 ?h2); (case h1 => walk_at "ev"); (case h2 => walk_at "len"))
  | ((with_reducible refine' ev_L ?h1); (case h1 => walk_at "ev"))
  | ((with_reducible refine' ev_lst ?h1 ?h2); (case h1 => walk_at "ev"); (case h2 => walk_at "len"))
  | ((with_reducible refine' ev_not ?h1); (case h1 => walk_at "ev"))
  | ((with_reducible refine' ev_and0 ?h1); (case h1 => walk_at "ev"))
  | ((with_reducible refine' ev_and ?h1 ?h2); (case h1 => walk_at "ev"); (case h2 => (intro hq; (try simp only [decide_eq_true_eq, decide_eq_false_iff_not, Bool.not_eq_true', Bool.not_eq_false'] at hq); walk_at "ev")))
  | ((with_reducible refine' ev_or1 ?h1); (case h1 => walk_at "ev"))
  | ((with_reducible refine' ev_or ?h1 ?h2); (case h1 => walk_at "ev"); (case h2 => (intro hq; (try simp only [decide_eq_true_eq, decide_eq_false_iff_not, Bool.not_eq_true', Bool.not_eq_false'] at hq); walk_at "ev")))
  | ((with_reducible refine' ev_eNot ?h1); (case h1 => walk_at "ev"))
  | ((with_reducible refine' ev_eAnd0 ?h1); (case h1 => walk_at "ev"))
  | ((with_reducible refine' ev_eAnd ?h1 ?h2); (case h1 => walk_at "ev"); (case h2 => (intro hq; (try simp only [decide_eq_true_eq, decide_eq_false_iff_not, Bool.not_eq_true', Bool.not_eq_false'] at hq); walk_at "ev")))
  | ((with_reducible refine' ev_eOr1 ?h1); (case h1 => walk_at "ev"))
  | ((with_reducible refine' ev_eOr ?h1 ?h2); (case h1 => walk_at "ev"); (case h2 => (intro hq; (try simp only [decide_eq_true_eq, decide_eq_false_iff_not, Bool.not_eq_true', Bool.not_eq_false'] at hq); walk_at "ev")))
  | ((with_reducible refine' ev_e1 ?h1 ?h2); (case h1 => walk_at "ev"); (case h2 => walk_at "op"))
  | ((with_reducible refine' ev_copy ?h1 ?h2); (case h1 => walk_at "ev"); (case h2 => exact rfl))
  | ((with_reducible refine' ev_ch ?h1 ?h2 ?h3 ?h4 ?h5); (case h1 => walk_at "ev"); (case h2 => walk_at "ev"); (case h3 => walk_at "op"); (case h4 => (intro hq; (try simp only [decide_eq_true_eq, decide_eq_false_iff_not, Bool.not_eq_true', Bool.not_eq_false'] at hq); walk_at "ev")); (case h5 => (intro _; walk_at "op")))
  | ((with_reducible refine' ev_lc ?h1 ?h2 ?h3 ?h4); (case h1 => walk_at "ev"); (case h2 => walk_at "its"); (case h3 => walk_at "len"); (case h4 => (intro _ _; exact ⟨_, rfl, by walk_at "ev"⟩)))
  | ((with_reducible refine' ev_lcR ?h1 ?h2 ?h3 ?h4); (case h1 => walk_at "ev"); (case h2 => walk_at "rng"); (case h3 => walk_at "len"); (case h4 => (intro _ _; exact ⟨_, rfl, by walk_at "ev"⟩)))
  | ((with_reducible refine' ev_cat ?h1 ?h2 ?h3); (case h1 => walk_at "ev"); (case h2 => walk_at "ev"); (case h3 => walk_at "len"))
  | ((with_reducible refine' ev_ownLen ?h1); (case h1 => exact rfl))
  | ((with_reducible refine' ev_ownAt ?h1 ?h2 ?h3); (case h1 => exact rfl); (case h2 => walk_at "ev"); (case h3 => walk_at "op"))
  | with_reducible assumption)
local macro_rules | `(tactic| walk_at "len") => `(tactic| first
  | ((simp only [List.length_map, List.length_cons, List.length_nil, List.length_append, List.length_range]) <;> walk_at "num")
  | walk_at "num")
local macro_rules | `(tactic| walk_at "its") => `(tactic| first
  | with_reducible exact its_map
  | with_reducible exact its_map2
  | exact rfl)
local macro_rules | `(tactic| walk_at "rng") => `(tactic| first
  | ((with_reducible refine rng1 ?_ ?_) <;> walk_at "num")
  | ((with_reducible refine rng2 ?_ ?_ ?_ ?_) <;> walk_at "num"))
local macro_rules | `(tactic| walk_at "es") => `(tactic| simp (config := {failIfUnchanged := false}) only [List.set_cons_zero, List.set_cons_succ])
local macro_rules | `(tactic| walk_at "start") => `(tactic| (simp only [List.map_cons, List.map_nil, List.cons_append, List.nil_append, List.length_cons, List.length_nil, Nat.reduceAdd, Nat.reduceSub, List.replicate_succ, List.replicate_zero]))
local macro_rules | `(tactic| walk_at "st1") => `(tactic| first
  | ((with_reducible refine' wo_seq ?k))
  | ((with_reducible refine' wo_ift ?h ?e ?k); (case h => walk_at "ev"); (case e => simp only [beq_self_eq_true, Bool.true_beq, Bool.false_beq, decide_eq_true_eq, decide_eq_false_iff_not, Bool.not_eq_true', Bool.not_eq_false', Bool.or_eq_true, Bool.and_eq_true, Bool.or_eq_false_iff, Bool.and_eq_false_imp, Bool.not_true, Bool.not_false, Bool.false_or, Bool.or_false, Bool.true_or, Bool.or_true, Bool.true_and, Bool.and_true, Bool.false_and, Bool.and_false, Bool.true_eq_false, Bool.false_eq_true, decide_true, decide_false, reduceCtorEq, D.isNone, Int.not_lt, Int.not_le, ne_eq, Decidable.not_not, not_true_eq_false, not_false_eq_true, false_implies, true_implies, implies_true, and_true, true_and, and_false, false_and, or_true, true_or, or_false, false_or, reduceIte, eq_self]))
  | ((with_reducible refine' wo_iff ?h ?e ?k); (case h => walk_at "ev"); (case e => simp only [beq_self_eq_true, Bool.true_beq, Bool.false_beq, decide_eq_true_eq, decide_eq_false_iff_not, Bool.not_eq_true', Bool.not_eq_false', Bool.or_eq_true, Bool.and_eq_true, Bool.or_eq_false_iff, Bool.and_eq_false_imp, Bool.not_true, Bool.not_false, Bool.false_or, Bool.or_false, Bool.true_or, Bool.or_true, Bool.true_and, Bool.and_true, Bool.false_and, Bool.and_false, Bool.true_eq_false, Bool.false_eq_true, decide_true, decide_false, reduceCtorEq, D.isNone, Int.not_lt, Int.not_le, ne_eq, Decidable.not_not, not_true_eq_false, not_false_eq_true, false_implies, true_implies, implies_true, and_true, true_and, and_false, false_and, or_true, true_or, or_false, false_or, reduceIte, eq_self]))
  | (((with_reducible refine' wo_asg ?h1 ?k); (case h1 => walk_at "ev")); walk_at "es")
  | ((with_reducible refine' wo_ret ?h1 ?k); (case h1 => walk_at "ev"))
  | (((with_reducible refine' wo_tgt ?h1 ?h2 ?k); (case h1 => walk_at "ev"); (case h2 => exact rfl)); walk_at "es")
  | ((with_reducible refine' wo_nil ?k))
  | ((with_reducible refine' wo_raise ?k))
  | (((with_reducible refine' wo_own ?h1 ?k); (case h1 => walk_at "ev")); walk_at "es")
  | (((with_reducible refine' wo_asgL ?h1 ?k); (case h1 => walk_at "ev")); walk_at "es")
  | (((with_reducible refine' wo_app ?h1 ?h2 ?h3 ?k); (case h1 => exact rfl); (case h2 => walk_at "ev"); (case h3 => walk_at "len")); walk_at "es")
  | (((with_reducible refine' wo_par ?h1 ?h2 ?k); (case h1 => walk_at "ev"); (case h2 => walk_at "ev")); walk_at "es")
  | ((with_reducible refine wo_frz ?_); simp only [frz, List.getElem?_cons_zero, List.getElem?_cons_succ, List.set_cons_zero, List.set_cons_succ]))
local macro_rules | `(tactic| walk_at "st") => `(tactic| (walk_at "st1"; try dsimp only))
local macro_rules | `(tactic| walk_at "hs") => `(tactic| ((try simp only [beq_self_eq_true, Bool.true_beq, Bool.false_beq, decide_eq_true_eq, decide_eq_false_iff_not, Bool.not_eq_true', Bool.not_eq_false', Bool.or_eq_true, Bool.and_eq_true, Bool.or_eq_false_iff, Bool.and_eq_false_imp, Bool.not_true, Bool.not_false, Bool.false_or, Bool.or_false, Bool.true_or, Bool.or_true, Bool.true_and, Bool.and_true, Bool.false_and, Bool.and_false, Bool.true_eq_false, Bool.false_eq_true, decide_true, decide_false, reduceCtorEq, D.isNone, Int.not_lt, Int.not_le, ne_eq, Decidable.not_not, not_true_eq_false, not_false_eq_true, false_implies, true_implies, implies_true, and_true, true_and, and_false, false_and, or_true, true_or, or_false, false_or, reduceIte, eq_self]); exact rfl))
local macro_rules | `(tactic| walk_at "fls") => `(tactic| first | (with_reducible exact False.elim) | (with_reducible refine fun (_ : True) => ?_) | skip)
local macro_rules | `(tactic| walk_at "if") => `(tactic| ((with_reducible refine' wo_ifx ?h ?e1 ?e2 ?k1 ?k2); (case h => walk_at "ev"); (case e1 => walk_at "hs"); (case e2 => walk_at "hs"); (case' k1 => walk_at "fls"); (case' k2 => walk_at "fls")))
local macro_rules | `(tactic| walk_at "tt") => `(tactic| (try simp only [beq_self_eq_true, Bool.true_beq, Bool.false_beq, decide_eq_true_eq, decide_eq_false_iff_not, Bool.not_eq_true', Bool.not_eq_false', Bool.or_eq_true, Bool.and_eq_true, Bool.or_eq_false_iff, Bool.and_eq_false_imp, Bool.not_true, Bool.not_false, Bool.false_or, Bool.or_false, Bool.true_or, Bool.or_true, Bool.true_and, Bool.and_true, Bool.false_and, Bool.and_false, Bool.true_eq_false, Bool.false_eq_true, decide_true, decide_false, reduceCtorEq, D.isNone, Int.not_lt, Int.not_le, ne_eq, Decidable.not_not, not_true_eq_false, not_false_eq_true, false_implies, true_implies, implies_true, and_true, true_and, and_false, false_and, or_true, true_or, or_false, false_or, reduceIte, eq_self]))
local macro_rules | `(tactic| walk_at "hc") => `(tactic| simp only [beq_self_eq_true, Bool.true_beq, Bool.false_beq, decide_eq_true_eq, decide_eq_false_iff_not, Bool.not_eq_true', Bool.not_eq_false', Bool.or_eq_true, Bool.and_eq_true, Bool.or_eq_false_iff, Bool.and_eq_false_imp, Bool.not_true, Bool.not_false, Bool.false_or, Bool.or_false, Bool.true_or, Bool.or_true, Bool.true_and, Bool.and_true, Bool.false_and, Bool.and_false, Bool.true_eq_false, Bool.false_eq_true, decide_true, decide_false, reduceCtorEq, D.isNone, Int.not_lt, Int.not_le, ne_eq, Decidable.not_not, not_true_eq_false, not_false_eq_true, false_implies, true_implies, implies_true, and_true, true_and, and_false, false_and, or_true, true_or, or_false, false_or, reduceIte, eq_self] at *)
local macro_rules | `(tactic| walk_at "sts") => `(tactic| (walk_at "st"; try (walk_at "st"; try (walk_at "st"; try (walk_at "st"; try (walk_at "st"; try (walk_at "st"; try (walk_at "st"; try (walk_at "st"; try (walk_at "st"; try (walk_at "st"; try (walk_at "st"; try (walk_at "st"; try (walk_at "st"; try (walk_at "st"; try (walk_at "st"; try (walk_at "st"; try (walk_at "st"; try (walk_at "st"; try (walk_at "st"; try (walk_at "st"; try (walk_at "st"; try (walk_at "st"; try (walk_at "st"; try (walk_at "st"; try (walk_at "st"; try (walk_at "st"; try (walk_at "st"; try (walk_at "st"; try (walk_at "st"; try (walk_at "st"; try (walk_at "st"; try (walk_at "st"; try (walk_at "st"; try (walk_at "st"; try (walk_at "st"; try (walk_at "st"; try (walk_at "st"; try (walk_at "st"; try (walk_at "st"; try (walk_at "st"; try (walk_at "st"))))))))))))))))))))))))))))))))))))))))))
/-! ### spots, fractions: the forms that the evaluator knows -/
theorem portion_q {t b : Int} (h : b ≠ 0) (hb : Bd 8900 b) : F_portion [.int t, .int b] = .ok (D2p (fT t b, fB t b)) := portion_eq h hb
theorem spot_q {x y w : Int} (h : w ≠ 0) (hb : Bd 8900 w) : F_spot [.int x, .int y, .int w] = .ok (D3 (sX x y w) (sY x y w) (sW x y w)) := spot_eq h hb
theorem under_q {p q : Pt} (hp : BdP 400000 p) (hq : BdP 400000 q) : F_under [D2p p, D2p q] = .ok (.bl (decide (p.1 * q.2 < q.1 * p.2))) := under_eq (n := 400000) hp.1 hp.2 hq.1 hq.2 (by decide)
theorem way_q {x y w a b c : Int} (hx : Bd 4000 x) (hy : Bd 4000 y) (hw : Bd 4000 w) (ha : Bd 4000 a) (hb : Bd 4000 b) (hc : Bd 4000 c) (h0 : w ≠ 0) (h1 : c ≠ 0) :
    F_way_from [D3 x y w, D3 a b c] = .ok (D3 (sX (a * w - x * c) (b * w - y * c) (w * c)) (sY (a * w - x * c) (b * w - y * c) (w * c)) (sW (a * w - x * c) (b * w - y * c) (w * c))) := way_from_eq hx hy hw ha hb hc (by decide) h0 h1
/-- left of a side -/
def lfs (s : Pt × Pt) (x y w : Int) : Int := (s.2.1 - s.1.1) * (y - s.1.2 * w) - (s.2.2 - s.1.2) * (x - s.1.1 * w)
def whereL (x y w : Int) : List (Pt × Pt) → Int → Int
  | [], t => t
  | s :: r, t => if lfs s x y w < 0 then -1 else whereL x y w r (if lfs s x y w = 0 then 0 else t)
def whereP (C : List Pt) (x y w a b c : Int) : Int := whereL (sX (a * w - x * c) (b * w - y * c) (w * c)) (sY (a * w - x * c) (b * w - y * c) (w * c)) (sW (a * w - x * c) (b * w - y * c) (w * c)) (sidesP C) 1
theorem side_bd {n : Nat} {C : List Pt} (h : ∀ q ∈ C, BdP n q) (hc : 0 < C.length) : ∀ s ∈ sidesP C, BdP n s.1 ∧ BdP n s.2 := fun s hs => by
  obtain ⟨k, _, rfl⟩ := List.mem_map.mp hs
  exact ⟨bd_cy h hc k, bd_cy h hc (k + 1)⟩
theorem where_q {C : List Pt} {x y w a b c : Int} (h : ∀ q ∈ C, BdP 2000 q) (hc : 0 < C.length) (hl : C.length < 10000) (hx : Bd 4000 x) (hy : Bd 4000 y) (hw : Bd 4000 w) (ha : Bd 4000 a) (hb : Bd 4000 b) (hcc : Bd 4000 c) (h0 : w ≠ 0) (h1 : c ≠ 0) :
    F_where [.lst (C.map D2p), D3 x y w, D3 a b c] = .ok (.int (whereP C x y w a b c)) := by
  have hw' := way_q hx hy hw ha hb hcc h0 h1
  have hs := sides_eq hc hl
  have b1 : Bd 9000 (sX (a * w - x * c) (b * w - y * c) (w * c)) := by walk_at "dis"
  have b2 : Bd 9000 (sY (a * w - x * c) (b * w - y * c) (w * c)) := by walk_at "dis"
  have b3 : Bd 9000 (sW (a * w - x * c) (b * w - y * c) (w * c)) := by walk_at "dis"
  unfold F_where b_where
  generalize hS : sidesP C = S at *
  have hb' := side_bd h hc
  rw [hS] at hb'
  unfold whereP
  rw [hS]
  generalize sX (a * w - x * c) (b * w - y * c) (w * c) = X at *
  generalize sY (a * w - x * c) (b * w - y * c) (w * c) = Y at *
  generalize sW (a * w - x * c) (b * w - y * c) (w * c) = Z at *
  refine fn_ok ?_
  simp only [List.map_cons, List.map_nil, List.cons_append, List.nil_append, List.length_cons, List.length_nil, Nat.reduceAdd, Nat.reduceSub, List.replicate_succ, List.replicate_zero]
  walk_at "sts"
  with_reducible refine' wo_for (fun r ρ => ∃ t s7 s8 s9, ρ = [.v (.lst (C.map D2p)), .v (D3 x y w), .v (D3 a b c), .v (.int X), .v (.int Y), .v (.int Z), .v (.int t), s7, s8, s9] ∧ whereL X Y Z r t = whereL X Y Z S 1) ?h1 ?h2 ?i0 ?step ?fin
  case h1 => walk_at "ev"
  case h2 => walk_at "its"
  case i0 => exact ⟨_, _, _, _, rfl, rfl⟩
  case step =>
    rintro s r ρ hs ⟨t, s7, s8, s9, rfl, ht⟩
    refine ⟨_, rfl, ?_⟩
    obtain ⟨g1, g2⟩ := hb' s hs
    unfold l1_where
    walk_at "sts"
    walk_at "if"
    case k1 =>
      intro hc
      walk_at "sts"
      rw [← ht, whereL, if_pos (show lfs s X Y Z < 0 from hc)]
    case k2 =>
      intro hc
      walk_at "sts"
      walk_at "if"
      case k1 =>
        intro hd
        walk_at "sts"
        refine ⟨_, _, _, _, rfl, ?_⟩
        rw [← ht, whereL, if_neg (show ¬ lfs s X Y Z < 0 from Int.not_lt.mpr hc), if_pos (show lfs s X Y Z = 0 from hd)]
      case k2 =>
        intro hd
        walk_at "sts"
        refine ⟨_, _, _, _, rfl, ?_⟩
        rw [← ht, whereL, if_neg (show ¬ lfs s X Y Z < 0 from Int.not_lt.mpr hc), if_neg (show ¬ lfs s X Y Z = 0 from hd)]
  case fin =>
    rintro ρ ⟨t, s7, s8, s9, rfl, ht⟩
    walk_at "sts"
    rw [← ht, whereL]
end Law

namespace Law
open PySem PySem.Spec PyProof.Rows L2 GD Hl
local macro_rules | `(tactic| walk_at "bd") => `(tactic| first
  | with_reducible assumption
  | with_reducible exact Bd.litO _
  | ((with_reducible refine' Bd.mul ?h ?g); (case h => walk_at "bd"); (case g => walk_at "bd"))
  | ((with_reducible refine' Bd.add ?h ?g); (case h => walk_at "bd"); (case g => walk_at "bd"))
  | ((with_reducible refine' Bd.sub ?h ?g); (case h => walk_at "bd"); (case g => walk_at "bd"))
  | ((with_reducible refine' Bd.neg ?h); (case h => walk_at "bd"))
  | ((with_reducible refine' Bd.emod ?h); (case h => walk_at "pos"))
  | ((with_reducible refine' Bd.ediv ?h); (case h => walk_at "bd"))
  | ((with_reducible refine' bd_fT ?h); (case h => walk_at "bd"))
  | ((with_reducible refine' bd_fB ?h); (case h => walk_at "bd"))
  | ((with_reducible refine' bd_sX ?h); (case h => walk_at "bd"))
  | ((with_reducible refine' bd_sY ?h); (case h => walk_at "bd"))
  | ((with_reducible refine' bd_sW ?h); (case h => walk_at "bd"))
  | ((with_reducible refine' bd_abs ?h); (case h => walk_at "bd"))
  | ((with_reducible refine' BdP.a ?h); (case h => walk_at "bdq"))
  | ((with_reducible refine' BdP.b ?h); (case h => walk_at "bdq"))
  | with_reducible exact bd_ite1
  | ((with_reducible refine' bd_ite ?h ?g); (case h => walk_at "bd"); (case g => walk_at "bd")))
local macro_rules | `(tactic| walk_at "pos") => `(tactic| first
  | with_reducible assumption
  | decide
  | omega)
local macro_rules | `(tactic| walk_at "bdq") => `(tactic| first
  | with_reducible assumption
  | ((with_reducible refine' bd_cy ?h ?g _); (case h => with_reducible assumption); (case g => first | with_reducible assumption | omega))
  | ((with_reducible refine' bd_mem ?h ?g); (case g => with_reducible assumption); (case h => with_reducible assumption))
  | ((with_reducible refine' bd_get ?h); (case h => with_reducible assumption)))
local macro_rules | `(tactic| walk_at "bdp") => `(tactic| first
  | walk_at "bdq"
  | ((with_reducible refine' BdP.mk ?h ?g); (case h => walk_at "bd"); (case g => walk_at "bd")))
local macro_rules | `(tactic| walk_at "num") => `(tactic| first
  | with_reducible assumption
  | omega
  | decide +kernel
  | (simp only [Nat.reduceLog2]; omega))
local macro_rules | `(tactic| walk_at "dis") => `(tactic| first
  | with_reducible assumption
  | ((with_reducible refine' mok ?h ?g ?l); (case h => walk_at "bd"); (case g => walk_at "bd"); (case l => walk_at "num"))
  | ((with_reducible refine' Bd.mono ?h ?l); (case h => walk_at "bd"); (case l => walk_at "num"))
  | ((with_reducible refine' BdP.mono ?h ?l); (case h => walk_at "bdp"); (case l => walk_at "num"))
  | ((with_reducible show divOk _); first | with_reducible assumption | decide +kernel | (refine' dok ?p ?h ?l; (case p => first | with_reducible assumption | omega); (case h => walk_at "bd"); (case l => walk_at "num")))
  | omega)
local macro_rules | `(tactic| walk_at "op") => `(tactic| first
  | with_reducible exact dAdd_int _ _
  | with_reducible exact dSub_int _ _
  | ((with_reducible refine dMul_int ?_); walk_at "dis")
  | with_reducible exact dAt_pp0 _ _
  | with_reducible exact dAt_pp1 _ _
  | with_reducible exact dAt_p0 _
  | with_reducible exact dAt_p1 _
  | with_reducible exact dAt_t0
  | with_reducible exact dAt_t1
  | with_reducible exact dAt_t2
  | with_reducible exact dAt_q0 _ _ _
  | with_reducible exact dAt_q1 _ _ _
  | with_reducible exact dAt_q2 _ _ _
  | with_reducible exact dAt_f0 _ _
  | with_reducible exact dAt_f1 _ _
  | with_reducible exact dLt_int _ _
  | with_reducible exact dLe_int _ _
  | with_reducible exact dGt_int _ _
  | with_reducible exact dGe_int _ _
  | with_reducible exact dEq_int _ _
  | with_reducible exact dNe_int _ _
  | ((with_reducible refine dMod_int ?_); walk_at "dis")
  | ((with_reducible refine dDiv_int ?_); walk_at "dis")
  | with_reducible exact dNeg_int _
  | with_reducible exact dIs_non _
  | with_reducible exact dIsNot_non _
  | with_reducible exact dAbs_int _
  | with_reducible exact dMax2_int _ _
  | with_reducible exact dMin2_int _ _
  | with_reducible exact dInt_bl _
  | with_reducible exact dLen_pts _
  | with_reducible exact dEq_pt _ _
  | with_reducible exact dNe_pt _ _
  | with_reducible exact dEq_pts _ _
  | with_reducible exact dNe_pts _ _
  | with_reducible exact dNe_bl _ _
  | with_reducible exact dEq_bl _ _
  | with_reducible exact dEq_D3 _ _ _ _ _ _
  | with_reducible exact dNe_D3 _ _ _ _ _ _
  | with_reducible exact dEq_np _
  | with_reducible exact dNe_np _
  | ((with_reducible refine at_last ?_); walk_at "dis")
  | with_reducible exact dAt_l0
  | with_reducible exact dAt_l1
  | with_reducible exact dAt_l2
  | with_reducible exact dAt_l3
  | with_reducible exact dAt_l4
  | with_reducible exact dAt_l5
  | with_reducible exact dAt_l6
  | with_reducible exact dAt_l7
  | ((with_reducible refine' dNe_self ?h ?l); (case h => walk_at "shp"); (case l => decide))
  | ((with_reducible refine' dEq_self ?h ?l); (case h => walk_at "shp"); (case l => decide))
  | with_reducible assumption
  | exact isi_int _ _ _ _ rfl kb_tuple_tuple
  | exact isi_int _ _ _ _ rfl kb_list_list
  | exact isi_int _ _ _ _ rfl kb_int_int
  | exact isi_int _ _ _ _ rfl kb_bool_bool
  | exact isi_int _ _ _ _ rfl kb_int_bool
  | exact isi_int _ _ _ _ rfl kb_list_tuple
  | exact isi_int _ _ _ _ rfl kb_tuple_list
  | with_reducible rfl)
local macro_rules | `(tactic| walk_at "shp") => `(tactic| first
  | with_reducible exact shp_int _
  | with_reducible exact shp_bl _
  | with_reducible exact shp_non
  | with_reducible exact shp_pt _
  | with_reducible exact shp_pts _
  | with_reducible exact shp_D2 _ _
  | with_reducible exact shp_fr _ _
  | with_reducible exact shp_D3 _ _ _
  | with_reducible exact shp_sp _ _ _
  | with_reducible exact shp_nilL
  | with_reducible exact shp_nilT
  | ((with_reducible refine' shp_consL ?h ?g); (case h => walk_at "shp"); (case g => walk_at "shp"))
  | ((with_reducible refine' shp_consT ?h ?g); (case h => walk_at "shp"); (case g => walk_at "shp"))
  | with_reducible assumption)
local macro_rules | `(tactic| walk_at "fn") => `(tactic| first
  | with_reducible assumption
  | with_reducible exact whole_int _
  | with_reducible exact divisor_eq _ _
  | with_reducible exact common_eq _ _)
local macro_rules | `(tactic| walk_at "ev") => `(tactic| first
  | with_reducible exact ev_c _
  | ((with_reducible refine' ev_var ?h1); (case h1 => exact rfl))
  | ((with_reducible refine' ev_e2 ?h1 ?h2 ?h3); (case h1 => walk_at "ev"); (case h2 => walk_at "ev"); (case h3 => walk_at "op"))
  | with_reducible exact ev_nil
  | ((with_reducible refine' ev_cons ?h1 ?h2); (case h1 => walk_at "ev"); (case h2 => walk_at "ev"))
  | ((with_reducible refine' ev_F ?h1 ?h2); (case h1 => walk_at "ev"); (case h2 => walk_at "fn"))
  | ((with_reducible refine' ev_mB ?h1); (case h1 => walk_at "ev"))
  | ((with_reducible refine' ev_B ?h1 ?h2); (case h1 => walk_at "ev"); (case h2 => walk_at "op"))
  | ((with_reducible refine' ev_tup2 ?h1 ?h2); (case h1 => walk_at "ev"); (case h2 => walk_at "ev"))
  | ((with_reducible refine' ev_tup3 ?h1 ?h2 ?h3); (case h1 => walk_at "ev"); (case h2 => walk_at "ev"); (case h3 => walk_at "ev"))
  | ((with_reducible refine' ev_tup ?h1 ?h2); (case h1 => walk_at "ev"); (case h2 => walk_at "len"))
  | ((with_reducible refine' ev_L ?h1); (case h1 => walk_at "ev"))
  | ((with_reducible refine' ev_lst ?h1 ?h2); (case h1 => walk_at "ev"); (case h2 => walk_at "len"))
  | ((with_reducible refine' ev_not ?h1); (case h1 => walk_at "ev"))
  | ((with_reducible refine' ev_and0 ?h1); (case h1 => walk_at "ev"))
  | ((with_reducible refine' ev_and ?h1 ?h2); (case h1 => walk_at "ev"); (case h2 => (intro hq; (try simp only [decide_eq_true_eq, decide_eq_false_iff_not, Bool.not_eq_true', Bool.not_eq_false'] at hq); walk_at "ev")))
  | ((with_reducible refine' ev_or1 ?h1); (case h1 => walk_at "ev"))
  | ((with_reducible refine' ev_or ?h1 ?h2); (case h1 => walk_at "ev"); (case h2 => (intro hq; (try simp only [decide_eq_true_eq, decide_eq_false_iff_not, Bool.not_eq_true', Bool.not_eq_false'] at hq); walk_at "ev")))
  | ((with_reducible refine' ev_eNot ?h1); (case h1 => walk_at "ev"))
  | ((with_reducible refine' ev_eAnd0 ?h1); (case h1 => walk_at "ev"))
  | ((with_reducible refine' ev_eAnd ?h1 ?h2); (case h1 => walk_at "ev"); (case h2 => (intro hq; (try simp only [decide_eq_true_eq, decide_eq_false_iff_not, Bool.not_eq_true', Bool.not_eq_false'] at hq); walk_at "ev")))
  | ((with_reducible refine' ev_eOr1 ?h1); (case h1 => walk_at "ev"))
  | ((with_reducible refine' ev_eOr ?h1 ?h2); (case h1 => walk_at "ev"); (case h2 => (intro hq; (try simp only [decide_eq_true_eq, decide_eq_false_iff_not, Bool.not_eq_true', Bool.not_eq_false'] at hq); walk_at "ev")))
  | ((with_reducible refine' ev_e1 ?h1 ?h2); (case h1 => walk_at "ev"); (case h2 => walk_at "op"))
  | ((with_reducible refine' ev_copy ?h1 ?h2); (case h1 => walk_at "ev"); (case h2 => exact rfl))
  | ((with_reducible refine' ev_ch ?h1 ?h2 ?h3 ?h4 ?h5); (case h1 => walk_at "ev"); (case h2 => walk_at "ev"); (case h3 => walk_at "op"); (case h4 => (intro hq; (try simp only [decide_eq_true_eq, decide_eq_false_iff_not, Bool.not_eq_true', Bool.not_eq_false'] at hq); walk_at "ev")); (case h5 => (intro _; walk_at "op")))
  | ((with_reducible refine' ev_lc ?h1 ?h2 ?h3 ?h4); (case h1 => walk_at "ev"); (case h2 => walk_at "its"); (case h3 => walk_at "len"); (case h4 => (intro _ _; exact ⟨_, rfl, by walk_at "ev"⟩)))
  | ((with_reducible refine' ev_lcR ?h1 ?h2 ?h3 ?h4); (case h1 => walk_at "ev"); (case h2 => walk_at "rng"); (case h3 => walk_at "len"); (case h4 => (intro _ _; exact ⟨_, rfl, by walk_at "ev"⟩)))
  | ((with_reducible refine' ev_cat ?h1 ?h2 ?h3); (case h1 => walk_at "ev"); (case h2 => walk_at "ev"); (case h3 => walk_at "len"))
  | ((with_reducible refine' ev_ownLen ?h1); (case h1 => exact rfl))
  | ((with_reducible refine' ev_ownAt ?h1 ?h2 ?h3); (case h1 => exact rfl); (case h2 => walk_at "ev"); (case h3 => walk_at "op"))
  | with_reducible assumption)
local macro_rules | `(tactic| walk_at "len") => `(tactic| first
  | ((simp only [List.length_map, List.length_cons, List.length_nil, List.length_append, List.length_range]) <;> walk_at "num")
  | walk_at "num")
local macro_rules | `(tactic| walk_at "its") => `(tactic| first
  | with_reducible exact its_map
  | with_reducible exact its_map2
  | exact rfl)
local macro_rules | `(tactic| walk_at "rng") => `(tactic| first
  | ((with_reducible refine rng1 ?_ ?_) <;> walk_at "num")
  | ((with_reducible refine rng2 ?_ ?_ ?_ ?_) <;> walk_at "num"))
local macro_rules | `(tactic| walk_at "es") => `(tactic| simp (config := {failIfUnchanged := false}) only [List.set_cons_zero, List.set_cons_succ])
local macro_rules | `(tactic| walk_at "start") => `(tactic| (simp only [List.map_cons, List.map_nil, List.cons_append, List.nil_append, List.length_cons, List.length_nil, Nat.reduceAdd, Nat.reduceSub, List.replicate_succ, List.replicate_zero]))
local macro_rules | `(tactic| walk_at "st1") => `(tactic| first
  | ((with_reducible refine' wo_seq ?k))
  | ((with_reducible refine' wo_ift ?h ?e ?k); (case h => walk_at "ev"); (case e => simp only [beq_self_eq_true, Bool.true_beq, Bool.false_beq, decide_eq_true_eq, decide_eq_false_iff_not, Bool.not_eq_true', Bool.not_eq_false', Bool.or_eq_true, Bool.and_eq_true, Bool.or_eq_false_iff, Bool.and_eq_false_imp, Bool.not_true, Bool.not_false, Bool.false_or, Bool.or_false, Bool.true_or, Bool.or_true, Bool.true_and, Bool.and_true, Bool.false_and, Bool.and_false, Bool.true_eq_false, Bool.false_eq_true, decide_true, decide_false, reduceCtorEq, D.isNone, Int.not_lt, Int.not_le, ne_eq, Decidable.not_not, not_true_eq_false, not_false_eq_true, false_implies, true_implies, implies_true, and_true, true_and, and_false, false_and, or_true, true_or, or_false, false_or, reduceIte, eq_self]))
  | ((with_reducible refine' wo_iff ?h ?e ?k); (case h => walk_at "ev"); (case e => simp only [beq_self_eq_true, Bool.true_beq, Bool.false_beq, decide_eq_true_eq, decide_eq_false_iff_not, Bool.not_eq_true', Bool.not_eq_false', Bool.or_eq_true, Bool.and_eq_true, Bool.or_eq_false_iff, Bool.and_eq_false_imp, Bool.not_true, Bool.not_false, Bool.false_or, Bool.or_false, Bool.true_or, Bool.or_true, Bool.true_and, Bool.and_true, Bool.false_and, Bool.and_false, Bool.true_eq_false, Bool.false_eq_true, decide_true, decide_false, reduceCtorEq, D.isNone, Int.not_lt, Int.not_le, ne_eq, Decidable.not_not, not_true_eq_false, not_false_eq_true, false_implies, true_implies, implies_true, and_true, true_and, and_false, false_and, or_true, true_or, or_false, false_or, reduceIte, eq_self]))
  | (((with_reducible refine' wo_asg ?h1 ?k); (case h1 => walk_at "ev")); walk_at "es")
  | ((with_reducible refine' wo_ret ?h1 ?k); (case h1 => walk_at "ev"))
  | (((with_reducible refine' wo_tgt ?h1 ?h2 ?k); (case h1 => walk_at "ev"); (case h2 => exact rfl)); walk_at "es")
  | ((with_reducible refine' wo_nil ?k))
  | ((with_reducible refine' wo_raise ?k))
  | (((with_reducible refine' wo_own ?h1 ?k); (case h1 => walk_at "ev")); walk_at "es")
  | (((with_reducible refine' wo_asgL ?h1 ?k); (case h1 => walk_at "ev")); walk_at "es")
  | (((with_reducible refine' wo_app ?h1 ?h2 ?h3 ?k); (case h1 => exact rfl); (case h2 => walk_at "ev"); (case h3 => walk_at "len")); walk_at "es")
  | (((with_reducible refine' wo_par ?h1 ?h2 ?k); (case h1 => walk_at "ev"); (case h2 => walk_at "ev")); walk_at "es")
  | ((with_reducible refine wo_frz ?_); simp only [frz, List.getElem?_cons_zero, List.getElem?_cons_succ, List.set_cons_zero, List.set_cons_succ]))
local macro_rules | `(tactic| walk_at "st") => `(tactic| (walk_at "st1"; try dsimp only))
local macro_rules | `(tactic| walk_at "hs") => `(tactic| ((try simp only [beq_self_eq_true, Bool.true_beq, Bool.false_beq, decide_eq_true_eq, decide_eq_false_iff_not, Bool.not_eq_true', Bool.not_eq_false', Bool.or_eq_true, Bool.and_eq_true, Bool.or_eq_false_iff, Bool.and_eq_false_imp, Bool.not_true, Bool.not_false, Bool.false_or, Bool.or_false, Bool.true_or, Bool.or_true, Bool.true_and, Bool.and_true, Bool.false_and, Bool.and_false, Bool.true_eq_false, Bool.false_eq_true, decide_true, decide_false, reduceCtorEq, D.isNone, Int.not_lt, Int.not_le, ne_eq, Decidable.not_not, not_true_eq_false, not_false_eq_true, false_implies, true_implies, implies_true, and_true, true_and, and_false, false_and, or_true, true_or, or_false, false_or, reduceIte, eq_self]); exact rfl))
local macro_rules | `(tactic| walk_at "fls") => `(tactic| first | (with_reducible exact False.elim) | (with_reducible refine fun (_ : True) => ?_) | skip)
local macro_rules | `(tactic| walk_at "if") => `(tactic| ((with_reducible refine' wo_ifx ?h ?e1 ?e2 ?k1 ?k2); (case h => walk_at "ev"); (case e1 => walk_at "hs"); (case e2 => walk_at "hs"); (case' k1 => walk_at "fls"); (case' k2 => walk_at "fls")))
local macro_rules | `(tactic| walk_at "tt") => `(tactic| (try simp only [beq_self_eq_true, Bool.true_beq, Bool.false_beq, decide_eq_true_eq, decide_eq_false_iff_not, Bool.not_eq_true', Bool.not_eq_false', Bool.or_eq_true, Bool.and_eq_true, Bool.or_eq_false_iff, Bool.and_eq_false_imp, Bool.not_true, Bool.not_false, Bool.false_or, Bool.or_false, Bool.true_or, Bool.or_true, Bool.true_and, Bool.and_true, Bool.false_and, Bool.and_false, Bool.true_eq_false, Bool.false_eq_true, decide_true, decide_false, reduceCtorEq, D.isNone, Int.not_lt, Int.not_le, ne_eq, Decidable.not_not, not_true_eq_false, not_false_eq_true, false_implies, true_implies, implies_true, and_true, true_and, and_false, false_and, or_true, true_or, or_false, false_or, reduceIte, eq_self]))
local macro_rules | `(tactic| walk_at "hc") => `(tactic| simp only [beq_self_eq_true, Bool.true_beq, Bool.false_beq, decide_eq_true_eq, decide_eq_false_iff_not, Bool.not_eq_true', Bool.not_eq_false', Bool.or_eq_true, Bool.and_eq_true, Bool.or_eq_false_iff, Bool.and_eq_false_imp, Bool.not_true, Bool.not_false, Bool.false_or, Bool.or_false, Bool.true_or, Bool.or_true, Bool.true_and, Bool.and_true, Bool.false_and, Bool.and_false, Bool.true_eq_false, Bool.false_eq_true, decide_true, decide_false, reduceCtorEq, D.isNone, Int.not_lt, Int.not_le, ne_eq, Decidable.not_not, not_true_eq_false, not_false_eq_true, false_implies, true_implies, implies_true, and_true, true_and, and_false, false_and, or_true, true_or, or_false, false_or, reduceIte, eq_self] at *)
local macro_rules | `(tactic| walk_at "sts") => `(tactic| (walk_at "st"; try (walk_at "st"; try (walk_at "st"; try (walk_at "st"; try (walk_at "st"; try (walk_at "st"; try (walk_at "st"; try (walk_at "st"; try (walk_at "st"; try (walk_at "st"; try (walk_at "st"; try (walk_at "st"; try (walk_at "st"; try (walk_at "st"; try (walk_at "st"; try (walk_at "st"; try (walk_at "st"; try (walk_at "st"; try (walk_at "st"; try (walk_at "st"; try (walk_at "st"; try (walk_at "st"; try (walk_at "st"; try (walk_at "st"; try (walk_at "st"; try (walk_at "st"; try (walk_at "st"; try (walk_at "st"; try (walk_at "st"; try (walk_at "st"; try (walk_at "st"; try (walk_at "st"; try (walk_at "st"; try (walk_at "st"; try (walk_at "st"; try (walk_at "st"; try (walk_at "st"; try (walk_at "st"; try (walk_at "st"; try (walk_at "st"; try (walk_at "st"))))))))))))))))))))))))))))))))))))))))))
/-! ### corners by whole numbers, round and round -/
def cz (C : List Pt) (i : Int) : Pt := cy C (i % (C.length : Int)).toNat
theorem cz_nat (C : List Pt) (k : Nat) : cz C (k : Int) = cy C k := by
  unfold cz
  rw [show ((k : Int) % (C.length : Int)).toNat = k % C.length by rw [← Int.natCast_emod]; rfl, cy_mod]
theorem cz_mod (C : List Pt) (i : Int) : cz C (i % (C.length : Int)) = cz C i := by
  unfold cz
  rw [Int.emod_emod]
theorem cz_add (C : List Pt) (i : Int) : cz C (i + (C.length : Int)) = cz C i := by
  unfold cz
  rw [Int.add_emod_right]
theorem cz_congr {C : List Pt} {i j : Int} (h : i % (C.length : Int) = j % (C.length : Int)) : cz C i = cz C j := by
  unfold cz
  rw [h]
theorem cz_sub1 (C : List Pt) (i : Int) : cz C (i % (C.length : Int) - 1) = cz C (i - 1) := cz_congr (by rw [Int.emod_sub_emod])
theorem cz_add1 (C : List Pt) (i : Int) : cz C (i % (C.length : Int) + 1) = cz C (i + 1) := cz_congr (by rw [Int.emod_add_emod])
theorem at_cz {C : List Pt} {i : Int} (h1 : -(C.length : Int) ≤ i) (h2 : i < (C.length : Int)) : dAt (.lst (C.map D2p)) (.int i) = some (D2p (cz C i)) := by
  by_cases h : 0 ≤ i
  · obtain ⟨k, rfl⟩ := Int.eq_ofNat_of_zero_le h
    rw [cz_nat]
    exact at_cy (by omega)
  · have e : i + (C.length : Int) = ((i + (C.length : Int)).toNat : Int) := by omega
    rw [← cz_add, e, cz_nat]
    show L2.atI (C.map D2p) i = _
    unfold L2.atI
    have e2 : L2.ixN (C.map D2p).length i = some (i + (C.length : Int)).toNat := by
      rw [List.length_map]
      unfold L2.ixN
      rw [if_neg (by omega), if_pos (by omega)]
    rw [e2, Option.bind_some, List.getElem?_map, cy_at (by omega)]
    rfl
theorem at_czm {C : List Pt} {x : Int} (h : 0 < C.length) : dAt (.lst (C.map D2p)) (.int (x % (C.length : Int))) = some (D2p (cz C x)) := by
  have h1 := Int.emod_nonneg x (by omega : (C.length : Int) ≠ 0)
  have h2 := Int.emod_lt_of_pos x (by omega : 0 < (C.length : Int))
  rw [at_cz (by omega) h2, cz_mod]
theorem at_czm1 {C : List Pt} {x : Int} (h : 0 < C.length) : dAt (.lst (C.map D2p)) (.int (x % (C.length : Int) - 1)) = some (D2p (cz C (x - 1))) := by
  have h1 := Int.emod_nonneg x (by omega : (C.length : Int) ≠ 0)
  have h2 := Int.emod_lt_of_pos x (by omega : 0 < (C.length : Int))
  rw [at_cz (by omega) (by omega), cz_sub1]
theorem bd_cz {n : Nat} {C : List Pt} (h : ∀ q ∈ C, BdP n q) (hc : 0 < C.length) (i : Int) : BdP n (cz C i) := bd_cy h hc _
theorem cz_mem {C : List Pt} (hc : 0 < C.length) (i : Int) : cz C i ∈ C := cy_mem (by intro z; rw [z] at hc; simp at hc) _
theorem mem_cz {C : List Pt} {c : Pt} (h : c ∈ C) : ∃ k : Nat, k < C.length ∧ cz C k = c := by
  obtain ⟨k, h1, h2⟩ := mem_cy h
  exact ⟨k, h1, by rw [cz_nat, h2]⟩
theorem sides_get {C : List Pt} {k : Nat} (h : k < C.length) : (sidesP C)[k]? = some (cy C k, cy C (k + 1)) := by
  unfold sidesP
  rw [List.getElem?_map, List.getElem?_range h]
  rfl
theorem at_sides {C : List Pt} {k : Nat} (h : k < C.length) : dAt (.lst ((sidesP C).map D22)) (.int (k : Int)) = some (.tup [D2p (cz C k), D2p (cz C (k + 1))]) := by
  refine dAt_lst ?_
  rw [List.getElem?_map, sides_get h]
  show some (D22 (cy C k, cy C (k + 1))) = _
  rw [← cz_nat, ← cz_nat]
  rfl
theorem at_normals {C : List Pt} {k : Nat} (h : k < C.length) : dAt (.lst ((normalsP C).map D2p)) (.int (k : Int)) = some (D2p (nrm (cz C k) (cz C (k + 1)))) := by
  refine dAt_lst ?_
  unfold normalsP
  rw [List.getElem?_map, List.getElem?_map, List.getElem?_range h]
  show some (D2p (nrm (cy C k) (cy C (k + 1)))) = _
  rw [← cz_nat, ← cz_nat]
  rfl
section
variable {N : En → Prop} {T : D → Prop} {X : Str → Prop} {ρ : En} {a b body m : SM} {n : Nat} {ds : List D} {d e : D} {me ma mb mc : EM} {mr : AM} {t u : TM}
theorem wo_ins {i : Nat} {k : Int} {mk : EM} (h0 : ρ[i]? = some (.l ds)) (hk : mk ρ = .ok (.int k)) (h : me ρ = .ok d) (h1 : 0 ≤ k) (h2 : k < 2 ^ 62) (hl : ds.length < 16777216) (kk : N (ρ.set i (.l (ds.take k.toNat ++ [d] ++ ds.drop k.toNat)))) : WO (sIns i mk me ρ) N T X := by
  unfold sIns
  rw [h0]
  show WO (ofR ((mk ρ).bind fun k => (me ρ).bind fun d => R.ofO (insD ds k d)) ρ fun es => .nx (ρ.set i (.l es))) N T X
  rw [hk, bind_ok, h, bind_ok, show insD ds (.int k) d = some (ds.take k.toNat ++ [d] ++ ds.drop k.toNat) from if_pos ⟨h1, by omega, by rw [sizeLine_eq]; exact hl⟩]
  exact kk
theorem ev_cutS {ns : List Int} {i j : Int} (h1 : ma ρ = .ok (.scr ns)) (h2 : mb ρ = .ok (.int i)) (h3 : mc ρ = .ok (.int j)) : aCut ma (oSome mb) (oSome mc) ρ = .ok ((cutL ns (some i) (some j)).map D.int) := by
  unfold aCut oSome
  rw [h1, bind_ok, h2, bind_ok, h3]
  show R.ok (cutL (ns.map D.int) (some i) (some j)) = _
  rw [cutL_ints]
theorem ev_home (x y z : Int) : eC (.tup [.int x, .int y, .int z]) ρ = .ok (D3 x y z) := rfl
theorem ev_ownLenM {α : Type} {f : α → D} {l : List α} {i : Nat} (h : ρ[i]? = some (.l (l.map f))) : eOwnLen i ρ = .ok (.int (l.length : Int)) := by
  unfold eOwnLen
  rw [h]
  show R.ok (D.int (((l.map f).length : Nat) : Int)) = _
  rw [List.length_map]
theorem ev_revm {α : Type} {f : α → D} {l : List α} (h : ma ρ = .ok (.lst (l.map f))) : aLRev ma ρ = .ok (l.reverse.map f) := by
  unfold aLRev
  rw [h, bind_ok, List.map_reverse]
  rfl
theorem ev_rev {l : List D} (h : ma ρ = .ok (.lst l)) : aLRev ma ρ = .ok l.reverse := by
  unfold aLRev
  rw [h, bind_ok]
  rfl
/-- a loop over range(k) -/
theorem wo_rng {as : List D} {k : Nat} {g : D → En → Option En} (I : Nat → En → Prop) (hm : mr ρ = .ok as) (hr : dRange as = some (rg 0 1 k)) (i0 : I 0 ρ)
    (step : ∀ j ρ, j < k → I j ρ → ∃ ρ1, g (.int (j : Nat)) ρ = some ρ1 ∧ WO (body ρ1) (I (j + 1)) T X) (fin : ∀ ρ, I k ρ → N ρ) : WO (sForR g mr body ρ) N T X :=
  wo_range I hm hr i0 (fun j ρ hj i => by rw [show (0 : Int) + (j : Nat) * 1 = (j : Nat) by omega]; exact step j ρ hj i) fin
/-- range over cells: a, b, c -/
theorem wo_rng3 {x y c : Int} {g : D → En → Option En} (I : En → Prop) (hm : mr ρ = .ok [.int x, .int y, .int c]) (hx : 0 ≤ x) (hx2 : x ≤ 1000) (hy : 0 ≤ y) (hy2 : y ≤ 1000) (hc : 0 < c) (hc2 : c ≤ 100) (i0 : I ρ)
    (step : ∀ (i : Int) ρ, x ≤ i → i < y → I ρ → ∃ ρ1, g (.int i) ρ = some ρ1 ∧ WO (body ρ1) I T X) (fin : ∀ ρ, I ρ → N ρ) : WO (sForR g mr body ρ) N T X := by
  obtain ⟨n, hn, hi⟩ := dRange3 hx hx2 hy hy2 hc hc2
  exact wo_range (fun _ => I) hm hn i0 (fun j ρ hj i => step _ ρ (by have := Int.mul_nonneg (show (0:Int) ≤ (j : Nat) by omega) (show 0 ≤ c by omega); omega) (hi j hj) i) fin
theorem dLen_scr (ns : List Int) : dLen [.scr ns] = some (.int (ns.length : Int)) := rfl
theorem dLen_t2 (p : Pt) : dLen [D2p p] = some (.int 2) := rfl
theorem dLen_t3 (x y z : Int) : dLen [D3 x y z] = some (.int 3) := rfl
theorem dIs_nn : dIs .non .non = some (.bl true) := rfl
theorem dIs_pt (p : Pt) : dIs (D2p p) .non = some (.bl false) := rfl
theorem dIs_D3 (x y z : Int) : dIs (D3 x y z) .non = some (.bl false) := rfl
theorem dIs_lst (l : List D) : dIs (.lst l) .non = some (.bl false) := rfl
theorem dIsN_nn : dIsNot .non .non = some (.bl false) := rfl
theorem dIsN_pt (p : Pt) : dIsNot (D2p p) .non = some (.bl true) := rfl
theorem dIsN_D3 (x y z : Int) : dIsNot (D3 x y z) .non = some (.bl true) := rfl
theorem cutL_len2 {α : Type} (xs : List α) (i j : Nat) (h : i ≤ j) : (cutL xs (some (i : Int)) (some (j : Int))).length ≤ j - i := by
  unfold cutL
  rw [List.length_take, HT.sIx_nat, HT.sIx_nat]
  omega
theorem dLen_tup (ds : List D) : dLen [.tup ds] = some (.int (ds.length : Int)) := rfl
theorem rngN {k : Nat} (h : k < 2 ^ 62) : dRange [.int (k : Int)] = some (rg 0 1 k) := by
  rw [rng1 (by omega) (by omega)]
  exact congrArg (fun n => some (rg 0 1 n)) (Int.toNat_natCast k)
theorem lcc1 {d x : D} {xs r : List D} {g : D → En → Option En} (h : ∃ ρ1, g d ρ = some ρ1 ∧ mb ρ1 = .ok x) (h2 : lcGo g mYes mb r ρ = .ok xs) : lcGo g mYes mb (d :: r) ρ = .ok (x :: xs) := by
  obtain ⟨ρ1, h3, h4⟩ := h
  exact lcc h3 h4 h2
theorem ev_lc3 {d0 d1 d2 : D} {vs : List Nat} {g : D → En → Option En} (h1 : mr ρ = .ok [.int 3]) (k0 : ∃ ρ1, g (.int 0) (wipeE vs ρ) = some ρ1 ∧ mb ρ1 = .ok d0) (k1 : ∃ ρ1, g (.int 1) (wipeE vs ρ) = some ρ1 ∧ mb ρ1 = .ok d1) (k2 : ∃ ρ1, g (.int 2) (wipeE vs ρ) = some ρ1 ∧ mb ρ1 = .ok d2) : aLcR vs g mYes mr mb ρ = .ok [d0, d1, d2] := by
  unfold aLcR
  rw [h1, bind_ok, show dRange [.int 3] = some [.int 0, .int 1, .int 2] from rfl, ofO_some, bind_ok, if_pos (by rw [sizeLine_eq]; exact (by decide : 3 ≤ 16777216))]
  exact (lcc1 k0 (lcc1 k1 (lcc1 k2 (show lcGo g mYes mb [] (wipeE vs ρ) = .ok [] from rfl))))
theorem ev_lc6 {d0 d1 d2 d3 d4 d5 : D} {vs : List Nat} {g : D → En → Option En} (h1 : mr ρ = .ok [.int 6]) (k0 : ∃ ρ1, g (.int 0) (wipeE vs ρ) = some ρ1 ∧ mb ρ1 = .ok d0) (k1 : ∃ ρ1, g (.int 1) (wipeE vs ρ) = some ρ1 ∧ mb ρ1 = .ok d1) (k2 : ∃ ρ1, g (.int 2) (wipeE vs ρ) = some ρ1 ∧ mb ρ1 = .ok d2) (k3 : ∃ ρ1, g (.int 3) (wipeE vs ρ) = some ρ1 ∧ mb ρ1 = .ok d3) (k4 : ∃ ρ1, g (.int 4) (wipeE vs ρ) = some ρ1 ∧ mb ρ1 = .ok d4) (k5 : ∃ ρ1, g (.int 5) (wipeE vs ρ) = some ρ1 ∧ mb ρ1 = .ok d5) : aLcR vs g mYes mr mb ρ = .ok [d0, d1, d2, d3, d4, d5] := by
  unfold aLcR
  rw [h1, bind_ok, show dRange [.int 6] = some [.int 0, .int 1, .int 2, .int 3, .int 4, .int 5] from rfl, ofO_some, bind_ok, if_pos (by rw [sizeLine_eq]; exact (by decide : 6 ≤ 16777216))]
  exact (lcc1 k0 (lcc1 k1 (lcc1 k2 (lcc1 k3 (lcc1 k4 (lcc1 k5 (show lcGo g mYes mb [] (wipeE vs ρ) = .ok [] from rfl)))))))
theorem ev_lc8 {d0 d1 d2 d3 d4 d5 d6 d7 : D} {vs : List Nat} {g : D → En → Option En} (h1 : mr ρ = .ok [.int 8]) (k0 : ∃ ρ1, g (.int 0) (wipeE vs ρ) = some ρ1 ∧ mb ρ1 = .ok d0) (k1 : ∃ ρ1, g (.int 1) (wipeE vs ρ) = some ρ1 ∧ mb ρ1 = .ok d1) (k2 : ∃ ρ1, g (.int 2) (wipeE vs ρ) = some ρ1 ∧ mb ρ1 = .ok d2) (k3 : ∃ ρ1, g (.int 3) (wipeE vs ρ) = some ρ1 ∧ mb ρ1 = .ok d3) (k4 : ∃ ρ1, g (.int 4) (wipeE vs ρ) = some ρ1 ∧ mb ρ1 = .ok d4) (k5 : ∃ ρ1, g (.int 5) (wipeE vs ρ) = some ρ1 ∧ mb ρ1 = .ok d5) (k6 : ∃ ρ1, g (.int 6) (wipeE vs ρ) = some ρ1 ∧ mb ρ1 = .ok d6) (k7 : ∃ ρ1, g (.int 7) (wipeE vs ρ) = some ρ1 ∧ mb ρ1 = .ok d7) : aLcR vs g mYes mr mb ρ = .ok [d0, d1, d2, d3, d4, d5, d6, d7] := by
  unfold aLcR
  rw [h1, bind_ok, show dRange [.int 8] = some [.int 0, .int 1, .int 2, .int 3, .int 4, .int 5, .int 6, .int 7] from rfl, ofO_some, bind_ok, if_pos (by rw [sizeLine_eq]; exact (by decide : 8 ≤ 16777216))]
  exact (lcc1 k0 (lcc1 k1 (lcc1 k2 (lcc1 k3 (lcc1 k4 (lcc1 k5 (lcc1 k6 (lcc1 k7 (show lcGo g mYes mb [] (wipeE vs ρ) = .ok [] from rfl)))))))))
theorem ev_lcN {as : List D} {k : Nat} {f' : Nat → D} {vs : List Nat} {g : D → En → Option En} (h1 : mr ρ = .ok as) (h2 : dRange as = some (rg 0 1 k)) (hl : k ≤ 16777216)
    (h3 : ∀ x, x < k → ∃ ρ1, g (.int (x : Nat)) (wipeE vs ρ) = some ρ1 ∧ mb ρ1 = .ok (f' x)) : aLcR vs g mYes mr mb ρ = .ok ((List.range k).map f') :=
  ev_lcR h1 h2 hl fun x hx => by rw [show (0 : Int) + (x : Nat) * 1 = (x : Nat) by omega]; exact h3 x hx
end
theorem shp_mapL {α : Type} {f : α → D} {n : Nat} (h : ∀ a, Shp n (f a)) : ∀ l : List α, Shp (n + 1) (.lst (l.map f))
  | [] => ⟨rfl, by show 0 + 1 ≤ n + 1; omega⟩
  | a :: l => by
    have h1 := h a
    have h2 := shp_mapL h l
    constructor
    · show ((toP (f a)).canLay0 && PyData.canLayAll0 (toPs (l.map f))) = true
      rw [h1.1]
      exact h2.1
    · have g1 := h1.2
      have g2 : PyData.depthAll (toPs (l.map f)) + 1 ≤ n + 1 := h2.2
      show max (toP (f a)).depth (PyData.depthAll (toPs (l.map f))) + 1 ≤ n + 1
      omega
theorem hull_q {ps : List Pt} (hb : ∀ q ∈ ps, BdP 2000 q) (hl : ps.length < 10000) (h3 : ¬ (hullP (srtP ps)).length < 3) : F_hull [.lst (ps.map D2p)] = .ok (.lst ((hullP (srtP ps)).map D2p)) := by
  rw [hull_all (by decide : 2000 ≤ 400000) ps hb hl, if_neg h3]
/-- what a body is: corners of a hull -/
structure Body (n : Nat) (C : List Pt) : Prop where
  poly : ∃ ps : List Pt, ps.Pairwise lx ∧ Poly ps C
  len : C.length ≤ 100
  bd : ∀ q ∈ C, BdP n q
theorem Body.three {n : Nat} {C : List Pt} (h : Body n C) : 3 ≤ C.length := let ⟨_, _, P⟩ := h.poly; P.len
theorem Body.pos {n : Nat} {C : List Pt} (h : Body n C) : 0 < C.length := by have := h.three; omega
theorem Body.lt {n : Nat} {C : List Pt} (h : Body n C) : C.length < 10000 := by have := h.len; omega
theorem Body.mono {m n : Nat} {C : List Pt} (h : Body m C) (l : m ≤ n) : Body n C := ⟨h.poly, h.len, fun q hq => (h.bd q hq).mono l⟩
theorem body_q (cell m g : Int) (hg : 0 < g) (bg : Bd 100 g) : ∃ (ps C : List Pt), F__law_points [.int cell, .int m, .int g] = .ok (.lst (ps.map D2p)) ∧ F_hull [.lst (ps.map D2p)] = .ok (.lst (C.map D2p)) ∧ Body 120 C := by
  obtain ⟨ps, C, h1, h2, P, l, b⟩ := body_spec cell m g hg bg
  exact ⟨ps, C, h1, h2, ⟨_, srtP_srt ps, P⟩, by omega, b⟩
theorem body_strict {n : Nat} {C : List Pt} (h : Body n C) (i : Int) {c : Pt} (hc : c ∈ C) (h1 : c ≠ cz C i) (h2 : c ≠ cz C (i + 1)) : 0 < bnd (cz C i) (cz C (i + 1)) c := by
  obtain ⟨ps, _, P⟩ := h.poly
  have hp := h.pos
  have e1 : cz C i = cy C (i % (C.length : Int)).toNat := rfl
  have hn := Int.emod_nonneg i (by omega : (C.length : Int) ≠ 0)
  have e2 : cz C (i + 1) = cy C ((i % (C.length : Int)).toNat + 1) := by
    rw [← cz_add1, show i % (C.length : Int) + 1 = (((i % (C.length : Int)).toNat + 1 : Nat) : Int) by omega, cz_nat]
  rw [e1] at h1
  rw [e2] at h2
  rw [e1, e2]
  exact poly_strict P _ hc h1 h2
theorem body_left {n : Nat} {C : List Pt} (h : Body n C) (i : Int) {c : Pt} (hc : c ∈ C) : 0 ≤ bnd (cz C i) (cz C (i + 1)) c := by
  by_cases h1 : c = cz C i
  · rw [h1, bnd_self]; omega
  · by_cases h2 : c = cz C (i + 1)
    · rw [h2, bnd_self2]; omega
    · exact Int.le_of_lt (body_strict h i hc h1 h2)
theorem body_turn {n : Nat} {C : List Pt} (h : Body n C) (i : Int) : 0 < bnd (cz C i) (cz C (i + 1)) (cz C (i + 2)) := by
  obtain ⟨ps, _, P⟩ := h.poly
  have hp := h.pos
  have hn := Int.emod_nonneg i (by omega : (C.length : Int) ≠ 0)
  have e1 : cz C i = cy C (i % (C.length : Int)).toNat := rfl
  have e2 : cz C (i + 1) = cy C ((i % (C.length : Int)).toNat + 1) := by
    rw [← cz_add1, show i % (C.length : Int) + 1 = (((i % (C.length : Int)).toNat + 1 : Nat) : Int) by omega, cz_nat]
  have e3 : cz C (i + 2) = cy C ((i % (C.length : Int)).toNat + 2) := by
    rw [show cz C (i + 2) = cz C (i % (C.length : Int) + 2) from cz_congr (by rw [Int.emod_add_emod]), show i % (C.length : Int) + 2 = (((i % (C.length : Int)).toNat + 2 : Nat) : Int) by omega, cz_nat]
  rw [e1, e2, e3]
  exact poly_turn P _
end Law

namespace Law
open PySem PySem.Spec PyProof.Rows L2 GD Hl TL
/-! ### texts by their signs -/
def tS (l : List Nat) : Str := ⟨l.toArray⟩
def T (l : List Nat) : D := .str (tS l)
theorem tl_tS (l : List Nat) : (tS l).cps.toList = l := rfl
theorem len_tS (l : List Nat) : (tS l).length = l.length := by simp [tS, Str.length]
theorem str_T (x : Str) : D.str x = T x.cps.toList := rfl
theorem tS_inj {a b : List Nat} (h : tS a = tS b) : a = b := by
  have := congrArg (fun s : Str => s.cps.toList) h
  exact this
theorem lit_e : D.str "" = T [] := congrArg D.str (by decide +kernel)
theorem lit_m : D.str "-" = T [45] := congrArg D.str (by decide +kernel)
theorem lit_0 : D.str "0" = T [48] := congrArg D.str (by decide +kernel)
theorem lit_s : D.str "/" = T [47] := congrArg D.str (by decide +kernel)
theorem lit_f : D.str "0123456789" = T [48, 49, 50, 51, 52, 53, 54, 55, 56, 57] := congrArg D.str (by decide +kernel)
theorem dAdd_T {a b : List Nat} (h : a.length + b.length ≤ 16777216) : dAdd (T a) (T b) = some (T (a ++ b)) := by
  show (if catOk (tS a).length (tS b).length then _ else _) = _
  rw [if_pos (by unfold catOk; rw [len_tS, len_tS, sizeLine_eq]; exact h)]
  show some (D.str (tS a ++ tS b)) = _
  rw [show tS a ++ tS b = tS (a ++ b) from ext_tl (by rw [tl_append]; rfl)]
  rfl
theorem dLen_T {a : List Nat} (h : a.length ≤ 16777216) : dLen [T a] = some (.int (a.length : Int)) := by
  show (if (tS a).length ≤ sizeLine then _ else _) = _
  rw [if_pos (by rw [len_tS, sizeLine_eq]; exact h), len_tS]
abbrev okT (l : List Nat) : Prop := ∀ c ∈ l, c < 1114112
theorem shp_T {a : List Nat} (h : okT a) : Shp 0 (T a) := ⟨by
  show PyData.canLay0 (.str (tS a)) = true
  show (tS a).cps.all (· < 0x110000) = true
  rw [Array.all_eq_true_iff_forall_mem]
  intro c hc
  exact decide_eq_true (h c (by simpa [tS] using hc)), Nat.le_refl 0⟩
theorem okT.take {l : List Nat} (h : okT l) (k : Nat) : okT (l.take k) := fun c hc => h c (List.mem_of_mem_take hc)
theorem okT.drop {l : List Nat} (h : okT l) (k : Nat) : okT (l.drop k) := fun c hc => h c (List.mem_of_mem_drop hc)
theorem okT.app {l m : List Nat} (h : okT l) (g : okT m) : okT (l ++ m) := fun c hc => (List.mem_append.mp hc).elim (h c) (g c)
theorem okT.get {l : List Nat} (h : okT l) {k : Nat} (hk : k < l.length) : okT [l[k]] := fun c hc => by rw [List.mem_singleton.mp hc]; exact h _ (List.getElem_mem hk)
theorem okT.one {l : List Nat} (h : okT l) {c : Nat} (hc : c ∈ l) : okT [c] := fun d hd => by rw [List.mem_singleton.mp hd]; exact h c hc
theorem okT_dig {l : List Nat} (h : NumText.AllDigits l) : okT l := fun c hc => by have := h c hc; omega
theorem eqv_T (a b : List Nat) : PyData.eqv (toP (T a)) (toP (T b)) = decide (a = b) := by
  show (tS a == tS b) = _
  by_cases h : a = b
  · subst h
    rw [decide_eq_true rfl]
    exact beq_self_eq_true _
  · rw [decide_eq_false h]
    exact beq_false_of_ne fun e => h (tS_inj e)
theorem dEq_T {a b : List Nat} (ha : okT a) (hb : okT b) : dEq (T a) (T b) = some (.bl (decide (a = b))) := by
  unfold dEq
  rw [if_pos ⟨(shp_T ha).shaped (by decide), (shp_T hb).shaped (by decide)⟩, eqv_T]
theorem dNe_T {a b : List Nat} (ha : okT a) (hb : okT b) : dNe (T a) (T b) = some (.bl (!decide (a = b))) := by
  unfold dNe
  rw [if_pos ⟨(shp_T ha).shaped (by decide), (shp_T hb).shaped (by decide)⟩, eqv_T]
theorem dAt_T {a : List Nat} {k : Nat} (h : k < a.length) (hl : a.length ≤ 16777216) : dAt (T a) (.int (k : Int)) = some (T [a[k]]) := by
  show (if (tS a).length ≤ sizeLine then (atI (tS a).cps.toList (k : Int)).map _ else none) = _
  rw [if_pos (by rw [len_tS, sizeLine_eq]; exact hl), tl_tS]
  have e : atI a (k : Int) = some a[k] := by
    unfold atI ixN
    rw [if_pos (by omega), if_pos (by omega)]
    show a[((k : Int)).toNat]? = _
    rw [Int.toNat_natCast, List.getElem?_eq_getElem h]
  rw [e]
  rfl
theorem dIn_T (c : Nat) (z : List Nat) : dIn (T [c]) (T z) = some (.bl (decide (c ∈ z))) := by
  show some (D.bl (!(Builtin.Str.occurrences (tS z) (tS [c]) 0 (tS z).length 1).isEmpty)) = _
  have e := PySem.StrLaws.found_one (tS z) c
  rw [show (!(Builtin.Str.occurrences (tS z) (tS [c]) 0 (tS z).length 1).isEmpty) = decide (c ∈ z) from e]
theorem dOrd_T (c : Nat) : dOrd [T [c]] = some (.int (c : Int)) := rfl
theorem dCut_to {a : List Nat} {k : Nat} (hl : a.length ≤ 16777216) : dCut (T a) none (some (k : Int)) = some (T (a.take k)) := by
  show (if (tS a).length ≤ sizeLine then some (D.str (cutS (tS a) none (some (k : Int)))) else none) = _
  rw [if_pos (by rw [len_tS, sizeLine_eq]; exact hl)]
  unfold cutS
  rw [HT.sIx_none, HT.sIx_nat, len_tS, tl_tS]
  show some (T _) = _
  rw [List.drop_zero, Nat.sub_zero]
  congr 2
  by_cases h : k ≤ a.length
  · rw [Nat.min_eq_left h]
  · rw [Nat.min_eq_right (by omega), List.take_of_length_le (by omega), List.take_of_length_le (by omega)]
theorem dCut_from {a : List Nat} {k : Nat} (hl : a.length ≤ 16777216) : dCut (T a) (some (k : Int)) none = some (T (a.drop k)) := by
  show (if (tS a).length ≤ sizeLine then some (D.str (cutS (tS a) (some (k : Int)) none)) else none) = _
  rw [if_pos (by rw [len_tS, sizeLine_eq]; exact hl)]
  unfold cutS
  rw [HT.sIx_none, HT.sIx_nat, len_tS, tl_tS]
  show some (T _) = _
  congr 2
  by_cases h : k ≤ a.length
  · rw [Nat.min_eq_left h, List.take_of_length_le (by rw [List.length_drop]; omega)]
  · rw [Nat.min_eq_right (by omega), List.drop_of_length_le (by omega), List.drop_of_length_le (by omega), List.take_nil]
def numI (i : Int) : List Nat := if i < 0 then 45 :: numL i.natAbs else numL i.natAbs
theorem dStr_T {i : Int} (h : i.natAbs.log2 < 1920) : dStr [.int i] = some (T (numI i)) := by
  show (if i.natAbs.log2 < 1920 then some (D.str _) else none) = _
  rw [if_pos h]
  show some (T (Str.ofString (toString i)).cps.toList) = _
  congr 2
  unfold numI
  by_cases h0 : i < 0
  · rw [if_pos h0]
    obtain ⟨n, rfl⟩ := Int.eq_negSucc_of_lt_zero h0
    have e : toString (Int.negSucc n) = "-" ++ toString ((n + 1 : Nat) : Int) := rfl
    have e2 := tl_num (n + 1)
    have e3 := tl_ofString ("-" ++ toString ((n + 1 : Nat) : Int))
    have e4 := tl_ofString (toString ((n + 1 : Nat) : Int))
    rw [e]
    show tl _ = _
    rw [e3, String.toList_append, List.map_append, ← e4, e2]
    rfl
  · rw [if_neg h0]
    obtain ⟨n, rfl⟩ := Int.eq_ofNat_of_zero_le (show 0 ≤ i by omega)
    exact tl_num n
theorem ev_lit {ρ : En} {x : Str} {l : List Nat} (h : D.str x = T l) : eC (.str x) ρ = .ok (T l) := by rw [h]; rfl
theorem okT_numI (i : Int) : okT (numI i) := by
  unfold numI
  split
  · intro c hc
    rcases List.mem_cons.mp hc with rfl | hc
    · decide
    · exact okT_dig (numL_digits _) c hc
  · exact okT_dig (numL_digits _)
theorem ev_cutTo {ρ : En} {ma mk : EM} {a : List Nat} {k : Nat} (h1 : ma ρ = .ok (T a)) (h2 : mk ρ = .ok (.int (k : Int))) (h3 : a.length ≤ 16777216) : eCut ma oNone (oSome mk) ρ = .ok (T (a.take k)) := by
  unfold eCut oNone oSome
  rw [h1, bind_ok, bind_ok, h2]
  show R.ofO (dCut (T a) none (some (k : Int))) = _
  rw [dCut_to h3]
  rfl
theorem ev_cutFrom {ρ : En} {ma mk : EM} {a : List Nat} {k : Nat} (h1 : ma ρ = .ok (T a)) (h2 : mk ρ = .ok (.int (k : Int))) (h3 : a.length ≤ 16777216) : eCut ma (oSome mk) oNone ρ = .ok (T (a.drop k)) := by
  unfold eCut oNone oSome
  rw [h1, bind_ok, h2]
  show R.ofO (dCut (T a) (some (k : Int)) none) = _
  rw [dCut_from h3]
  rfl
theorem ev_cutTo1 {ρ : En} {ma : EM} {a : List Nat} (h1 : ma ρ = .ok (T a)) (h3 : a.length ≤ 16777216) : eCut ma oNone (oSome (eC (.int 1))) ρ = .ok (T (a.take 1)) := ev_cutTo (k := 1) h1 rfl h3
theorem ev_cutFrom1 {ρ : En} {ma : EM} {a : List Nat} (h1 : ma ρ = .ok (T a)) (h3 : a.length ≤ 16777216) : eCut ma (oSome (eC (.int 1))) oNone ρ = .ok (T (a.drop 1)) := ev_cutFrom (k := 1) h1 rfl h3
theorem dAt_Tn {a : List Nat} {k : Nat} (h : k < a.length) (hl : a.length ≤ 16777216) : dAt (T a) (.int (k : Int)) = some (T [a[k]]) := dAt_T h hl
theorem dAt_T0 {a : List Nat} (h : ¬ a = []) (hl : a.length ≤ 16777216) : dAt (T a) (.int 0) = some (T (a.take 1)) := by
  cases a with
  | nil => exact absurd rfl h
  | cons c r => exact dAt_T (a := c :: r) (k := 0) (by simp) hl
theorem isi_T (a : List Nat) : dIsi [T a, .ty "str"] = some (.bl true) := by
  show (kitB "str" "str").map D.bl = _
  rw [kb_str_str]
  rfl
theorem dIs_T (a : List Nat) : dIs (T a) .non = some (.bl false) := rfl
theorem dIsN_T (a : List Nat) : dIsNot (T a) .non = some (.bl true) := rfl
theorem its_S {a : List Nat} : asS (T a) = some (a.map sgn) := rfl
theorem sgn_T (c : Nat) : sgn c = T [c] := rfl
theorem log_bd {i : Int} (h : Bd 1900 i) : i.natAbs.log2 < 1920 := by
  have h' : i.natAbs < 2 ^ 1900 := h
  by_cases z : i.natAbs = 0
  · rw [z]; decide
  · have := (Nat.log2_lt z).mpr h'
    omega
theorem dIs_nnT : dIs .non .non = some (.bl true) := rfl
theorem dIsN_nnT : dIsNot .non .non = some (.bl false) := rfl
theorem dIs_iT (i : Int) : dIs (.int i) .non = some (.bl false) := rfl
theorem dIsN_iT (i : Int) : dIsNot (.int i) .non = some (.bl true) := rfl
theorem dIs_D2T (i j : Int) : dIs (D2 i j) .non = some (.bl false) := rfl
theorem dIsN_D2T (i j : Int) : dIsNot (D2 i j) .non = some (.bl true) := rfl
end Law

namespace Law
open PySem PySem.Spec PyProof.Rows L2 GD Hl TL
local macro_rules | `(tactic| walk_at "bd") => `(tactic| first
  | with_reducible assumption
  | with_reducible exact Bd.litO _
  | ((with_reducible refine' Bd.mul ?h ?g); (case h => walk_at "bd"); (case g => walk_at "bd"))
  | ((with_reducible refine' Bd.add ?h ?g); (case h => walk_at "bd"); (case g => walk_at "bd"))
  | ((with_reducible refine' Bd.sub ?h ?g); (case h => walk_at "bd"); (case g => walk_at "bd"))
  | ((with_reducible refine' Bd.neg ?h); (case h => walk_at "bd"))
  | ((with_reducible refine' Bd.emod ?h); (case h => walk_at "pos"))
  | ((with_reducible refine' Bd.ediv ?h); (case h => walk_at "bd"))
  | ((with_reducible refine' bd_fT ?h); (case h => walk_at "bd"))
  | ((with_reducible refine' bd_fB ?h); (case h => walk_at "bd"))
  | ((with_reducible refine' bd_sX ?h); (case h => walk_at "bd"))
  | ((with_reducible refine' bd_sY ?h); (case h => walk_at "bd"))
  | ((with_reducible refine' bd_sW ?h); (case h => walk_at "bd"))
  | ((with_reducible refine' bd_abs ?h); (case h => walk_at "bd"))
  | ((with_reducible refine' BdP.a ?h); (case h => walk_at "bdq"))
  | ((with_reducible refine' BdP.b ?h); (case h => walk_at "bdq"))
  | with_reducible exact bd_ite1
  | ((with_reducible refine' bd_ite ?h ?g); (case h => walk_at "bd"); (case g => walk_at "bd")))
local macro_rules | `(tactic| walk_at "pos") => `(tactic| first
  | with_reducible assumption
  | decide
  | omega)
local macro_rules | `(tactic| walk_at "bdq") => `(tactic| first
  | with_reducible assumption
  | ((with_reducible refine' bd_cy ?h ?g _); (case h => with_reducible assumption); (case g => first | with_reducible assumption | omega))
  | ((with_reducible refine' bd_mem ?h ?g); (case g => with_reducible assumption); (case h => with_reducible assumption))
  | ((with_reducible refine' bd_get ?h); (case h => with_reducible assumption)))
local macro_rules | `(tactic| walk_at "bdp") => `(tactic| first
  | walk_at "bdq"
  | ((with_reducible refine' BdP.mk ?h ?g); (case h => walk_at "bd"); (case g => walk_at "bd")))
local macro_rules | `(tactic| walk_at "num") => `(tactic| first
  | with_reducible assumption
  | omega
  | decide +kernel
  | (simp only [Nat.reduceLog2]; omega))
local macro_rules | `(tactic| walk_at "dis") => `(tactic| first
  | with_reducible assumption
  | ((with_reducible refine' mok ?h ?g ?l); (case h => walk_at "bd"); (case g => walk_at "bd"); (case l => walk_at "num"))
  | ((with_reducible refine' Bd.mono ?h ?l); (case h => walk_at "bd"); (case l => walk_at "num"))
  | ((with_reducible refine' BdP.mono ?h ?l); (case h => walk_at "bdp"); (case l => walk_at "num"))
  | ((with_reducible show divOk _); first | with_reducible assumption | decide +kernel | (refine' dok ?p ?h ?l; (case p => first | with_reducible assumption | omega); (case h => walk_at "bd"); (case l => walk_at "num")))
  | omega)
local macro_rules | `(tactic| walk_at "op") => `(tactic| first
  | with_reducible exact dAdd_int _ _
  | with_reducible exact dSub_int _ _
  | ((with_reducible refine dMul_int ?_); walk_at "dis")
  | with_reducible exact dAt_pp0 _ _
  | with_reducible exact dAt_pp1 _ _
  | with_reducible exact dAt_p0 _
  | with_reducible exact dAt_p1 _
  | with_reducible exact dAt_t0
  | with_reducible exact dAt_t1
  | with_reducible exact dAt_t2
  | with_reducible exact dAt_q0 _ _ _
  | with_reducible exact dAt_q1 _ _ _
  | with_reducible exact dAt_q2 _ _ _
  | with_reducible exact dAt_f0 _ _
  | with_reducible exact dAt_f1 _ _
  | with_reducible exact dLt_int _ _
  | with_reducible exact dLe_int _ _
  | with_reducible exact dGt_int _ _
  | with_reducible exact dGe_int _ _
  | with_reducible exact dEq_int _ _
  | with_reducible exact dNe_int _ _
  | ((with_reducible refine dMod_int ?_); walk_at "dis")
  | ((with_reducible refine dDiv_int ?_); walk_at "dis")
  | with_reducible exact dNeg_int _
  | with_reducible exact dIs_non _
  | with_reducible exact dIsNot_non _
  | with_reducible exact dAbs_int _
  | with_reducible exact dMax2_int _ _
  | with_reducible exact dMin2_int _ _
  | with_reducible exact dInt_bl _
  | with_reducible exact dLen_pts _
  | with_reducible exact dEq_pt _ _
  | with_reducible exact dNe_pt _ _
  | with_reducible exact dEq_pts _ _
  | with_reducible exact dNe_pts _ _
  | with_reducible exact dNe_bl _ _
  | with_reducible exact dEq_bl _ _
  | with_reducible exact dEq_D3 _ _ _ _ _ _
  | with_reducible exact dNe_D3 _ _ _ _ _ _
  | with_reducible exact dEq_np _
  | with_reducible exact dNe_np _
  | ((with_reducible refine at_last ?_); walk_at "dis")
  | with_reducible exact dAt_l0
  | with_reducible exact dAt_l1
  | with_reducible exact dAt_l2
  | with_reducible exact dAt_l3
  | with_reducible exact dAt_l4
  | with_reducible exact dAt_l5
  | with_reducible exact dAt_l6
  | with_reducible exact dAt_l7
  | ((with_reducible refine' dNe_self ?h ?l); (case h => walk_at "shp"); (case l => decide))
  | ((with_reducible refine' dEq_self ?h ?l); (case h => walk_at "shp"); (case l => decide))
  | with_reducible assumption
  | exact isi_int _ _ _ _ rfl kb_tuple_tuple
  | exact isi_int _ _ _ _ rfl kb_list_list
  | exact isi_int _ _ _ _ rfl kb_int_int
  | exact isi_int _ _ _ _ rfl kb_bool_bool
  | exact isi_int _ _ _ _ rfl kb_int_bool
  | exact isi_int _ _ _ _ rfl kb_list_tuple
  | exact isi_int _ _ _ _ rfl kb_tuple_list
  | with_reducible rfl)
local macro_rules | `(tactic| walk_at "shp") => `(tactic| first
  | with_reducible exact shp_int _
  | with_reducible exact shp_bl _
  | with_reducible exact shp_non
  | with_reducible exact shp_pt _
  | with_reducible exact shp_pts _
  | with_reducible exact shp_D2 _ _
  | with_reducible exact shp_fr _ _
  | with_reducible exact shp_D3 _ _ _
  | with_reducible exact shp_sp _ _ _
  | with_reducible exact shp_nilL
  | with_reducible exact shp_nilT
  | ((with_reducible refine' shp_consL ?h ?g); (case h => walk_at "shp"); (case g => walk_at "shp"))
  | ((with_reducible refine' shp_consT ?h ?g); (case h => walk_at "shp"); (case g => walk_at "shp"))
  | with_reducible assumption)
local macro_rules | `(tactic| walk_at "fn") => `(tactic| first
  | with_reducible assumption
  | with_reducible exact whole_int _
  | with_reducible exact divisor_eq _ _
  | with_reducible exact common_eq _ _)
local macro_rules | `(tactic| walk_at "ev") => `(tactic| first
  | with_reducible exact ev_c _
  | ((with_reducible refine' ev_var ?h1); (case h1 => exact rfl))
  | ((with_reducible refine' ev_e2 ?h1 ?h2 ?h3); (case h1 => walk_at "ev"); (case h2 => walk_at "ev"); (case h3 => walk_at "op"))
  | with_reducible exact ev_nil
  | ((with_reducible refine' ev_cons ?h1 ?h2); (case h1 => walk_at "ev"); (case h2 => walk_at "ev"))
  | ((with_reducible refine' ev_F ?h1 ?h2); (case h1 => walk_at "ev"); (case h2 => walk_at "fn"))
  | ((with_reducible refine' ev_mB ?h1); (case h1 => walk_at "ev"))
  | ((with_reducible refine' ev_B ?h1 ?h2); (case h1 => walk_at "ev"); (case h2 => walk_at "op"))
  | ((with_reducible refine' ev_tup2 ?h1 ?h2); (case h1 => walk_at "ev"); (case h2 => walk_at "ev"))
  | ((with_reducible refine' ev_tup3 ?h1 ?h2 ?h3); (case h1 => walk_at "ev"); (case h2 => walk_at "ev"); (case h3 => walk_at "ev"))
  | ((with_reducible refine' ev_tup ?h1 ?h2); (case h1 => walk_at "ev"); (case h2 => walk_at "len"))
  | ((with_reducible refine' ev_L ?h1); (case h1 => walk_at "ev"))
  | ((with_reducible refine' ev_lst ?h1 ?h2); (case h1 => walk_at "ev"); (case h2 => walk_at "len"))
  | ((with_reducible refine' ev_not ?h1); (case h1 => walk_at "ev"))
  | ((with_reducible refine' ev_and0 ?h1); (case h1 => walk_at "ev"))
  | ((with_reducible refine' ev_and ?h1 ?h2); (case h1 => walk_at "ev"); (case h2 => (intro hq; (try simp only [decide_eq_true_eq, decide_eq_false_iff_not, Bool.not_eq_true', Bool.not_eq_false'] at hq); walk_at "ev")))
  | ((with_reducible refine' ev_or1 ?h1); (case h1 => walk_at "ev"))
  | ((with_reducible refine' ev_or ?h1 ?h2); (case h1 => walk_at "ev"); (case h2 => (intro hq; (try simp only [decide_eq_true_eq, decide_eq_false_iff_not, Bool.not_eq_true', Bool.not_eq_false'] at hq); walk_at "ev")))
  | ((with_reducible refine' ev_eNot ?h1); (case h1 => walk_at "ev"))
  | ((with_reducible refine' ev_eAnd0 ?h1); (case h1 => walk_at "ev"))
  | ((with_reducible refine' ev_eAnd ?h1 ?h2); (case h1 => walk_at "ev"); (case h2 => (intro hq; (try simp only [decide_eq_true_eq, decide_eq_false_iff_not, Bool.not_eq_true', Bool.not_eq_false'] at hq); walk_at "ev")))
  | ((with_reducible refine' ev_eOr1 ?h1); (case h1 => walk_at "ev"))
  | ((with_reducible refine' ev_eOr ?h1 ?h2); (case h1 => walk_at "ev"); (case h2 => (intro hq; (try simp only [decide_eq_true_eq, decide_eq_false_iff_not, Bool.not_eq_true', Bool.not_eq_false'] at hq); walk_at "ev")))
  | ((with_reducible refine' ev_e1 ?h1 ?h2); (case h1 => walk_at "ev"); (case h2 => walk_at "op"))
  | ((with_reducible refine' ev_copy ?h1 ?h2); (case h1 => walk_at "ev"); (case h2 => exact rfl))
  | ((with_reducible refine' ev_ch ?h1 ?h2 ?h3 ?h4 ?h5); (case h1 => walk_at "ev"); (case h2 => walk_at "ev"); (case h3 => walk_at "op"); (case h4 => (intro hq; (try simp only [decide_eq_true_eq, decide_eq_false_iff_not, Bool.not_eq_true', Bool.not_eq_false'] at hq); walk_at "ev")); (case h5 => (intro _; walk_at "op")))
  | ((with_reducible refine' ev_lc ?h1 ?h2 ?h3 ?h4); (case h1 => walk_at "ev"); (case h2 => walk_at "its"); (case h3 => walk_at "len"); (case h4 => (intro _ _; exact ⟨_, rfl, by walk_at "ev"⟩)))
  | ((with_reducible refine' ev_lcR ?h1 ?h2 ?h3 ?h4); (case h1 => walk_at "ev"); (case h2 => walk_at "rng"); (case h3 => walk_at "len"); (case h4 => (intro _ _; exact ⟨_, rfl, by walk_at "ev"⟩)))
  | ((with_reducible refine' ev_cat ?h1 ?h2 ?h3); (case h1 => walk_at "ev"); (case h2 => walk_at "ev"); (case h3 => walk_at "len"))
  | ((with_reducible refine' ev_ownLen ?h1); (case h1 => exact rfl))
  | ((with_reducible refine' ev_ownAt ?h1 ?h2 ?h3); (case h1 => exact rfl); (case h2 => walk_at "ev"); (case h3 => walk_at "op"))
  | with_reducible assumption)
local macro_rules | `(tactic| walk_at "len") => `(tactic| first
  | ((simp only [List.length_map, List.length_cons, List.length_nil, List.length_append, List.length_range]) <;> walk_at "num")
  | walk_at "num")
local macro_rules | `(tactic| walk_at "its") => `(tactic| first
  | with_reducible exact its_map
  | with_reducible exact its_map2
  | exact rfl)
local macro_rules | `(tactic| walk_at "rng") => `(tactic| first
  | ((with_reducible refine rng1 ?_ ?_) <;> walk_at "num")
  | ((with_reducible refine rng2 ?_ ?_ ?_ ?_) <;> walk_at "num"))
local macro_rules | `(tactic| walk_at "es") => `(tactic| simp (config := {failIfUnchanged := false}) only [List.set_cons_zero, List.set_cons_succ])
local macro_rules | `(tactic| walk_at "start") => `(tactic| (simp only [List.map_cons, List.map_nil, List.cons_append, List.nil_append, List.length_cons, List.length_nil, Nat.reduceAdd, Nat.reduceSub, List.replicate_succ, List.replicate_zero]))
local macro_rules | `(tactic| walk_at "st1") => `(tactic| first
  | ((with_reducible refine' wo_seq ?k))
  | ((with_reducible refine' wo_ift ?h ?e ?k); (case h => walk_at "ev"); (case e => simp only [beq_self_eq_true, Bool.true_beq, Bool.false_beq, decide_eq_true_eq, decide_eq_false_iff_not, Bool.not_eq_true', Bool.not_eq_false', Bool.or_eq_true, Bool.and_eq_true, Bool.or_eq_false_iff, Bool.and_eq_false_imp, Bool.not_true, Bool.not_false, Bool.false_or, Bool.or_false, Bool.true_or, Bool.or_true, Bool.true_and, Bool.and_true, Bool.false_and, Bool.and_false, Bool.true_eq_false, Bool.false_eq_true, decide_true, decide_false, reduceCtorEq, D.isNone, Int.not_lt, Int.not_le, ne_eq, Decidable.not_not, not_true_eq_false, not_false_eq_true, false_implies, true_implies, implies_true, and_true, true_and, and_false, false_and, or_true, true_or, or_false, false_or, reduceIte, eq_self]))
  | ((with_reducible refine' wo_iff ?h ?e ?k); (case h => walk_at "ev"); (case e => simp only [beq_self_eq_true, Bool.true_beq, Bool.false_beq, decide_eq_true_eq, decide_eq_false_iff_not, Bool.not_eq_true', Bool.not_eq_false', Bool.or_eq_true, Bool.and_eq_true, Bool.or_eq_false_iff, Bool.and_eq_false_imp, Bool.not_true, Bool.not_false, Bool.false_or, Bool.or_false, Bool.true_or, Bool.or_true, Bool.true_and, Bool.and_true, Bool.false_and, Bool.and_false, Bool.true_eq_false, Bool.false_eq_true, decide_true, decide_false, reduceCtorEq, D.isNone, Int.not_lt, Int.not_le, ne_eq, Decidable.not_not, not_true_eq_false, not_false_eq_true, false_implies, true_implies, implies_true, and_true, true_and, and_false, false_and, or_true, true_or, or_false, false_or, reduceIte, eq_self]))
  | (((with_reducible refine' wo_asg ?h1 ?k); (case h1 => walk_at "ev")); walk_at "es")
  | ((with_reducible refine' wo_ret ?h1 ?k); (case h1 => walk_at "ev"))
  | (((with_reducible refine' wo_tgt ?h1 ?h2 ?k); (case h1 => walk_at "ev"); (case h2 => exact rfl)); walk_at "es")
  | ((with_reducible refine' wo_nil ?k))
  | ((with_reducible refine' wo_raise ?k))
  | (((with_reducible refine' wo_own ?h1 ?k); (case h1 => walk_at "ev")); walk_at "es")
  | (((with_reducible refine' wo_asgL ?h1 ?k); (case h1 => walk_at "ev")); walk_at "es")
  | (((with_reducible refine' wo_app ?h1 ?h2 ?h3 ?k); (case h1 => exact rfl); (case h2 => walk_at "ev"); (case h3 => walk_at "len")); walk_at "es")
  | (((with_reducible refine' wo_par ?h1 ?h2 ?k); (case h1 => walk_at "ev"); (case h2 => walk_at "ev")); walk_at "es")
  | ((with_reducible refine wo_frz ?_); simp only [frz, List.getElem?_cons_zero, List.getElem?_cons_succ, List.set_cons_zero, List.set_cons_succ]))
local macro_rules | `(tactic| walk_at "st") => `(tactic| (walk_at "st1"; try dsimp only))
local macro_rules | `(tactic| walk_at "hs") => `(tactic| ((try simp only [beq_self_eq_true, Bool.true_beq, Bool.false_beq, decide_eq_true_eq, decide_eq_false_iff_not, Bool.not_eq_true', Bool.not_eq_false', Bool.or_eq_true, Bool.and_eq_true, Bool.or_eq_false_iff, Bool.and_eq_false_imp, Bool.not_true, Bool.not_false, Bool.false_or, Bool.or_false, Bool.true_or, Bool.or_true, Bool.true_and, Bool.and_true, Bool.false_and, Bool.and_false, Bool.true_eq_false, Bool.false_eq_true, decide_true, decide_false, reduceCtorEq, D.isNone, Int.not_lt, Int.not_le, ne_eq, Decidable.not_not, not_true_eq_false, not_false_eq_true, false_implies, true_implies, implies_true, and_true, true_and, and_false, false_and, or_true, true_or, or_false, false_or, reduceIte, eq_self]); exact rfl))
local macro_rules | `(tactic| walk_at "fls") => `(tactic| first | (with_reducible exact False.elim) | (with_reducible refine fun (_ : True) => ?_) | skip)
local macro_rules | `(tactic| walk_at "if") => `(tactic| ((with_reducible refine' wo_ifx ?h ?e1 ?e2 ?k1 ?k2); (case h => walk_at "ev"); (case e1 => walk_at "hs"); (case e2 => walk_at "hs"); (case' k1 => walk_at "fls"); (case' k2 => walk_at "fls")))
local macro_rules | `(tactic| walk_at "tt") => `(tactic| (try simp only [beq_self_eq_true, Bool.true_beq, Bool.false_beq, decide_eq_true_eq, decide_eq_false_iff_not, Bool.not_eq_true', Bool.not_eq_false', Bool.or_eq_true, Bool.and_eq_true, Bool.or_eq_false_iff, Bool.and_eq_false_imp, Bool.not_true, Bool.not_false, Bool.false_or, Bool.or_false, Bool.true_or, Bool.or_true, Bool.true_and, Bool.and_true, Bool.false_and, Bool.and_false, Bool.true_eq_false, Bool.false_eq_true, decide_true, decide_false, reduceCtorEq, D.isNone, Int.not_lt, Int.not_le, ne_eq, Decidable.not_not, not_true_eq_false, not_false_eq_true, false_implies, true_implies, implies_true, and_true, true_and, and_false, false_and, or_true, true_or, or_false, false_or, reduceIte, eq_self]))
local macro_rules | `(tactic| walk_at "hc") => `(tactic| simp only [beq_self_eq_true, Bool.true_beq, Bool.false_beq, decide_eq_true_eq, decide_eq_false_iff_not, Bool.not_eq_true', Bool.not_eq_false', Bool.or_eq_true, Bool.and_eq_true, Bool.or_eq_false_iff, Bool.and_eq_false_imp, Bool.not_true, Bool.not_false, Bool.false_or, Bool.or_false, Bool.true_or, Bool.or_true, Bool.true_and, Bool.and_true, Bool.false_and, Bool.and_false, Bool.true_eq_false, Bool.false_eq_true, decide_true, decide_false, reduceCtorEq, D.isNone, Int.not_lt, Int.not_le, ne_eq, Decidable.not_not, not_true_eq_false, not_false_eq_true, false_implies, true_implies, implies_true, and_true, true_and, and_false, false_and, or_true, true_or, or_false, false_or, reduceIte, eq_self] at *)
local macro_rules | `(tactic| walk_at "sts") => `(tactic| (walk_at "st"; try (walk_at "st"; try (walk_at "st"; try (walk_at "st"; try (walk_at "st"; try (walk_at "st"; try (walk_at "st"; try (walk_at "st"; try (walk_at "st"; try (walk_at "st"; try (walk_at "st"; try (walk_at "st"; try (walk_at "st"; try (walk_at "st"; try (walk_at "st"; try (walk_at "st"; try (walk_at "st"; try (walk_at "st"; try (walk_at "st"; try (walk_at "st"; try (walk_at "st"; try (walk_at "st"; try (walk_at "st"; try (walk_at "st"; try (walk_at "st"; try (walk_at "st"; try (walk_at "st"; try (walk_at "st"; try (walk_at "st"; try (walk_at "st"; try (walk_at "st"; try (walk_at "st"; try (walk_at "st"; try (walk_at "st"; try (walk_at "st"; try (walk_at "st"; try (walk_at "st"; try (walk_at "st"; try (walk_at "st"; try (walk_at "st"; try (walk_at "st"))))))))))))))))))))))))))))))))))))))))))
local macro_rules | `(tactic| walk_at "op") => `(tactic| first
  | with_reducible assumption
  | with_reducible exact dIs_nn
  | with_reducible exact dIs_pt _
  | with_reducible exact dIs_D3 _ _ _
  | with_reducible exact dIsN_nn
  | with_reducible exact dIsN_pt _
  | with_reducible exact dIsN_D3 _ _ _
  | ((with_reducible refine at_czm ?_); first | with_reducible assumption | omega)
  | ((with_reducible refine at_czm1 ?_); first | with_reducible assumption | omega)
  | ((with_reducible refine at_sides ?_); first | with_reducible assumption | omega)
  | ((with_reducible refine at_normals ?_); first | with_reducible assumption | omega)
  | ((with_reducible refine at_cz ?_ ?_) <;> first | with_reducible assumption | omega)
  | with_reducible exact dLen_scr _
  | with_reducible exact dLen_tup _
  | walk_at "opx")
local macro_rules | `(tactic| walk_at "opx") => `(tactic| first
  | with_reducible exact isi_bb _
  | with_reducible exact dIs_i _
  | with_reducible exact isi_u _
  | with_reducible exact dLen_u _
  | with_reducible exact dEqN_D3t _ _
  | with_reducible exact dEqE_D3t _ _
  | ((with_reducible refine at_lstI ?_ ?_) <;> first | with_reducible assumption | omega)
  | with_reducible exact dIs_D3t _
  | with_reducible exact dIsN_D3t _
  | with_reducible exact dAt_u0 _
  | with_reducible exact dAt_u1 _
  | with_reducible exact dAt_u2 _
  | with_reducible exact dIs_nn
  | with_reducible exact dIs_pt _
  | with_reducible exact dIs_D3 _ _ _
  | with_reducible exact dIs_lst _
  | with_reducible exact dIsN_nn
  | with_reducible exact dIsN_pt _
  | with_reducible exact dIsN_D3 _ _ _
  | with_reducible exact dLen_t2 _
  | with_reducible exact dLen_t3 _ _ _
  | with_reducible assumption)
local macro_rules | `(tactic| walk_at "bdq") => `(tactic| first
  | ((with_reducible refine' bd_cz ?h ?g _); (case h => first | with_reducible assumption | exact Body.bd (by with_reducible assumption)); (case g => first | with_reducible assumption | exact Body.pos (by with_reducible assumption) | omega)))
local macro_rules | `(tactic| walk_at "shp") => `(tactic| first
  | ((with_reducible refine' shp_mapL ?h _); (case h => (intro _; walk_at "shp"))))
local macro_rules | `(tactic| walk_at "rng") => `(tactic| first
  | ((with_reducible refine rngN ?_); walk_at "num"))
local macro_rules | `(tactic| walk_at "st1") => `(tactic| first
  | (((with_reducible refine' wo_ins ?h1 ?h2 ?h3 ?h4 ?h5 ?h6 ?k); (case h1 => exact rfl); (case h2 => walk_at "ev"); (case h3 => walk_at "ev"); (case h4 => walk_at "num"); (case h5 => walk_at "num"); (case h6 => walk_at "len")); walk_at "es"))
local macro_rules | `(tactic| walk_at "ev") => `(tactic| first
  | with_reducible exact ev_home _ _ _
  | ((with_reducible refine' ev_cutS ?h1 ?h2 ?h3); (case h1 => walk_at "ev"); (case h2 => walk_at "ev"); (case h3 => walk_at "ev"))
  | ((with_reducible refine' ev_ownLenM ?h1); (case h1 => exact rfl))
  | ((with_reducible refine' ev_revm ?h1); (case h1 => walk_at "ev"))
  | ((with_reducible refine' ev_rev ?h1); (case h1 => walk_at "ev"))
  | ((with_reducible refine' ev_lc6 ?h1 ?h2 ?h3 ?h4 ?h5 ?h6 ?h7); (case h1 => walk_at "ev"); (case h2 => exact ⟨_, rfl, by walk_at "ev"⟩); (case h3 => exact ⟨_, rfl, by walk_at "ev"⟩); (case h4 => exact ⟨_, rfl, by walk_at "ev"⟩); (case h5 => exact ⟨_, rfl, by walk_at "ev"⟩); (case h6 => exact ⟨_, rfl, by walk_at "ev"⟩); (case h7 => exact ⟨_, rfl, by walk_at "ev"⟩))
  | ((with_reducible refine' ev_lc8 ?h1 ?h2 ?h3 ?h4 ?h5 ?h6 ?h7 ?h8 ?h9); (case h1 => walk_at "ev"); (case h2 => exact ⟨_, rfl, by walk_at "ev"⟩); (case h3 => exact ⟨_, rfl, by walk_at "ev"⟩); (case h4 => exact ⟨_, rfl, by walk_at "ev"⟩); (case h5 => exact ⟨_, rfl, by walk_at "ev"⟩); (case h6 => exact ⟨_, rfl, by walk_at "ev"⟩); (case h7 => exact ⟨_, rfl, by walk_at "ev"⟩); (case h8 => exact ⟨_, rfl, by walk_at "ev"⟩); (case h9 => exact ⟨_, rfl, by walk_at "ev"⟩))
  | ((with_reducible refine' ev_lc3 ?h1 ?h2 ?h3 ?h4); (case h1 => walk_at "ev"); (case h2 => exact ⟨_, rfl, by walk_at "ev"⟩); (case h3 => exact ⟨_, rfl, by walk_at "ev"⟩); (case h4 => exact ⟨_, rfl, by walk_at "ev"⟩))
  | ((with_reducible refine' ev_lcN ?h1 ?h2 ?h3 ?h4); (case h1 => walk_at "ev"); (case h2 => walk_at "rng"); (case h3 => walk_at "len"); (case h4 => (intro _ _; exact ⟨_, rfl, by walk_at "ev"⟩))))
local macro_rules | `(tactic| walk_at "okt") => `(tactic| first
  | with_reducible assumption
  | ((with_reducible refine okT.take ?_ _); walk_at "okt")
  | ((with_reducible refine okT.drop ?_ _); walk_at "okt")
  | ((with_reducible refine okT.app ?_ ?_) <;> walk_at "okt")
  | ((with_reducible refine okT_numI _))
  | decide)
local macro_rules | `(tactic| walk_at "lenT") => `(tactic| first
  | with_reducible assumption
  | omega
  | ((simp only [List.length_append, List.length_cons, List.length_nil, List.length_take, List.length_drop]) <;> omega)
  | decide)
local macro_rules | `(tactic| walk_at "op") => `(tactic| first
  | ((with_reducible refine dEq_T ?_ ?_) <;> walk_at "okt")
  | ((with_reducible refine dNe_T ?_ ?_) <;> walk_at "okt")
  | ((with_reducible refine dLen_T ?_); walk_at "lenT")
  | ((with_reducible refine dAdd_T ?_); walk_at "lenT")
  | with_reducible exact dIn_T _ _
  | with_reducible exact dOrd_T _
  | ((with_reducible refine dAt_T0 ?_ ?_); (first | with_reducible assumption | decide); walk_at "lenT")
  | ((with_reducible refine dAt_Tn ?_ ?_) <;> walk_at "lenT")
  | ((with_reducible refine dStr_T ?_); walk_at "log")
  | with_reducible exact isi_T _
  | with_reducible exact dIs_T _
  | with_reducible exact dIsN_T _
  | with_reducible exact dIs_nnT
  | with_reducible exact dIsN_nnT
  | with_reducible exact dIs_iT _
  | with_reducible exact dIsN_iT _
  | with_reducible exact dIs_D2T _ _
  | with_reducible exact dIsN_D2T _ _)
local macro_rules | `(tactic| walk_at "ev") => `(tactic| first
  | with_reducible exact ev_lit lit_e
  | with_reducible exact ev_lit lit_m
  | with_reducible exact ev_lit lit_0
  | with_reducible exact ev_lit lit_s
  | with_reducible exact ev_lit lit_f
  | ((with_reducible refine' ev_cutTo1 ?h1 ?h2); (case h1 => walk_at "ev"); (case h2 => walk_at "lenT"))
  | ((with_reducible refine' ev_cutFrom1 ?h1 ?h2); (case h1 => walk_at "ev"); (case h2 => walk_at "lenT"))
  | ((with_reducible refine' ev_cutTo ?h1 ?h2 ?h3); (case h1 => walk_at "ev"); (case h2 => walk_at "ev"); (case h3 => walk_at "lenT"))
  | ((with_reducible refine' ev_cutFrom ?h1 ?h2 ?h3); (case h1 => walk_at "ev"); (case h2 => walk_at "ev"); (case h3 => walk_at "lenT")))
local macro_rules | `(tactic| walk_at "st1") => `(tactic| first
  | ((with_reducible refine' wo_ift ?h ?e ?k); (case h => walk_at "ev"); (case e => first | decide | (simp [D.isNone]; done)))
  | ((with_reducible refine' wo_iff ?h ?e ?k); (case h => walk_at "ev"); (case e => first | decide | (simp [D.isNone]; done))))
local macro_rules | `(tactic| walk_at "log") => `(tactic| ((with_reducible refine log_bd ?_); walk_at "dis"))
/-! ### numbers as texts -/
def figs (l : List Nat) : List Nat := if l.take 1 = [45] then l.drop 1 else l
def digB (l : List Nat) : Bool := l.all fun c => decide (48 ≤ c) && decide (c ≤ 57)
theorem digB_iff {l : List Nat} : digB l = true ↔ NumText.AllDigits l := by
  unfold digB NumText.AllDigits
  rw [List.all_eq_true]
  constructor
  · intro h c hc
    have := h c hc
    simp at this
    exact this
  · intro h c hc
    have := h c hc
    simp [this]
def numOf (l : List Nat) : Option Int :=
  if figs l = [] ∨ 60 < (figs l).length ∨ ((figs l).take 1 = [48] ∧ ¬ l = [48]) then none
  else if digB (figs l) = true then some (if l.take 1 = [45] then -(NumText.digitsVal (figs l) : Int) else (NumText.digitsVal (figs l) : Int)) else none
def optI : Option Int → D
  | none => .non
  | some n => .int n
theorem figs_ok {l : List Nat} (h : okT l) : okT (figs l) := by
  unfold figs
  split
  · exact h.drop _
  · exact h
theorem figs_len (l : List Nat) : (figs l).length ≤ l.length := by
  unfold figs
  split
  · rw [List.length_drop]; omega
  · omega
theorem dv_lt : ∀ {l : List Nat}, NumText.AllDigits l → NumText.digitsVal l < 10 ^ l.length := by
  intro l
  induction h : l.length generalizing l with
  | zero =>
    intro _
    rw [List.length_eq_zero_iff.mp h]
    decide
  | succ n ih =>
    intro hd
    obtain ⟨m, c, rfl⟩ : ∃ m c, l = m ++ [c] := by
      rcases List.eq_nil_or_concat l with e | ⟨m, c, e⟩
      · rw [e] at h; simp at h
      · exact ⟨m, c, by rw [e]; simp⟩
    have hm : m.length = n := by rw [List.length_append] at h; simpa using h
    have i := ih hm fun d hd' => hd d (List.mem_append_left _ hd')
    have hc := hd c (List.mem_append_right _ (List.mem_singleton.mpr rfl))
    rw [NumText.digitsVal_snoc, Nat.pow_succ]
    omega
theorem num_due_q {l : List Nat} (ok : okT l) (hl : l.length ≤ 1000) : F__law_number_due [T l] = .ok (optI (numOf l)) := by
  have fo := figs_ok ok
  have fl := figs_len l
  unfold F__law_number_due b__law_number_due
  refine fn_ok ?_
  walk_at "start"
  walk_at "st"
  walk_at "st"
  walk_at "st"
  refine wo_cut (fun ρ => ρ = [.v (T l), .v (T (figs l)), .un, .un]) ?_ ?_
  · unfold figs
    walk_at "if"
    case k1 =>
      intro hc
      walk_at "st"
      rw [if_pos hc]
    case k2 =>
      intro hc
      walk_at "st"
      rw [if_neg hc]
  · rintro ρ rfl
    walk_at "st"
    walk_at "if"
    case k1 =>
      intro hc
      walk_at "st"
      unfold numOf
      rw [if_pos (by
        rcases hc with h | h | h
        · exact .inl h
        · exact .inr (.inl (by omega))
        · exact .inr (.inr h))]
      rfl
    case k2 =>
      intro hc
      have n1 : ¬ (figs l = [] ∨ 60 < (figs l).length ∨ ((figs l).take 1 = [48] ∧ ¬ l = [48])) := by
        rintro (z | z | z)
        · exact hc.1 z
        · omega
        · exact z.2 (hc.2.2 z.1)
      walk_at "st"
      walk_at "st"
      walk_at "st"
      walk_at "st"
      have bd : NumText.digitsVal [] = 0 := rfl
      with_reducible refine' wo_for (h := sgn) (l := figs l) (fun r ρ => ∃ (done : List Nat) (s3 : Sl), ρ = [.v (T l), .v (T (figs l)), .v (.int (NumText.digitsVal done : Nat)), s3] ∧ figs l = done ++ r ∧ NumText.AllDigits done) ?h1 ?h2 ?i0 ?step ?fin
      case h1 => walk_at "ev"
      case h2 => exact its_S
      case i0 => exact ⟨[], _, rfl, rfl, fun c h => absurd h List.not_mem_nil⟩
      case step =>
        rintro c r ρ hc' ⟨done, s3, rfl, hd, had⟩
        refine ⟨_, rfl, ?_⟩
        have dl : done.length ≤ 60 := by
          have := congrArg List.length hd
          rw [List.length_append] at this
          omega
        have dv := dv_lt had
        have dv2 : NumText.digitsVal done < 10 ^ 60 := Nat.lt_of_lt_of_le dv (Nat.pow_le_pow_right (by decide) dl)
        have bb : Bd 200 (NumText.digitsVal done : Int) := Bd.of_range (by omega) (by
          have : (10 : Int) ^ 60 < 2 ^ 200 := by decide
          have h2 : ((NumText.digitsVal done : Nat) : Int) < ((10 ^ 60 : Nat) : Int) := by exact_mod_cast dv2
          simpa using (by omega : ((NumText.digitsVal done : Nat) : Int) < 2 ^ 200))
        have bc : Bd 30 (c : Int) := Bd.of_range (by omega) (by have := fo c (by rw [hd]; simp); omega)
        change WO _ _ _ _
        rw [sgn_T]
        unfold l1__law_number_due
        walk_at "es"
        walk_at "st"
        walk_at "if"
        case k1 =>
          intro hz
          walk_at "st"
          unfold numOf
          rw [if_neg n1, if_neg (fun q => by
            have := digB_iff.mp q c (by rw [hd]; simp)
            omega)]
          rfl
        case k2 =>
          intro hz
          walk_at "st"
          walk_at "st"
          refine ⟨done ++ [c], .v (T [c]), ?_, by rw [hd]; simp, fun d hd' => ?_⟩
          · rw [NumText.digitsVal_snoc, show (10 : Int) * (NumText.digitsVal done : Int) + (c : Int) - 48 = ((NumText.digitsVal done * 10 + (c - 48) : Nat) : Int) by omega]
          · rcases List.mem_append.mp hd' with h | h
            · exact had d h
            · rw [List.mem_singleton.mp h]; omega
      case fin =>
        rintro ρ ⟨done, s3, rfl, hd, had⟩
        rw [List.append_nil] at hd
        have db : digB (figs l) = true := digB_iff.mpr (by rw [hd]; exact had)
        walk_at "st"
        walk_at "if"
        case k1 =>
          intro hc
          walk_at "st"
          unfold numOf
          rw [if_neg n1, if_pos db, if_pos hc, hd]
          simp [optI]
        case k2 =>
          intro hc
          walk_at "st"
          unfold numOf
          rw [if_neg n1, if_pos db, if_neg hc, hd]
          rfl
theorem fd_all {l : List Nat} : (l.all fun c => decide (c ∈ [48, 49, 50, 51, 52, 53, 54, 55, 56, 57])) = digB l := by
  unfold digB
  congr 1
  funext c
  rw [← Bool.decide_and]
  apply decide_eq_decide.mpr
  simp only [List.mem_cons, List.not_mem_nil, or_false]
  omega
theorem bools_map {α : Type} (f : α → Bool) : ∀ l : List α, boolsOf (l.map fun a => D.bl (f a)) = some (l.map f)
  | [] => rfl
  | a :: l => by
    rw [List.map_cons, List.map_cons]
    unfold boolsOf
    rw [bools_map f l]
    rfl
theorem dAll_map {α : Type} (f : α → Bool) (l : List α) : dAll [.lst (l.map fun a => D.bl (f a))] = some (.bl (l.all f)) := by
  show ((boolsOf (l.map fun a => D.bl (f a))).map fun bs => D.bl (bs.all id)) = _
  rw [bools_map]
  show some (D.bl ((l.map f).all id)) = _
  rw [List.all_map]
  rfl
theorem figs_neg {l : List Nat} (h : l.take 1 = [45]) : l = 45 :: figs l := by
  unfold figs
  rw [if_pos h]
  cases l with
  | nil => cases h
  | cons c r =>
    cases h
    rfl
theorem num_val {l : List Nat} (h : ¬ (figs l = [] ∨ 60 < (figs l).length ∨ ((figs l).take 1 = [48] ∧ ¬ l = [48]))) (g : digB (figs l) = true) : dIntS [T l] = some (.int (if l.take 1 = [45] then -(NumText.digitsVal (figs l) : Int) else (NumText.digitsVal (figs l) : Int))) := by
  have ad := digB_iff.mp g
  have n0 : figs l ≠ [] := fun z => h (.inl z)
  have n1 : (figs l).length ≤ 60 := by
    apply Classical.byContradiction
    intro z
    exact h (.inr (.inl (by omega)))
  by_cases hm : l.take 1 = [45]
  · have e := figs_neg hm
    have hl : l.length = (figs l).length + 1 := by
      have := congrArg List.length e
      simpa using this
    show (if (tS l).length ≤ 640 then _ else _) = _
    rw [if_pos (by rw [len_tS]; omega), if_pos hm, PySem.intText_neg (x := tS l) (cs := figs l) e ad n0 (by rw [len_tS]; omega)]
    rfl
  · have e : figs l = l := by unfold figs; rw [if_neg hm]
    rw [e] at ad n0 n1
    show (if (tS l).length ≤ 640 then _ else _) = _
    rw [if_pos (by rw [len_tS]; omega), if_neg hm, e, PySem.intText_digits (x := tS l) ad n0 (by rw [len_tS]; omega)]
    rfl
def orEr (x : Str) : Option D → R D
  | none => .er x
  | some d => .ok d
theorem fn_opt {n : Nat} {m : SM} {ds : List D} {o : Option D} {x : Str} (h : WO (m (ds.map Sl.v ++ List.replicate (n - ds.length) Sl.un)) (fun _ => False) (fun d => o = some d) (fun y => y = x ∧ o = none)) : runF n m ds = orEr x o := by
  unfold runF
  cases e : m (ds.map Sl.v ++ List.replicate (n - ds.length) Sl.un) with
  | rt d => rw [e] at h; rw [show o = some d from h]; rfl
  | er y ρ =>
    rw [e] at h
    obtain ⟨rfl, h2⟩ := h
    rw [h2]
    rfl
  | nx ρ => rw [e] at h; exact h.elim
  | bk ρ => rw [e] at h; exact h.elim
  | ct ρ => rw [e] at h; exact h.elim
  | st => rw [e] at h; exact h.elim
theorem read_q {l : List Nat} (ok : okT l) (hl : l.length ≤ 1000) : F_read_number [T l] = orEr "NoText" ((numOf l).map D.int) := by
  have fo := figs_ok ok
  have fl := figs_len l
  have al : dAll [.lst ((figs l).map fun c => D.bl (decide (c ∈ [48, 49, 50, 51, 52, 53, 54, 55, 56, 57])))] = some (.bl (digB (figs l))) := by rw [dAll_map, fd_all]
  unfold F_read_number b_read_number
  refine fn_opt ?_
  walk_at "start"
  walk_at "st"
  walk_at "st"
  walk_at "st"
  walk_at "st"
  walk_at "st"
  walk_at "st"
  refine wo_cut (fun ρ => ρ = [.v (T l), .v (T (figs l)), .un]) ?_ ?_
  · unfold figs
    walk_at "if"
    case k1 =>
      intro hc
      walk_at "st"
      rw [if_pos hc]
    case k2 =>
      intro hc
      walk_at "st"
      rw [if_neg hc]
  · rintro ρ rfl
    walk_at "st"
    walk_at "if"
    case k1 =>
      intro hc
      walk_at "st"
      refine ⟨rfl, ?_⟩
      unfold numOf
      rw [if_pos (by
        rcases hc with h | h
        · exact .inl (List.length_eq_zero_iff.mp (by omega))
        · exact .inr (.inl (by omega)))]
      rfl
    case k2 =>
      intro hc
      have n0 : ¬ figs l = [] := fun z => by rw [z] at hc; simp at hc
      walk_at "st"
      walk_at "st"
      have ht : mNot (mB (eB dAll (aCons (eL (aLc asS [2] (gNm 2) (mYes) (eVar 1) (e2 dIn (eVar 2) (eC (.str "0123456789"))))) (aNil)))) [.v (T l), .v (T (figs l)), .un] = .ok (!digB (figs l)) := by
        refine ev_not (ev_mB (ev_B (ev_cons (ev_L (ev_lc (h := sgn) (f' := fun c => D.bl (decide (c ∈ [48, 49, 50, 51, 52, 53, 54, 55, 56, 57]))) (ev_var rfl) its_S (by omega) fun c hc => ⟨_, rfl, ?_⟩)) ev_nil) al))
        rw [sgn_T]
        walk_at "ev"
      have hno : ∀ {o : Option Int}, numOf l = none → Option.map D.int (numOf l) = none := fun h => by rw [h]; rfl
      cases hg : digB (figs l) with
      | false =>
        rw [hg] at ht
        with_reducible refine' wo_ift ht rfl ?k1
        case k1 =>
        walk_at "st"
        refine ⟨rfl, ?_⟩
        unfold numOf
        rw [hg]
        split <;> rfl
      | true =>
        rw [hg] at ht
        with_reducible refine' wo_iff ht rfl ?k2
        case k2 =>
        walk_at "st"
        walk_at "st"
        walk_at "if"
        case k1 =>
          intro hz
          walk_at "st"
          refine ⟨rfl, ?_⟩
          unfold numOf
          rw [if_pos (.inr (.inr hz))]
          rfl
        case k2 =>
          intro hz
          have n1 : ¬ (figs l = [] ∨ 60 < (figs l).length ∨ ((figs l).take 1 = [48] ∧ ¬ l = [48])) := by
            rintro (z | z | z)
            · exact n0 z
            · omega
            · exact z.2 (hz z.1)
          have nv := num_val n1 hg
          walk_at "st"
          walk_at "st"
          unfold numOf
          rw [if_neg n1, if_pos hg]
          rfl
end Law

namespace Law
open PySem PySem.Spec PyProof.Rows L2 GD Hl TL
local macro_rules | `(tactic| walk_at "bd") => `(tactic| first
  | with_reducible assumption
  | with_reducible exact Bd.litO _
  | ((with_reducible refine' Bd.mul ?h ?g); (case h => walk_at "bd"); (case g => walk_at "bd"))
  | ((with_reducible refine' Bd.add ?h ?g); (case h => walk_at "bd"); (case g => walk_at "bd"))
  | ((with_reducible refine' Bd.sub ?h ?g); (case h => walk_at "bd"); (case g => walk_at "bd"))
  | ((with_reducible refine' Bd.neg ?h); (case h => walk_at "bd"))
  | ((with_reducible refine' Bd.emod ?h); (case h => walk_at "pos"))
  | ((with_reducible refine' Bd.ediv ?h); (case h => walk_at "bd"))
  | ((with_reducible refine' bd_fT ?h); (case h => walk_at "bd"))
  | ((with_reducible refine' bd_fB ?h); (case h => walk_at "bd"))
  | ((with_reducible refine' bd_sX ?h); (case h => walk_at "bd"))
  | ((with_reducible refine' bd_sY ?h); (case h => walk_at "bd"))
  | ((with_reducible refine' bd_sW ?h); (case h => walk_at "bd"))
  | ((with_reducible refine' bd_abs ?h); (case h => walk_at "bd"))
  | ((with_reducible refine' BdP.a ?h); (case h => walk_at "bdq"))
  | ((with_reducible refine' BdP.b ?h); (case h => walk_at "bdq"))
  | with_reducible exact bd_ite1
  | ((with_reducible refine' bd_ite ?h ?g); (case h => walk_at "bd"); (case g => walk_at "bd")))
local macro_rules | `(tactic| walk_at "pos") => `(tactic| first
  | with_reducible assumption
  | decide
  | omega)
local macro_rules | `(tactic| walk_at "bdq") => `(tactic| first
  | with_reducible assumption
  | ((with_reducible refine' bd_cy ?h ?g _); (case h => with_reducible assumption); (case g => first | with_reducible assumption | omega))
  | ((with_reducible refine' bd_mem ?h ?g); (case g => with_reducible assumption); (case h => with_reducible assumption))
  | ((with_reducible refine' bd_get ?h); (case h => with_reducible assumption)))
local macro_rules | `(tactic| walk_at "bdp") => `(tactic| first
  | walk_at "bdq"
  | ((with_reducible refine' BdP.mk ?h ?g); (case h => walk_at "bd"); (case g => walk_at "bd")))
local macro_rules | `(tactic| walk_at "num") => `(tactic| first
  | with_reducible assumption
  | omega
  | decide +kernel
  | (simp only [Nat.reduceLog2]; omega))
local macro_rules | `(tactic| walk_at "dis") => `(tactic| first
  | with_reducible assumption
  | ((with_reducible refine' mok ?h ?g ?l); (case h => walk_at "bd"); (case g => walk_at "bd"); (case l => walk_at "num"))
  | ((with_reducible refine' Bd.mono ?h ?l); (case h => walk_at "bd"); (case l => walk_at "num"))
  | ((with_reducible refine' BdP.mono ?h ?l); (case h => walk_at "bdp"); (case l => walk_at "num"))
  | ((with_reducible show divOk _); first | with_reducible assumption | decide +kernel | (refine' dok ?p ?h ?l; (case p => first | with_reducible assumption | omega); (case h => walk_at "bd"); (case l => walk_at "num")))
  | omega)
local macro_rules | `(tactic| walk_at "op") => `(tactic| first
  | with_reducible exact dAdd_int _ _
  | with_reducible exact dSub_int _ _
  | ((with_reducible refine dMul_int ?_); walk_at "dis")
  | with_reducible exact dAt_pp0 _ _
  | with_reducible exact dAt_pp1 _ _
  | with_reducible exact dAt_p0 _
  | with_reducible exact dAt_p1 _
  | with_reducible exact dAt_t0
  | with_reducible exact dAt_t1
  | with_reducible exact dAt_t2
  | with_reducible exact dAt_q0 _ _ _
  | with_reducible exact dAt_q1 _ _ _
  | with_reducible exact dAt_q2 _ _ _
  | with_reducible exact dAt_f0 _ _
  | with_reducible exact dAt_f1 _ _
  | with_reducible exact dLt_int _ _
  | with_reducible exact dLe_int _ _
  | with_reducible exact dGt_int _ _
  | with_reducible exact dGe_int _ _
  | with_reducible exact dEq_int _ _
  | with_reducible exact dNe_int _ _
  | ((with_reducible refine dMod_int ?_); walk_at "dis")
  | ((with_reducible refine dDiv_int ?_); walk_at "dis")
  | with_reducible exact dNeg_int _
  | with_reducible exact dIs_non _
  | with_reducible exact dIsNot_non _
  | with_reducible exact dAbs_int _
  | with_reducible exact dMax2_int _ _
  | with_reducible exact dMin2_int _ _
  | with_reducible exact dInt_bl _
  | with_reducible exact dLen_pts _
  | with_reducible exact dEq_pt _ _
  | with_reducible exact dNe_pt _ _
  | with_reducible exact dEq_pts _ _
  | with_reducible exact dNe_pts _ _
  | with_reducible exact dNe_bl _ _
  | with_reducible exact dEq_bl _ _
  | with_reducible exact dEq_D3 _ _ _ _ _ _
  | with_reducible exact dNe_D3 _ _ _ _ _ _
  | with_reducible exact dEq_np _
  | with_reducible exact dNe_np _
  | ((with_reducible refine at_last ?_); walk_at "dis")
  | with_reducible exact dAt_l0
  | with_reducible exact dAt_l1
  | with_reducible exact dAt_l2
  | with_reducible exact dAt_l3
  | with_reducible exact dAt_l4
  | with_reducible exact dAt_l5
  | with_reducible exact dAt_l6
  | with_reducible exact dAt_l7
  | ((with_reducible refine' dNe_self ?h ?l); (case h => walk_at "shp"); (case l => decide))
  | ((with_reducible refine' dEq_self ?h ?l); (case h => walk_at "shp"); (case l => decide))
  | with_reducible assumption
  | exact isi_int _ _ _ _ rfl kb_tuple_tuple
  | exact isi_int _ _ _ _ rfl kb_list_list
  | exact isi_int _ _ _ _ rfl kb_int_int
  | exact isi_int _ _ _ _ rfl kb_bool_bool
  | exact isi_int _ _ _ _ rfl kb_int_bool
  | exact isi_int _ _ _ _ rfl kb_list_tuple
  | exact isi_int _ _ _ _ rfl kb_tuple_list
  | with_reducible rfl)
local macro_rules | `(tactic| walk_at "shp") => `(tactic| first
  | with_reducible exact shp_int _
  | with_reducible exact shp_bl _
  | with_reducible exact shp_non
  | with_reducible exact shp_pt _
  | with_reducible exact shp_pts _
  | with_reducible exact shp_D2 _ _
  | with_reducible exact shp_fr _ _
  | with_reducible exact shp_D3 _ _ _
  | with_reducible exact shp_sp _ _ _
  | with_reducible exact shp_nilL
  | with_reducible exact shp_nilT
  | ((with_reducible refine' shp_consL ?h ?g); (case h => walk_at "shp"); (case g => walk_at "shp"))
  | ((with_reducible refine' shp_consT ?h ?g); (case h => walk_at "shp"); (case g => walk_at "shp"))
  | with_reducible assumption)
local macro_rules | `(tactic| walk_at "fn") => `(tactic| first
  | with_reducible assumption
  | with_reducible exact whole_int _
  | with_reducible exact divisor_eq _ _
  | with_reducible exact common_eq _ _)
local macro_rules | `(tactic| walk_at "ev") => `(tactic| first
  | with_reducible exact ev_c _
  | ((with_reducible refine' ev_var ?h1); (case h1 => exact rfl))
  | ((with_reducible refine' ev_e2 ?h1 ?h2 ?h3); (case h1 => walk_at "ev"); (case h2 => walk_at "ev"); (case h3 => walk_at "op"))
  | with_reducible exact ev_nil
  | ((with_reducible refine' ev_cons ?h1 ?h2); (case h1 => walk_at "ev"); (case h2 => walk_at "ev"))
  | ((with_reducible refine' ev_F ?h1 ?h2); (case h1 => walk_at "ev"); (case h2 => walk_at "fn"))
  | ((with_reducible refine' ev_mB ?h1); (case h1 => walk_at "ev"))
  | ((with_reducible refine' ev_B ?h1 ?h2); (case h1 => walk_at "ev"); (case h2 => walk_at "op"))
  | ((with_reducible refine' ev_tup2 ?h1 ?h2); (case h1 => walk_at "ev"); (case h2 => walk_at "ev"))
  | ((with_reducible refine' ev_tup3 ?h1 ?h2 ?h3); (case h1 => walk_at "ev"); (case h2 => walk_at "ev"); (case h3 => walk_at "ev"))
  | ((with_reducible refine' ev_tup ?h1 ?h2); (case h1 => walk_at "ev"); (case h2 => walk_at "len"))
  | ((with_reducible refine' ev_L ?h1); (case h1 => walk_at "ev"))
  | ((with_reducible refine' ev_lst ?h1 ?h2); (case h1 => walk_at "ev"); (case h2 => walk_at "len"))
  | ((with_reducible refine' ev_not ?h1); (case h1 => walk_at "ev"))
  | ((with_reducible refine' ev_and0 ?h1); (case h1 => walk_at "ev"))
  | ((with_reducible refine' ev_and ?h1 ?h2); (case h1 => walk_at "ev"); (case h2 => (intro hq; (try simp only [decide_eq_true_eq, decide_eq_false_iff_not, Bool.not_eq_true', Bool.not_eq_false'] at hq); walk_at "ev")))
  | ((with_reducible refine' ev_or1 ?h1); (case h1 => walk_at "ev"))
  | ((with_reducible refine' ev_or ?h1 ?h2); (case h1 => walk_at "ev"); (case h2 => (intro hq; (try simp only [decide_eq_true_eq, decide_eq_false_iff_not, Bool.not_eq_true', Bool.not_eq_false'] at hq); walk_at "ev")))
  | ((with_reducible refine' ev_eNot ?h1); (case h1 => walk_at "ev"))
  | ((with_reducible refine' ev_eAnd0 ?h1); (case h1 => walk_at "ev"))
  | ((with_reducible refine' ev_eAnd ?h1 ?h2); (case h1 => walk_at "ev"); (case h2 => (intro hq; (try simp only [decide_eq_true_eq, decide_eq_false_iff_not, Bool.not_eq_true', Bool.not_eq_false'] at hq); walk_at "ev")))
  | ((with_reducible refine' ev_eOr1 ?h1); (case h1 => walk_at "ev"))
  | ((with_reducible refine' ev_eOr ?h1 ?h2); (case h1 => walk_at "ev"); (case h2 => (intro hq; (try simp only [decide_eq_true_eq, decide_eq_false_iff_not, Bool.not_eq_true', Bool.not_eq_false'] at hq); walk_at "ev")))
  | ((with_reducible refine' ev_e1 ?h1 ?h2); (case h1 => walk_at "ev"); (case h2 => walk_at "op"))
  | ((with_reducible refine' ev_copy ?h1 ?h2); (case h1 => walk_at "ev"); (case h2 => exact rfl))
  | ((with_reducible refine' ev_ch ?h1 ?h2 ?h3 ?h4 ?h5); (case h1 => walk_at "ev"); (case h2 => walk_at "ev"); (case h3 => walk_at "op"); (case h4 => (intro hq; (try simp only [decide_eq_true_eq, decide_eq_false_iff_not, Bool.not_eq_true', Bool.not_eq_false'] at hq); walk_at "ev")); (case h5 => (intro _; walk_at "op")))
  | ((with_reducible refine' ev_lc ?h1 ?h2 ?h3 ?h4); (case h1 => walk_at "ev"); (case h2 => walk_at "its"); (case h3 => walk_at "len"); (case h4 => (intro _ _; exact ⟨_, rfl, by walk_at "ev"⟩)))
  | ((with_reducible refine' ev_lcR ?h1 ?h2 ?h3 ?h4); (case h1 => walk_at "ev"); (case h2 => walk_at "rng"); (case h3 => walk_at "len"); (case h4 => (intro _ _; exact ⟨_, rfl, by walk_at "ev"⟩)))
  | ((with_reducible refine' ev_cat ?h1 ?h2 ?h3); (case h1 => walk_at "ev"); (case h2 => walk_at "ev"); (case h3 => walk_at "len"))
  | ((with_reducible refine' ev_ownLen ?h1); (case h1 => exact rfl))
  | ((with_reducible refine' ev_ownAt ?h1 ?h2 ?h3); (case h1 => exact rfl); (case h2 => walk_at "ev"); (case h3 => walk_at "op"))
  | with_reducible assumption)
local macro_rules | `(tactic| walk_at "len") => `(tactic| first
  | ((simp only [List.length_map, List.length_cons, List.length_nil, List.length_append, List.length_range]) <;> walk_at "num")
  | walk_at "num")
local macro_rules | `(tactic| walk_at "its") => `(tactic| first
  | with_reducible exact its_map
  | with_reducible exact its_map2
  | exact rfl)
local macro_rules | `(tactic| walk_at "rng") => `(tactic| first
  | ((with_reducible refine rng1 ?_ ?_) <;> walk_at "num")
  | ((with_reducible refine rng2 ?_ ?_ ?_ ?_) <;> walk_at "num"))
local macro_rules | `(tactic| walk_at "es") => `(tactic| simp (config := {failIfUnchanged := false}) only [List.set_cons_zero, List.set_cons_succ])
local macro_rules | `(tactic| walk_at "start") => `(tactic| (simp only [List.map_cons, List.map_nil, List.cons_append, List.nil_append, List.length_cons, List.length_nil, Nat.reduceAdd, Nat.reduceSub, List.replicate_succ, List.replicate_zero]))
local macro_rules | `(tactic| walk_at "st1") => `(tactic| first
  | ((with_reducible refine' wo_seq ?k))
  | ((with_reducible refine' wo_ift ?h ?e ?k); (case h => walk_at "ev"); (case e => simp only [beq_self_eq_true, Bool.true_beq, Bool.false_beq, decide_eq_true_eq, decide_eq_false_iff_not, Bool.not_eq_true', Bool.not_eq_false', Bool.or_eq_true, Bool.and_eq_true, Bool.or_eq_false_iff, Bool.and_eq_false_imp, Bool.not_true, Bool.not_false, Bool.false_or, Bool.or_false, Bool.true_or, Bool.or_true, Bool.true_and, Bool.and_true, Bool.false_and, Bool.and_false, Bool.true_eq_false, Bool.false_eq_true, decide_true, decide_false, reduceCtorEq, D.isNone, Int.not_lt, Int.not_le, ne_eq, Decidable.not_not, not_true_eq_false, not_false_eq_true, false_implies, true_implies, implies_true, and_true, true_and, and_false, false_and, or_true, true_or, or_false, false_or, reduceIte, eq_self]))
  | ((with_reducible refine' wo_iff ?h ?e ?k); (case h => walk_at "ev"); (case e => simp only [beq_self_eq_true, Bool.true_beq, Bool.false_beq, decide_eq_true_eq, decide_eq_false_iff_not, Bool.not_eq_true', Bool.not_eq_false', Bool.or_eq_true, Bool.and_eq_true, Bool.or_eq_false_iff, Bool.and_eq_false_imp, Bool.not_true, Bool.not_false, Bool.false_or, Bool.or_false, Bool.true_or, Bool.or_true, Bool.true_and, Bool.and_true, Bool.false_and, Bool.and_false, Bool.true_eq_false, Bool.false_eq_true, decide_true, decide_false, reduceCtorEq, D.isNone, Int.not_lt, Int.not_le, ne_eq, Decidable.not_not, not_true_eq_false, not_false_eq_true, false_implies, true_implies, implies_true, and_true, true_and, and_false, false_and, or_true, true_or, or_false, false_or, reduceIte, eq_self]))
  | (((with_reducible refine' wo_asg ?h1 ?k); (case h1 => walk_at "ev")); walk_at "es")
  | ((with_reducible refine' wo_ret ?h1 ?k); (case h1 => walk_at "ev"))
  | (((with_reducible refine' wo_tgt ?h1 ?h2 ?k); (case h1 => walk_at "ev"); (case h2 => exact rfl)); walk_at "es")
  | ((with_reducible refine' wo_nil ?k))
  | ((with_reducible refine' wo_raise ?k))
  | (((with_reducible refine' wo_own ?h1 ?k); (case h1 => walk_at "ev")); walk_at "es")
  | (((with_reducible refine' wo_asgL ?h1 ?k); (case h1 => walk_at "ev")); walk_at "es")
  | (((with_reducible refine' wo_app ?h1 ?h2 ?h3 ?k); (case h1 => exact rfl); (case h2 => walk_at "ev"); (case h3 => walk_at "len")); walk_at "es")
  | (((with_reducible refine' wo_par ?h1 ?h2 ?k); (case h1 => walk_at "ev"); (case h2 => walk_at "ev")); walk_at "es")
  | ((with_reducible refine wo_frz ?_); simp only [frz, List.getElem?_cons_zero, List.getElem?_cons_succ, List.set_cons_zero, List.set_cons_succ]))
local macro_rules | `(tactic| walk_at "st") => `(tactic| (walk_at "st1"; try dsimp only))
local macro_rules | `(tactic| walk_at "hs") => `(tactic| ((try simp only [beq_self_eq_true, Bool.true_beq, Bool.false_beq, decide_eq_true_eq, decide_eq_false_iff_not, Bool.not_eq_true', Bool.not_eq_false', Bool.or_eq_true, Bool.and_eq_true, Bool.or_eq_false_iff, Bool.and_eq_false_imp, Bool.not_true, Bool.not_false, Bool.false_or, Bool.or_false, Bool.true_or, Bool.or_true, Bool.true_and, Bool.and_true, Bool.false_and, Bool.and_false, Bool.true_eq_false, Bool.false_eq_true, decide_true, decide_false, reduceCtorEq, D.isNone, Int.not_lt, Int.not_le, ne_eq, Decidable.not_not, not_true_eq_false, not_false_eq_true, false_implies, true_implies, implies_true, and_true, true_and, and_false, false_and, or_true, true_or, or_false, false_or, reduceIte, eq_self]); exact rfl))
local macro_rules | `(tactic| walk_at "fls") => `(tactic| first | (with_reducible exact False.elim) | (with_reducible refine fun (_ : True) => ?_) | skip)
local macro_rules | `(tactic| walk_at "if") => `(tactic| ((with_reducible refine' wo_ifx ?h ?e1 ?e2 ?k1 ?k2); (case h => walk_at "ev"); (case e1 => walk_at "hs"); (case e2 => walk_at "hs"); (case' k1 => walk_at "fls"); (case' k2 => walk_at "fls")))
local macro_rules | `(tactic| walk_at "tt") => `(tactic| (try simp only [beq_self_eq_true, Bool.true_beq, Bool.false_beq, decide_eq_true_eq, decide_eq_false_iff_not, Bool.not_eq_true', Bool.not_eq_false', Bool.or_eq_true, Bool.and_eq_true, Bool.or_eq_false_iff, Bool.and_eq_false_imp, Bool.not_true, Bool.not_false, Bool.false_or, Bool.or_false, Bool.true_or, Bool.or_true, Bool.true_and, Bool.and_true, Bool.false_and, Bool.and_false, Bool.true_eq_false, Bool.false_eq_true, decide_true, decide_false, reduceCtorEq, D.isNone, Int.not_lt, Int.not_le, ne_eq, Decidable.not_not, not_true_eq_false, not_false_eq_true, false_implies, true_implies, implies_true, and_true, true_and, and_false, false_and, or_true, true_or, or_false, false_or, reduceIte, eq_self]))
local macro_rules | `(tactic| walk_at "hc") => `(tactic| simp only [beq_self_eq_true, Bool.true_beq, Bool.false_beq, decide_eq_true_eq, decide_eq_false_iff_not, Bool.not_eq_true', Bool.not_eq_false', Bool.or_eq_true, Bool.and_eq_true, Bool.or_eq_false_iff, Bool.and_eq_false_imp, Bool.not_true, Bool.not_false, Bool.false_or, Bool.or_false, Bool.true_or, Bool.or_true, Bool.true_and, Bool.and_true, Bool.false_and, Bool.and_false, Bool.true_eq_false, Bool.false_eq_true, decide_true, decide_false, reduceCtorEq, D.isNone, Int.not_lt, Int.not_le, ne_eq, Decidable.not_not, not_true_eq_false, not_false_eq_true, false_implies, true_implies, implies_true, and_true, true_and, and_false, false_and, or_true, true_or, or_false, false_or, reduceIte, eq_self] at *)
local macro_rules | `(tactic| walk_at "sts") => `(tactic| (walk_at "st"; try (walk_at "st"; try (walk_at "st"; try (walk_at "st"; try (walk_at "st"; try (walk_at "st"; try (walk_at "st"; try (walk_at "st"; try (walk_at "st"; try (walk_at "st"; try (walk_at "st"; try (walk_at "st"; try (walk_at "st"; try (walk_at "st"; try (walk_at "st"; try (walk_at "st"; try (walk_at "st"; try (walk_at "st"; try (walk_at "st"; try (walk_at "st"; try (walk_at "st"; try (walk_at "st"; try (walk_at "st"; try (walk_at "st"; try (walk_at "st"; try (walk_at "st"; try (walk_at "st"; try (walk_at "st"; try (walk_at "st"; try (walk_at "st"; try (walk_at "st"; try (walk_at "st"; try (walk_at "st"; try (walk_at "st"; try (walk_at "st"; try (walk_at "st"; try (walk_at "st"; try (walk_at "st"; try (walk_at "st"; try (walk_at "st"; try (walk_at "st"))))))))))))))))))))))))))))))))))))))))))
local macro_rules | `(tactic| walk_at "op") => `(tactic| first
  | with_reducible assumption
  | with_reducible exact dIs_nn
  | with_reducible exact dIs_pt _
  | with_reducible exact dIs_D3 _ _ _
  | with_reducible exact dIsN_nn
  | with_reducible exact dIsN_pt _
  | with_reducible exact dIsN_D3 _ _ _
  | ((with_reducible refine at_czm ?_); first | with_reducible assumption | omega)
  | ((with_reducible refine at_czm1 ?_); first | with_reducible assumption | omega)
  | ((with_reducible refine at_sides ?_); first | with_reducible assumption | omega)
  | ((with_reducible refine at_normals ?_); first | with_reducible assumption | omega)
  | ((with_reducible refine at_cz ?_ ?_) <;> first | with_reducible assumption | omega)
  | with_reducible exact dLen_scr _
  | with_reducible exact dLen_tup _
  | walk_at "opx")
local macro_rules | `(tactic| walk_at "opx") => `(tactic| first
  | with_reducible exact isi_bb _
  | with_reducible exact dIs_i _
  | with_reducible exact isi_u _
  | with_reducible exact dLen_u _
  | with_reducible exact dEqN_D3t _ _
  | with_reducible exact dEqE_D3t _ _
  | ((with_reducible refine at_lstI ?_ ?_) <;> first | with_reducible assumption | omega)
  | with_reducible exact dIs_D3t _
  | with_reducible exact dIsN_D3t _
  | with_reducible exact dAt_u0 _
  | with_reducible exact dAt_u1 _
  | with_reducible exact dAt_u2 _
  | with_reducible exact dIs_nn
  | with_reducible exact dIs_pt _
  | with_reducible exact dIs_D3 _ _ _
  | with_reducible exact dIs_lst _
  | with_reducible exact dIsN_nn
  | with_reducible exact dIsN_pt _
  | with_reducible exact dIsN_D3 _ _ _
  | with_reducible exact dLen_t2 _
  | with_reducible exact dLen_t3 _ _ _
  | with_reducible assumption)
local macro_rules | `(tactic| walk_at "bdq") => `(tactic| first
  | ((with_reducible refine' bd_cz ?h ?g _); (case h => first | with_reducible assumption | exact Body.bd (by with_reducible assumption)); (case g => first | with_reducible assumption | exact Body.pos (by with_reducible assumption) | omega)))
local macro_rules | `(tactic| walk_at "shp") => `(tactic| first
  | ((with_reducible refine' shp_mapL ?h _); (case h => (intro _; walk_at "shp"))))
local macro_rules | `(tactic| walk_at "rng") => `(tactic| first
  | ((with_reducible refine rngN ?_); walk_at "num"))
local macro_rules | `(tactic| walk_at "st1") => `(tactic| first
  | (((with_reducible refine' wo_ins ?h1 ?h2 ?h3 ?h4 ?h5 ?h6 ?k); (case h1 => exact rfl); (case h2 => walk_at "ev"); (case h3 => walk_at "ev"); (case h4 => walk_at "num"); (case h5 => walk_at "num"); (case h6 => walk_at "len")); walk_at "es"))
local macro_rules | `(tactic| walk_at "ev") => `(tactic| first
  | with_reducible exact ev_home _ _ _
  | ((with_reducible refine' ev_cutS ?h1 ?h2 ?h3); (case h1 => walk_at "ev"); (case h2 => walk_at "ev"); (case h3 => walk_at "ev"))
  | ((with_reducible refine' ev_ownLenM ?h1); (case h1 => exact rfl))
  | ((with_reducible refine' ev_revm ?h1); (case h1 => walk_at "ev"))
  | ((with_reducible refine' ev_rev ?h1); (case h1 => walk_at "ev"))
  | ((with_reducible refine' ev_lc6 ?h1 ?h2 ?h3 ?h4 ?h5 ?h6 ?h7); (case h1 => walk_at "ev"); (case h2 => exact ⟨_, rfl, by walk_at "ev"⟩); (case h3 => exact ⟨_, rfl, by walk_at "ev"⟩); (case h4 => exact ⟨_, rfl, by walk_at "ev"⟩); (case h5 => exact ⟨_, rfl, by walk_at "ev"⟩); (case h6 => exact ⟨_, rfl, by walk_at "ev"⟩); (case h7 => exact ⟨_, rfl, by walk_at "ev"⟩))
  | ((with_reducible refine' ev_lc8 ?h1 ?h2 ?h3 ?h4 ?h5 ?h6 ?h7 ?h8 ?h9); (case h1 => walk_at "ev"); (case h2 => exact ⟨_, rfl, by walk_at "ev"⟩); (case h3 => exact ⟨_, rfl, by walk_at "ev"⟩); (case h4 => exact ⟨_, rfl, by walk_at "ev"⟩); (case h5 => exact ⟨_, rfl, by walk_at "ev"⟩); (case h6 => exact ⟨_, rfl, by walk_at "ev"⟩); (case h7 => exact ⟨_, rfl, by walk_at "ev"⟩); (case h8 => exact ⟨_, rfl, by walk_at "ev"⟩); (case h9 => exact ⟨_, rfl, by walk_at "ev"⟩))
  | ((with_reducible refine' ev_lc3 ?h1 ?h2 ?h3 ?h4); (case h1 => walk_at "ev"); (case h2 => exact ⟨_, rfl, by walk_at "ev"⟩); (case h3 => exact ⟨_, rfl, by walk_at "ev"⟩); (case h4 => exact ⟨_, rfl, by walk_at "ev"⟩))
  | ((with_reducible refine' ev_lcN ?h1 ?h2 ?h3 ?h4); (case h1 => walk_at "ev"); (case h2 => walk_at "rng"); (case h3 => walk_at "len"); (case h4 => (intro _ _; exact ⟨_, rfl, by walk_at "ev"⟩))))
local macro_rules | `(tactic| walk_at "okt") => `(tactic| first
  | with_reducible assumption
  | ((with_reducible refine okT.take ?_ _); walk_at "okt")
  | ((with_reducible refine okT.drop ?_ _); walk_at "okt")
  | ((with_reducible refine okT.app ?_ ?_) <;> walk_at "okt")
  | ((with_reducible refine okT_numI _))
  | decide)
local macro_rules | `(tactic| walk_at "lenT") => `(tactic| first
  | with_reducible assumption
  | omega
  | ((simp only [List.length_append, List.length_cons, List.length_nil, List.length_take, List.length_drop]) <;> omega)
  | decide)
local macro_rules | `(tactic| walk_at "op") => `(tactic| first
  | ((with_reducible refine dEq_T ?_ ?_) <;> walk_at "okt")
  | ((with_reducible refine dNe_T ?_ ?_) <;> walk_at "okt")
  | ((with_reducible refine dLen_T ?_); walk_at "lenT")
  | ((with_reducible refine dAdd_T ?_); walk_at "lenT")
  | with_reducible exact dIn_T _ _
  | with_reducible exact dOrd_T _
  | ((with_reducible refine dAt_T0 ?_ ?_); (first | with_reducible assumption | decide); walk_at "lenT")
  | ((with_reducible refine dAt_Tn ?_ ?_) <;> walk_at "lenT")
  | ((with_reducible refine dStr_T ?_); walk_at "log")
  | with_reducible exact isi_T _
  | with_reducible exact dIs_T _
  | with_reducible exact dIsN_T _
  | with_reducible exact dIs_nnT
  | with_reducible exact dIsN_nnT
  | with_reducible exact dIs_iT _
  | with_reducible exact dIsN_iT _
  | with_reducible exact dIs_D2T _ _
  | with_reducible exact dIsN_D2T _ _)
local macro_rules | `(tactic| walk_at "ev") => `(tactic| first
  | with_reducible exact ev_lit lit_e
  | with_reducible exact ev_lit lit_m
  | with_reducible exact ev_lit lit_0
  | with_reducible exact ev_lit lit_s
  | with_reducible exact ev_lit lit_f
  | ((with_reducible refine' ev_cutTo1 ?h1 ?h2); (case h1 => walk_at "ev"); (case h2 => walk_at "lenT"))
  | ((with_reducible refine' ev_cutFrom1 ?h1 ?h2); (case h1 => walk_at "ev"); (case h2 => walk_at "lenT"))
  | ((with_reducible refine' ev_cutTo ?h1 ?h2 ?h3); (case h1 => walk_at "ev"); (case h2 => walk_at "ev"); (case h3 => walk_at "lenT"))
  | ((with_reducible refine' ev_cutFrom ?h1 ?h2 ?h3); (case h1 => walk_at "ev"); (case h2 => walk_at "ev"); (case h3 => walk_at "lenT")))
local macro_rules | `(tactic| walk_at "st1") => `(tactic| first
  | ((with_reducible refine' wo_ift ?h ?e ?k); (case h => walk_at "ev"); (case e => first | decide | (simp [D.isNone]; done)))
  | ((with_reducible refine' wo_iff ?h ?e ?k); (case h => walk_at "ev"); (case e => first | decide | (simp [D.isNone]; done))))
local macro_rules | `(tactic| walk_at "log") => `(tactic| ((with_reducible refine log_bd ?_); walk_at "dis"))
/-! ### texts cut at a sign -/
def cuts (m : Nat) (l : List Nat) : List (List Nat) := spl [m] 0 [] l
theorem pre1 {m c : Nat} {r : List Nat} : pre [m] (c :: r) = decide (c = m) := by
  show ([c] == [m]) = _
  by_cases h : c = m
  · subst h
    simp
  · simp [h]
theorem spl1_hit {m : Nat} {acc r : List Nat} : spl [m] 0 acc (m :: r) = acc :: spl [m] 0 [] r := by
  rw [spl_hit (by rw [pre1]; simp)]
  rfl
theorem spl1_miss {m c : Nat} {acc r : List Nat} (h : ¬ c = m) : spl [m] 0 acc (c :: r) = spl [m] 0 (acc ++ [c]) r := spl_miss (by rw [pre1]; simp [h])
def joinL (m : Nat) : List (List Nat) → List Nat
  | [] => []
  | [w] => w
  | w :: v :: r => w ++ m :: joinL m (v :: r)
theorem join_spl (m : Nat) : ∀ (l acc : List Nat), spl [m] 0 acc l ≠ [] ∧ joinL m (spl [m] 0 acc l) = acc ++ l
  | [], acc => by
    rw [spl_nil]
    exact ⟨by simp, by show acc = acc ++ []; rw [List.append_nil]⟩
  | c :: r, acc => by
    by_cases h : c = m
    · subst h
      rw [spl1_hit]
      obtain ⟨h1, h2⟩ := join_spl c r []
      refine ⟨by simp, ?_⟩
      cases e : spl [c] 0 [] r with
      | nil => exact absurd e h1
      | cons v s =>
        rw [e] at h2
        show acc ++ c :: joinL c (v :: s) = _
        rw [h2]
        rfl
    · rw [spl1_miss h]
      obtain ⟨h1, h2⟩ := join_spl m r (acc ++ [c])
      exact ⟨h1, by rw [h2, List.append_assoc]; rfl⟩
theorem cuts_join (m : Nat) (l : List Nat) : joinL m (cuts m l) = l := (join_spl m l []).2
theorem cuts_ne (m : Nat) (l : List Nat) : cuts m l ≠ [] := (join_spl m l []).1
theorem cuts_mem {m : Nat} {w : List Nat} : ∀ {l acc : List Nat}, w ∈ spl [m] 0 acc l → ∀ c ∈ w, c ∈ acc ∨ c ∈ l
  | [], acc, h => by
    rw [spl_nil] at h
    rw [List.mem_singleton.mp h]
    exact fun c hc => .inl hc
  | d :: r, acc, h => by
    intro c hc
    by_cases e : d = m
    · subst e
      rw [spl1_hit] at h
      rcases List.mem_cons.mp h with h | h
      · rw [h] at hc; exact .inl hc
      · rcases cuts_mem h c hc with q | q
        · simp at q
        · exact .inr (List.mem_cons_of_mem _ q)
    · rw [spl1_miss e] at h
      rcases cuts_mem h c hc with q | q
      · rcases List.mem_append.mp q with q | q
        · exact .inl q
        · rw [List.mem_singleton.mp q]; exact .inr List.mem_cons_self
      · exact .inr (List.mem_cons_of_mem _ q)
theorem cuts_ok {m : Nat} {l w : List Nat} (h : okT l) (hw : w ∈ cuts m l) : okT w := fun c hc => by
  rcases cuts_mem hw c hc with q | q
  · simp at q
  · exact h c q
theorem spl_len (m : Nat) : ∀ (l acc : List Nat), (spl [m] 0 acc l).length ≤ l.length + 1
  | [], acc => by rw [spl_nil]; simp
  | d :: r, acc => by
    by_cases e : d = m
    · subst e
      rw [spl1_hit, List.length_cons, List.length_cons]
      have := spl_len d r []
      omega
    · rw [spl1_miss e, List.length_cons]
      have := spl_len m r (acc ++ [d])
      omega
theorem join_part {m : Nat} : ∀ {ws : List (List Nat)} {w : List Nat}, w ∈ ws → w.length ≤ (joinL m ws).length
  | [], _, h => absurd h List.not_mem_nil
  | [v], w, h => by rw [List.mem_singleton.mp h]; exact Nat.le_refl _
  | v :: u :: r, w, h => by
    show _ ≤ (v ++ m :: joinL m (u :: r)).length
    rw [List.length_append, List.length_cons]
    rcases List.mem_cons.mp h with h | h
    · rw [h]; omega
    · have := join_part (m := m) h
      omega
theorem cuts_len {m : Nat} {l w : List Nat} (hw : w ∈ cuts m l) : w.length ≤ l.length := by
  have := join_part (m := m) hw
  rwa [cuts_join] at this
theorem split_T {l : List Nat} {m : Nat} (hm : m < 256) : (Txt.split (tS l) (tS [m])).map D.str = (cuts m l).map T := by
  have e := split_spl (tS l) (tS [m]) (by show ([m] : List Nat) ≠ []; simp) (kind_ok (by
    show (tS [m]).cps.all (· < 256) = true
    simp [tS, hm]))
  have e2 : Txt.split (tS l) (tS [m]) = (cuts m l).map tS := map_tl_inj (by
    rw [e, List.map_map]
    show cuts m l = _
    rw [show tl ∘ tS = id from funext fun x => rfl, List.map_id])
  rw [e2, List.map_map]
  rfl
theorem ev_split {ρ : En} {mo me : EM} {l : List Nat} {m : Nat} (h1 : mo ρ = .ok (T l)) (h2 : me ρ = .ok (T [m])) (hm : m < 256) (hl : l.length ≤ 1000000) : aSplit mo me ρ = .ok ((cuts m l).map T) := by
  unfold aSplit
  rw [h1, bind_ok]
  show (me ρ).bind _ = _
  rw [h2, bind_ok]
  show (if ((tS [m]).length == 0) = false ∧ (tS l).length + 2 ≤ sizeLine then R.ok ((Txt.split (tS l) (tS [m])).map D.str) else .st) = _
  rw [if_pos ⟨rfl, by rw [len_tS, sizeLine_eq]; omega⟩, split_T hm]
/-! own lists: a place is written -/
theorem wo_put {ρ : En} {N : En → Prop} {T : D → Prop} {X : Str → Prop} {mk m : EM} {i : Nat} {ds es : List D} {k d : D} (h0 : ρ[i]? = some (.l ds)) (h1 : m ρ = .ok d) (h2 : mk ρ = .ok k) (h3 : putD ds k d = some es) (k1 : N (ρ.set i (.l es))) : WO (sPut i mk m ρ) N T X := by
  unfold sPut
  rw [h0]
  show WO (ofR ((m ρ).bind _) _ _) _ _ _
  rw [h1, bind_ok, h2, bind_ok, h3]
  exact k1
theorem ixN_last (n : Nat) (h : 0 < n) : ixN n (-1) = some (n - 1) := by
  unfold ixN
  rw [if_neg (by omega), if_pos (by omega)]
  congr 1
  omega
theorem put_last (ds : List D) (x d : D) : putD (ds ++ [x]) (.int (-1)) d = some (ds ++ [d]) := by
  show (ixN (ds ++ [x]).length (-1)).map (fun j => (ds ++ [x]).set j d) = _
  rw [List.length_append, List.length_singleton, ixN_last _ (by omega)]
  show some ((ds ++ [x]).set (ds.length + 1 - 1) d) = _
  rw [Nat.add_sub_cancel, List.set_append_right _ _ (Nat.le_refl _), Nat.sub_self]
  rfl
theorem at_last1 (ds : List D) (x : D) : dAt (.lst (ds ++ [x])) (.int (-1)) = some x := by
  show atI (ds ++ [x]) (-1) = _
  unfold atI
  rw [List.length_append, List.length_singleton, ixN_last _ (by omega)]
  show (ds ++ [x])[ds.length + 1 - 1]? = _
  rw [Nat.add_sub_cancel, List.getElem?_append_right (Nat.le_refl _), Nat.sub_self]
  rfl
theorem cut_q {l : List Nat} {m : Nat} (ok : okT l) (om : okT [m]) (hl : l.length ≤ 1000000) : F__law_cut_at [T l, T [m]] = .ok (.lst ((cuts m l).map T)) := by
  unfold F__law_cut_at b__law_cut_at
  refine fn_ok ?_
  walk_at "start"
  walk_at "st"
  walk_at "st"
  walk_at "st"
  with_reducible refine' wo_for (h := sgn) (l := l) (fun r ρ => ∃ (done : List (List Nat)) (cur : List Nat) (s3 : Sl), ρ = [.v (T l), .v (T [m]), .l (done.map T ++ [T cur]), s3] ∧ cuts m l = done ++ spl [m] 0 cur r ∧ done.length + r.length ≤ l.length ∧ cur.length + r.length ≤ l.length ∧ okT cur) ?h1 ?h2 ?i0 ?step ?fin
  case h1 => walk_at "ev"
  case h2 => exact its_S
  case i0 => exact ⟨[], [], _, rfl, rfl, by simp, by simp, fun c h => absurd h List.not_mem_nil⟩
  case step =>
    rintro c r ρ hc ⟨done, cur, s3, rfl, hd, h1, h2, h3⟩
    refine ⟨_, rfl, ?_⟩
    have oc := ok.one hc
    rw [List.length_cons] at h1 h2
    rw [sgn_T]
    unfold l1__law_cut_at
    walk_at "es"
    walk_at "if"
    case k1 =>
      intro hz
      obtain rfl : c = m := by simpa using hz
      with_reducible refine' wo_app (d := T []) rfl ?g1 ?g2 ?g3
      case g1 => walk_at "ev"
      case g2 => rw [List.length_append, List.length_map, List.length_singleton]; omega
      case g3 =>
        walk_at "es"
        refine ⟨done ++ [cur], [], .v (T [c]), by simp, ?_, by simp; omega, by simp; omega, fun c h => absurd h List.not_mem_nil⟩
        rw [hd, spl1_hit, List.append_assoc]
        rfl
    case k2 =>
      intro hz
      have hz' : ¬ c = m := fun e => hz (by rw [e])
      with_reducible refine' wo_put (ds := done.map T ++ [T cur]) (d := T (cur ++ [c])) rfl ?g1 (ev_c _) (put_last _ _ _) ?g3
      case g1 => exact ev_e2 (ev_ownAt rfl (ev_c _) (at_last1 _ _)) (ev_var rfl) (dAdd_T (by rw [List.length_singleton]; omega))
      case g3 =>
        walk_at "es"
        refine ⟨done, cur ++ [c], .v (T [c]), rfl, ?_, by omega, by simp; omega, h3.app oc⟩
        rw [hd, spl1_miss hz']
  case fin =>
    rintro ρ ⟨done, cur, s3, rfl, hd, h1, h2, h3⟩
    rw [spl_nil] at hd
    walk_at "sts"
    rw [hd, List.map_append]
    rfl
end Law

namespace Law
open PySem PySem.Spec PyProof.Rows L2 GD Hl TL
local macro_rules | `(tactic| walk_at "bd") => `(tactic| first
  | with_reducible assumption
  | with_reducible exact Bd.litO _
  | ((with_reducible refine' Bd.mul ?h ?g); (case h => walk_at "bd"); (case g => walk_at "bd"))
  | ((with_reducible refine' Bd.add ?h ?g); (case h => walk_at "bd"); (case g => walk_at "bd"))
  | ((with_reducible refine' Bd.sub ?h ?g); (case h => walk_at "bd"); (case g => walk_at "bd"))
  | ((with_reducible refine' Bd.neg ?h); (case h => walk_at "bd"))
  | ((with_reducible refine' Bd.emod ?h); (case h => walk_at "pos"))
  | ((with_reducible refine' Bd.ediv ?h); (case h => walk_at "bd"))
  | ((with_reducible refine' bd_fT ?h); (case h => walk_at "bd"))
  | ((with_reducible refine' bd_fB ?h); (case h => walk_at "bd"))
  | ((with_reducible refine' bd_sX ?h); (case h => walk_at "bd"))
  | ((with_reducible refine' bd_sY ?h); (case h => walk_at "bd"))
  | ((with_reducible refine' bd_sW ?h); (case h => walk_at "bd"))
  | ((with_reducible refine' bd_abs ?h); (case h => walk_at "bd"))
  | ((with_reducible refine' BdP.a ?h); (case h => walk_at "bdq"))
  | ((with_reducible refine' BdP.b ?h); (case h => walk_at "bdq"))
  | with_reducible exact bd_ite1
  | ((with_reducible refine' bd_ite ?h ?g); (case h => walk_at "bd"); (case g => walk_at "bd")))
local macro_rules | `(tactic| walk_at "pos") => `(tactic| first
  | with_reducible assumption
  | decide
  | omega)
local macro_rules | `(tactic| walk_at "bdq") => `(tactic| first
  | with_reducible assumption
  | ((with_reducible refine' bd_cy ?h ?g _); (case h => with_reducible assumption); (case g => first | with_reducible assumption | omega))
  | ((with_reducible refine' bd_mem ?h ?g); (case g => with_reducible assumption); (case h => with_reducible assumption))
  | ((with_reducible refine' bd_get ?h); (case h => with_reducible assumption)))
local macro_rules | `(tactic| walk_at "bdp") => `(tactic| first
  | walk_at "bdq"
  | ((with_reducible refine' BdP.mk ?h ?g); (case h => walk_at "bd"); (case g => walk_at "bd")))
local macro_rules | `(tactic| walk_at "num") => `(tactic| first
  | with_reducible assumption
  | omega
  | decide +kernel
  | (simp only [Nat.reduceLog2]; omega))
local macro_rules | `(tactic| walk_at "dis") => `(tactic| first
  | with_reducible assumption
  | ((with_reducible refine' mok ?h ?g ?l); (case h => walk_at "bd"); (case g => walk_at "bd"); (case l => walk_at "num"))
  | ((with_reducible refine' Bd.mono ?h ?l); (case h => walk_at "bd"); (case l => walk_at "num"))
  | ((with_reducible refine' BdP.mono ?h ?l); (case h => walk_at "bdp"); (case l => walk_at "num"))
  | ((with_reducible show divOk _); first | with_reducible assumption | decide +kernel | (refine' dok ?p ?h ?l; (case p => first | with_reducible assumption | omega); (case h => walk_at "bd"); (case l => walk_at "num")))
  | omega)
local macro_rules | `(tactic| walk_at "op") => `(tactic| first
  | with_reducible exact dAdd_int _ _
  | with_reducible exact dSub_int _ _
  | ((with_reducible refine dMul_int ?_); walk_at "dis")
  | with_reducible exact dAt_pp0 _ _
  | with_reducible exact dAt_pp1 _ _
  | with_reducible exact dAt_p0 _
  | with_reducible exact dAt_p1 _
  | with_reducible exact dAt_t0
  | with_reducible exact dAt_t1
  | with_reducible exact dAt_t2
  | with_reducible exact dAt_q0 _ _ _
  | with_reducible exact dAt_q1 _ _ _
  | with_reducible exact dAt_q2 _ _ _
  | with_reducible exact dAt_f0 _ _
  | with_reducible exact dAt_f1 _ _
  | with_reducible exact dLt_int _ _
  | with_reducible exact dLe_int _ _
  | with_reducible exact dGt_int _ _
  | with_reducible exact dGe_int _ _
  | with_reducible exact dEq_int _ _
  | with_reducible exact dNe_int _ _
  | ((with_reducible refine dMod_int ?_); walk_at "dis")
  | ((with_reducible refine dDiv_int ?_); walk_at "dis")
  | with_reducible exact dNeg_int _
  | with_reducible exact dIs_non _
  | with_reducible exact dIsNot_non _
  | with_reducible exact dAbs_int _
  | with_reducible exact dMax2_int _ _
  | with_reducible exact dMin2_int _ _
  | with_reducible exact dInt_bl _
  | with_reducible exact dLen_pts _
  | with_reducible exact dEq_pt _ _
  | with_reducible exact dNe_pt _ _
  | with_reducible exact dEq_pts _ _
  | with_reducible exact dNe_pts _ _
  | with_reducible exact dNe_bl _ _
  | with_reducible exact dEq_bl _ _
  | with_reducible exact dEq_D3 _ _ _ _ _ _
  | with_reducible exact dNe_D3 _ _ _ _ _ _
  | with_reducible exact dEq_np _
  | with_reducible exact dNe_np _
  | ((with_reducible refine at_last ?_); walk_at "dis")
  | with_reducible exact dAt_l0
  | with_reducible exact dAt_l1
  | with_reducible exact dAt_l2
  | with_reducible exact dAt_l3
  | with_reducible exact dAt_l4
  | with_reducible exact dAt_l5
  | with_reducible exact dAt_l6
  | with_reducible exact dAt_l7
  | ((with_reducible refine' dNe_self ?h ?l); (case h => walk_at "shp"); (case l => decide))
  | ((with_reducible refine' dEq_self ?h ?l); (case h => walk_at "shp"); (case l => decide))
  | with_reducible assumption
  | exact isi_int _ _ _ _ rfl kb_tuple_tuple
  | exact isi_int _ _ _ _ rfl kb_list_list
  | exact isi_int _ _ _ _ rfl kb_int_int
  | exact isi_int _ _ _ _ rfl kb_bool_bool
  | exact isi_int _ _ _ _ rfl kb_int_bool
  | exact isi_int _ _ _ _ rfl kb_list_tuple
  | exact isi_int _ _ _ _ rfl kb_tuple_list
  | with_reducible rfl)
local macro_rules | `(tactic| walk_at "shp") => `(tactic| first
  | with_reducible exact shp_int _
  | with_reducible exact shp_bl _
  | with_reducible exact shp_non
  | with_reducible exact shp_pt _
  | with_reducible exact shp_pts _
  | with_reducible exact shp_D2 _ _
  | with_reducible exact shp_fr _ _
  | with_reducible exact shp_D3 _ _ _
  | with_reducible exact shp_sp _ _ _
  | with_reducible exact shp_nilL
  | with_reducible exact shp_nilT
  | ((with_reducible refine' shp_consL ?h ?g); (case h => walk_at "shp"); (case g => walk_at "shp"))
  | ((with_reducible refine' shp_consT ?h ?g); (case h => walk_at "shp"); (case g => walk_at "shp"))
  | with_reducible assumption)
local macro_rules | `(tactic| walk_at "fn") => `(tactic| first
  | with_reducible assumption
  | with_reducible exact whole_int _
  | with_reducible exact divisor_eq _ _
  | with_reducible exact common_eq _ _)
local macro_rules | `(tactic| walk_at "ev") => `(tactic| first
  | with_reducible exact ev_c _
  | ((with_reducible refine' ev_var ?h1); (case h1 => exact rfl))
  | ((with_reducible refine' ev_e2 ?h1 ?h2 ?h3); (case h1 => walk_at "ev"); (case h2 => walk_at "ev"); (case h3 => walk_at "op"))
  | with_reducible exact ev_nil
  | ((with_reducible refine' ev_cons ?h1 ?h2); (case h1 => walk_at "ev"); (case h2 => walk_at "ev"))
  | ((with_reducible refine' ev_F ?h1 ?h2); (case h1 => walk_at "ev"); (case h2 => walk_at "fn"))
  | ((with_reducible refine' ev_mB ?h1); (case h1 => walk_at "ev"))
  | ((with_reducible refine' ev_B ?h1 ?h2); (case h1 => walk_at "ev"); (case h2 => walk_at "op"))
  | ((with_reducible refine' ev_tup2 ?h1 ?h2); (case h1 => walk_at "ev"); (case h2 => walk_at "ev"))
  | ((with_reducible refine' ev_tup3 ?h1 ?h2 ?h3); (case h1 => walk_at "ev"); (case h2 => walk_at "ev"); (case h3 => walk_at "ev"))
  | ((with_reducible refine' ev_tup ?h1 ?h2); (case h1 => walk_at "ev"); (case h2 => walk_at "len"))
  | ((with_reducible refine' ev_L ?h1); (case h1 => walk_at "ev"))
  | ((with_reducible refine' ev_lst ?h1 ?h2); (case h1 => walk_at "ev"); (case h2 => walk_at "len"))
  | ((with_reducible refine' ev_not ?h1); (case h1 => walk_at "ev"))
  | ((with_reducible refine' ev_and0 ?h1); (case h1 => walk_at "ev"))
  | ((with_reducible refine' ev_and ?h1 ?h2); (case h1 => walk_at "ev"); (case h2 => (intro hq; (try simp only [decide_eq_true_eq, decide_eq_false_iff_not, Bool.not_eq_true', Bool.not_eq_false'] at hq); walk_at "ev")))
  | ((with_reducible refine' ev_or1 ?h1); (case h1 => walk_at "ev"))
  | ((with_reducible refine' ev_or ?h1 ?h2); (case h1 => walk_at "ev"); (case h2 => (intro hq; (try simp only [decide_eq_true_eq, decide_eq_false_iff_not, Bool.not_eq_true', Bool.not_eq_false'] at hq); walk_at "ev")))
  | ((with_reducible refine' ev_eNot ?h1); (case h1 => walk_at "ev"))
  | ((with_reducible refine' ev_eAnd0 ?h1); (case h1 => walk_at "ev"))
  | ((with_reducible refine' ev_eAnd ?h1 ?h2); (case h1 => walk_at "ev"); (case h2 => (intro hq; (try simp only [decide_eq_true_eq, decide_eq_false_iff_not, Bool.not_eq_true', Bool.not_eq_false'] at hq); walk_at "ev")))
  | ((with_reducible refine' ev_eOr1 ?h1); (case h1 => walk_at "ev"))
  | ((with_reducible refine' ev_eOr ?h1 ?h2); (case h1 => walk_at "ev"); (case h2 => (intro hq; (try simp only [decide_eq_true_eq, decide_eq_false_iff_not, Bool.not_eq_true', Bool.not_eq_false'] at hq); walk_at "ev")))
  | ((with_reducible refine' ev_e1 ?h1 ?h2); (case h1 => walk_at "ev"); (case h2 => walk_at "op"))
  | ((with_reducible refine' ev_copy ?h1 ?h2); (case h1 => walk_at "ev"); (case h2 => exact rfl))
  | ((with_reducible refine' ev_ch ?h1 ?h2 ?h3 ?h4 ?h5); (case h1 => walk_at "ev"); (case h2 => walk_at "ev"); (case h3 => walk_at "op"); (case h4 => (intro hq; (try simp only [decide_eq_true_eq, decide_eq_false_iff_not, Bool.not_eq_true', Bool.not_eq_false'] at hq); walk_at "ev")); (case h5 => (intro _; walk_at "op")))
  | ((with_reducible refine' ev_lc ?h1 ?h2 ?h3 ?h4); (case h1 => walk_at "ev"); (case h2 => walk_at "its"); (case h3 => walk_at "len"); (case h4 => (intro _ _; exact ⟨_, rfl, by walk_at "ev"⟩)))
  | ((with_reducible refine' ev_lcR ?h1 ?h2 ?h3 ?h4); (case h1 => walk_at "ev"); (case h2 => walk_at "rng"); (case h3 => walk_at "len"); (case h4 => (intro _ _; exact ⟨_, rfl, by walk_at "ev"⟩)))
  | ((with_reducible refine' ev_cat ?h1 ?h2 ?h3); (case h1 => walk_at "ev"); (case h2 => walk_at "ev"); (case h3 => walk_at "len"))
  | ((with_reducible refine' ev_ownLen ?h1); (case h1 => exact rfl))
  | ((with_reducible refine' ev_ownAt ?h1 ?h2 ?h3); (case h1 => exact rfl); (case h2 => walk_at "ev"); (case h3 => walk_at "op"))
  | with_reducible assumption)
local macro_rules | `(tactic| walk_at "len") => `(tactic| first
  | ((simp only [List.length_map, List.length_cons, List.length_nil, List.length_append, List.length_range]) <;> walk_at "num")
  | walk_at "num")
local macro_rules | `(tactic| walk_at "its") => `(tactic| first
  | with_reducible exact its_map
  | with_reducible exact its_map2
  | exact rfl)
local macro_rules | `(tactic| walk_at "rng") => `(tactic| first
  | ((with_reducible refine rng1 ?_ ?_) <;> walk_at "num")
  | ((with_reducible refine rng2 ?_ ?_ ?_ ?_) <;> walk_at "num"))
local macro_rules | `(tactic| walk_at "es") => `(tactic| simp (config := {failIfUnchanged := false}) only [List.set_cons_zero, List.set_cons_succ])
local macro_rules | `(tactic| walk_at "start") => `(tactic| (simp only [List.map_cons, List.map_nil, List.cons_append, List.nil_append, List.length_cons, List.length_nil, Nat.reduceAdd, Nat.reduceSub, List.replicate_succ, List.replicate_zero]))
local macro_rules | `(tactic| walk_at "st1") => `(tactic| first
  | ((with_reducible refine' wo_seq ?k))
  | ((with_reducible refine' wo_ift ?h ?e ?k); (case h => walk_at "ev"); (case e => simp only [beq_self_eq_true, Bool.true_beq, Bool.false_beq, decide_eq_true_eq, decide_eq_false_iff_not, Bool.not_eq_true', Bool.not_eq_false', Bool.or_eq_true, Bool.and_eq_true, Bool.or_eq_false_iff, Bool.and_eq_false_imp, Bool.not_true, Bool.not_false, Bool.false_or, Bool.or_false, Bool.true_or, Bool.or_true, Bool.true_and, Bool.and_true, Bool.false_and, Bool.and_false, Bool.true_eq_false, Bool.false_eq_true, decide_true, decide_false, reduceCtorEq, D.isNone, Int.not_lt, Int.not_le, ne_eq, Decidable.not_not, not_true_eq_false, not_false_eq_true, false_implies, true_implies, implies_true, and_true, true_and, and_false, false_and, or_true, true_or, or_false, false_or, reduceIte, eq_self]))
  | ((with_reducible refine' wo_iff ?h ?e ?k); (case h => walk_at "ev"); (case e => simp only [beq_self_eq_true, Bool.true_beq, Bool.false_beq, decide_eq_true_eq, decide_eq_false_iff_not, Bool.not_eq_true', Bool.not_eq_false', Bool.or_eq_true, Bool.and_eq_true, Bool.or_eq_false_iff, Bool.and_eq_false_imp, Bool.not_true, Bool.not_false, Bool.false_or, Bool.or_false, Bool.true_or, Bool.or_true, Bool.true_and, Bool.and_true, Bool.false_and, Bool.and_false, Bool.true_eq_false, Bool.false_eq_true, decide_true, decide_false, reduceCtorEq, D.isNone, Int.not_lt, Int.not_le, ne_eq, Decidable.not_not, not_true_eq_false, not_false_eq_true, false_implies, true_implies, implies_true, and_true, true_and, and_false, false_and, or_true, true_or, or_false, false_or, reduceIte, eq_self]))
  | (((with_reducible refine' wo_asg ?h1 ?k); (case h1 => walk_at "ev")); walk_at "es")
  | ((with_reducible refine' wo_ret ?h1 ?k); (case h1 => walk_at "ev"))
  | (((with_reducible refine' wo_tgt ?h1 ?h2 ?k); (case h1 => walk_at "ev"); (case h2 => exact rfl)); walk_at "es")
  | ((with_reducible refine' wo_nil ?k))
  | ((with_reducible refine' wo_raise ?k))
  | (((with_reducible refine' wo_own ?h1 ?k); (case h1 => walk_at "ev")); walk_at "es")
  | (((with_reducible refine' wo_asgL ?h1 ?k); (case h1 => walk_at "ev")); walk_at "es")
  | (((with_reducible refine' wo_app ?h1 ?h2 ?h3 ?k); (case h1 => exact rfl); (case h2 => walk_at "ev"); (case h3 => walk_at "len")); walk_at "es")
  | (((with_reducible refine' wo_par ?h1 ?h2 ?k); (case h1 => walk_at "ev"); (case h2 => walk_at "ev")); walk_at "es")
  | ((with_reducible refine wo_frz ?_); simp only [frz, List.getElem?_cons_zero, List.getElem?_cons_succ, List.set_cons_zero, List.set_cons_succ]))
local macro_rules | `(tactic| walk_at "st") => `(tactic| (walk_at "st1"; try dsimp only))
local macro_rules | `(tactic| walk_at "hs") => `(tactic| ((try simp only [beq_self_eq_true, Bool.true_beq, Bool.false_beq, decide_eq_true_eq, decide_eq_false_iff_not, Bool.not_eq_true', Bool.not_eq_false', Bool.or_eq_true, Bool.and_eq_true, Bool.or_eq_false_iff, Bool.and_eq_false_imp, Bool.not_true, Bool.not_false, Bool.false_or, Bool.or_false, Bool.true_or, Bool.or_true, Bool.true_and, Bool.and_true, Bool.false_and, Bool.and_false, Bool.true_eq_false, Bool.false_eq_true, decide_true, decide_false, reduceCtorEq, D.isNone, Int.not_lt, Int.not_le, ne_eq, Decidable.not_not, not_true_eq_false, not_false_eq_true, false_implies, true_implies, implies_true, and_true, true_and, and_false, false_and, or_true, true_or, or_false, false_or, reduceIte, eq_self]); exact rfl))
local macro_rules | `(tactic| walk_at "fls") => `(tactic| first | (with_reducible exact False.elim) | (with_reducible refine fun (_ : True) => ?_) | skip)
local macro_rules | `(tactic| walk_at "if") => `(tactic| ((with_reducible refine' wo_ifx ?h ?e1 ?e2 ?k1 ?k2); (case h => walk_at "ev"); (case e1 => walk_at "hs"); (case e2 => walk_at "hs"); (case' k1 => walk_at "fls"); (case' k2 => walk_at "fls")))
local macro_rules | `(tactic| walk_at "tt") => `(tactic| (try simp only [beq_self_eq_true, Bool.true_beq, Bool.false_beq, decide_eq_true_eq, decide_eq_false_iff_not, Bool.not_eq_true', Bool.not_eq_false', Bool.or_eq_true, Bool.and_eq_true, Bool.or_eq_false_iff, Bool.and_eq_false_imp, Bool.not_true, Bool.not_false, Bool.false_or, Bool.or_false, Bool.true_or, Bool.or_true, Bool.true_and, Bool.and_true, Bool.false_and, Bool.and_false, Bool.true_eq_false, Bool.false_eq_true, decide_true, decide_false, reduceCtorEq, D.isNone, Int.not_lt, Int.not_le, ne_eq, Decidable.not_not, not_true_eq_false, not_false_eq_true, false_implies, true_implies, implies_true, and_true, true_and, and_false, false_and, or_true, true_or, or_false, false_or, reduceIte, eq_self]))
local macro_rules | `(tactic| walk_at "hc") => `(tactic| simp only [beq_self_eq_true, Bool.true_beq, Bool.false_beq, decide_eq_true_eq, decide_eq_false_iff_not, Bool.not_eq_true', Bool.not_eq_false', Bool.or_eq_true, Bool.and_eq_true, Bool.or_eq_false_iff, Bool.and_eq_false_imp, Bool.not_true, Bool.not_false, Bool.false_or, Bool.or_false, Bool.true_or, Bool.or_true, Bool.true_and, Bool.and_true, Bool.false_and, Bool.and_false, Bool.true_eq_false, Bool.false_eq_true, decide_true, decide_false, reduceCtorEq, D.isNone, Int.not_lt, Int.not_le, ne_eq, Decidable.not_not, not_true_eq_false, not_false_eq_true, false_implies, true_implies, implies_true, and_true, true_and, and_false, false_and, or_true, true_or, or_false, false_or, reduceIte, eq_self] at *)
local macro_rules | `(tactic| walk_at "sts") => `(tactic| (walk_at "st"; try (walk_at "st"; try (walk_at "st"; try (walk_at "st"; try (walk_at "st"; try (walk_at "st"; try (walk_at "st"; try (walk_at "st"; try (walk_at "st"; try (walk_at "st"; try (walk_at "st"; try (walk_at "st"; try (walk_at "st"; try (walk_at "st"; try (walk_at "st"; try (walk_at "st"; try (walk_at "st"; try (walk_at "st"; try (walk_at "st"; try (walk_at "st"; try (walk_at "st"; try (walk_at "st"; try (walk_at "st"; try (walk_at "st"; try (walk_at "st"; try (walk_at "st"; try (walk_at "st"; try (walk_at "st"; try (walk_at "st"; try (walk_at "st"; try (walk_at "st"; try (walk_at "st"; try (walk_at "st"; try (walk_at "st"; try (walk_at "st"; try (walk_at "st"; try (walk_at "st"; try (walk_at "st"; try (walk_at "st"; try (walk_at "st"; try (walk_at "st"))))))))))))))))))))))))))))))))))))))))))
local macro_rules | `(tactic| walk_at "op") => `(tactic| first
  | with_reducible assumption
  | with_reducible exact dIs_nn
  | with_reducible exact dIs_pt _
  | with_reducible exact dIs_D3 _ _ _
  | with_reducible exact dIsN_nn
  | with_reducible exact dIsN_pt _
  | with_reducible exact dIsN_D3 _ _ _
  | ((with_reducible refine at_czm ?_); first | with_reducible assumption | omega)
  | ((with_reducible refine at_czm1 ?_); first | with_reducible assumption | omega)
  | ((with_reducible refine at_sides ?_); first | with_reducible assumption | omega)
  | ((with_reducible refine at_normals ?_); first | with_reducible assumption | omega)
  | ((with_reducible refine at_cz ?_ ?_) <;> first | with_reducible assumption | omega)
  | with_reducible exact dLen_scr _
  | with_reducible exact dLen_tup _
  | walk_at "opx")
local macro_rules | `(tactic| walk_at "opx") => `(tactic| first
  | with_reducible exact isi_bb _
  | with_reducible exact dIs_i _
  | with_reducible exact isi_u _
  | with_reducible exact dLen_u _
  | with_reducible exact dEqN_D3t _ _
  | with_reducible exact dEqE_D3t _ _
  | ((with_reducible refine at_lstI ?_ ?_) <;> first | with_reducible assumption | omega)
  | with_reducible exact dIs_D3t _
  | with_reducible exact dIsN_D3t _
  | with_reducible exact dAt_u0 _
  | with_reducible exact dAt_u1 _
  | with_reducible exact dAt_u2 _
  | with_reducible exact dIs_nn
  | with_reducible exact dIs_pt _
  | with_reducible exact dIs_D3 _ _ _
  | with_reducible exact dIs_lst _
  | with_reducible exact dIsN_nn
  | with_reducible exact dIsN_pt _
  | with_reducible exact dIsN_D3 _ _ _
  | with_reducible exact dLen_t2 _
  | with_reducible exact dLen_t3 _ _ _
  | with_reducible assumption)
local macro_rules | `(tactic| walk_at "bdq") => `(tactic| first
  | ((with_reducible refine' bd_cz ?h ?g _); (case h => first | with_reducible assumption | exact Body.bd (by with_reducible assumption)); (case g => first | with_reducible assumption | exact Body.pos (by with_reducible assumption) | omega)))
local macro_rules | `(tactic| walk_at "shp") => `(tactic| first
  | ((with_reducible refine' shp_mapL ?h _); (case h => (intro _; walk_at "shp"))))
local macro_rules | `(tactic| walk_at "rng") => `(tactic| first
  | ((with_reducible refine rngN ?_); walk_at "num"))
local macro_rules | `(tactic| walk_at "st1") => `(tactic| first
  | (((with_reducible refine' wo_ins ?h1 ?h2 ?h3 ?h4 ?h5 ?h6 ?k); (case h1 => exact rfl); (case h2 => walk_at "ev"); (case h3 => walk_at "ev"); (case h4 => walk_at "num"); (case h5 => walk_at "num"); (case h6 => walk_at "len")); walk_at "es"))
local macro_rules | `(tactic| walk_at "ev") => `(tactic| first
  | with_reducible exact ev_home _ _ _
  | ((with_reducible refine' ev_cutS ?h1 ?h2 ?h3); (case h1 => walk_at "ev"); (case h2 => walk_at "ev"); (case h3 => walk_at "ev"))
  | ((with_reducible refine' ev_ownLenM ?h1); (case h1 => exact rfl))
  | ((with_reducible refine' ev_revm ?h1); (case h1 => walk_at "ev"))
  | ((with_reducible refine' ev_rev ?h1); (case h1 => walk_at "ev"))
  | ((with_reducible refine' ev_lc6 ?h1 ?h2 ?h3 ?h4 ?h5 ?h6 ?h7); (case h1 => walk_at "ev"); (case h2 => exact ⟨_, rfl, by walk_at "ev"⟩); (case h3 => exact ⟨_, rfl, by walk_at "ev"⟩); (case h4 => exact ⟨_, rfl, by walk_at "ev"⟩); (case h5 => exact ⟨_, rfl, by walk_at "ev"⟩); (case h6 => exact ⟨_, rfl, by walk_at "ev"⟩); (case h7 => exact ⟨_, rfl, by walk_at "ev"⟩))
  | ((with_reducible refine' ev_lc8 ?h1 ?h2 ?h3 ?h4 ?h5 ?h6 ?h7 ?h8 ?h9); (case h1 => walk_at "ev"); (case h2 => exact ⟨_, rfl, by walk_at "ev"⟩); (case h3 => exact ⟨_, rfl, by walk_at "ev"⟩); (case h4 => exact ⟨_, rfl, by walk_at "ev"⟩); (case h5 => exact ⟨_, rfl, by walk_at "ev"⟩); (case h6 => exact ⟨_, rfl, by walk_at "ev"⟩); (case h7 => exact ⟨_, rfl, by walk_at "ev"⟩); (case h8 => exact ⟨_, rfl, by walk_at "ev"⟩); (case h9 => exact ⟨_, rfl, by walk_at "ev"⟩))
  | ((with_reducible refine' ev_lc3 ?h1 ?h2 ?h3 ?h4); (case h1 => walk_at "ev"); (case h2 => exact ⟨_, rfl, by walk_at "ev"⟩); (case h3 => exact ⟨_, rfl, by walk_at "ev"⟩); (case h4 => exact ⟨_, rfl, by walk_at "ev"⟩))
  | ((with_reducible refine' ev_lcN ?h1 ?h2 ?h3 ?h4); (case h1 => walk_at "ev"); (case h2 => walk_at "rng"); (case h3 => walk_at "len"); (case h4 => (intro _ _; exact ⟨_, rfl, by walk_at "ev"⟩))))
local macro_rules | `(tactic| walk_at "okt") => `(tactic| first
  | with_reducible assumption
  | ((with_reducible refine okT.take ?_ _); walk_at "okt")
  | ((with_reducible refine okT.drop ?_ _); walk_at "okt")
  | ((with_reducible refine okT.app ?_ ?_) <;> walk_at "okt")
  | ((with_reducible refine okT_numI _))
  | decide)
local macro_rules | `(tactic| walk_at "lenT") => `(tactic| first
  | with_reducible assumption
  | omega
  | ((simp only [List.length_append, List.length_cons, List.length_nil, List.length_take, List.length_drop]) <;> omega)
  | decide)
local macro_rules | `(tactic| walk_at "op") => `(tactic| first
  | ((with_reducible refine dEq_T ?_ ?_) <;> walk_at "okt")
  | ((with_reducible refine dNe_T ?_ ?_) <;> walk_at "okt")
  | ((with_reducible refine dLen_T ?_); walk_at "lenT")
  | ((with_reducible refine dAdd_T ?_); walk_at "lenT")
  | with_reducible exact dIn_T _ _
  | with_reducible exact dOrd_T _
  | ((with_reducible refine dAt_T0 ?_ ?_); (first | with_reducible assumption | decide); walk_at "lenT")
  | ((with_reducible refine dAt_Tn ?_ ?_) <;> walk_at "lenT")
  | ((with_reducible refine dStr_T ?_); walk_at "log")
  | with_reducible exact isi_T _
  | with_reducible exact dIs_T _
  | with_reducible exact dIsN_T _
  | with_reducible exact dIs_nnT
  | with_reducible exact dIsN_nnT
  | with_reducible exact dIs_iT _
  | with_reducible exact dIsN_iT _
  | with_reducible exact dIs_D2T _ _
  | with_reducible exact dIsN_D2T _ _)
local macro_rules | `(tactic| walk_at "ev") => `(tactic| first
  | with_reducible exact ev_lit lit_e
  | with_reducible exact ev_lit lit_m
  | with_reducible exact ev_lit lit_0
  | with_reducible exact ev_lit lit_s
  | with_reducible exact ev_lit lit_f
  | ((with_reducible refine' ev_cutTo1 ?h1 ?h2); (case h1 => walk_at "ev"); (case h2 => walk_at "lenT"))
  | ((with_reducible refine' ev_cutFrom1 ?h1 ?h2); (case h1 => walk_at "ev"); (case h2 => walk_at "lenT"))
  | ((with_reducible refine' ev_cutTo ?h1 ?h2 ?h3); (case h1 => walk_at "ev"); (case h2 => walk_at "ev"); (case h3 => walk_at "lenT"))
  | ((with_reducible refine' ev_cutFrom ?h1 ?h2 ?h3); (case h1 => walk_at "ev"); (case h2 => walk_at "ev"); (case h3 => walk_at "lenT")))
local macro_rules | `(tactic| walk_at "st1") => `(tactic| first
  | ((with_reducible refine' wo_ift ?h ?e ?k); (case h => walk_at "ev"); (case e => first | decide | (simp [D.isNone]; done)))
  | ((with_reducible refine' wo_iff ?h ?e ?k); (case h => walk_at "ev"); (case e => first | decide | (simp [D.isNone]; done))))
local macro_rules | `(tactic| walk_at "log") => `(tactic| ((with_reducible refine log_bd ?_); walk_at "dis"))
/-! ### fractions as texts -/
def por2 (a b : Option Int) : Option (Int × Int) := match a, b with
  | some a, some b => if b < 2 ∨ ¬ (Int.gcd a b : Int) = 1 then none else some (a, b)
  | _, _ => none
def porW : List (List Nat) → Option (Int × Int)
  | [w] => (numOf w).map fun n => (n, 1)
  | [w, v] => por2 (numOf w) (numOf v)
  | _ => none
def porOf (l : List Nat) : Option (Int × Int) := porW (cuts 47 l)
theorem num_bd {l : List Nat} {n : Int} (h : numOf l = some n) : Bd 200 n := by
  unfold numOf at h
  split at h
  · cases h
  · rename_i n1
    split at h
    · rename_i g
      have lt : (figs l).length ≤ 60 := by
        apply Classical.byContradiction
        intro z
        exact n1 (.inr (.inl (by omega)))
      have dv := dv_lt (digB_iff.mp g)
      have dv2 : NumText.digitsVal (figs l) < 10 ^ 60 := Nat.lt_of_lt_of_le dv (Nat.pow_le_pow_right (by decide) lt)
      have key : NumText.digitsVal (figs l) < 2 ^ 200 := Nat.lt_trans dv2 (by decide)
      have h' := (Option.some.inj h).symm
      rw [h']
      show Int.natAbs _ < 2 ^ 200
      split
      · rw [Int.natAbs_neg]; exact key
      · exact key
    · cases h
theorem toDigits_map {l : List Nat} (h : NumText.AllDigits l) (h0 : l ≠ []) (h1 : l.length = 1 ∨ ¬ l.take 1 = [48]) : numL (NumText.digitsVal l) = l := by
  unfold numL
  cases l with
  | nil => exact absurd rfl h0
  | cons c r =>
    rw [NumText.toDigits_digitsVal r.length (c :: r) rfl h (by
      rcases h1 with h1 | h1
      · left; simpa using h1
      · right
        refine ⟨c, r, rfl, ?_⟩
        have := h.head
        have : ¬ c = 48 := fun e => h1 (by rw [e]; rfl)
        omega), List.map_map]
    have : ∀ m : List Nat, NumText.AllDigits m → m.map (Char.toNat ∘ Char.ofNat) = m := by
      intro m
      induction m with
      | nil => intro _; rfl
      | cons d m ih =>
        intro hm
        rw [List.map_cons, ih hm.tail]
        have hd := hm.head
        congr 1
        show (Char.ofNat d).toNat = d
        have : d = 48 ∨ d = 49 ∨ d = 50 ∨ d = 51 ∨ d = 52 ∨ d = 53 ∨ d = 54 ∨ d = 55 ∨ d = 56 ∨ d = 57 := by omega
        rcases this with h | h | h | h | h | h | h | h | h | h <;> subst h <;> rfl
    exact this _ h
/-- a number that is read is shown as its text again -/
theorem canon {l : List Nat} {n : Int} (h : numOf l = some n) : numI n = l := by
  unfold numOf at h
  split at h
  · cases h
  · rename_i n1
    split at h
    · rename_i g
      have ad := digB_iff.mp g
      have n0 : figs l ≠ [] := fun z => n1 (.inl z)
      have hn := (Option.some.inj h).symm
      by_cases hm : l.take 1 = [45]
      · rw [if_pos hm] at hn
        have e := figs_neg hm
        have nl : ¬ (figs l).take 1 = [48] := fun z => n1 (.inr (.inr ⟨z, fun q => by rw [q] at hm; cases hm⟩))
        have tm := toDigits_map ad n0 (.inr nl)
        have pos : 0 < NumText.digitsVal (figs l) := by
          cases q : figs l with
          | nil => exact absurd q n0
          | cons c r =>
            rw [q] at ad nl
            have := ad.head
            have : ¬ c = 48 := fun e => nl (by rw [e]; rfl)
            exact NumText.digitsVal_pos (by omega)
        unfold numI
        rw [hn, if_pos (by omega), Int.natAbs_neg, Int.natAbs_natCast, tm]
        exact e.symm
      · rw [if_neg hm] at hn
        have e : figs l = l := by unfold figs; rw [if_neg hm]
        rw [e] at hn ad n0 n1
        have tm := toDigits_map ad n0 (by
          by_cases z : l.take 1 = [48]
          · left
            have : l = [48] := by
              apply Classical.byContradiction
              intro q
              exact n1 (.inr (.inr ⟨z, q⟩))
            rw [this]
            rfl
          · exact .inr z)
        unfold numI
        rw [hn, if_neg (by omega), Int.natAbs_natCast]
        exact tm
    · cases h
theorem one_cut {l w : List Nat} (h : cuts 47 l = [w]) : w = l := by
  have := cuts_join 47 l
  rw [h] at this
  exact this
theorem two_cut {l w v : List Nat} (h : cuts 47 l = [w, v]) : w ++ 47 :: v = l := by
  have := cuts_join 47 l
  rw [h] at this
  exact this
def optP : Option (Int × Int) → D
  | none => .non
  | some p => D2 p.1 p.2
theorem dLen_Ts (l : List (List Nat)) : dLen [.lst (l.map T)] = some (.int (l.length : Int)) := dLen_pts l
theorem por_due_q {l : List Nat} (ok : okT l) (hl : l.length ≤ 1000) : F__law_portion_due [T l] = .ok (optP (porOf l)) := by
  have hcut := cut_q (m := 47) ok (by decide) (by omega : l.length ≤ 1000000)
  have wok : ∀ w ∈ cuts 47 l, okT w := fun w hw => cuts_ok ok hw
  have wlen : ∀ w ∈ cuts 47 l, w.length ≤ 1000 := fun w hw => Nat.le_trans (cuts_len hw) hl
  have one : ∀ w, cuts 47 l = [w] → w = l := fun w => one_cut
  have wne := cuts_ne 47 l
  unfold porOf
  generalize cuts 47 l = ws at *
  unfold F__law_portion_due b__law_portion_due
  refine fn_ok ?_
  walk_at "start"
  walk_at "st"
  walk_at "st"
  walk_at "st"
  match ws, wne, hcut, wok, wlen, one with
  | w :: v :: u :: r, _, hcut, _, _, _ =>
    have hlen := dLen_Ts (w :: v :: u :: r)
    rw [List.length_cons, List.length_cons, List.length_cons] at hlen
    walk_at "if"
    case k1 => intro _; walk_at "sts"; rfl
    case k2 => intro h; omega
  | [w], _, hcut, wok, wlen, one =>
    obtain rfl := one w rfl
    have k0 : dAt (.lst ([w].map T)) (.int 0) = some (T w) := rfl
    have kn := num_due_q ok hl
    have hlen : dLen [.lst ([w].map T)] = some (.int 1) := rfl
    generalize D.lst ([w].map T) = W at *
    cases e : numOf w with
    | none =>
      rw [e] at kn
      change _ = R.ok D.non at kn
      walk_at "sts"
      simp only [porW, e]
      rfl
    | some n =>
      rw [e] at kn
      change _ = R.ok (D.int n) at kn
      walk_at "sts"
      simp only [porW, e]
      rfl
  | [w, v], _, hcut, wok, wlen, _ =>
    have ow := wok w (by simp)
    have ov := wok v (by simp)
    have kw := num_due_q ow (wlen w (by simp))
    have kv := num_due_q ov (wlen v (by simp))
    have k0 : dAt (.lst ([w, v].map T)) (.int 0) = some (T w) := rfl
    have k1 : dAt (.lst ([w, v].map T)) (.int 1) = some (T v) := rfl
    have hlen : dLen [.lst ([w, v].map T)] = some (.int 2) := rfl
    generalize D.lst ([w, v].map T) = W at *
    cases e : numOf w with
    | none =>
      rw [e] at kw
      change _ = R.ok D.non at kw
      walk_at "sts"
      simp only [porW, e]
      rfl
    | some a =>
      rw [e] at kw
      change _ = R.ok (D.int a) at kw
      cases e2 : numOf v with
      | none =>
        rw [e2] at kv
        change _ = R.ok D.non at kv
        walk_at "sts"
        simp only [porW, e, e2]
        rfl
      | some b =>
        rw [e2] at kv
        change _ = R.ok (D.int b) at kv
        walk_at "sts"
        walk_at "if"
        case k1 =>
          intro hz
          walk_at "sts"
          simp only [porW, e, e2, por2]
          rw [if_pos hz]
          rfl
        case k2 =>
          intro hz
          walk_at "sts"
          simp only [porW, e, e2, por2]
          rw [if_neg (fun q => by omega)]
          rfl
end Law

namespace Law
open PySem PySem.Spec PyProof.Rows L2 GD Hl TL
local macro_rules | `(tactic| walk_at "bd") => `(tactic| first
  | with_reducible assumption
  | with_reducible exact Bd.litO _
  | ((with_reducible refine' Bd.mul ?h ?g); (case h => walk_at "bd"); (case g => walk_at "bd"))
  | ((with_reducible refine' Bd.add ?h ?g); (case h => walk_at "bd"); (case g => walk_at "bd"))
  | ((with_reducible refine' Bd.sub ?h ?g); (case h => walk_at "bd"); (case g => walk_at "bd"))
  | ((with_reducible refine' Bd.neg ?h); (case h => walk_at "bd"))
  | ((with_reducible refine' Bd.emod ?h); (case h => walk_at "pos"))
  | ((with_reducible refine' Bd.ediv ?h); (case h => walk_at "bd"))
  | ((with_reducible refine' bd_fT ?h); (case h => walk_at "bd"))
  | ((with_reducible refine' bd_fB ?h); (case h => walk_at "bd"))
  | ((with_reducible refine' bd_sX ?h); (case h => walk_at "bd"))
  | ((with_reducible refine' bd_sY ?h); (case h => walk_at "bd"))
  | ((with_reducible refine' bd_sW ?h); (case h => walk_at "bd"))
  | ((with_reducible refine' bd_abs ?h); (case h => walk_at "bd"))
  | ((with_reducible refine' BdP.a ?h); (case h => walk_at "bdq"))
  | ((with_reducible refine' BdP.b ?h); (case h => walk_at "bdq"))
  | with_reducible exact bd_ite1
  | ((with_reducible refine' bd_ite ?h ?g); (case h => walk_at "bd"); (case g => walk_at "bd")))
local macro_rules | `(tactic| walk_at "pos") => `(tactic| first
  | with_reducible assumption
  | decide
  | omega)
local macro_rules | `(tactic| walk_at "bdq") => `(tactic| first
  | with_reducible assumption
  | ((with_reducible refine' bd_cy ?h ?g _); (case h => with_reducible assumption); (case g => first | with_reducible assumption | omega))
  | ((with_reducible refine' bd_mem ?h ?g); (case g => with_reducible assumption); (case h => with_reducible assumption))
  | ((with_reducible refine' bd_get ?h); (case h => with_reducible assumption)))
local macro_rules | `(tactic| walk_at "bdp") => `(tactic| first
  | walk_at "bdq"
  | ((with_reducible refine' BdP.mk ?h ?g); (case h => walk_at "bd"); (case g => walk_at "bd")))
local macro_rules | `(tactic| walk_at "num") => `(tactic| first
  | with_reducible assumption
  | omega
  | decide +kernel
  | (simp only [Nat.reduceLog2]; omega))
local macro_rules | `(tactic| walk_at "dis") => `(tactic| first
  | with_reducible assumption
  | ((with_reducible refine' mok ?h ?g ?l); (case h => walk_at "bd"); (case g => walk_at "bd"); (case l => walk_at "num"))
  | ((with_reducible refine' Bd.mono ?h ?l); (case h => walk_at "bd"); (case l => walk_at "num"))
  | ((with_reducible refine' BdP.mono ?h ?l); (case h => walk_at "bdp"); (case l => walk_at "num"))
  | ((with_reducible show divOk _); first | with_reducible assumption | decide +kernel | (refine' dok ?p ?h ?l; (case p => first | with_reducible assumption | omega); (case h => walk_at "bd"); (case l => walk_at "num")))
  | omega)
local macro_rules | `(tactic| walk_at "op") => `(tactic| first
  | with_reducible exact dAdd_int _ _
  | with_reducible exact dSub_int _ _
  | ((with_reducible refine dMul_int ?_); walk_at "dis")
  | with_reducible exact dAt_pp0 _ _
  | with_reducible exact dAt_pp1 _ _
  | with_reducible exact dAt_p0 _
  | with_reducible exact dAt_p1 _
  | with_reducible exact dAt_t0
  | with_reducible exact dAt_t1
  | with_reducible exact dAt_t2
  | with_reducible exact dAt_q0 _ _ _
  | with_reducible exact dAt_q1 _ _ _
  | with_reducible exact dAt_q2 _ _ _
  | with_reducible exact dAt_f0 _ _
  | with_reducible exact dAt_f1 _ _
  | with_reducible exact dLt_int _ _
  | with_reducible exact dLe_int _ _
  | with_reducible exact dGt_int _ _
  | with_reducible exact dGe_int _ _
  | with_reducible exact dEq_int _ _
  | with_reducible exact dNe_int _ _
  | ((with_reducible refine dMod_int ?_); walk_at "dis")
  | ((with_reducible refine dDiv_int ?_); walk_at "dis")
  | with_reducible exact dNeg_int _
  | with_reducible exact dIs_non _
  | with_reducible exact dIsNot_non _
  | with_reducible exact dAbs_int _
  | with_reducible exact dMax2_int _ _
  | with_reducible exact dMin2_int _ _
  | with_reducible exact dInt_bl _
  | with_reducible exact dLen_pts _
  | with_reducible exact dEq_pt _ _
  | with_reducible exact dNe_pt _ _
  | with_reducible exact dEq_pts _ _
  | with_reducible exact dNe_pts _ _
  | with_reducible exact dNe_bl _ _
  | with_reducible exact dEq_bl _ _
  | with_reducible exact dEq_D3 _ _ _ _ _ _
  | with_reducible exact dNe_D3 _ _ _ _ _ _
  | with_reducible exact dEq_np _
  | with_reducible exact dNe_np _
  | ((with_reducible refine at_last ?_); walk_at "dis")
  | with_reducible exact dAt_l0
  | with_reducible exact dAt_l1
  | with_reducible exact dAt_l2
  | with_reducible exact dAt_l3
  | with_reducible exact dAt_l4
  | with_reducible exact dAt_l5
  | with_reducible exact dAt_l6
  | with_reducible exact dAt_l7
  | ((with_reducible refine' dNe_self ?h ?l); (case h => walk_at "shp"); (case l => decide))
  | ((with_reducible refine' dEq_self ?h ?l); (case h => walk_at "shp"); (case l => decide))
  | with_reducible assumption
  | exact isi_int _ _ _ _ rfl kb_tuple_tuple
  | exact isi_int _ _ _ _ rfl kb_list_list
  | exact isi_int _ _ _ _ rfl kb_int_int
  | exact isi_int _ _ _ _ rfl kb_bool_bool
  | exact isi_int _ _ _ _ rfl kb_int_bool
  | exact isi_int _ _ _ _ rfl kb_list_tuple
  | exact isi_int _ _ _ _ rfl kb_tuple_list
  | with_reducible rfl)
local macro_rules | `(tactic| walk_at "shp") => `(tactic| first
  | with_reducible exact shp_int _
  | with_reducible exact shp_bl _
  | with_reducible exact shp_non
  | with_reducible exact shp_pt _
  | with_reducible exact shp_pts _
  | with_reducible exact shp_D2 _ _
  | with_reducible exact shp_fr _ _
  | with_reducible exact shp_D3 _ _ _
  | with_reducible exact shp_sp _ _ _
  | with_reducible exact shp_nilL
  | with_reducible exact shp_nilT
  | ((with_reducible refine' shp_consL ?h ?g); (case h => walk_at "shp"); (case g => walk_at "shp"))
  | ((with_reducible refine' shp_consT ?h ?g); (case h => walk_at "shp"); (case g => walk_at "shp"))
  | with_reducible assumption)
local macro_rules | `(tactic| walk_at "fn") => `(tactic| first
  | with_reducible assumption
  | with_reducible exact whole_int _
  | with_reducible exact divisor_eq _ _
  | with_reducible exact common_eq _ _)
local macro_rules | `(tactic| walk_at "ev") => `(tactic| first
  | with_reducible exact ev_c _
  | ((with_reducible refine' ev_var ?h1); (case h1 => exact rfl))
  | ((with_reducible refine' ev_e2 ?h1 ?h2 ?h3); (case h1 => walk_at "ev"); (case h2 => walk_at "ev"); (case h3 => walk_at "op"))
  | with_reducible exact ev_nil
  | ((with_reducible refine' ev_cons ?h1 ?h2); (case h1 => walk_at "ev"); (case h2 => walk_at "ev"))
  | ((with_reducible refine' ev_F ?h1 ?h2); (case h1 => walk_at "ev"); (case h2 => walk_at "fn"))
  | ((with_reducible refine' ev_mB ?h1); (case h1 => walk_at "ev"))
  | ((with_reducible refine' ev_B ?h1 ?h2); (case h1 => walk_at "ev"); (case h2 => walk_at "op"))
  | ((with_reducible refine' ev_tup2 ?h1 ?h2); (case h1 => walk_at "ev"); (case h2 => walk_at "ev"))
  | ((with_reducible refine' ev_tup3 ?h1 ?h2 ?h3); (case h1 => walk_at "ev"); (case h2 => walk_at "ev"); (case h3 => walk_at "ev"))
  | ((with_reducible refine' ev_tup ?h1 ?h2); (case h1 => walk_at "ev"); (case h2 => walk_at "len"))
  | ((with_reducible refine' ev_L ?h1); (case h1 => walk_at "ev"))
  | ((with_reducible refine' ev_lst ?h1 ?h2); (case h1 => walk_at "ev"); (case h2 => walk_at "len"))
  | ((with_reducible refine' ev_not ?h1); (case h1 => walk_at "ev"))
  | ((with_reducible refine' ev_and0 ?h1); (case h1 => walk_at "ev"))
  | ((with_reducible refine' ev_and ?h1 ?h2); (case h1 => walk_at "ev"); (case h2 => (intro hq; (try simp only [decide_eq_true_eq, decide_eq_false_iff_not, Bool.not_eq_true', Bool.not_eq_false'] at hq); walk_at "ev")))
  | ((with_reducible refine' ev_or1 ?h1); (case h1 => walk_at "ev"))
  | ((with_reducible refine' ev_or ?h1 ?h2); (case h1 => walk_at "ev"); (case h2 => (intro hq; (try simp only [decide_eq_true_eq, decide_eq_false_iff_not, Bool.not_eq_true', Bool.not_eq_false'] at hq); walk_at "ev")))
  | ((with_reducible refine' ev_eNot ?h1); (case h1 => walk_at "ev"))
  | ((with_reducible refine' ev_eAnd0 ?h1); (case h1 => walk_at "ev"))
  | ((with_reducible refine' ev_eAnd ?h1 ?h2); (case h1 => walk_at "ev"); (case h2 => (intro hq; (try simp only [decide_eq_true_eq, decide_eq_false_iff_not, Bool.not_eq_true', Bool.not_eq_false'] at hq); walk_at "ev")))
  | ((with_reducible refine' ev_eOr1 ?h1); (case h1 => walk_at "ev"))
  | ((with_reducible refine' ev_eOr ?h1 ?h2); (case h1 => walk_at "ev"); (case h2 => (intro hq; (try simp only [decide_eq_true_eq, decide_eq_false_iff_not, Bool.not_eq_true', Bool.not_eq_false'] at hq); walk_at "ev")))
  | ((with_reducible refine' ev_e1 ?h1 ?h2); (case h1 => walk_at "ev"); (case h2 => walk_at "op"))
  | ((with_reducible refine' ev_copy ?h1 ?h2); (case h1 => walk_at "ev"); (case h2 => exact rfl))
  | ((with_reducible refine' ev_ch ?h1 ?h2 ?h3 ?h4 ?h5); (case h1 => walk_at "ev"); (case h2 => walk_at "ev"); (case h3 => walk_at "op"); (case h4 => (intro hq; (try simp only [decide_eq_true_eq, decide_eq_false_iff_not, Bool.not_eq_true', Bool.not_eq_false'] at hq); walk_at "ev")); (case h5 => (intro _; walk_at "op")))
  | ((with_reducible refine' ev_lc ?h1 ?h2 ?h3 ?h4); (case h1 => walk_at "ev"); (case h2 => walk_at "its"); (case h3 => walk_at "len"); (case h4 => (intro _ _; exact ⟨_, rfl, by walk_at "ev"⟩)))
  | ((with_reducible refine' ev_lcR ?h1 ?h2 ?h3 ?h4); (case h1 => walk_at "ev"); (case h2 => walk_at "rng"); (case h3 => walk_at "len"); (case h4 => (intro _ _; exact ⟨_, rfl, by walk_at "ev"⟩)))
  | ((with_reducible refine' ev_cat ?h1 ?h2 ?h3); (case h1 => walk_at "ev"); (case h2 => walk_at "ev"); (case h3 => walk_at "len"))
  | ((with_reducible refine' ev_ownLen ?h1); (case h1 => exact rfl))
  | ((with_reducible refine' ev_ownAt ?h1 ?h2 ?h3); (case h1 => exact rfl); (case h2 => walk_at "ev"); (case h3 => walk_at "op"))
  | with_reducible assumption)
local macro_rules | `(tactic| walk_at "len") => `(tactic| first
  | ((simp only [List.length_map, List.length_cons, List.length_nil, List.length_append, List.length_range]) <;> walk_at "num")
  | walk_at "num")
local macro_rules | `(tactic| walk_at "its") => `(tactic| first
  | with_reducible exact its_map
  | with_reducible exact its_map2
  | exact rfl)
local macro_rules | `(tactic| walk_at "rng") => `(tactic| first
  | ((with_reducible refine rng1 ?_ ?_) <;> walk_at "num")
  | ((with_reducible refine rng2 ?_ ?_ ?_ ?_) <;> walk_at "num"))
local macro_rules | `(tactic| walk_at "es") => `(tactic| simp (config := {failIfUnchanged := false}) only [List.set_cons_zero, List.set_cons_succ])
local macro_rules | `(tactic| walk_at "start") => `(tactic| (simp only [List.map_cons, List.map_nil, List.cons_append, List.nil_append, List.length_cons, List.length_nil, Nat.reduceAdd, Nat.reduceSub, List.replicate_succ, List.replicate_zero]))
local macro_rules | `(tactic| walk_at "st1") => `(tactic| first
  | ((with_reducible refine' wo_seq ?k))
  | ((with_reducible refine' wo_ift ?h ?e ?k); (case h => walk_at "ev"); (case e => simp only [beq_self_eq_true, Bool.true_beq, Bool.false_beq, decide_eq_true_eq, decide_eq_false_iff_not, Bool.not_eq_true', Bool.not_eq_false', Bool.or_eq_true, Bool.and_eq_true, Bool.or_eq_false_iff, Bool.and_eq_false_imp, Bool.not_true, Bool.not_false, Bool.false_or, Bool.or_false, Bool.true_or, Bool.or_true, Bool.true_and, Bool.and_true, Bool.false_and, Bool.and_false, Bool.true_eq_false, Bool.false_eq_true, decide_true, decide_false, reduceCtorEq, D.isNone, Int.not_lt, Int.not_le, ne_eq, Decidable.not_not, not_true_eq_false, not_false_eq_true, false_implies, true_implies, implies_true, and_true, true_and, and_false, false_and, or_true, true_or, or_false, false_or, reduceIte, eq_self]))
  | ((with_reducible refine' wo_iff ?h ?e ?k); (case h => walk_at "ev"); (case e => simp only [beq_self_eq_true, Bool.true_beq, Bool.false_beq, decide_eq_true_eq, decide_eq_false_iff_not, Bool.not_eq_true', Bool.not_eq_false', Bool.or_eq_true, Bool.and_eq_true, Bool.or_eq_false_iff, Bool.and_eq_false_imp, Bool.not_true, Bool.not_false, Bool.false_or, Bool.or_false, Bool.true_or, Bool.or_true, Bool.true_and, Bool.and_true, Bool.false_and, Bool.and_false, Bool.true_eq_false, Bool.false_eq_true, decide_true, decide_false, reduceCtorEq, D.isNone, Int.not_lt, Int.not_le, ne_eq, Decidable.not_not, not_true_eq_false, not_false_eq_true, false_implies, true_implies, implies_true, and_true, true_and, and_false, false_and, or_true, true_or, or_false, false_or, reduceIte, eq_self]))
  | (((with_reducible refine' wo_asg ?h1 ?k); (case h1 => walk_at "ev")); walk_at "es")
  | ((with_reducible refine' wo_ret ?h1 ?k); (case h1 => walk_at "ev"))
  | (((with_reducible refine' wo_tgt ?h1 ?h2 ?k); (case h1 => walk_at "ev"); (case h2 => exact rfl)); walk_at "es")
  | ((with_reducible refine' wo_nil ?k))
  | ((with_reducible refine' wo_raise ?k))
  | (((with_reducible refine' wo_own ?h1 ?k); (case h1 => walk_at "ev")); walk_at "es")
  | (((with_reducible refine' wo_asgL ?h1 ?k); (case h1 => walk_at "ev")); walk_at "es")
  | (((with_reducible refine' wo_app ?h1 ?h2 ?h3 ?k); (case h1 => exact rfl); (case h2 => walk_at "ev"); (case h3 => walk_at "len")); walk_at "es")
  | (((with_reducible refine' wo_par ?h1 ?h2 ?k); (case h1 => walk_at "ev"); (case h2 => walk_at "ev")); walk_at "es")
  | ((with_reducible refine wo_frz ?_); simp only [frz, List.getElem?_cons_zero, List.getElem?_cons_succ, List.set_cons_zero, List.set_cons_succ]))
local macro_rules | `(tactic| walk_at "st") => `(tactic| (walk_at "st1"; try dsimp only))
local macro_rules | `(tactic| walk_at "hs") => `(tactic| ((try simp only [beq_self_eq_true, Bool.true_beq, Bool.false_beq, decide_eq_true_eq, decide_eq_false_iff_not, Bool.not_eq_true', Bool.not_eq_false', Bool.or_eq_true, Bool.and_eq_true, Bool.or_eq_false_iff, Bool.and_eq_false_imp, Bool.not_true, Bool.not_false, Bool.false_or, Bool.or_false, Bool.true_or, Bool.or_true, Bool.true_and, Bool.and_true, Bool.false_and, Bool.and_false, Bool.true_eq_false, Bool.false_eq_true, decide_true, decide_false, reduceCtorEq, D.isNone, Int.not_lt, Int.not_le, ne_eq, Decidable.not_not, not_true_eq_false, not_false_eq_true, false_implies, true_implies, implies_true, and_true, true_and, and_false, false_and, or_true, true_or, or_false, false_or, reduceIte, eq_self]); exact rfl))
local macro_rules | `(tactic| walk_at "fls") => `(tactic| first | (with_reducible exact False.elim) | (with_reducible refine fun (_ : True) => ?_) | skip)
local macro_rules | `(tactic| walk_at "if") => `(tactic| ((with_reducible refine' wo_ifx ?h ?e1 ?e2 ?k1 ?k2); (case h => walk_at "ev"); (case e1 => walk_at "hs"); (case e2 => walk_at "hs"); (case' k1 => walk_at "fls"); (case' k2 => walk_at "fls")))
local macro_rules | `(tactic| walk_at "tt") => `(tactic| (try simp only [beq_self_eq_true, Bool.true_beq, Bool.false_beq, decide_eq_true_eq, decide_eq_false_iff_not, Bool.not_eq_true', Bool.not_eq_false', Bool.or_eq_true, Bool.and_eq_true, Bool.or_eq_false_iff, Bool.and_eq_false_imp, Bool.not_true, Bool.not_false, Bool.false_or, Bool.or_false, Bool.true_or, Bool.or_true, Bool.true_and, Bool.and_true, Bool.false_and, Bool.and_false, Bool.true_eq_false, Bool.false_eq_true, decide_true, decide_false, reduceCtorEq, D.isNone, Int.not_lt, Int.not_le, ne_eq, Decidable.not_not, not_true_eq_false, not_false_eq_true, false_implies, true_implies, implies_true, and_true, true_and, and_false, false_and, or_true, true_or, or_false, false_or, reduceIte, eq_self]))
local macro_rules | `(tactic| walk_at "hc") => `(tactic| simp only [beq_self_eq_true, Bool.true_beq, Bool.false_beq, decide_eq_true_eq, decide_eq_false_iff_not, Bool.not_eq_true', Bool.not_eq_false', Bool.or_eq_true, Bool.and_eq_true, Bool.or_eq_false_iff, Bool.and_eq_false_imp, Bool.not_true, Bool.not_false, Bool.false_or, Bool.or_false, Bool.true_or, Bool.or_true, Bool.true_and, Bool.and_true, Bool.false_and, Bool.and_false, Bool.true_eq_false, Bool.false_eq_true, decide_true, decide_false, reduceCtorEq, D.isNone, Int.not_lt, Int.not_le, ne_eq, Decidable.not_not, not_true_eq_false, not_false_eq_true, false_implies, true_implies, implies_true, and_true, true_and, and_false, false_and, or_true, true_or, or_false, false_or, reduceIte, eq_self] at *)
local macro_rules | `(tactic| walk_at "sts") => `(tactic| (walk_at "st"; try (walk_at "st"; try (walk_at "st"; try (walk_at "st"; try (walk_at "st"; try (walk_at "st"; try (walk_at "st"; try (walk_at "st"; try (walk_at "st"; try (walk_at "st"; try (walk_at "st"; try (walk_at "st"; try (walk_at "st"; try (walk_at "st"; try (walk_at "st"; try (walk_at "st"; try (walk_at "st"; try (walk_at "st"; try (walk_at "st"; try (walk_at "st"; try (walk_at "st"; try (walk_at "st"; try (walk_at "st"; try (walk_at "st"; try (walk_at "st"; try (walk_at "st"; try (walk_at "st"; try (walk_at "st"; try (walk_at "st"; try (walk_at "st"; try (walk_at "st"; try (walk_at "st"; try (walk_at "st"; try (walk_at "st"; try (walk_at "st"; try (walk_at "st"; try (walk_at "st"; try (walk_at "st"; try (walk_at "st"; try (walk_at "st"; try (walk_at "st"))))))))))))))))))))))))))))))))))))))))))
local macro_rules | `(tactic| walk_at "op") => `(tactic| first
  | with_reducible assumption
  | with_reducible exact dIs_nn
  | with_reducible exact dIs_pt _
  | with_reducible exact dIs_D3 _ _ _
  | with_reducible exact dIsN_nn
  | with_reducible exact dIsN_pt _
  | with_reducible exact dIsN_D3 _ _ _
  | ((with_reducible refine at_czm ?_); first | with_reducible assumption | omega)
  | ((with_reducible refine at_czm1 ?_); first | with_reducible assumption | omega)
  | ((with_reducible refine at_sides ?_); first | with_reducible assumption | omega)
  | ((with_reducible refine at_normals ?_); first | with_reducible assumption | omega)
  | ((with_reducible refine at_cz ?_ ?_) <;> first | with_reducible assumption | omega)
  | with_reducible exact dLen_scr _
  | with_reducible exact dLen_tup _
  | walk_at "opx")
local macro_rules | `(tactic| walk_at "opx") => `(tactic| first
  | with_reducible exact isi_bb _
  | with_reducible exact dIs_i _
  | with_reducible exact isi_u _
  | with_reducible exact dLen_u _
  | with_reducible exact dEqN_D3t _ _
  | with_reducible exact dEqE_D3t _ _
  | ((with_reducible refine at_lstI ?_ ?_) <;> first | with_reducible assumption | omega)
  | with_reducible exact dIs_D3t _
  | with_reducible exact dIsN_D3t _
  | with_reducible exact dAt_u0 _
  | with_reducible exact dAt_u1 _
  | with_reducible exact dAt_u2 _
  | with_reducible exact dIs_nn
  | with_reducible exact dIs_pt _
  | with_reducible exact dIs_D3 _ _ _
  | with_reducible exact dIs_lst _
  | with_reducible exact dIsN_nn
  | with_reducible exact dIsN_pt _
  | with_reducible exact dIsN_D3 _ _ _
  | with_reducible exact dLen_t2 _
  | with_reducible exact dLen_t3 _ _ _
  | with_reducible assumption)
local macro_rules | `(tactic| walk_at "bdq") => `(tactic| first
  | ((with_reducible refine' bd_cz ?h ?g _); (case h => first | with_reducible assumption | exact Body.bd (by with_reducible assumption)); (case g => first | with_reducible assumption | exact Body.pos (by with_reducible assumption) | omega)))
local macro_rules | `(tactic| walk_at "shp") => `(tactic| first
  | ((with_reducible refine' shp_mapL ?h _); (case h => (intro _; walk_at "shp"))))
local macro_rules | `(tactic| walk_at "rng") => `(tactic| first
  | ((with_reducible refine rngN ?_); walk_at "num"))
local macro_rules | `(tactic| walk_at "st1") => `(tactic| first
  | (((with_reducible refine' wo_ins ?h1 ?h2 ?h3 ?h4 ?h5 ?h6 ?k); (case h1 => exact rfl); (case h2 => walk_at "ev"); (case h3 => walk_at "ev"); (case h4 => walk_at "num"); (case h5 => walk_at "num"); (case h6 => walk_at "len")); walk_at "es"))
local macro_rules | `(tactic| walk_at "ev") => `(tactic| first
  | with_reducible exact ev_home _ _ _
  | ((with_reducible refine' ev_cutS ?h1 ?h2 ?h3); (case h1 => walk_at "ev"); (case h2 => walk_at "ev"); (case h3 => walk_at "ev"))
  | ((with_reducible refine' ev_ownLenM ?h1); (case h1 => exact rfl))
  | ((with_reducible refine' ev_revm ?h1); (case h1 => walk_at "ev"))
  | ((with_reducible refine' ev_rev ?h1); (case h1 => walk_at "ev"))
  | ((with_reducible refine' ev_lc6 ?h1 ?h2 ?h3 ?h4 ?h5 ?h6 ?h7); (case h1 => walk_at "ev"); (case h2 => exact ⟨_, rfl, by walk_at "ev"⟩); (case h3 => exact ⟨_, rfl, by walk_at "ev"⟩); (case h4 => exact ⟨_, rfl, by walk_at "ev"⟩); (case h5 => exact ⟨_, rfl, by walk_at "ev"⟩); (case h6 => exact ⟨_, rfl, by walk_at "ev"⟩); (case h7 => exact ⟨_, rfl, by walk_at "ev"⟩))
  | ((with_reducible refine' ev_lc8 ?h1 ?h2 ?h3 ?h4 ?h5 ?h6 ?h7 ?h8 ?h9); (case h1 => walk_at "ev"); (case h2 => exact ⟨_, rfl, by walk_at "ev"⟩); (case h3 => exact ⟨_, rfl, by walk_at "ev"⟩); (case h4 => exact ⟨_, rfl, by walk_at "ev"⟩); (case h5 => exact ⟨_, rfl, by walk_at "ev"⟩); (case h6 => exact ⟨_, rfl, by walk_at "ev"⟩); (case h7 => exact ⟨_, rfl, by walk_at "ev"⟩); (case h8 => exact ⟨_, rfl, by walk_at "ev"⟩); (case h9 => exact ⟨_, rfl, by walk_at "ev"⟩))
  | ((with_reducible refine' ev_lc3 ?h1 ?h2 ?h3 ?h4); (case h1 => walk_at "ev"); (case h2 => exact ⟨_, rfl, by walk_at "ev"⟩); (case h3 => exact ⟨_, rfl, by walk_at "ev"⟩); (case h4 => exact ⟨_, rfl, by walk_at "ev"⟩))
  | ((with_reducible refine' ev_lcN ?h1 ?h2 ?h3 ?h4); (case h1 => walk_at "ev"); (case h2 => walk_at "rng"); (case h3 => walk_at "len"); (case h4 => (intro _ _; exact ⟨_, rfl, by walk_at "ev"⟩))))
local macro_rules | `(tactic| walk_at "okt") => `(tactic| first
  | with_reducible assumption
  | ((with_reducible refine okT.take ?_ _); walk_at "okt")
  | ((with_reducible refine okT.drop ?_ _); walk_at "okt")
  | ((with_reducible refine okT.app ?_ ?_) <;> walk_at "okt")
  | ((with_reducible refine okT_numI _))
  | decide)
local macro_rules | `(tactic| walk_at "lenT") => `(tactic| first
  | with_reducible assumption
  | omega
  | ((simp only [List.length_append, List.length_cons, List.length_nil, List.length_take, List.length_drop]) <;> omega)
  | decide)
local macro_rules | `(tactic| walk_at "op") => `(tactic| first
  | ((with_reducible refine dEq_T ?_ ?_) <;> walk_at "okt")
  | ((with_reducible refine dNe_T ?_ ?_) <;> walk_at "okt")
  | ((with_reducible refine dLen_T ?_); walk_at "lenT")
  | ((with_reducible refine dAdd_T ?_); walk_at "lenT")
  | with_reducible exact dIn_T _ _
  | with_reducible exact dOrd_T _
  | ((with_reducible refine dAt_T0 ?_ ?_); (first | with_reducible assumption | decide); walk_at "lenT")
  | ((with_reducible refine dAt_Tn ?_ ?_) <;> walk_at "lenT")
  | ((with_reducible refine dStr_T ?_); walk_at "log")
  | with_reducible exact isi_T _
  | with_reducible exact dIs_T _
  | with_reducible exact dIsN_T _
  | with_reducible exact dIs_nnT
  | with_reducible exact dIsN_nnT
  | with_reducible exact dIs_iT _
  | with_reducible exact dIsN_iT _
  | with_reducible exact dIs_D2T _ _
  | with_reducible exact dIsN_D2T _ _)
local macro_rules | `(tactic| walk_at "ev") => `(tactic| first
  | with_reducible exact ev_lit lit_e
  | with_reducible exact ev_lit lit_m
  | with_reducible exact ev_lit lit_0
  | with_reducible exact ev_lit lit_s
  | with_reducible exact ev_lit lit_f
  | ((with_reducible refine' ev_cutTo1 ?h1 ?h2); (case h1 => walk_at "ev"); (case h2 => walk_at "lenT"))
  | ((with_reducible refine' ev_cutFrom1 ?h1 ?h2); (case h1 => walk_at "ev"); (case h2 => walk_at "lenT"))
  | ((with_reducible refine' ev_cutTo ?h1 ?h2 ?h3); (case h1 => walk_at "ev"); (case h2 => walk_at "ev"); (case h3 => walk_at "lenT"))
  | ((with_reducible refine' ev_cutFrom ?h1 ?h2 ?h3); (case h1 => walk_at "ev"); (case h2 => walk_at "ev"); (case h3 => walk_at "lenT")))
local macro_rules | `(tactic| walk_at "st1") => `(tactic| first
  | ((with_reducible refine' wo_ift ?h ?e ?k); (case h => walk_at "ev"); (case e => first | decide | (simp [D.isNone]; done)))
  | ((with_reducible refine' wo_iff ?h ?e ?k); (case h => walk_at "ev"); (case e => first | decide | (simp [D.isNone]; done))))
local macro_rules | `(tactic| walk_at "log") => `(tactic| ((with_reducible refine log_bd ?_); walk_at "dis"))
theorem optP_map (o : Option (Int × Int)) : o.map (fun p => D2 p.1 p.2) = o.map fun p => D2 p.1 p.2 := rfl
theorem wo_er {ρ : En} {me : EM} {N : En → Prop} {T : D → Prop} {X : Str → Prop} {i : Nat} {x : Str} (h : me ρ = .er x) (k : X x) : WO (sAsg i me ρ) N T X := by
  unfold sAsg
  rw [h]
  exact k
theorem wo_retEr {ρ : En} {me : EM} {N : En → Prop} {T : D → Prop} {X : Str → Prop} {x : Str} (h : me ρ = .er x) (k : X x) : WO (sRet me ρ) N T X := by
  unfold sRet
  rw [h]
  exact k
theorem ev_Fer {ρ : En} {mr : AM} {F : List D → R D} {ds : List D} {x : Str} (h1 : mr ρ = .ok ds) (h2 : F ds = .er x) : eF F mr ρ = .er x := by
  unfold eF
  rw [h1, bind_ok, h2]
theorem ev_consEr {ρ : En} {ma : EM} {mr : AM} {x : Str} (h : ma ρ = .er x) : aCons ma mr ρ = .er x := by
  unfold aCons
  rw [h]
  rfl
theorem ev_tupEr {ρ : En} {mr : AM} {x : Str} (h : mr ρ = .er x) : eTup mr ρ = .er x := by
  unfold eTup
  rw [h]
  rfl
theorem read_por_q {l : List Nat} (ok : okT l) (hl : l.length ≤ 1000) : F_read_portion [T l] = orEr "NoText" ((porOf l).map fun p => D2 p.1 p.2) := by
  have wok : ∀ w ∈ cuts 47 l, okT w := fun w hw => cuts_ok ok hw
  have wlen : ∀ w ∈ cuts 47 l, w.length ≤ 1000 := fun w hw => Nat.le_trans (cuts_len hw) hl
  have one : ∀ w, cuts 47 l = [w] → w = l := fun w => one_cut
  have wne := cuts_ne 47 l
  have hsp : aSplit (eVar 0) (eC (.str "/")) [.v (T l), .un, .un, .un] = .ok ((cuts 47 l).map T) := ev_split (ev_var rfl) (ev_lit lit_s) (by decide) (by omega)
  unfold porOf
  generalize cuts 47 l = ws at *
  unfold F_read_portion b_read_portion
  refine fn_opt ?_
  walk_at "start"
  walk_at "st"
  walk_at "st"
  walk_at "st"
  walk_at "st"
  with_reducible refine' wo_asg (ev_L hsp) ?k
  case k =>
  walk_at "es"
  match ws, wne, wok, wlen, one with
  | w :: v :: u :: r, _, _, _, _ =>
    have hlen := dLen_Ts (w :: v :: u :: r)
    rw [List.length_cons, List.length_cons, List.length_cons] at hlen
    walk_at "st"
    walk_at "if"
    case k1 => intro _; walk_at "sts"; exact ⟨rfl, rfl⟩
    case k2 => intro h; omega
  | [w], _, wok, wlen, one =>
    obtain rfl := one w rfl
    have kn := read_q ok hl
    have hlen : dLen [.lst ([w].map T)] = some (.int 1) := rfl
    generalize D.lst ([w].map T) = W at *
    walk_at "st"
    walk_at "st"
    walk_at "st"
    walk_at "st"
    cases e : numOf w with
    | none =>
      rw [e] at kn
      change _ = R.er "NoText" at kn
      walk_at "st"
      with_reducible refine' wo_retEr (x := "NoText") ?g1 ?g2
      case g1 =>
        exact ev_tupEr (ev_consEr (ev_Fer (ev_cons (ev_var rfl) ev_nil) kn))
      case g2 =>
        refine ⟨rfl, ?_⟩
        simp only [porW, e]
        rfl
    | some n =>
      rw [e] at kn
      change _ = R.ok (D.int n) at kn
      walk_at "sts"
      simp only [porW, e]
      rfl
  | [w, v], _, wok, wlen, _ =>
    have ow := wok w (by simp)
    have ov := wok v (by simp)
    have kw := read_q ow (wlen w (by simp))
    have kv := read_q ov (wlen v (by simp))
    have k0 : dAt (.lst ([w, v].map T)) (.int 0) = some (T w) := rfl
    have k1 : dAt (.lst ([w, v].map T)) (.int 1) = some (T v) := rfl
    have hlen : dLen [.lst ([w, v].map T)] = some (.int 2) := rfl
    generalize D.lst ([w, v].map T) = W at *
    walk_at "st"
    walk_at "st"
    walk_at "st"
    walk_at "st"
    walk_at "st"
    walk_at "st"
    cases e : numOf w with
    | none =>
      rw [e] at kw
      change _ = R.er "NoText" at kw
      walk_at "st"
      with_reducible refine' wo_er (x := "NoText") ?g1 ?g2
      case g1 => exact ev_Fer (ev_cons (ev_e2 (ev_var rfl) (ev_c _) k0) ev_nil) kw
      case g2 =>
        refine ⟨rfl, ?_⟩
        simp only [porW, e]
        rfl
    | some a =>
      rw [e] at kw
      change _ = R.ok (D.int a) at kw
      walk_at "st"
      walk_at "st"
      cases e2 : numOf v with
      | none =>
        rw [e2] at kv
        change _ = R.er "NoText" at kv
        walk_at "st"
        with_reducible refine' wo_er (x := "NoText") ?g1 ?g2
        case g1 => exact ev_Fer (ev_cons (ev_e2 (ev_var rfl) (ev_c _) k1) ev_nil) kv
        case g2 =>
          refine ⟨rfl, ?_⟩
          simp only [porW, e, e2]
          rfl
      | some b =>
        rw [e2] at kv
        change _ = R.ok (D.int b) at kv
        walk_at "sts"
        walk_at "if"
        case k1 =>
          intro hz
          walk_at "sts"
          refine ⟨rfl, ?_⟩
          simp only [porW, e, e2, por2]
          rw [if_pos hz]
          rfl
        case k2 =>
          intro hz
          walk_at "sts"
          simp only [porW, e, e2, por2]
          rw [if_neg (fun q => by omega)]
          rfl
end Law

namespace Law
open PySem PySem.Spec PyProof.Rows L2 GD Hl TL
local macro_rules | `(tactic| walk_at "bd") => `(tactic| first
  | with_reducible assumption
  | with_reducible exact Bd.litO _
  | ((with_reducible refine' Bd.mul ?h ?g); (case h => walk_at "bd"); (case g => walk_at "bd"))
  | ((with_reducible refine' Bd.add ?h ?g); (case h => walk_at "bd"); (case g => walk_at "bd"))
  | ((with_reducible refine' Bd.sub ?h ?g); (case h => walk_at "bd"); (case g => walk_at "bd"))
  | ((with_reducible refine' Bd.neg ?h); (case h => walk_at "bd"))
  | ((with_reducible refine' Bd.emod ?h); (case h => walk_at "pos"))
  | ((with_reducible refine' Bd.ediv ?h); (case h => walk_at "bd"))
  | ((with_reducible refine' bd_fT ?h); (case h => walk_at "bd"))
  | ((with_reducible refine' bd_fB ?h); (case h => walk_at "bd"))
  | ((with_reducible refine' bd_sX ?h); (case h => walk_at "bd"))
  | ((with_reducible refine' bd_sY ?h); (case h => walk_at "bd"))
  | ((with_reducible refine' bd_sW ?h); (case h => walk_at "bd"))
  | ((with_reducible refine' bd_abs ?h); (case h => walk_at "bd"))
  | ((with_reducible refine' BdP.a ?h); (case h => walk_at "bdq"))
  | ((with_reducible refine' BdP.b ?h); (case h => walk_at "bdq"))
  | with_reducible exact bd_ite1
  | ((with_reducible refine' bd_ite ?h ?g); (case h => walk_at "bd"); (case g => walk_at "bd")))
local macro_rules | `(tactic| walk_at "pos") => `(tactic| first
  | with_reducible assumption
  | decide
  | omega)
local macro_rules | `(tactic| walk_at "bdq") => `(tactic| first
  | with_reducible assumption
  | ((with_reducible refine' bd_cy ?h ?g _); (case h => with_reducible assumption); (case g => first | with_reducible assumption | omega))
  | ((with_reducible refine' bd_mem ?h ?g); (case g => with_reducible assumption); (case h => with_reducible assumption))
  | ((with_reducible refine' bd_get ?h); (case h => with_reducible assumption)))
local macro_rules | `(tactic| walk_at "bdp") => `(tactic| first
  | walk_at "bdq"
  | ((with_reducible refine' BdP.mk ?h ?g); (case h => walk_at "bd"); (case g => walk_at "bd")))
local macro_rules | `(tactic| walk_at "num") => `(tactic| first
  | with_reducible assumption
  | omega
  | decide +kernel
  | (simp only [Nat.reduceLog2]; omega))
local macro_rules | `(tactic| walk_at "dis") => `(tactic| first
  | with_reducible assumption
  | ((with_reducible refine' mok ?h ?g ?l); (case h => walk_at "bd"); (case g => walk_at "bd"); (case l => walk_at "num"))
  | ((with_reducible refine' Bd.mono ?h ?l); (case h => walk_at "bd"); (case l => walk_at "num"))
  | ((with_reducible refine' BdP.mono ?h ?l); (case h => walk_at "bdp"); (case l => walk_at "num"))
  | ((with_reducible show divOk _); first | with_reducible assumption | decide +kernel | (refine' dok ?p ?h ?l; (case p => first | with_reducible assumption | omega); (case h => walk_at "bd"); (case l => walk_at "num")))
  | omega)
local macro_rules | `(tactic| walk_at "op") => `(tactic| first
  | with_reducible exact dAdd_int _ _
  | with_reducible exact dSub_int _ _
  | ((with_reducible refine dMul_int ?_); walk_at "dis")
  | with_reducible exact dAt_pp0 _ _
  | with_reducible exact dAt_pp1 _ _
  | with_reducible exact dAt_p0 _
  | with_reducible exact dAt_p1 _
  | with_reducible exact dAt_t0
  | with_reducible exact dAt_t1
  | with_reducible exact dAt_t2
  | with_reducible exact dAt_q0 _ _ _
  | with_reducible exact dAt_q1 _ _ _
  | with_reducible exact dAt_q2 _ _ _
  | with_reducible exact dAt_f0 _ _
  | with_reducible exact dAt_f1 _ _
  | with_reducible exact dLt_int _ _
  | with_reducible exact dLe_int _ _
  | with_reducible exact dGt_int _ _
  | with_reducible exact dGe_int _ _
  | with_reducible exact dEq_int _ _
  | with_reducible exact dNe_int _ _
  | ((with_reducible refine dMod_int ?_); walk_at "dis")
  | ((with_reducible refine dDiv_int ?_); walk_at "dis")
  | with_reducible exact dNeg_int _
  | with_reducible exact dIs_non _
  | with_reducible exact dIsNot_non _
  | with_reducible exact dAbs_int _
  | with_reducible exact dMax2_int _ _
  | with_reducible exact dMin2_int _ _
  | with_reducible exact dInt_bl _
  | with_reducible exact dLen_pts _
  | with_reducible exact dEq_pt _ _
  | with_reducible exact dNe_pt _ _
  | with_reducible exact dEq_pts _ _
  | with_reducible exact dNe_pts _ _
  | with_reducible exact dNe_bl _ _
  | with_reducible exact dEq_bl _ _
  | with_reducible exact dEq_D3 _ _ _ _ _ _
  | with_reducible exact dNe_D3 _ _ _ _ _ _
  | with_reducible exact dEq_np _
  | with_reducible exact dNe_np _
  | ((with_reducible refine at_last ?_); walk_at "dis")
  | with_reducible exact dAt_l0
  | with_reducible exact dAt_l1
  | with_reducible exact dAt_l2
  | with_reducible exact dAt_l3
  | with_reducible exact dAt_l4
  | with_reducible exact dAt_l5
  | with_reducible exact dAt_l6
  | with_reducible exact dAt_l7
  | ((with_reducible refine' dNe_self ?h ?l); (case h => walk_at "shp"); (case l => decide))
  | ((with_reducible refine' dEq_self ?h ?l); (case h => walk_at "shp"); (case l => decide))
  | with_reducible assumption
  | exact isi_int _ _ _ _ rfl kb_tuple_tuple
  | exact isi_int _ _ _ _ rfl kb_list_list
  | exact isi_int _ _ _ _ rfl kb_int_int
  | exact isi_int _ _ _ _ rfl kb_bool_bool
  | exact isi_int _ _ _ _ rfl kb_int_bool
  | exact isi_int _ _ _ _ rfl kb_list_tuple
  | exact isi_int _ _ _ _ rfl kb_tuple_list
  | with_reducible rfl)
local macro_rules | `(tactic| walk_at "shp") => `(tactic| first
  | with_reducible exact shp_int _
  | with_reducible exact shp_bl _
  | with_reducible exact shp_non
  | with_reducible exact shp_pt _
  | with_reducible exact shp_pts _
  | with_reducible exact shp_D2 _ _
  | with_reducible exact shp_fr _ _
  | with_reducible exact shp_D3 _ _ _
  | with_reducible exact shp_sp _ _ _
  | with_reducible exact shp_nilL
  | with_reducible exact shp_nilT
  | ((with_reducible refine' shp_consL ?h ?g); (case h => walk_at "shp"); (case g => walk_at "shp"))
  | ((with_reducible refine' shp_consT ?h ?g); (case h => walk_at "shp"); (case g => walk_at "shp"))
  | with_reducible assumption)
local macro_rules | `(tactic| walk_at "fn") => `(tactic| first
  | with_reducible assumption
  | with_reducible exact whole_int _
  | with_reducible exact divisor_eq _ _
  | with_reducible exact common_eq _ _)
local macro_rules | `(tactic| walk_at "ev") => `(tactic| first
  | with_reducible exact ev_c _
  | ((with_reducible refine' ev_var ?h1); (case h1 => exact rfl))
  | ((with_reducible refine' ev_e2 ?h1 ?h2 ?h3); (case h1 => walk_at "ev"); (case h2 => walk_at "ev"); (case h3 => walk_at "op"))
  | with_reducible exact ev_nil
  | ((with_reducible refine' ev_cons ?h1 ?h2); (case h1 => walk_at "ev"); (case h2 => walk_at "ev"))
  | ((with_reducible refine' ev_F ?h1 ?h2); (case h1 => walk_at "ev"); (case h2 => walk_at "fn"))
  | ((with_reducible refine' ev_mB ?h1); (case h1 => walk_at "ev"))
  | ((with_reducible refine' ev_B ?h1 ?h2); (case h1 => walk_at "ev"); (case h2 => walk_at "op"))
  | ((with_reducible refine' ev_tup2 ?h1 ?h2); (case h1 => walk_at "ev"); (case h2 => walk_at "ev"))
  | ((with_reducible refine' ev_tup3 ?h1 ?h2 ?h3); (case h1 => walk_at "ev"); (case h2 => walk_at "ev"); (case h3 => walk_at "ev"))
  | ((with_reducible refine' ev_tup ?h1 ?h2); (case h1 => walk_at "ev"); (case h2 => walk_at "len"))
  | ((with_reducible refine' ev_L ?h1); (case h1 => walk_at "ev"))
  | ((with_reducible refine' ev_lst ?h1 ?h2); (case h1 => walk_at "ev"); (case h2 => walk_at "len"))
  | ((with_reducible refine' ev_not ?h1); (case h1 => walk_at "ev"))
  | ((with_reducible refine' ev_and0 ?h1); (case h1 => walk_at "ev"))
  | ((with_reducible refine' ev_and ?h1 ?h2); (case h1 => walk_at "ev"); (case h2 => (intro hq; (try simp only [decide_eq_true_eq, decide_eq_false_iff_not, Bool.not_eq_true', Bool.not_eq_false'] at hq); walk_at "ev")))
  | ((with_reducible refine' ev_or1 ?h1); (case h1 => walk_at "ev"))
  | ((with_reducible refine' ev_or ?h1 ?h2); (case h1 => walk_at "ev"); (case h2 => (intro hq; (try simp only [decide_eq_true_eq, decide_eq_false_iff_not, Bool.not_eq_true', Bool.not_eq_false'] at hq); walk_at "ev")))
  | ((with_reducible refine' ev_eNot ?h1); (case h1 => walk_at "ev"))
  | ((with_reducible refine' ev_eAnd0 ?h1); (case h1 => walk_at "ev"))
  | ((with_reducible refine' ev_eAnd ?h1 ?h2); (case h1 => walk_at "ev"); (case h2 => (intro hq; (try simp only [decide_eq_true_eq, decide_eq_false_iff_not, Bool.not_eq_true', Bool.not_eq_false'] at hq); walk_at "ev")))
  | ((with_reducible refine' ev_eOr1 ?h1); (case h1 => walk_at "ev"))
  | ((with_reducible refine' ev_eOr ?h1 ?h2); (case h1 => walk_at "ev"); (case h2 => (intro hq; (try simp only [decide_eq_true_eq, decide_eq_false_iff_not, Bool.not_eq_true', Bool.not_eq_false'] at hq); walk_at "ev")))
  | ((with_reducible refine' ev_e1 ?h1 ?h2); (case h1 => walk_at "ev"); (case h2 => walk_at "op"))
  | ((with_reducible refine' ev_copy ?h1 ?h2); (case h1 => walk_at "ev"); (case h2 => exact rfl))
  | ((with_reducible refine' ev_ch ?h1 ?h2 ?h3 ?h4 ?h5); (case h1 => walk_at "ev"); (case h2 => walk_at "ev"); (case h3 => walk_at "op"); (case h4 => (intro hq; (try simp only [decide_eq_true_eq, decide_eq_false_iff_not, Bool.not_eq_true', Bool.not_eq_false'] at hq); walk_at "ev")); (case h5 => (intro _; walk_at "op")))
  | ((with_reducible refine' ev_lc ?h1 ?h2 ?h3 ?h4); (case h1 => walk_at "ev"); (case h2 => walk_at "its"); (case h3 => walk_at "len"); (case h4 => (intro _ _; exact ⟨_, rfl, by walk_at "ev"⟩)))
  | ((with_reducible refine' ev_lcR ?h1 ?h2 ?h3 ?h4); (case h1 => walk_at "ev"); (case h2 => walk_at "rng"); (case h3 => walk_at "len"); (case h4 => (intro _ _; exact ⟨_, rfl, by walk_at "ev"⟩)))
  | ((with_reducible refine' ev_cat ?h1 ?h2 ?h3); (case h1 => walk_at "ev"); (case h2 => walk_at "ev"); (case h3 => walk_at "len"))
  | ((with_reducible refine' ev_ownLen ?h1); (case h1 => exact rfl))
  | ((with_reducible refine' ev_ownAt ?h1 ?h2 ?h3); (case h1 => exact rfl); (case h2 => walk_at "ev"); (case h3 => walk_at "op"))
  | with_reducible assumption)
local macro_rules | `(tactic| walk_at "len") => `(tactic| first
  | ((simp only [List.length_map, List.length_cons, List.length_nil, List.length_append, List.length_range]) <;> walk_at "num")
  | walk_at "num")
local macro_rules | `(tactic| walk_at "its") => `(tactic| first
  | with_reducible exact its_map
  | with_reducible exact its_map2
  | exact rfl)
local macro_rules | `(tactic| walk_at "rng") => `(tactic| first
  | ((with_reducible refine rng1 ?_ ?_) <;> walk_at "num")
  | ((with_reducible refine rng2 ?_ ?_ ?_ ?_) <;> walk_at "num"))
local macro_rules | `(tactic| walk_at "es") => `(tactic| simp (config := {failIfUnchanged := false}) only [List.set_cons_zero, List.set_cons_succ])
local macro_rules | `(tactic| walk_at "start") => `(tactic| (simp only [List.map_cons, List.map_nil, List.cons_append, List.nil_append, List.length_cons, List.length_nil, Nat.reduceAdd, Nat.reduceSub, List.replicate_succ, List.replicate_zero]))
local macro_rules | `(tactic| walk_at "st1") => `(tactic| first
  | ((with_reducible refine' wo_seq ?k))
  | ((with_reducible refine' wo_ift ?h ?e ?k); (case h => walk_at "ev"); (case e => simp only [beq_self_eq_true, Bool.true_beq, Bool.false_beq, decide_eq_true_eq, decide_eq_false_iff_not, Bool.not_eq_true', Bool.not_eq_false', Bool.or_eq_true, Bool.and_eq_true, Bool.or_eq_false_iff, Bool.and_eq_false_imp, Bool.not_true, Bool.not_false, Bool.false_or, Bool.or_false, Bool.true_or, Bool.or_true, Bool.true_and, Bool.and_true, Bool.false_and, Bool.and_false, Bool.true_eq_false, Bool.false_eq_true, decide_true, decide_false, reduceCtorEq, D.isNone, Int.not_lt, Int.not_le, ne_eq, Decidable.not_not, not_true_eq_false, not_false_eq_true, false_implies, true_implies, implies_true, and_true, true_and, and_false, false_and, or_true, true_or, or_false, false_or, reduceIte, eq_self]))
  | ((with_reducible refine' wo_iff ?h ?e ?k); (case h => walk_at "ev"); (case e => simp only [beq_self_eq_true, Bool.true_beq, Bool.false_beq, decide_eq_true_eq, decide_eq_false_iff_not, Bool.not_eq_true', Bool.not_eq_false', Bool.or_eq_true, Bool.and_eq_true, Bool.or_eq_false_iff, Bool.and_eq_false_imp, Bool.not_true, Bool.not_false, Bool.false_or, Bool.or_false, Bool.true_or, Bool.or_true, Bool.true_and, Bool.and_true, Bool.false_and, Bool.and_false, Bool.true_eq_false, Bool.false_eq_true, decide_true, decide_false, reduceCtorEq, D.isNone, Int.not_lt, Int.not_le, ne_eq, Decidable.not_not, not_true_eq_false, not_false_eq_true, false_implies, true_implies, implies_true, and_true, true_and, and_false, false_and, or_true, true_or, or_false, false_or, reduceIte, eq_self]))
  | (((with_reducible refine' wo_asg ?h1 ?k); (case h1 => walk_at "ev")); walk_at "es")
  | ((with_reducible refine' wo_ret ?h1 ?k); (case h1 => walk_at "ev"))
  | (((with_reducible refine' wo_tgt ?h1 ?h2 ?k); (case h1 => walk_at "ev"); (case h2 => exact rfl)); walk_at "es")
  | ((with_reducible refine' wo_nil ?k))
  | ((with_reducible refine' wo_raise ?k))
  | (((with_reducible refine' wo_own ?h1 ?k); (case h1 => walk_at "ev")); walk_at "es")
  | (((with_reducible refine' wo_asgL ?h1 ?k); (case h1 => walk_at "ev")); walk_at "es")
  | (((with_reducible refine' wo_app ?h1 ?h2 ?h3 ?k); (case h1 => exact rfl); (case h2 => walk_at "ev"); (case h3 => walk_at "len")); walk_at "es")
  | (((with_reducible refine' wo_par ?h1 ?h2 ?k); (case h1 => walk_at "ev"); (case h2 => walk_at "ev")); walk_at "es")
  | ((with_reducible refine wo_frz ?_); simp only [frz, List.getElem?_cons_zero, List.getElem?_cons_succ, List.set_cons_zero, List.set_cons_succ]))
local macro_rules | `(tactic| walk_at "st") => `(tactic| (walk_at "st1"; try dsimp only))
local macro_rules | `(tactic| walk_at "hs") => `(tactic| ((try simp only [beq_self_eq_true, Bool.true_beq, Bool.false_beq, decide_eq_true_eq, decide_eq_false_iff_not, Bool.not_eq_true', Bool.not_eq_false', Bool.or_eq_true, Bool.and_eq_true, Bool.or_eq_false_iff, Bool.and_eq_false_imp, Bool.not_true, Bool.not_false, Bool.false_or, Bool.or_false, Bool.true_or, Bool.or_true, Bool.true_and, Bool.and_true, Bool.false_and, Bool.and_false, Bool.true_eq_false, Bool.false_eq_true, decide_true, decide_false, reduceCtorEq, D.isNone, Int.not_lt, Int.not_le, ne_eq, Decidable.not_not, not_true_eq_false, not_false_eq_true, false_implies, true_implies, implies_true, and_true, true_and, and_false, false_and, or_true, true_or, or_false, false_or, reduceIte, eq_self]); exact rfl))
local macro_rules | `(tactic| walk_at "fls") => `(tactic| first | (with_reducible exact False.elim) | (with_reducible refine fun (_ : True) => ?_) | skip)
local macro_rules | `(tactic| walk_at "if") => `(tactic| ((with_reducible refine' wo_ifx ?h ?e1 ?e2 ?k1 ?k2); (case h => walk_at "ev"); (case e1 => walk_at "hs"); (case e2 => walk_at "hs"); (case' k1 => walk_at "fls"); (case' k2 => walk_at "fls")))
local macro_rules | `(tactic| walk_at "tt") => `(tactic| (try simp only [beq_self_eq_true, Bool.true_beq, Bool.false_beq, decide_eq_true_eq, decide_eq_false_iff_not, Bool.not_eq_true', Bool.not_eq_false', Bool.or_eq_true, Bool.and_eq_true, Bool.or_eq_false_iff, Bool.and_eq_false_imp, Bool.not_true, Bool.not_false, Bool.false_or, Bool.or_false, Bool.true_or, Bool.or_true, Bool.true_and, Bool.and_true, Bool.false_and, Bool.and_false, Bool.true_eq_false, Bool.false_eq_true, decide_true, decide_false, reduceCtorEq, D.isNone, Int.not_lt, Int.not_le, ne_eq, Decidable.not_not, not_true_eq_false, not_false_eq_true, false_implies, true_implies, implies_true, and_true, true_and, and_false, false_and, or_true, true_or, or_false, false_or, reduceIte, eq_self]))
local macro_rules | `(tactic| walk_at "hc") => `(tactic| simp only [beq_self_eq_true, Bool.true_beq, Bool.false_beq, decide_eq_true_eq, decide_eq_false_iff_not, Bool.not_eq_true', Bool.not_eq_false', Bool.or_eq_true, Bool.and_eq_true, Bool.or_eq_false_iff, Bool.and_eq_false_imp, Bool.not_true, Bool.not_false, Bool.false_or, Bool.or_false, Bool.true_or, Bool.or_true, Bool.true_and, Bool.and_true, Bool.false_and, Bool.and_false, Bool.true_eq_false, Bool.false_eq_true, decide_true, decide_false, reduceCtorEq, D.isNone, Int.not_lt, Int.not_le, ne_eq, Decidable.not_not, not_true_eq_false, not_false_eq_true, false_implies, true_implies, implies_true, and_true, true_and, and_false, false_and, or_true, true_or, or_false, false_or, reduceIte, eq_self] at *)
local macro_rules | `(tactic| walk_at "sts") => `(tactic| (walk_at "st"; try (walk_at "st"; try (walk_at "st"; try (walk_at "st"; try (walk_at "st"; try (walk_at "st"; try (walk_at "st"; try (walk_at "st"; try (walk_at "st"; try (walk_at "st"; try (walk_at "st"; try (walk_at "st"; try (walk_at "st"; try (walk_at "st"; try (walk_at "st"; try (walk_at "st"; try (walk_at "st"; try (walk_at "st"; try (walk_at "st"; try (walk_at "st"; try (walk_at "st"; try (walk_at "st"; try (walk_at "st"; try (walk_at "st"; try (walk_at "st"; try (walk_at "st"; try (walk_at "st"; try (walk_at "st"; try (walk_at "st"; try (walk_at "st"; try (walk_at "st"; try (walk_at "st"; try (walk_at "st"; try (walk_at "st"; try (walk_at "st"; try (walk_at "st"; try (walk_at "st"; try (walk_at "st"; try (walk_at "st"; try (walk_at "st"; try (walk_at "st"))))))))))))))))))))))))))))))))))))))))))
local macro_rules | `(tactic| walk_at "op") => `(tactic| first
  | with_reducible assumption
  | with_reducible exact dIs_nn
  | with_reducible exact dIs_pt _
  | with_reducible exact dIs_D3 _ _ _
  | with_reducible exact dIsN_nn
  | with_reducible exact dIsN_pt _
  | with_reducible exact dIsN_D3 _ _ _
  | ((with_reducible refine at_czm ?_); first | with_reducible assumption | omega)
  | ((with_reducible refine at_czm1 ?_); first | with_reducible assumption | omega)
  | ((with_reducible refine at_sides ?_); first | with_reducible assumption | omega)
  | ((with_reducible refine at_normals ?_); first | with_reducible assumption | omega)
  | ((with_reducible refine at_cz ?_ ?_) <;> first | with_reducible assumption | omega)
  | with_reducible exact dLen_scr _
  | with_reducible exact dLen_tup _
  | walk_at "opx")
local macro_rules | `(tactic| walk_at "opx") => `(tactic| first
  | with_reducible exact isi_bb _
  | with_reducible exact dIs_i _
  | with_reducible exact isi_u _
  | with_reducible exact dLen_u _
  | with_reducible exact dEqN_D3t _ _
  | with_reducible exact dEqE_D3t _ _
  | ((with_reducible refine at_lstI ?_ ?_) <;> first | with_reducible assumption | omega)
  | with_reducible exact dIs_D3t _
  | with_reducible exact dIsN_D3t _
  | with_reducible exact dAt_u0 _
  | with_reducible exact dAt_u1 _
  | with_reducible exact dAt_u2 _
  | with_reducible exact dIs_nn
  | with_reducible exact dIs_pt _
  | with_reducible exact dIs_D3 _ _ _
  | with_reducible exact dIs_lst _
  | with_reducible exact dIsN_nn
  | with_reducible exact dIsN_pt _
  | with_reducible exact dIsN_D3 _ _ _
  | with_reducible exact dLen_t2 _
  | with_reducible exact dLen_t3 _ _ _
  | with_reducible assumption)
local macro_rules | `(tactic| walk_at "bdq") => `(tactic| first
  | ((with_reducible refine' bd_cz ?h ?g _); (case h => first | with_reducible assumption | exact Body.bd (by with_reducible assumption)); (case g => first | with_reducible assumption | exact Body.pos (by with_reducible assumption) | omega)))
local macro_rules | `(tactic| walk_at "shp") => `(tactic| first
  | ((with_reducible refine' shp_mapL ?h _); (case h => (intro _; walk_at "shp"))))
local macro_rules | `(tactic| walk_at "rng") => `(tactic| first
  | ((with_reducible refine rngN ?_); walk_at "num"))
local macro_rules | `(tactic| walk_at "st1") => `(tactic| first
  | (((with_reducible refine' wo_ins ?h1 ?h2 ?h3 ?h4 ?h5 ?h6 ?k); (case h1 => exact rfl); (case h2 => walk_at "ev"); (case h3 => walk_at "ev"); (case h4 => walk_at "num"); (case h5 => walk_at "num"); (case h6 => walk_at "len")); walk_at "es"))
local macro_rules | `(tactic| walk_at "ev") => `(tactic| first
  | with_reducible exact ev_home _ _ _
  | ((with_reducible refine' ev_cutS ?h1 ?h2 ?h3); (case h1 => walk_at "ev"); (case h2 => walk_at "ev"); (case h3 => walk_at "ev"))
  | ((with_reducible refine' ev_ownLenM ?h1); (case h1 => exact rfl))
  | ((with_reducible refine' ev_revm ?h1); (case h1 => walk_at "ev"))
  | ((with_reducible refine' ev_rev ?h1); (case h1 => walk_at "ev"))
  | ((with_reducible refine' ev_lc6 ?h1 ?h2 ?h3 ?h4 ?h5 ?h6 ?h7); (case h1 => walk_at "ev"); (case h2 => exact ⟨_, rfl, by walk_at "ev"⟩); (case h3 => exact ⟨_, rfl, by walk_at "ev"⟩); (case h4 => exact ⟨_, rfl, by walk_at "ev"⟩); (case h5 => exact ⟨_, rfl, by walk_at "ev"⟩); (case h6 => exact ⟨_, rfl, by walk_at "ev"⟩); (case h7 => exact ⟨_, rfl, by walk_at "ev"⟩))
  | ((with_reducible refine' ev_lc8 ?h1 ?h2 ?h3 ?h4 ?h5 ?h6 ?h7 ?h8 ?h9); (case h1 => walk_at "ev"); (case h2 => exact ⟨_, rfl, by walk_at "ev"⟩); (case h3 => exact ⟨_, rfl, by walk_at "ev"⟩); (case h4 => exact ⟨_, rfl, by walk_at "ev"⟩); (case h5 => exact ⟨_, rfl, by walk_at "ev"⟩); (case h6 => exact ⟨_, rfl, by walk_at "ev"⟩); (case h7 => exact ⟨_, rfl, by walk_at "ev"⟩); (case h8 => exact ⟨_, rfl, by walk_at "ev"⟩); (case h9 => exact ⟨_, rfl, by walk_at "ev"⟩))
  | ((with_reducible refine' ev_lc3 ?h1 ?h2 ?h3 ?h4); (case h1 => walk_at "ev"); (case h2 => exact ⟨_, rfl, by walk_at "ev"⟩); (case h3 => exact ⟨_, rfl, by walk_at "ev"⟩); (case h4 => exact ⟨_, rfl, by walk_at "ev"⟩))
  | ((with_reducible refine' ev_lcN ?h1 ?h2 ?h3 ?h4); (case h1 => walk_at "ev"); (case h2 => walk_at "rng"); (case h3 => walk_at "len"); (case h4 => (intro _ _; exact ⟨_, rfl, by walk_at "ev"⟩))))
local macro_rules | `(tactic| walk_at "okt") => `(tactic| first
  | with_reducible assumption
  | ((with_reducible refine okT.take ?_ _); walk_at "okt")
  | ((with_reducible refine okT.drop ?_ _); walk_at "okt")
  | ((with_reducible refine okT.app ?_ ?_) <;> walk_at "okt")
  | ((with_reducible refine okT_numI _))
  | decide)
local macro_rules | `(tactic| walk_at "lenT") => `(tactic| first
  | with_reducible assumption
  | omega
  | ((simp only [List.length_append, List.length_cons, List.length_nil, List.length_take, List.length_drop]) <;> omega)
  | decide)
local macro_rules | `(tactic| walk_at "op") => `(tactic| first
  | ((with_reducible refine dEq_T ?_ ?_) <;> walk_at "okt")
  | ((with_reducible refine dNe_T ?_ ?_) <;> walk_at "okt")
  | ((with_reducible refine dLen_T ?_); walk_at "lenT")
  | ((with_reducible refine dAdd_T ?_); walk_at "lenT")
  | with_reducible exact dIn_T _ _
  | with_reducible exact dOrd_T _
  | ((with_reducible refine dAt_T0 ?_ ?_); (first | with_reducible assumption | decide); walk_at "lenT")
  | ((with_reducible refine dAt_Tn ?_ ?_) <;> walk_at "lenT")
  | ((with_reducible refine dStr_T ?_); walk_at "log")
  | with_reducible exact isi_T _
  | with_reducible exact dIs_T _
  | with_reducible exact dIsN_T _
  | with_reducible exact dIs_nnT
  | with_reducible exact dIsN_nnT
  | with_reducible exact dIs_iT _
  | with_reducible exact dIsN_iT _
  | with_reducible exact dIs_D2T _ _
  | with_reducible exact dIsN_D2T _ _)
local macro_rules | `(tactic| walk_at "ev") => `(tactic| first
  | with_reducible exact ev_lit lit_e
  | with_reducible exact ev_lit lit_m
  | with_reducible exact ev_lit lit_0
  | with_reducible exact ev_lit lit_s
  | with_reducible exact ev_lit lit_f
  | ((with_reducible refine' ev_cutTo1 ?h1 ?h2); (case h1 => walk_at "ev"); (case h2 => walk_at "lenT"))
  | ((with_reducible refine' ev_cutFrom1 ?h1 ?h2); (case h1 => walk_at "ev"); (case h2 => walk_at "lenT"))
  | ((with_reducible refine' ev_cutTo ?h1 ?h2 ?h3); (case h1 => walk_at "ev"); (case h2 => walk_at "ev"); (case h3 => walk_at "lenT"))
  | ((with_reducible refine' ev_cutFrom ?h1 ?h2 ?h3); (case h1 => walk_at "ev"); (case h2 => walk_at "ev"); (case h3 => walk_at "lenT")))
local macro_rules | `(tactic| walk_at "st1") => `(tactic| first
  | ((with_reducible refine' wo_ift ?h ?e ?k); (case h => walk_at "ev"); (case e => first | decide | (simp [D.isNone]; done)))
  | ((with_reducible refine' wo_iff ?h ?e ?k); (case h => walk_at "ev"); (case e => first | decide | (simp [D.isNone]; done))))
local macro_rules | `(tactic| walk_at "log") => `(tactic| ((with_reducible refine log_bd ?_); walk_at "dis"))
theorem show_q {l : List Nat} {a b : Int} (ok : okT l) (hl : l.length ≤ 1000) (h : porOf l = some (a, b)) : F_show_portion [D2 a b] = .ok (T l) := by
  have key : (b = 1 ∧ numI a = l ∧ Bd 200 a) ∨ (¬ b = 1 ∧ numI a ++ 47 :: numI b = l ∧ Bd 200 a ∧ Bd 200 b) := by
    unfold porOf at h
    match e : cuts 47 l with
    | [] => exact absurd e (cuts_ne 47 l)
    | [w] =>
      rw [e] at h
      obtain rfl := one_cut e
      obtain ⟨n, e1, e2⟩ := Option.map_eq_some_iff.mp (show (numOf w).map (fun n => (n, 1)) = some (a, b) from h)
      cases e2
      exact .inl ⟨rfl, canon e1, num_bd e1⟩
    | [w, v] =>
      rw [e] at h
      have h' : por2 (numOf w) (numOf v) = some (a, b) := h
      have j := two_cut e
      cases e1 : numOf w with
      | none => rw [e1] at h'; cases h'
      | some c =>
        cases e2 : numOf v with
        | none => rw [e1, e2] at h'; cases h'
        | some d =>
          rw [e1, e2] at h'
          simp only [por2] at h'
          split at h'
          · cases h'
          · rename_i q
            cases h'
            exact .inr ⟨by omega, by rw [canon e1, canon e2]; exact j, num_bd e1, num_bd e2⟩
    | w :: v :: u :: r => rw [e] at h; cases h
  unfold F_show_portion b_show_portion
  refine fn_ok ?_
  walk_at "start"
  walk_at "st"
  rcases key with ⟨rfl, e, ba⟩ | ⟨hb, e, ba, bb⟩
  · walk_at "sts"
    rw [e]
  · walk_at "if"
    case k1 => intro z; exact absurd z hb
    case k2 =>
      intro _
      have la : (numI a).length ≤ l.length := by rw [← e, List.length_append]; omega
      have lb : (numI b).length ≤ l.length := by rw [← e, List.length_append, List.length_cons]; omega
      walk_at "sts"
      rw [List.append_assoc]
      exact congrArg T e
/-! the words of the law -/
section
variable {N : En → Prop} {T : D → Prop} {X : Str → Prop} {ρ ρ1 : En} {body : SM} {ct : Str → Bool} {i j : Nat}
theorem wo_tryE {x : Str} (h : body ρ = .er x ρ1) (h1 : ct x = true) (h2 : i < ρ1.length) (k : N (((ρ1.set i (.v (.exc x))).set j (.v (.exc x))).set i .un)) : WO (sTry ct i j body ρ) N T X := by
  unfold sTry
  rw [h]
  show WO (if ct x = true ∧ i < ρ1.length then .nx (((ρ1.set i (.v (.exc x))).set j (.v (.exc x))).set i .un) else .st) N T X
  rw [if_pos ⟨h1, h2⟩]
  exact k
theorem wo_tryN (h : body ρ = .nx ρ1) (k : N ρ1) : WO (sTry ct i j body ρ) N T X := by
  unfold sTry
  rw [h]
  exact k
theorem asg_ok {m : EM} {d : D} {k : Nat} (h : m ρ = .ok d) : sAsg k m ρ = .nx (ρ.set k (.v d)) := by unfold sAsg; rw [h]; rfl
theorem asg_er {m : EM} {x : Str} {k : Nat} (h : m ρ = .er x) : sAsg k m ρ = .er x ρ := by unfold sAsg; rw [h]; rfl
end
theorem shp_lit {x : Str} (h : (PyData.str x).canLay0 = true) : Shp 0 (.str x) := ⟨h, Nat.le_refl 0⟩
theorem shp_text : Shp 0 (.str "text") := shp_lit (by decide +kernel)
theorem shp_told : Shp 0 (.str "told") := shp_lit (by decide +kernel)
theorem kind_text : F__law_kind [.exc "NoText"] = .ok (.str "text") := by
  have k1 : dIsX xLy14 xLc14 xLt14 [.exc "NoText", .ty "ValueError"] = some (.bl true) := by rfl
  have k2 : dIsX xLy14 xLc14 xLt14 [.exc "NoText", .cls "NoText"] = some (.bl true) := by rfl
  have k3 : dIsX xLy14 xLc14 xLt14 [.exc "NoText", .tup [.cls "NoNumber", .cls "Flat", .cls "Crowded", .cls "NoName", .cls "Twice", .cls "Past", .cls "NoRow"]] = some (.bl false) := by rfl
  unfold F__law_kind b__law_kind
  refine fn_ok ?_
  walk_at "start"
  walk_at "sts"
def wordD : Option D → D
  | none => .str "text"
  | some d => .lst [.str "told", d]
theorem nword_q {d : D} {o : Option D} (k : F_read_number [d] = orEr "NoText" o) : F__law_number_word [d] = .ok (wordD o) := by
  have kw := kind_text
  unfold F__law_number_word b__law_number_word
  refine fn_ok ?_
  walk_at "start"
  walk_at "st"
  walk_at "st"
  walk_at "st"
  walk_at "st"
  walk_at "st"
  cases o with
  | none =>
    change _ = R.er "NoText" at k
    have k0 : dIsNot (.exc "NoText") .non = some (.bl true) := rfl
    refine wo_tryE (asg_er (ev_Fer (ev_cons (ev_var rfl) ev_nil) k)) (by decide +kernel) (show 3 < 4 by decide) ?_
    walk_at "es"
    walk_at "sts"
    rfl
  | some r =>
    change _ = R.ok r at k
    refine wo_tryN (asg_ok (ev_F (ev_cons (ev_var rfl) ev_nil) k)) ?_
    walk_at "es"
    walk_at "sts"
    rfl
theorem pword_q {d : D} {o : Option D} (k : F_read_portion [d] = orEr "NoText" o) : F__law_portion_word [d] = .ok (wordD o) := by
  have kw := kind_text
  unfold F__law_portion_word b__law_portion_word
  refine fn_ok ?_
  walk_at "start"
  walk_at "st"
  walk_at "st"
  walk_at "st"
  walk_at "st"
  walk_at "st"
  cases o with
  | none =>
    change _ = R.er "NoText" at k
    have k0 : dIsNot (.exc "NoText") .non = some (.bl true) := rfl
    refine wo_tryE (asg_er (ev_Fer (ev_cons (ev_var rfl) ev_nil) k)) (by decide +kernel) (show 3 < 4 by decide) ?_
    walk_at "es"
    walk_at "sts"
    rfl
  | some r =>
    change _ = R.ok r at k
    refine wo_tryN (asg_ok (ev_F (ev_cons (ev_var rfl) ev_nil) k)) ?_
    walk_at "es"
    walk_at "sts"
    rfl
end Law

namespace Law
open PySem PySem.Spec PyProof.Rows L2 GD Hl TL
local macro_rules | `(tactic| walk_at "bd") => `(tactic| first
  | with_reducible assumption
  | with_reducible exact Bd.litO _
  | ((with_reducible refine' Bd.mul ?h ?g); (case h => walk_at "bd"); (case g => walk_at "bd"))
  | ((with_reducible refine' Bd.add ?h ?g); (case h => walk_at "bd"); (case g => walk_at "bd"))
  | ((with_reducible refine' Bd.sub ?h ?g); (case h => walk_at "bd"); (case g => walk_at "bd"))
  | ((with_reducible refine' Bd.neg ?h); (case h => walk_at "bd"))
  | ((with_reducible refine' Bd.emod ?h); (case h => walk_at "pos"))
  | ((with_reducible refine' Bd.ediv ?h); (case h => walk_at "bd"))
  | ((with_reducible refine' bd_fT ?h); (case h => walk_at "bd"))
  | ((with_reducible refine' bd_fB ?h); (case h => walk_at "bd"))
  | ((with_reducible refine' bd_sX ?h); (case h => walk_at "bd"))
  | ((with_reducible refine' bd_sY ?h); (case h => walk_at "bd"))
  | ((with_reducible refine' bd_sW ?h); (case h => walk_at "bd"))
  | ((with_reducible refine' bd_abs ?h); (case h => walk_at "bd"))
  | ((with_reducible refine' BdP.a ?h); (case h => walk_at "bdq"))
  | ((with_reducible refine' BdP.b ?h); (case h => walk_at "bdq"))
  | with_reducible exact bd_ite1
  | ((with_reducible refine' bd_ite ?h ?g); (case h => walk_at "bd"); (case g => walk_at "bd")))
local macro_rules | `(tactic| walk_at "pos") => `(tactic| first
  | with_reducible assumption
  | decide
  | omega)
local macro_rules | `(tactic| walk_at "bdq") => `(tactic| first
  | with_reducible assumption
  | ((with_reducible refine' bd_cy ?h ?g _); (case h => with_reducible assumption); (case g => first | with_reducible assumption | omega))
  | ((with_reducible refine' bd_mem ?h ?g); (case g => with_reducible assumption); (case h => with_reducible assumption))
  | ((with_reducible refine' bd_get ?h); (case h => with_reducible assumption)))
local macro_rules | `(tactic| walk_at "bdp") => `(tactic| first
  | walk_at "bdq"
  | ((with_reducible refine' BdP.mk ?h ?g); (case h => walk_at "bd"); (case g => walk_at "bd")))
local macro_rules | `(tactic| walk_at "num") => `(tactic| first
  | with_reducible assumption
  | omega
  | decide +kernel
  | (simp only [Nat.reduceLog2]; omega))
local macro_rules | `(tactic| walk_at "dis") => `(tactic| first
  | with_reducible assumption
  | ((with_reducible refine' mok ?h ?g ?l); (case h => walk_at "bd"); (case g => walk_at "bd"); (case l => walk_at "num"))
  | ((with_reducible refine' Bd.mono ?h ?l); (case h => walk_at "bd"); (case l => walk_at "num"))
  | ((with_reducible refine' BdP.mono ?h ?l); (case h => walk_at "bdp"); (case l => walk_at "num"))
  | ((with_reducible show divOk _); first | with_reducible assumption | decide +kernel | (refine' dok ?p ?h ?l; (case p => first | with_reducible assumption | omega); (case h => walk_at "bd"); (case l => walk_at "num")))
  | omega)
local macro_rules | `(tactic| walk_at "op") => `(tactic| first
  | with_reducible exact dAdd_int _ _
  | with_reducible exact dSub_int _ _
  | ((with_reducible refine dMul_int ?_); walk_at "dis")
  | with_reducible exact dAt_pp0 _ _
  | with_reducible exact dAt_pp1 _ _
  | with_reducible exact dAt_p0 _
  | with_reducible exact dAt_p1 _
  | with_reducible exact dAt_t0
  | with_reducible exact dAt_t1
  | with_reducible exact dAt_t2
  | with_reducible exact dAt_q0 _ _ _
  | with_reducible exact dAt_q1 _ _ _
  | with_reducible exact dAt_q2 _ _ _
  | with_reducible exact dAt_f0 _ _
  | with_reducible exact dAt_f1 _ _
  | with_reducible exact dLt_int _ _
  | with_reducible exact dLe_int _ _
  | with_reducible exact dGt_int _ _
  | with_reducible exact dGe_int _ _
  | with_reducible exact dEq_int _ _
  | with_reducible exact dNe_int _ _
  | ((with_reducible refine dMod_int ?_); walk_at "dis")
  | ((with_reducible refine dDiv_int ?_); walk_at "dis")
  | with_reducible exact dNeg_int _
  | with_reducible exact dIs_non _
  | with_reducible exact dIsNot_non _
  | with_reducible exact dAbs_int _
  | with_reducible exact dMax2_int _ _
  | with_reducible exact dMin2_int _ _
  | with_reducible exact dInt_bl _
  | with_reducible exact dLen_pts _
  | with_reducible exact dEq_pt _ _
  | with_reducible exact dNe_pt _ _
  | with_reducible exact dEq_pts _ _
  | with_reducible exact dNe_pts _ _
  | with_reducible exact dNe_bl _ _
  | with_reducible exact dEq_bl _ _
  | with_reducible exact dEq_D3 _ _ _ _ _ _
  | with_reducible exact dNe_D3 _ _ _ _ _ _
  | with_reducible exact dEq_np _
  | with_reducible exact dNe_np _
  | ((with_reducible refine at_last ?_); walk_at "dis")
  | with_reducible exact dAt_l0
  | with_reducible exact dAt_l1
  | with_reducible exact dAt_l2
  | with_reducible exact dAt_l3
  | with_reducible exact dAt_l4
  | with_reducible exact dAt_l5
  | with_reducible exact dAt_l6
  | with_reducible exact dAt_l7
  | ((with_reducible refine' dNe_self ?h ?l); (case h => walk_at "shp"); (case l => decide))
  | ((with_reducible refine' dEq_self ?h ?l); (case h => walk_at "shp"); (case l => decide))
  | with_reducible assumption
  | exact isi_int _ _ _ _ rfl kb_tuple_tuple
  | exact isi_int _ _ _ _ rfl kb_list_list
  | exact isi_int _ _ _ _ rfl kb_int_int
  | exact isi_int _ _ _ _ rfl kb_bool_bool
  | exact isi_int _ _ _ _ rfl kb_int_bool
  | exact isi_int _ _ _ _ rfl kb_list_tuple
  | exact isi_int _ _ _ _ rfl kb_tuple_list
  | with_reducible rfl)
local macro_rules | `(tactic| walk_at "shp") => `(tactic| first
  | with_reducible exact shp_int _
  | with_reducible exact shp_bl _
  | with_reducible exact shp_non
  | with_reducible exact shp_pt _
  | with_reducible exact shp_pts _
  | with_reducible exact shp_D2 _ _
  | with_reducible exact shp_fr _ _
  | with_reducible exact shp_D3 _ _ _
  | with_reducible exact shp_sp _ _ _
  | with_reducible exact shp_nilL
  | with_reducible exact shp_nilT
  | ((with_reducible refine' shp_consL ?h ?g); (case h => walk_at "shp"); (case g => walk_at "shp"))
  | ((with_reducible refine' shp_consT ?h ?g); (case h => walk_at "shp"); (case g => walk_at "shp"))
  | with_reducible assumption)
local macro_rules | `(tactic| walk_at "fn") => `(tactic| first
  | with_reducible assumption
  | with_reducible exact whole_int _
  | with_reducible exact divisor_eq _ _
  | with_reducible exact common_eq _ _)
local macro_rules | `(tactic| walk_at "ev") => `(tactic| first
  | with_reducible exact ev_c _
  | ((with_reducible refine' ev_var ?h1); (case h1 => exact rfl))
  | ((with_reducible refine' ev_e2 ?h1 ?h2 ?h3); (case h1 => walk_at "ev"); (case h2 => walk_at "ev"); (case h3 => walk_at "op"))
  | with_reducible exact ev_nil
  | ((with_reducible refine' ev_cons ?h1 ?h2); (case h1 => walk_at "ev"); (case h2 => walk_at "ev"))
  | ((with_reducible refine' ev_F ?h1 ?h2); (case h1 => walk_at "ev"); (case h2 => walk_at "fn"))
  | ((with_reducible refine' ev_mB ?h1); (case h1 => walk_at "ev"))
  | ((with_reducible refine' ev_B ?h1 ?h2); (case h1 => walk_at "ev"); (case h2 => walk_at "op"))
  | ((with_reducible refine' ev_tup2 ?h1 ?h2); (case h1 => walk_at "ev"); (case h2 => walk_at "ev"))
  | ((with_reducible refine' ev_tup3 ?h1 ?h2 ?h3); (case h1 => walk_at "ev"); (case h2 => walk_at "ev"); (case h3 => walk_at "ev"))
  | ((with_reducible refine' ev_tup ?h1 ?h2); (case h1 => walk_at "ev"); (case h2 => walk_at "len"))
  | ((with_reducible refine' ev_L ?h1); (case h1 => walk_at "ev"))
  | ((with_reducible refine' ev_lst ?h1 ?h2); (case h1 => walk_at "ev"); (case h2 => walk_at "len"))
  | ((with_reducible refine' ev_not ?h1); (case h1 => walk_at "ev"))
  | ((with_reducible refine' ev_and0 ?h1); (case h1 => walk_at "ev"))
  | ((with_reducible refine' ev_and ?h1 ?h2); (case h1 => walk_at "ev"); (case h2 => (intro hq; (try simp only [decide_eq_true_eq, decide_eq_false_iff_not, Bool.not_eq_true', Bool.not_eq_false'] at hq); walk_at "ev")))
  | ((with_reducible refine' ev_or1 ?h1); (case h1 => walk_at "ev"))
  | ((with_reducible refine' ev_or ?h1 ?h2); (case h1 => walk_at "ev"); (case h2 => (intro hq; (try simp only [decide_eq_true_eq, decide_eq_false_iff_not, Bool.not_eq_true', Bool.not_eq_false'] at hq); walk_at "ev")))
  | ((with_reducible refine' ev_eNot ?h1); (case h1 => walk_at "ev"))
  | ((with_reducible refine' ev_eAnd0 ?h1); (case h1 => walk_at "ev"))
  | ((with_reducible refine' ev_eAnd ?h1 ?h2); (case h1 => walk_at "ev"); (case h2 => (intro hq; (try simp only [decide_eq_true_eq, decide_eq_false_iff_not, Bool.not_eq_true', Bool.not_eq_false'] at hq); walk_at "ev")))
  | ((with_reducible refine' ev_eOr1 ?h1); (case h1 => walk_at "ev"))
  | ((with_reducible refine' ev_eOr ?h1 ?h2); (case h1 => walk_at "ev"); (case h2 => (intro hq; (try simp only [decide_eq_true_eq, decide_eq_false_iff_not, Bool.not_eq_true', Bool.not_eq_false'] at hq); walk_at "ev")))
  | ((with_reducible refine' ev_e1 ?h1 ?h2); (case h1 => walk_at "ev"); (case h2 => walk_at "op"))
  | ((with_reducible refine' ev_copy ?h1 ?h2); (case h1 => walk_at "ev"); (case h2 => exact rfl))
  | ((with_reducible refine' ev_ch ?h1 ?h2 ?h3 ?h4 ?h5); (case h1 => walk_at "ev"); (case h2 => walk_at "ev"); (case h3 => walk_at "op"); (case h4 => (intro hq; (try simp only [decide_eq_true_eq, decide_eq_false_iff_not, Bool.not_eq_true', Bool.not_eq_false'] at hq); walk_at "ev")); (case h5 => (intro _; walk_at "op")))
  | ((with_reducible refine' ev_lc ?h1 ?h2 ?h3 ?h4); (case h1 => walk_at "ev"); (case h2 => walk_at "its"); (case h3 => walk_at "len"); (case h4 => (intro _ _; exact ⟨_, rfl, by walk_at "ev"⟩)))
  | ((with_reducible refine' ev_lcR ?h1 ?h2 ?h3 ?h4); (case h1 => walk_at "ev"); (case h2 => walk_at "rng"); (case h3 => walk_at "len"); (case h4 => (intro _ _; exact ⟨_, rfl, by walk_at "ev"⟩)))
  | ((with_reducible refine' ev_cat ?h1 ?h2 ?h3); (case h1 => walk_at "ev"); (case h2 => walk_at "ev"); (case h3 => walk_at "len"))
  | ((with_reducible refine' ev_ownLen ?h1); (case h1 => exact rfl))
  | ((with_reducible refine' ev_ownAt ?h1 ?h2 ?h3); (case h1 => exact rfl); (case h2 => walk_at "ev"); (case h3 => walk_at "op"))
  | with_reducible assumption)
local macro_rules | `(tactic| walk_at "len") => `(tactic| first
  | ((simp only [List.length_map, List.length_cons, List.length_nil, List.length_append, List.length_range]) <;> walk_at "num")
  | walk_at "num")
local macro_rules | `(tactic| walk_at "its") => `(tactic| first
  | with_reducible exact its_map
  | with_reducible exact its_map2
  | exact rfl)
local macro_rules | `(tactic| walk_at "rng") => `(tactic| first
  | ((with_reducible refine rng1 ?_ ?_) <;> walk_at "num")
  | ((with_reducible refine rng2 ?_ ?_ ?_ ?_) <;> walk_at "num"))
local macro_rules | `(tactic| walk_at "es") => `(tactic| simp (config := {failIfUnchanged := false}) only [List.set_cons_zero, List.set_cons_succ])
local macro_rules | `(tactic| walk_at "start") => `(tactic| (simp only [List.map_cons, List.map_nil, List.cons_append, List.nil_append, List.length_cons, List.length_nil, Nat.reduceAdd, Nat.reduceSub, List.replicate_succ, List.replicate_zero]))
local macro_rules | `(tactic| walk_at "st1") => `(tactic| first
  | ((with_reducible refine' wo_seq ?k))
  | ((with_reducible refine' wo_ift ?h ?e ?k); (case h => walk_at "ev"); (case e => simp only [beq_self_eq_true, Bool.true_beq, Bool.false_beq, decide_eq_true_eq, decide_eq_false_iff_not, Bool.not_eq_true', Bool.not_eq_false', Bool.or_eq_true, Bool.and_eq_true, Bool.or_eq_false_iff, Bool.and_eq_false_imp, Bool.not_true, Bool.not_false, Bool.false_or, Bool.or_false, Bool.true_or, Bool.or_true, Bool.true_and, Bool.and_true, Bool.false_and, Bool.and_false, Bool.true_eq_false, Bool.false_eq_true, decide_true, decide_false, reduceCtorEq, D.isNone, Int.not_lt, Int.not_le, ne_eq, Decidable.not_not, not_true_eq_false, not_false_eq_true, false_implies, true_implies, implies_true, and_true, true_and, and_false, false_and, or_true, true_or, or_false, false_or, reduceIte, eq_self]))
  | ((with_reducible refine' wo_iff ?h ?e ?k); (case h => walk_at "ev"); (case e => simp only [beq_self_eq_true, Bool.true_beq, Bool.false_beq, decide_eq_true_eq, decide_eq_false_iff_not, Bool.not_eq_true', Bool.not_eq_false', Bool.or_eq_true, Bool.and_eq_true, Bool.or_eq_false_iff, Bool.and_eq_false_imp, Bool.not_true, Bool.not_false, Bool.false_or, Bool.or_false, Bool.true_or, Bool.or_true, Bool.true_and, Bool.and_true, Bool.false_and, Bool.and_false, Bool.true_eq_false, Bool.false_eq_true, decide_true, decide_false, reduceCtorEq, D.isNone, Int.not_lt, Int.not_le, ne_eq, Decidable.not_not, not_true_eq_false, not_false_eq_true, false_implies, true_implies, implies_true, and_true, true_and, and_false, false_and, or_true, true_or, or_false, false_or, reduceIte, eq_self]))
  | (((with_reducible refine' wo_asg ?h1 ?k); (case h1 => walk_at "ev")); walk_at "es")
  | ((with_reducible refine' wo_ret ?h1 ?k); (case h1 => walk_at "ev"))
  | (((with_reducible refine' wo_tgt ?h1 ?h2 ?k); (case h1 => walk_at "ev"); (case h2 => exact rfl)); walk_at "es")
  | ((with_reducible refine' wo_nil ?k))
  | ((with_reducible refine' wo_raise ?k))
  | (((with_reducible refine' wo_own ?h1 ?k); (case h1 => walk_at "ev")); walk_at "es")
  | (((with_reducible refine' wo_asgL ?h1 ?k); (case h1 => walk_at "ev")); walk_at "es")
  | (((with_reducible refine' wo_app ?h1 ?h2 ?h3 ?k); (case h1 => exact rfl); (case h2 => walk_at "ev"); (case h3 => walk_at "len")); walk_at "es")
  | (((with_reducible refine' wo_par ?h1 ?h2 ?k); (case h1 => walk_at "ev"); (case h2 => walk_at "ev")); walk_at "es")
  | ((with_reducible refine wo_frz ?_); simp only [frz, List.getElem?_cons_zero, List.getElem?_cons_succ, List.set_cons_zero, List.set_cons_succ]))
local macro_rules | `(tactic| walk_at "st") => `(tactic| (walk_at "st1"; try dsimp only))
local macro_rules | `(tactic| walk_at "hs") => `(tactic| ((try simp only [beq_self_eq_true, Bool.true_beq, Bool.false_beq, decide_eq_true_eq, decide_eq_false_iff_not, Bool.not_eq_true', Bool.not_eq_false', Bool.or_eq_true, Bool.and_eq_true, Bool.or_eq_false_iff, Bool.and_eq_false_imp, Bool.not_true, Bool.not_false, Bool.false_or, Bool.or_false, Bool.true_or, Bool.or_true, Bool.true_and, Bool.and_true, Bool.false_and, Bool.and_false, Bool.true_eq_false, Bool.false_eq_true, decide_true, decide_false, reduceCtorEq, D.isNone, Int.not_lt, Int.not_le, ne_eq, Decidable.not_not, not_true_eq_false, not_false_eq_true, false_implies, true_implies, implies_true, and_true, true_and, and_false, false_and, or_true, true_or, or_false, false_or, reduceIte, eq_self]); exact rfl))
local macro_rules | `(tactic| walk_at "fls") => `(tactic| first | (with_reducible exact False.elim) | (with_reducible refine fun (_ : True) => ?_) | skip)
local macro_rules | `(tactic| walk_at "if") => `(tactic| ((with_reducible refine' wo_ifx ?h ?e1 ?e2 ?k1 ?k2); (case h => walk_at "ev"); (case e1 => walk_at "hs"); (case e2 => walk_at "hs"); (case' k1 => walk_at "fls"); (case' k2 => walk_at "fls")))
local macro_rules | `(tactic| walk_at "tt") => `(tactic| (try simp only [beq_self_eq_true, Bool.true_beq, Bool.false_beq, decide_eq_true_eq, decide_eq_false_iff_not, Bool.not_eq_true', Bool.not_eq_false', Bool.or_eq_true, Bool.and_eq_true, Bool.or_eq_false_iff, Bool.and_eq_false_imp, Bool.not_true, Bool.not_false, Bool.false_or, Bool.or_false, Bool.true_or, Bool.or_true, Bool.true_and, Bool.and_true, Bool.false_and, Bool.and_false, Bool.true_eq_false, Bool.false_eq_true, decide_true, decide_false, reduceCtorEq, D.isNone, Int.not_lt, Int.not_le, ne_eq, Decidable.not_not, not_true_eq_false, not_false_eq_true, false_implies, true_implies, implies_true, and_true, true_and, and_false, false_and, or_true, true_or, or_false, false_or, reduceIte, eq_self]))
local macro_rules | `(tactic| walk_at "hc") => `(tactic| simp only [beq_self_eq_true, Bool.true_beq, Bool.false_beq, decide_eq_true_eq, decide_eq_false_iff_not, Bool.not_eq_true', Bool.not_eq_false', Bool.or_eq_true, Bool.and_eq_true, Bool.or_eq_false_iff, Bool.and_eq_false_imp, Bool.not_true, Bool.not_false, Bool.false_or, Bool.or_false, Bool.true_or, Bool.or_true, Bool.true_and, Bool.and_true, Bool.false_and, Bool.and_false, Bool.true_eq_false, Bool.false_eq_true, decide_true, decide_false, reduceCtorEq, D.isNone, Int.not_lt, Int.not_le, ne_eq, Decidable.not_not, not_true_eq_false, not_false_eq_true, false_implies, true_implies, implies_true, and_true, true_and, and_false, false_and, or_true, true_or, or_false, false_or, reduceIte, eq_self] at *)
local macro_rules | `(tactic| walk_at "sts") => `(tactic| (walk_at "st"; try (walk_at "st"; try (walk_at "st"; try (walk_at "st"; try (walk_at "st"; try (walk_at "st"; try (walk_at "st"; try (walk_at "st"; try (walk_at "st"; try (walk_at "st"; try (walk_at "st"; try (walk_at "st"; try (walk_at "st"; try (walk_at "st"; try (walk_at "st"; try (walk_at "st"; try (walk_at "st"; try (walk_at "st"; try (walk_at "st"; try (walk_at "st"; try (walk_at "st"; try (walk_at "st"; try (walk_at "st"; try (walk_at "st"; try (walk_at "st"; try (walk_at "st"; try (walk_at "st"; try (walk_at "st"; try (walk_at "st"; try (walk_at "st"; try (walk_at "st"; try (walk_at "st"; try (walk_at "st"; try (walk_at "st"; try (walk_at "st"; try (walk_at "st"; try (walk_at "st"; try (walk_at "st"; try (walk_at "st"; try (walk_at "st"; try (walk_at "st"))))))))))))))))))))))))))))))))))))))))))
local macro_rules | `(tactic| walk_at "op") => `(tactic| first
  | with_reducible assumption
  | with_reducible exact dIs_nn
  | with_reducible exact dIs_pt _
  | with_reducible exact dIs_D3 _ _ _
  | with_reducible exact dIsN_nn
  | with_reducible exact dIsN_pt _
  | with_reducible exact dIsN_D3 _ _ _
  | ((with_reducible refine at_czm ?_); first | with_reducible assumption | omega)
  | ((with_reducible refine at_czm1 ?_); first | with_reducible assumption | omega)
  | ((with_reducible refine at_sides ?_); first | with_reducible assumption | omega)
  | ((with_reducible refine at_normals ?_); first | with_reducible assumption | omega)
  | ((with_reducible refine at_cz ?_ ?_) <;> first | with_reducible assumption | omega)
  | with_reducible exact dLen_scr _
  | with_reducible exact dLen_tup _
  | walk_at "opx")
local macro_rules | `(tactic| walk_at "opx") => `(tactic| first
  | with_reducible exact isi_bb _
  | with_reducible exact dIs_i _
  | with_reducible exact isi_u _
  | with_reducible exact dLen_u _
  | with_reducible exact dEqN_D3t _ _
  | with_reducible exact dEqE_D3t _ _
  | ((with_reducible refine at_lstI ?_ ?_) <;> first | with_reducible assumption | omega)
  | with_reducible exact dIs_D3t _
  | with_reducible exact dIsN_D3t _
  | with_reducible exact dAt_u0 _
  | with_reducible exact dAt_u1 _
  | with_reducible exact dAt_u2 _
  | with_reducible exact dIs_nn
  | with_reducible exact dIs_pt _
  | with_reducible exact dIs_D3 _ _ _
  | with_reducible exact dIs_lst _
  | with_reducible exact dIsN_nn
  | with_reducible exact dIsN_pt _
  | with_reducible exact dIsN_D3 _ _ _
  | with_reducible exact dLen_t2 _
  | with_reducible exact dLen_t3 _ _ _
  | with_reducible assumption)
local macro_rules | `(tactic| walk_at "bdq") => `(tactic| first
  | ((with_reducible refine' bd_cz ?h ?g _); (case h => first | with_reducible assumption | exact Body.bd (by with_reducible assumption)); (case g => first | with_reducible assumption | exact Body.pos (by with_reducible assumption) | omega)))
local macro_rules | `(tactic| walk_at "shp") => `(tactic| first
  | ((with_reducible refine' shp_mapL ?h _); (case h => (intro _; walk_at "shp"))))
local macro_rules | `(tactic| walk_at "rng") => `(tactic| first
  | ((with_reducible refine rngN ?_); walk_at "num"))
local macro_rules | `(tactic| walk_at "st1") => `(tactic| first
  | (((with_reducible refine' wo_ins ?h1 ?h2 ?h3 ?h4 ?h5 ?h6 ?k); (case h1 => exact rfl); (case h2 => walk_at "ev"); (case h3 => walk_at "ev"); (case h4 => walk_at "num"); (case h5 => walk_at "num"); (case h6 => walk_at "len")); walk_at "es"))
local macro_rules | `(tactic| walk_at "ev") => `(tactic| first
  | with_reducible exact ev_home _ _ _
  | ((with_reducible refine' ev_cutS ?h1 ?h2 ?h3); (case h1 => walk_at "ev"); (case h2 => walk_at "ev"); (case h3 => walk_at "ev"))
  | ((with_reducible refine' ev_ownLenM ?h1); (case h1 => exact rfl))
  | ((with_reducible refine' ev_revm ?h1); (case h1 => walk_at "ev"))
  | ((with_reducible refine' ev_rev ?h1); (case h1 => walk_at "ev"))
  | ((with_reducible refine' ev_lc6 ?h1 ?h2 ?h3 ?h4 ?h5 ?h6 ?h7); (case h1 => walk_at "ev"); (case h2 => exact ⟨_, rfl, by walk_at "ev"⟩); (case h3 => exact ⟨_, rfl, by walk_at "ev"⟩); (case h4 => exact ⟨_, rfl, by walk_at "ev"⟩); (case h5 => exact ⟨_, rfl, by walk_at "ev"⟩); (case h6 => exact ⟨_, rfl, by walk_at "ev"⟩); (case h7 => exact ⟨_, rfl, by walk_at "ev"⟩))
  | ((with_reducible refine' ev_lc8 ?h1 ?h2 ?h3 ?h4 ?h5 ?h6 ?h7 ?h8 ?h9); (case h1 => walk_at "ev"); (case h2 => exact ⟨_, rfl, by walk_at "ev"⟩); (case h3 => exact ⟨_, rfl, by walk_at "ev"⟩); (case h4 => exact ⟨_, rfl, by walk_at "ev"⟩); (case h5 => exact ⟨_, rfl, by walk_at "ev"⟩); (case h6 => exact ⟨_, rfl, by walk_at "ev"⟩); (case h7 => exact ⟨_, rfl, by walk_at "ev"⟩); (case h8 => exact ⟨_, rfl, by walk_at "ev"⟩); (case h9 => exact ⟨_, rfl, by walk_at "ev"⟩))
  | ((with_reducible refine' ev_lc3 ?h1 ?h2 ?h3 ?h4); (case h1 => walk_at "ev"); (case h2 => exact ⟨_, rfl, by walk_at "ev"⟩); (case h3 => exact ⟨_, rfl, by walk_at "ev"⟩); (case h4 => exact ⟨_, rfl, by walk_at "ev"⟩))
  | ((with_reducible refine' ev_lcN ?h1 ?h2 ?h3 ?h4); (case h1 => walk_at "ev"); (case h2 => walk_at "rng"); (case h3 => walk_at "len"); (case h4 => (intro _ _; exact ⟨_, rfl, by walk_at "ev"⟩))))
local macro_rules | `(tactic| walk_at "okt") => `(tactic| first
  | with_reducible assumption
  | ((with_reducible refine okT.take ?_ _); walk_at "okt")
  | ((with_reducible refine okT.drop ?_ _); walk_at "okt")
  | ((with_reducible refine okT.app ?_ ?_) <;> walk_at "okt")
  | ((with_reducible refine okT_numI _))
  | decide)
local macro_rules | `(tactic| walk_at "lenT") => `(tactic| first
  | with_reducible assumption
  | omega
  | ((simp only [List.length_append, List.length_cons, List.length_nil, List.length_take, List.length_drop]) <;> omega)
  | decide)
local macro_rules | `(tactic| walk_at "op") => `(tactic| first
  | ((with_reducible refine dEq_T ?_ ?_) <;> walk_at "okt")
  | ((with_reducible refine dNe_T ?_ ?_) <;> walk_at "okt")
  | ((with_reducible refine dLen_T ?_); walk_at "lenT")
  | ((with_reducible refine dAdd_T ?_); walk_at "lenT")
  | with_reducible exact dIn_T _ _
  | with_reducible exact dOrd_T _
  | ((with_reducible refine dAt_T0 ?_ ?_); (first | with_reducible assumption | decide); walk_at "lenT")
  | ((with_reducible refine dAt_Tn ?_ ?_) <;> walk_at "lenT")
  | ((with_reducible refine dStr_T ?_); walk_at "log")
  | with_reducible exact isi_T _
  | with_reducible exact dIs_T _
  | with_reducible exact dIsN_T _
  | with_reducible exact dIs_nnT
  | with_reducible exact dIsN_nnT
  | with_reducible exact dIs_iT _
  | with_reducible exact dIsN_iT _
  | with_reducible exact dIs_D2T _ _
  | with_reducible exact dIsN_D2T _ _)
local macro_rules | `(tactic| walk_at "ev") => `(tactic| first
  | with_reducible exact ev_lit lit_e
  | with_reducible exact ev_lit lit_m
  | with_reducible exact ev_lit lit_0
  | with_reducible exact ev_lit lit_s
  | with_reducible exact ev_lit lit_f
  | ((with_reducible refine' ev_cutTo1 ?h1 ?h2); (case h1 => walk_at "ev"); (case h2 => walk_at "lenT"))
  | ((with_reducible refine' ev_cutFrom1 ?h1 ?h2); (case h1 => walk_at "ev"); (case h2 => walk_at "lenT"))
  | ((with_reducible refine' ev_cutTo ?h1 ?h2 ?h3); (case h1 => walk_at "ev"); (case h2 => walk_at "ev"); (case h3 => walk_at "lenT"))
  | ((with_reducible refine' ev_cutFrom ?h1 ?h2 ?h3); (case h1 => walk_at "ev"); (case h2 => walk_at "ev"); (case h3 => walk_at "lenT")))
local macro_rules | `(tactic| walk_at "st1") => `(tactic| first
  | ((with_reducible refine' wo_ift ?h ?e ?k); (case h => walk_at "ev"); (case e => first | decide | (simp [D.isNone]; done)))
  | ((with_reducible refine' wo_iff ?h ?e ?k); (case h => walk_at "ev"); (case e => first | decide | (simp [D.isNone]; done))))
local macro_rules | `(tactic| walk_at "log") => `(tactic| ((with_reducible refine log_bd ?_); walk_at "dis"))
theorem ne_tt : dNe (.str "text") (.str "text") = some (.bl false) := dNe_self shp_text (by decide)
theorem eq_tt : dEq (.str "text") (.str "text") = some (.bl true) := dEq_self shp_text (by decide)
theorem isi_no {d : D} {t : String} (h : tyName d = some t) (k : kitB t "str" = some false) : dIsi [d, .ty "str"] = some (.bl false) := by
  show ((tyName d).bind fun t => (kitB t "str").map D.bl) = _
  rw [h]
  show (kitB t "str").map D.bl = _
  rw [k]
  rfl
theorem read_no {d : D} (h : dIsi [d, .ty "str"] = some (.bl false)) : F_read_number [d] = .er "NoText" := by
  unfold F_read_number b_read_number
  refine fn_er ?_
  walk_at "start"
  walk_at "sts"
theorem readp_no {d : D} (h : dIsi [d, .ty "str"] = some (.bl false)) : F_read_portion [d] = .er "NoText" := by
  unfold F_read_portion b_read_portion
  refine fn_er ?_
  walk_at "start"
  walk_at "sts"
theorem right_no {d : D} (h : dIsi [d, .ty "str"] = some (.bl false)) : F__law_right_v7 [d] = .ok (.bl true) := by
  have k1 := nword_q (o := none) (read_no h)
  have k2 := pword_q (o := none) (readp_no h)
  change _ = R.ok (D.str "text") at k1
  change _ = R.ok (D.str "text") at k2
  have n := ne_tt
  have e := eq_tt
  unfold F__law_right_v7 b__law_right_v7
  refine fn_ok ?_
  walk_at "start"
  walk_at "sts"
theorem right_T {l : List Nat} (ok : okT l) (hl : l.length ≤ 1000) : F__law_right_v7 [T l] = .ok (.bl true) := by
  have k1 := nword_q (read_q ok hl)
  have k2 := pword_q (read_por_q ok hl)
  have k3 := num_due_q ok hl
  have k4 := por_due_q ok hl
  have n := ne_tt
  have e := eq_tt
  have isT : ∀ a b : Int, dIsi [D2 a b, .ty "tuple"] = some (.bl true) := fun a b => by
    show (kitB "tuple" "tuple").map D.bl = _
    rw [kb_tuple_tuple]
    rfl
  have rest : ∀ s1 s4 : Sl, WO ((sSeq (sIf (mB (e2 dIs (eVar 2) (eC .non))) (sRet (e2 dEq (eVar 3) (eC (.str "text")))) (sNil)) (sSeq (sIf (mOr (mB (e2 dNe (eVar 3) (eL (aLst (aCons (eC (.str "told")) (aCons (eVar 2) (aNil))))))) (mNot (mB (eB dIsi (aCons (e2 dAt (eVar 3) (eC (.int 1))) (aCons (eC (.ty "tuple")) (aNil))))))) (sRet (eC (.bl false))) (sNil)) (sSeq (sAsg 4 (eF F_show_portion (aCons (eVar 2) (aNil)))) (sRet (eAnd (eB dIsi (aCons (eVar 4) (aCons (eC (.ty "str")) (aNil)))) (e2 dEq (eVar 4) (eVar 0))))))) [.v (T l), s1, .v (optP (porOf l)), .v (wordD ((porOf l).map fun p => D2 p.1 p.2)), s4]) (fun _ => D.non = .bl true) (fun d => d = .bl true) (fun _ => False) := by
    intro s1 s4
    cases q : porOf l with
    | none =>
      simp only [optP, wordD, Option.map_none]
      walk_at "sts"
    | some p =>
      obtain ⟨a, b⟩ := p
      have ks := show_q ok hl q
      simp only [optP, wordD, Option.map_some]
      have i1 := isT a b
      have sh : Shp (max (0 + 1) (max (1 + 1) 1)) (.lst [.str "told", D2 a b]) := shp_consL shp_told (shp_consL (shp_D2 _ _) shp_nilL)
      have n2 := dNe_self sh (by decide)
      have a1 : dAt (.lst [.str "told", D2 a b]) (.int 1) = some (D2 a b) := rfl
      have dn : dIs (D2 a b) .non = some (.bl false) := rfl
      have et := dEq_T ok ok
      rw [decide_eq_true rfl] at et
      generalize D2 a b = P at *
      walk_at "sts"
      rw [decide_eq_true rfl]
      rfl
  unfold F__law_right_v7 b__law_right_v7
  refine fn_ok ?_
  walk_at "start"
  cases q : numOf l with
  | none =>
    rw [q] at k1 k3
    change _ = R.ok (D.str "text") at k1
    change _ = R.ok D.non at k3
    walk_at "st"
    walk_at "st"
    walk_at "st"
    walk_at "st"
    walk_at "st"
    walk_at "st"
    walk_at "st"
    walk_at "st"
    walk_at "st"
    walk_at "st"
    walk_at "st"
    walk_at "st"
    walk_at "st"
    walk_at "st"
    walk_at "st"
    walk_at "st"
    walk_at "st"
    walk_at "st"
    walk_at "st"
    exact rest _ _
  | some m =>
    rw [q] at k1 k3
    change _ = R.ok (D.lst [.str "told", .int m]) at k1
    change _ = R.ok (D.int m) at k3
    have sh : Shp (max (0 + 1) (max (0 + 1) 1)) (.lst [.str "told", .int m]) := shp_consL shp_told (shp_consL (shp_int _) shp_nilL)
    have n2 := dNe_self sh (by decide)
    have a1 : dAt (.lst [.str "told", .int m]) (.int 1) = some (.int m) := rfl
    walk_at "st"
    walk_at "st"
    walk_at "st"
    walk_at "st"
    walk_at "st"
    walk_at "st"
    walk_at "st"
    walk_at "st"
    walk_at "st"
    walk_at "st"
    walk_at "st"
    walk_at "st"
    walk_at "st"
    walk_at "st"
    walk_at "st"
    walk_at "st"
    walk_at "st"
    walk_at "st"
    walk_at "st"
    exact rest _ _
end Law

namespace Law
open PySem PySem.Spec PyProof.Rows L2 GD Hl TL
local macro_rules | `(tactic| walk_at "bd") => `(tactic| first
  | with_reducible assumption
  | with_reducible exact Bd.litO _
  | ((with_reducible refine' Bd.mul ?h ?g); (case h => walk_at "bd"); (case g => walk_at "bd"))
  | ((with_reducible refine' Bd.add ?h ?g); (case h => walk_at "bd"); (case g => walk_at "bd"))
  | ((with_reducible refine' Bd.sub ?h ?g); (case h => walk_at "bd"); (case g => walk_at "bd"))
  | ((with_reducible refine' Bd.neg ?h); (case h => walk_at "bd"))
  | ((with_reducible refine' Bd.emod ?h); (case h => walk_at "pos"))
  | ((with_reducible refine' Bd.ediv ?h); (case h => walk_at "bd"))
  | ((with_reducible refine' bd_fT ?h); (case h => walk_at "bd"))
  | ((with_reducible refine' bd_fB ?h); (case h => walk_at "bd"))
  | ((with_reducible refine' bd_sX ?h); (case h => walk_at "bd"))
  | ((with_reducible refine' bd_sY ?h); (case h => walk_at "bd"))
  | ((with_reducible refine' bd_sW ?h); (case h => walk_at "bd"))
  | ((with_reducible refine' bd_abs ?h); (case h => walk_at "bd"))
  | ((with_reducible refine' BdP.a ?h); (case h => walk_at "bdq"))
  | ((with_reducible refine' BdP.b ?h); (case h => walk_at "bdq"))
  | with_reducible exact bd_ite1
  | ((with_reducible refine' bd_ite ?h ?g); (case h => walk_at "bd"); (case g => walk_at "bd")))
local macro_rules | `(tactic| walk_at "pos") => `(tactic| first
  | with_reducible assumption
  | decide
  | omega)
local macro_rules | `(tactic| walk_at "bdq") => `(tactic| first
  | with_reducible assumption
  | ((with_reducible refine' bd_cy ?h ?g _); (case h => with_reducible assumption); (case g => first | with_reducible assumption | omega))
  | ((with_reducible refine' bd_mem ?h ?g); (case g => with_reducible assumption); (case h => with_reducible assumption))
  | ((with_reducible refine' bd_get ?h); (case h => with_reducible assumption)))
local macro_rules | `(tactic| walk_at "bdp") => `(tactic| first
  | walk_at "bdq"
  | ((with_reducible refine' BdP.mk ?h ?g); (case h => walk_at "bd"); (case g => walk_at "bd")))
local macro_rules | `(tactic| walk_at "num") => `(tactic| first
  | with_reducible assumption
  | omega
  | decide +kernel
  | (simp only [Nat.reduceLog2]; omega))
local macro_rules | `(tactic| walk_at "dis") => `(tactic| first
  | with_reducible assumption
  | ((with_reducible refine' mok ?h ?g ?l); (case h => walk_at "bd"); (case g => walk_at "bd"); (case l => walk_at "num"))
  | ((with_reducible refine' Bd.mono ?h ?l); (case h => walk_at "bd"); (case l => walk_at "num"))
  | ((with_reducible refine' BdP.mono ?h ?l); (case h => walk_at "bdp"); (case l => walk_at "num"))
  | ((with_reducible show divOk _); first | with_reducible assumption | decide +kernel | (refine' dok ?p ?h ?l; (case p => first | with_reducible assumption | omega); (case h => walk_at "bd"); (case l => walk_at "num")))
  | omega)
local macro_rules | `(tactic| walk_at "op") => `(tactic| first
  | with_reducible exact dAdd_int _ _
  | with_reducible exact dSub_int _ _
  | ((with_reducible refine dMul_int ?_); walk_at "dis")
  | with_reducible exact dAt_pp0 _ _
  | with_reducible exact dAt_pp1 _ _
  | with_reducible exact dAt_p0 _
  | with_reducible exact dAt_p1 _
  | with_reducible exact dAt_t0
  | with_reducible exact dAt_t1
  | with_reducible exact dAt_t2
  | with_reducible exact dAt_q0 _ _ _
  | with_reducible exact dAt_q1 _ _ _
  | with_reducible exact dAt_q2 _ _ _
  | with_reducible exact dAt_f0 _ _
  | with_reducible exact dAt_f1 _ _
  | with_reducible exact dLt_int _ _
  | with_reducible exact dLe_int _ _
  | with_reducible exact dGt_int _ _
  | with_reducible exact dGe_int _ _
  | with_reducible exact dEq_int _ _
  | with_reducible exact dNe_int _ _
  | ((with_reducible refine dMod_int ?_); walk_at "dis")
  | ((with_reducible refine dDiv_int ?_); walk_at "dis")
  | with_reducible exact dNeg_int _
  | with_reducible exact dIs_non _
  | with_reducible exact dIsNot_non _
  | with_reducible exact dAbs_int _
  | with_reducible exact dMax2_int _ _
  | with_reducible exact dMin2_int _ _
  | with_reducible exact dInt_bl _
  | with_reducible exact dLen_pts _
  | with_reducible exact dEq_pt _ _
  | with_reducible exact dNe_pt _ _
  | with_reducible exact dEq_pts _ _
  | with_reducible exact dNe_pts _ _
  | with_reducible exact dNe_bl _ _
  | with_reducible exact dEq_bl _ _
  | with_reducible exact dEq_D3 _ _ _ _ _ _
  | with_reducible exact dNe_D3 _ _ _ _ _ _
  | with_reducible exact dEq_np _
  | with_reducible exact dNe_np _
  | ((with_reducible refine at_last ?_); walk_at "dis")
  | with_reducible exact dAt_l0
  | with_reducible exact dAt_l1
  | with_reducible exact dAt_l2
  | with_reducible exact dAt_l3
  | with_reducible exact dAt_l4
  | with_reducible exact dAt_l5
  | with_reducible exact dAt_l6
  | with_reducible exact dAt_l7
  | ((with_reducible refine' dNe_self ?h ?l); (case h => walk_at "shp"); (case l => decide))
  | ((with_reducible refine' dEq_self ?h ?l); (case h => walk_at "shp"); (case l => decide))
  | with_reducible assumption
  | exact isi_int _ _ _ _ rfl kb_tuple_tuple
  | exact isi_int _ _ _ _ rfl kb_list_list
  | exact isi_int _ _ _ _ rfl kb_int_int
  | exact isi_int _ _ _ _ rfl kb_bool_bool
  | exact isi_int _ _ _ _ rfl kb_int_bool
  | exact isi_int _ _ _ _ rfl kb_list_tuple
  | exact isi_int _ _ _ _ rfl kb_tuple_list
  | with_reducible rfl)
local macro_rules | `(tactic| walk_at "shp") => `(tactic| first
  | with_reducible exact shp_int _
  | with_reducible exact shp_bl _
  | with_reducible exact shp_non
  | with_reducible exact shp_pt _
  | with_reducible exact shp_pts _
  | with_reducible exact shp_D2 _ _
  | with_reducible exact shp_fr _ _
  | with_reducible exact shp_D3 _ _ _
  | with_reducible exact shp_sp _ _ _
  | with_reducible exact shp_nilL
  | with_reducible exact shp_nilT
  | ((with_reducible refine' shp_consL ?h ?g); (case h => walk_at "shp"); (case g => walk_at "shp"))
  | ((with_reducible refine' shp_consT ?h ?g); (case h => walk_at "shp"); (case g => walk_at "shp"))
  | with_reducible assumption)
local macro_rules | `(tactic| walk_at "fn") => `(tactic| first
  | with_reducible assumption
  | with_reducible exact whole_int _
  | with_reducible exact divisor_eq _ _
  | with_reducible exact common_eq _ _)
local macro_rules | `(tactic| walk_at "ev") => `(tactic| first
  | with_reducible exact ev_c _
  | ((with_reducible refine' ev_var ?h1); (case h1 => exact rfl))
  | ((with_reducible refine' ev_e2 ?h1 ?h2 ?h3); (case h1 => walk_at "ev"); (case h2 => walk_at "ev"); (case h3 => walk_at "op"))
  | with_reducible exact ev_nil
  | ((with_reducible refine' ev_cons ?h1 ?h2); (case h1 => walk_at "ev"); (case h2 => walk_at "ev"))
  | ((with_reducible refine' ev_F ?h1 ?h2); (case h1 => walk_at "ev"); (case h2 => walk_at "fn"))
  | ((with_reducible refine' ev_mB ?h1); (case h1 => walk_at "ev"))
  | ((with_reducible refine' ev_B ?h1 ?h2); (case h1 => walk_at "ev"); (case h2 => walk_at "op"))
  | ((with_reducible refine' ev_tup2 ?h1 ?h2); (case h1 => walk_at "ev"); (case h2 => walk_at "ev"))
  | ((with_reducible refine' ev_tup3 ?h1 ?h2 ?h3); (case h1 => walk_at "ev"); (case h2 => walk_at "ev"); (case h3 => walk_at "ev"))
  | ((with_reducible refine' ev_tup ?h1 ?h2); (case h1 => walk_at "ev"); (case h2 => walk_at "len"))
  | ((with_reducible refine' ev_L ?h1); (case h1 => walk_at "ev"))
  | ((with_reducible refine' ev_lst ?h1 ?h2); (case h1 => walk_at "ev"); (case h2 => walk_at "len"))
  | ((with_reducible refine' ev_not ?h1); (case h1 => walk_at "ev"))
  | ((with_reducible refine' ev_and0 ?h1); (case h1 => walk_at "ev"))
  | ((with_reducible refine' ev_and ?h1 ?h2); (case h1 => walk_at "ev"); (case h2 => (intro hq; (try simp only [decide_eq_true_eq, decide_eq_false_iff_not, Bool.not_eq_true', Bool.not_eq_false'] at hq); walk_at "ev")))
  | ((with_reducible refine' ev_or1 ?h1); (case h1 => walk_at "ev"))
  | ((with_reducible refine' ev_or ?h1 ?h2); (case h1 => walk_at "ev"); (case h2 => (intro hq; (try simp only [decide_eq_true_eq, decide_eq_false_iff_not, Bool.not_eq_true', Bool.not_eq_false'] at hq); walk_at "ev")))
  | ((with_reducible refine' ev_eNot ?h1); (case h1 => walk_at "ev"))
  | ((with_reducible refine' ev_eAnd0 ?h1); (case h1 => walk_at "ev"))
  | ((with_reducible refine' ev_eAnd ?h1 ?h2); (case h1 => walk_at "ev"); (case h2 => (intro hq; (try simp only [decide_eq_true_eq, decide_eq_false_iff_not, Bool.not_eq_true', Bool.not_eq_false'] at hq); walk_at "ev")))
  | ((with_reducible refine' ev_eOr1 ?h1); (case h1 => walk_at "ev"))
  | ((with_reducible refine' ev_eOr ?h1 ?h2); (case h1 => walk_at "ev"); (case h2 => (intro hq; (try simp only [decide_eq_true_eq, decide_eq_false_iff_not, Bool.not_eq_true', Bool.not_eq_false'] at hq); walk_at "ev")))
  | ((with_reducible refine' ev_e1 ?h1 ?h2); (case h1 => walk_at "ev"); (case h2 => walk_at "op"))
  | ((with_reducible refine' ev_copy ?h1 ?h2); (case h1 => walk_at "ev"); (case h2 => exact rfl))
  | ((with_reducible refine' ev_ch ?h1 ?h2 ?h3 ?h4 ?h5); (case h1 => walk_at "ev"); (case h2 => walk_at "ev"); (case h3 => walk_at "op"); (case h4 => (intro hq; (try simp only [decide_eq_true_eq, decide_eq_false_iff_not, Bool.not_eq_true', Bool.not_eq_false'] at hq); walk_at "ev")); (case h5 => (intro _; walk_at "op")))
  | ((with_reducible refine' ev_lc ?h1 ?h2 ?h3 ?h4); (case h1 => walk_at "ev"); (case h2 => walk_at "its"); (case h3 => walk_at "len"); (case h4 => (intro _ _; exact ⟨_, rfl, by walk_at "ev"⟩)))
  | ((with_reducible refine' ev_lcR ?h1 ?h2 ?h3 ?h4); (case h1 => walk_at "ev"); (case h2 => walk_at "rng"); (case h3 => walk_at "len"); (case h4 => (intro _ _; exact ⟨_, rfl, by walk_at "ev"⟩)))
  | ((with_reducible refine' ev_cat ?h1 ?h2 ?h3); (case h1 => walk_at "ev"); (case h2 => walk_at "ev"); (case h3 => walk_at "len"))
  | ((with_reducible refine' ev_ownLen ?h1); (case h1 => exact rfl))
  | ((with_reducible refine' ev_ownAt ?h1 ?h2 ?h3); (case h1 => exact rfl); (case h2 => walk_at "ev"); (case h3 => walk_at "op"))
  | with_reducible assumption)
local macro_rules | `(tactic| walk_at "len") => `(tactic| first
  | ((simp only [List.length_map, List.length_cons, List.length_nil, List.length_append, List.length_range]) <;> walk_at "num")
  | walk_at "num")
local macro_rules | `(tactic| walk_at "its") => `(tactic| first
  | with_reducible exact its_map
  | with_reducible exact its_map2
  | exact rfl)
local macro_rules | `(tactic| walk_at "rng") => `(tactic| first
  | ((with_reducible refine rng1 ?_ ?_) <;> walk_at "num")
  | ((with_reducible refine rng2 ?_ ?_ ?_ ?_) <;> walk_at "num"))
local macro_rules | `(tactic| walk_at "es") => `(tactic| simp (config := {failIfUnchanged := false}) only [List.set_cons_zero, List.set_cons_succ])
local macro_rules | `(tactic| walk_at "start") => `(tactic| (simp only [List.map_cons, List.map_nil, List.cons_append, List.nil_append, List.length_cons, List.length_nil, Nat.reduceAdd, Nat.reduceSub, List.replicate_succ, List.replicate_zero]))
local macro_rules | `(tactic| walk_at "st1") => `(tactic| first
  | ((with_reducible refine' wo_seq ?k))
  | ((with_reducible refine' wo_ift ?h ?e ?k); (case h => walk_at "ev"); (case e => simp only [beq_self_eq_true, Bool.true_beq, Bool.false_beq, decide_eq_true_eq, decide_eq_false_iff_not, Bool.not_eq_true', Bool.not_eq_false', Bool.or_eq_true, Bool.and_eq_true, Bool.or_eq_false_iff, Bool.and_eq_false_imp, Bool.not_true, Bool.not_false, Bool.false_or, Bool.or_false, Bool.true_or, Bool.or_true, Bool.true_and, Bool.and_true, Bool.false_and, Bool.and_false, Bool.true_eq_false, Bool.false_eq_true, decide_true, decide_false, reduceCtorEq, D.isNone, Int.not_lt, Int.not_le, ne_eq, Decidable.not_not, not_true_eq_false, not_false_eq_true, false_implies, true_implies, implies_true, and_true, true_and, and_false, false_and, or_true, true_or, or_false, false_or, reduceIte, eq_self]))
  | ((with_reducible refine' wo_iff ?h ?e ?k); (case h => walk_at "ev"); (case e => simp only [beq_self_eq_true, Bool.true_beq, Bool.false_beq, decide_eq_true_eq, decide_eq_false_iff_not, Bool.not_eq_true', Bool.not_eq_false', Bool.or_eq_true, Bool.and_eq_true, Bool.or_eq_false_iff, Bool.and_eq_false_imp, Bool.not_true, Bool.not_false, Bool.false_or, Bool.or_false, Bool.true_or, Bool.or_true, Bool.true_and, Bool.and_true, Bool.false_and, Bool.and_false, Bool.true_eq_false, Bool.false_eq_true, decide_true, decide_false, reduceCtorEq, D.isNone, Int.not_lt, Int.not_le, ne_eq, Decidable.not_not, not_true_eq_false, not_false_eq_true, false_implies, true_implies, implies_true, and_true, true_and, and_false, false_and, or_true, true_or, or_false, false_or, reduceIte, eq_self]))
  | (((with_reducible refine' wo_asg ?h1 ?k); (case h1 => walk_at "ev")); walk_at "es")
  | ((with_reducible refine' wo_ret ?h1 ?k); (case h1 => walk_at "ev"))
  | (((with_reducible refine' wo_tgt ?h1 ?h2 ?k); (case h1 => walk_at "ev"); (case h2 => exact rfl)); walk_at "es")
  | ((with_reducible refine' wo_nil ?k))
  | ((with_reducible refine' wo_raise ?k))
  | (((with_reducible refine' wo_own ?h1 ?k); (case h1 => walk_at "ev")); walk_at "es")
  | (((with_reducible refine' wo_asgL ?h1 ?k); (case h1 => walk_at "ev")); walk_at "es")
  | (((with_reducible refine' wo_app ?h1 ?h2 ?h3 ?k); (case h1 => exact rfl); (case h2 => walk_at "ev"); (case h3 => walk_at "len")); walk_at "es")
  | (((with_reducible refine' wo_par ?h1 ?h2 ?k); (case h1 => walk_at "ev"); (case h2 => walk_at "ev")); walk_at "es")
  | ((with_reducible refine wo_frz ?_); simp only [frz, List.getElem?_cons_zero, List.getElem?_cons_succ, List.set_cons_zero, List.set_cons_succ]))
local macro_rules | `(tactic| walk_at "st") => `(tactic| (walk_at "st1"; try dsimp only))
local macro_rules | `(tactic| walk_at "hs") => `(tactic| ((try simp only [beq_self_eq_true, Bool.true_beq, Bool.false_beq, decide_eq_true_eq, decide_eq_false_iff_not, Bool.not_eq_true', Bool.not_eq_false', Bool.or_eq_true, Bool.and_eq_true, Bool.or_eq_false_iff, Bool.and_eq_false_imp, Bool.not_true, Bool.not_false, Bool.false_or, Bool.or_false, Bool.true_or, Bool.or_true, Bool.true_and, Bool.and_true, Bool.false_and, Bool.and_false, Bool.true_eq_false, Bool.false_eq_true, decide_true, decide_false, reduceCtorEq, D.isNone, Int.not_lt, Int.not_le, ne_eq, Decidable.not_not, not_true_eq_false, not_false_eq_true, false_implies, true_implies, implies_true, and_true, true_and, and_false, false_and, or_true, true_or, or_false, false_or, reduceIte, eq_self]); exact rfl))
local macro_rules | `(tactic| walk_at "fls") => `(tactic| first | (with_reducible exact False.elim) | (with_reducible refine fun (_ : True) => ?_) | skip)
local macro_rules | `(tactic| walk_at "if") => `(tactic| ((with_reducible refine' wo_ifx ?h ?e1 ?e2 ?k1 ?k2); (case h => walk_at "ev"); (case e1 => walk_at "hs"); (case e2 => walk_at "hs"); (case' k1 => walk_at "fls"); (case' k2 => walk_at "fls")))
local macro_rules | `(tactic| walk_at "tt") => `(tactic| (try simp only [beq_self_eq_true, Bool.true_beq, Bool.false_beq, decide_eq_true_eq, decide_eq_false_iff_not, Bool.not_eq_true', Bool.not_eq_false', Bool.or_eq_true, Bool.and_eq_true, Bool.or_eq_false_iff, Bool.and_eq_false_imp, Bool.not_true, Bool.not_false, Bool.false_or, Bool.or_false, Bool.true_or, Bool.or_true, Bool.true_and, Bool.and_true, Bool.false_and, Bool.and_false, Bool.true_eq_false, Bool.false_eq_true, decide_true, decide_false, reduceCtorEq, D.isNone, Int.not_lt, Int.not_le, ne_eq, Decidable.not_not, not_true_eq_false, not_false_eq_true, false_implies, true_implies, implies_true, and_true, true_and, and_false, false_and, or_true, true_or, or_false, false_or, reduceIte, eq_self]))
local macro_rules | `(tactic| walk_at "hc") => `(tactic| simp only [beq_self_eq_true, Bool.true_beq, Bool.false_beq, decide_eq_true_eq, decide_eq_false_iff_not, Bool.not_eq_true', Bool.not_eq_false', Bool.or_eq_true, Bool.and_eq_true, Bool.or_eq_false_iff, Bool.and_eq_false_imp, Bool.not_true, Bool.not_false, Bool.false_or, Bool.or_false, Bool.true_or, Bool.or_true, Bool.true_and, Bool.and_true, Bool.false_and, Bool.and_false, Bool.true_eq_false, Bool.false_eq_true, decide_true, decide_false, reduceCtorEq, D.isNone, Int.not_lt, Int.not_le, ne_eq, Decidable.not_not, not_true_eq_false, not_false_eq_true, false_implies, true_implies, implies_true, and_true, true_and, and_false, false_and, or_true, true_or, or_false, false_or, reduceIte, eq_self] at *)
local macro_rules | `(tactic| walk_at "sts") => `(tactic| (walk_at "st"; try (walk_at "st"; try (walk_at "st"; try (walk_at "st"; try (walk_at "st"; try (walk_at "st"; try (walk_at "st"; try (walk_at "st"; try (walk_at "st"; try (walk_at "st"; try (walk_at "st"; try (walk_at "st"; try (walk_at "st"; try (walk_at "st"; try (walk_at "st"; try (walk_at "st"; try (walk_at "st"; try (walk_at "st"; try (walk_at "st"; try (walk_at "st"; try (walk_at "st"; try (walk_at "st"; try (walk_at "st"; try (walk_at "st"; try (walk_at "st"; try (walk_at "st"; try (walk_at "st"; try (walk_at "st"; try (walk_at "st"; try (walk_at "st"; try (walk_at "st"; try (walk_at "st"; try (walk_at "st"; try (walk_at "st"; try (walk_at "st"; try (walk_at "st"; try (walk_at "st"; try (walk_at "st"; try (walk_at "st"; try (walk_at "st"; try (walk_at "st"))))))))))))))))))))))))))))))))))))))))))
local macro_rules | `(tactic| walk_at "op") => `(tactic| first
  | with_reducible assumption
  | with_reducible exact dIs_nn
  | with_reducible exact dIs_pt _
  | with_reducible exact dIs_D3 _ _ _
  | with_reducible exact dIsN_nn
  | with_reducible exact dIsN_pt _
  | with_reducible exact dIsN_D3 _ _ _
  | ((with_reducible refine at_czm ?_); first | with_reducible assumption | omega)
  | ((with_reducible refine at_czm1 ?_); first | with_reducible assumption | omega)
  | ((with_reducible refine at_sides ?_); first | with_reducible assumption | omega)
  | ((with_reducible refine at_normals ?_); first | with_reducible assumption | omega)
  | ((with_reducible refine at_cz ?_ ?_) <;> first | with_reducible assumption | omega)
  | with_reducible exact dLen_scr _
  | with_reducible exact dLen_tup _
  | walk_at "opx")
local macro_rules | `(tactic| walk_at "opx") => `(tactic| first
  | with_reducible exact isi_bb _
  | with_reducible exact dIs_i _
  | with_reducible exact isi_u _
  | with_reducible exact dLen_u _
  | with_reducible exact dEqN_D3t _ _
  | with_reducible exact dEqE_D3t _ _
  | ((with_reducible refine at_lstI ?_ ?_) <;> first | with_reducible assumption | omega)
  | with_reducible exact dIs_D3t _
  | with_reducible exact dIsN_D3t _
  | with_reducible exact dAt_u0 _
  | with_reducible exact dAt_u1 _
  | with_reducible exact dAt_u2 _
  | with_reducible exact dIs_nn
  | with_reducible exact dIs_pt _
  | with_reducible exact dIs_D3 _ _ _
  | with_reducible exact dIs_lst _
  | with_reducible exact dIsN_nn
  | with_reducible exact dIsN_pt _
  | with_reducible exact dIsN_D3 _ _ _
  | with_reducible exact dLen_t2 _
  | with_reducible exact dLen_t3 _ _ _
  | with_reducible assumption)
local macro_rules | `(tactic| walk_at "bdq") => `(tactic| first
  | ((with_reducible refine' bd_cz ?h ?g _); (case h => first | with_reducible assumption | exact Body.bd (by with_reducible assumption)); (case g => first | with_reducible assumption | exact Body.pos (by with_reducible assumption) | omega)))
local macro_rules | `(tactic| walk_at "shp") => `(tactic| first
  | ((with_reducible refine' shp_mapL ?h _); (case h => (intro _; walk_at "shp"))))
local macro_rules | `(tactic| walk_at "rng") => `(tactic| first
  | ((with_reducible refine rngN ?_); walk_at "num"))
local macro_rules | `(tactic| walk_at "st1") => `(tactic| first
  | (((with_reducible refine' wo_ins ?h1 ?h2 ?h3 ?h4 ?h5 ?h6 ?k); (case h1 => exact rfl); (case h2 => walk_at "ev"); (case h3 => walk_at "ev"); (case h4 => walk_at "num"); (case h5 => walk_at "num"); (case h6 => walk_at "len")); walk_at "es"))
local macro_rules | `(tactic| walk_at "ev") => `(tactic| first
  | with_reducible exact ev_home _ _ _
  | ((with_reducible refine' ev_cutS ?h1 ?h2 ?h3); (case h1 => walk_at "ev"); (case h2 => walk_at "ev"); (case h3 => walk_at "ev"))
  | ((with_reducible refine' ev_ownLenM ?h1); (case h1 => exact rfl))
  | ((with_reducible refine' ev_revm ?h1); (case h1 => walk_at "ev"))
  | ((with_reducible refine' ev_rev ?h1); (case h1 => walk_at "ev"))
  | ((with_reducible refine' ev_lc6 ?h1 ?h2 ?h3 ?h4 ?h5 ?h6 ?h7); (case h1 => walk_at "ev"); (case h2 => exact ⟨_, rfl, by walk_at "ev"⟩); (case h3 => exact ⟨_, rfl, by walk_at "ev"⟩); (case h4 => exact ⟨_, rfl, by walk_at "ev"⟩); (case h5 => exact ⟨_, rfl, by walk_at "ev"⟩); (case h6 => exact ⟨_, rfl, by walk_at "ev"⟩); (case h7 => exact ⟨_, rfl, by walk_at "ev"⟩))
  | ((with_reducible refine' ev_lc8 ?h1 ?h2 ?h3 ?h4 ?h5 ?h6 ?h7 ?h8 ?h9); (case h1 => walk_at "ev"); (case h2 => exact ⟨_, rfl, by walk_at "ev"⟩); (case h3 => exact ⟨_, rfl, by walk_at "ev"⟩); (case h4 => exact ⟨_, rfl, by walk_at "ev"⟩); (case h5 => exact ⟨_, rfl, by walk_at "ev"⟩); (case h6 => exact ⟨_, rfl, by walk_at "ev"⟩); (case h7 => exact ⟨_, rfl, by walk_at "ev"⟩); (case h8 => exact ⟨_, rfl, by walk_at "ev"⟩); (case h9 => exact ⟨_, rfl, by walk_at "ev"⟩))
  | ((with_reducible refine' ev_lc3 ?h1 ?h2 ?h3 ?h4); (case h1 => walk_at "ev"); (case h2 => exact ⟨_, rfl, by walk_at "ev"⟩); (case h3 => exact ⟨_, rfl, by walk_at "ev"⟩); (case h4 => exact ⟨_, rfl, by walk_at "ev"⟩))
  | ((with_reducible refine' ev_lcN ?h1 ?h2 ?h3 ?h4); (case h1 => walk_at "ev"); (case h2 => walk_at "rng"); (case h3 => walk_at "len"); (case h4 => (intro _ _; exact ⟨_, rfl, by walk_at "ev"⟩))))
local macro_rules | `(tactic| walk_at "okt") => `(tactic| first
  | with_reducible assumption
  | ((with_reducible refine okT.take ?_ _); walk_at "okt")
  | ((with_reducible refine okT.drop ?_ _); walk_at "okt")
  | ((with_reducible refine okT.app ?_ ?_) <;> walk_at "okt")
  | ((with_reducible refine okT_numI _))
  | decide)
local macro_rules | `(tactic| walk_at "lenT") => `(tactic| first
  | with_reducible assumption
  | omega
  | ((simp only [List.length_append, List.length_cons, List.length_nil, List.length_take, List.length_drop]) <;> omega)
  | decide)
local macro_rules | `(tactic| walk_at "op") => `(tactic| first
  | ((with_reducible refine dEq_T ?_ ?_) <;> walk_at "okt")
  | ((with_reducible refine dNe_T ?_ ?_) <;> walk_at "okt")
  | ((with_reducible refine dLen_T ?_); walk_at "lenT")
  | ((with_reducible refine dAdd_T ?_); walk_at "lenT")
  | with_reducible exact dIn_T _ _
  | with_reducible exact dOrd_T _
  | ((with_reducible refine dAt_T0 ?_ ?_); (first | with_reducible assumption | decide); walk_at "lenT")
  | ((with_reducible refine dAt_Tn ?_ ?_) <;> walk_at "lenT")
  | ((with_reducible refine dStr_T ?_); walk_at "log")
  | with_reducible exact isi_T _
  | with_reducible exact dIs_T _
  | with_reducible exact dIsN_T _
  | with_reducible exact dIs_nnT
  | with_reducible exact dIsN_nnT
  | with_reducible exact dIs_iT _
  | with_reducible exact dIsN_iT _
  | with_reducible exact dIs_D2T _ _
  | with_reducible exact dIsN_D2T _ _)
local macro_rules | `(tactic| walk_at "ev") => `(tactic| first
  | with_reducible exact ev_lit lit_e
  | with_reducible exact ev_lit lit_m
  | with_reducible exact ev_lit lit_0
  | with_reducible exact ev_lit lit_s
  | with_reducible exact ev_lit lit_f
  | ((with_reducible refine' ev_cutTo1 ?h1 ?h2); (case h1 => walk_at "ev"); (case h2 => walk_at "lenT"))
  | ((with_reducible refine' ev_cutFrom1 ?h1 ?h2); (case h1 => walk_at "ev"); (case h2 => walk_at "lenT"))
  | ((with_reducible refine' ev_cutTo ?h1 ?h2 ?h3); (case h1 => walk_at "ev"); (case h2 => walk_at "ev"); (case h3 => walk_at "lenT"))
  | ((with_reducible refine' ev_cutFrom ?h1 ?h2 ?h3); (case h1 => walk_at "ev"); (case h2 => walk_at "ev"); (case h3 => walk_at "lenT")))
local macro_rules | `(tactic| walk_at "st1") => `(tactic| first
  | ((with_reducible refine' wo_ift ?h ?e ?k); (case h => walk_at "ev"); (case e => first | decide | (simp [D.isNone]; done)))
  | ((with_reducible refine' wo_iff ?h ?e ?k); (case h => walk_at "ev"); (case e => first | decide | (simp [D.isNone]; done))))
local macro_rules | `(tactic| walk_at "log") => `(tactic| ((with_reducible refine log_bd ?_); walk_at "dis"))
theorem numI_len {i : Int} (h : Bd 200 i) : (numI i).length ≤ 62 := by
  have h' : i.natAbs < 2 ^ 200 := h
  have h2 : i.natAbs < 10 ^ 61 := Nat.lt_trans h' (by decide)
  have := numL_len (by decide) h2
  unfold numI
  split
  · rw [List.length_cons]; omega
  · omega
theorem mulS_T {c : Nat} {n : Int} (h0 : 0 ≤ n) (h1 : n ≤ 1000) : dMulS (T [c]) (.int n) = some (T (List.replicate n.toNat c)) := by
  show (if (tS [c]).length ≤ 1000 ∧ n ≤ 1000 ∧ -1000 ≤ n then some (D.str (Txt.mul (tS [c]) n)) else none) = _
  rw [if_pos ⟨by rw [len_tS, List.length_singleton]; omega, h1, by omega⟩]
  show some (T (Txt.mul (tS [c]) n).cps.toList) = _
  congr 2
  have key : ∀ (k : Nat) (a : Array Nat), ((List.replicate k (#[c] : Array Nat)).foldl (· ++ ·) a).toList = a.toList ++ List.replicate k c := by
    intro k
    induction k with
    | zero => intro a; simp
    | succ k ih =>
      intro a
      rw [List.replicate_succ, List.foldl_cons, ih, List.replicate_succ]
      simp
  unfold Txt.mul
  by_cases z : n < 1
  · rw [if_pos z, show n.toNat = 0 by omega]
    rfl
  · rw [if_neg z]
    by_cases o : n = 1
    · subst o
      rfl
    · rw [if_neg (by
        show ¬ ((n == 1 || (tS [c]).length == 0) = true)
        rw [len_tS]
        simp [o])]
      have := key n.toNat #[]
      simpa [tS] using this
theorem okT_rep {k c : Nat} (h : c < 1114112) : okT (List.replicate k c) := fun d hd => by rw [List.eq_of_mem_replicate hd]; exact h
theorem written_q {c : Int} (hc : Bd 210 c) : ∃ l, F__law_written [.int c] = .ok (T l) ∧ okT l ∧ l.length ≤ 100 := by
  have h1 : (numI (c / 2 % 1000000000000000000000000000000000000000000000000000000000000)).length ≤ 62 := numI_len (by walk_at "dis")
  unfold F__law_written b__law_written
  suffices h : ∃ d, runF 1 _ [.int c] = .ok d ∧ ∃ l, d = T l ∧ okT l ∧ l.length ≤ 100 by
    obtain ⟨d, h1, l, rfl, h2⟩ := h
    exact ⟨l, h1, h2⟩
  refine fn_ex ?_
  walk_at "start"
  walk_at "st"
  walk_at "if"
  case k1 =>
    intro _
    walk_at "sts"
    exact ⟨_, rfl, okT.app (by decide) (okT_numI _), by simp; omega⟩
  case k2 =>
    intro _
    walk_at "sts"
    exact ⟨_, rfl, okT_numI _, by omega⟩
theorem two_q {c : Int} (hc : Bd 210 c) : ∃ l, F__law_two [.int c] = .ok (T l) ∧ okT l ∧ l.length ≤ 200 := by
  have h1 : (numI (c / 3 % 23 - 11)).length ≤ 62 := numI_len (by walk_at "dis")
  have h2 : (numI (c / 69 % 12)).length ≤ 62 := numI_len (by walk_at "dis")
  have h3 : (numI (c / 3 % 100000000000000000000 - 50000000000000000000)).length ≤ 62 := numI_len (by walk_at "dis")
  have h4 : (numI (c / 7 % 1000000000000000000)).length ≤ 62 := numI_len (by walk_at "dis")
  unfold F__law_two b__law_two
  suffices h : ∃ d, runF 1 _ [.int c] = .ok d ∧ ∃ l, d = T l ∧ okT l ∧ l.length ≤ 200 by
    obtain ⟨d, h1, l, rfl, h2⟩ := h
    exact ⟨l, h1, h2⟩
  refine fn_ex ?_
  walk_at "start"
  walk_at "st"
  walk_at "if"
  case k1 =>
    intro _
    walk_at "sts"
    exact ⟨_, rfl, okT.app (okT.app (okT_numI _) (by decide)) (okT_numI _), by simp; omega⟩
  case k2 =>
    intro _
    walk_at "sts"
    exact ⟨_, rfl, okT.app (okT.app (okT_numI _) (by decide)) (okT_numI _), by simp; omega⟩
theorem kb_no (t : String) (h : t = "NoneType" ∨ t = "int" ∨ t = "bool" ∨ t = "list" ∨ t = "tuple" ∨ t = "dict") : kitB t "str" = some false := by
  rcases h with rfl | rfl | rfl | rfl | rfl | rfl <;> decide +kernel
theorem other_q {c : Int} (hc : Bd 210 c) : ∃ d, F__law_other [.int c] = .ok d ∧ dIsi [d, .ty "str"] = some (.bl false) := by
  unfold F__law_other b__law_other
  refine fn_ex ?_
  walk_at "start"
  walk_at "st"
  walk_at "st"
  have hi : c % 10 = 0 ∨ c % 10 = 1 ∨ c % 10 = 2 ∨ c % 10 = 3 ∨ c % 10 = 4 ∨ c % 10 = 5 ∨ c % 10 = 6 ∨ c % 10 = 7 ∨ c % 10 = 8 ∨ c % 10 = 9 := by omega
  generalize 0 - c % 100000000000000000000000000000000000000000000000000000000000 = y
  rcases hi with e | e | e | e | e | e | e | e | e | e
  · refine wo_ret (ev_e2 (ev_var rfl) (y := .int 0) (by rw [← e]; walk_at "ev") rfl) (isi_no (t := "NoneType") rfl (kb_no _ (by simp)))
  · refine wo_ret (ev_e2 (ev_var rfl) (y := .int 1) (by rw [← e]; walk_at "ev") rfl) (isi_no (t := "int") rfl (kb_no _ (by simp)))
  · refine wo_ret (ev_e2 (ev_var rfl) (y := .int 2) (by rw [← e]; walk_at "ev") rfl) (isi_no (t := "bool") rfl (kb_no _ (by simp)))
  · refine wo_ret (ev_e2 (ev_var rfl) (y := .int 3) (by rw [← e]; walk_at "ev") rfl) (isi_no (t := "list") rfl (kb_no _ (by simp)))
  · refine wo_ret (ev_e2 (ev_var rfl) (y := .int 4) (by rw [← e]; walk_at "ev") rfl) (isi_no (t := "tuple") rfl (kb_no _ (by simp)))
  · refine wo_ret (ev_e2 (ev_var rfl) (y := .int 5) (by rw [← e]; walk_at "ev") rfl) (isi_no (t := "dict") rfl (kb_no _ (by simp)))
  · refine wo_ret (ev_e2 (ev_var rfl) (y := .int 6) (by rw [← e]; walk_at "ev") rfl) (isi_no (t := "list") rfl (kb_no _ (by simp)))
  · refine wo_ret (ev_e2 (ev_var rfl) (y := .int 7) (by rw [← e]; walk_at "ev") rfl) (isi_no (t := "int") rfl (kb_no _ (by simp)))
  · refine wo_ret (ev_e2 (ev_var rfl) (y := .int 8) (by rw [← e]; walk_at "ev") rfl) (isi_no (t := "list") rfl (kb_no _ (by simp)))
  · refine wo_ret (ev_e2 (ev_var rfl) (y := .int 9) (by rw [← e]; walk_at "ev") rfl) (isi_no (t := "tuple") rfl (kb_no _ (by simp)))
end Law

namespace Law
open PySem PySem.Spec PyProof.Rows L2 GD Hl TL
local macro_rules | `(tactic| walk_at "bd") => `(tactic| first
  | with_reducible assumption
  | with_reducible exact Bd.litO _
  | ((with_reducible refine' Bd.mul ?h ?g); (case h => walk_at "bd"); (case g => walk_at "bd"))
  | ((with_reducible refine' Bd.add ?h ?g); (case h => walk_at "bd"); (case g => walk_at "bd"))
  | ((with_reducible refine' Bd.sub ?h ?g); (case h => walk_at "bd"); (case g => walk_at "bd"))
  | ((with_reducible refine' Bd.neg ?h); (case h => walk_at "bd"))
  | ((with_reducible refine' Bd.emod ?h); (case h => walk_at "pos"))
  | ((with_reducible refine' Bd.ediv ?h); (case h => walk_at "bd"))
  | ((with_reducible refine' bd_fT ?h); (case h => walk_at "bd"))
  | ((with_reducible refine' bd_fB ?h); (case h => walk_at "bd"))
  | ((with_reducible refine' bd_sX ?h); (case h => walk_at "bd"))
  | ((with_reducible refine' bd_sY ?h); (case h => walk_at "bd"))
  | ((with_reducible refine' bd_sW ?h); (case h => walk_at "bd"))
  | ((with_reducible refine' bd_abs ?h); (case h => walk_at "bd"))
  | ((with_reducible refine' BdP.a ?h); (case h => walk_at "bdq"))
  | ((with_reducible refine' BdP.b ?h); (case h => walk_at "bdq"))
  | with_reducible exact bd_ite1
  | ((with_reducible refine' bd_ite ?h ?g); (case h => walk_at "bd"); (case g => walk_at "bd")))
local macro_rules | `(tactic| walk_at "pos") => `(tactic| first
  | with_reducible assumption
  | decide
  | omega)
local macro_rules | `(tactic| walk_at "bdq") => `(tactic| first
  | with_reducible assumption
  | ((with_reducible refine' bd_cy ?h ?g _); (case h => with_reducible assumption); (case g => first | with_reducible assumption | omega))
  | ((with_reducible refine' bd_mem ?h ?g); (case g => with_reducible assumption); (case h => with_reducible assumption))
  | ((with_reducible refine' bd_get ?h); (case h => with_reducible assumption)))
local macro_rules | `(tactic| walk_at "bdp") => `(tactic| first
  | walk_at "bdq"
  | ((with_reducible refine' BdP.mk ?h ?g); (case h => walk_at "bd"); (case g => walk_at "bd")))
local macro_rules | `(tactic| walk_at "num") => `(tactic| first
  | with_reducible assumption
  | omega
  | decide +kernel
  | (simp only [Nat.reduceLog2]; omega))
local macro_rules | `(tactic| walk_at "dis") => `(tactic| first
  | with_reducible assumption
  | ((with_reducible refine' mok ?h ?g ?l); (case h => walk_at "bd"); (case g => walk_at "bd"); (case l => walk_at "num"))
  | ((with_reducible refine' Bd.mono ?h ?l); (case h => walk_at "bd"); (case l => walk_at "num"))
  | ((with_reducible refine' BdP.mono ?h ?l); (case h => walk_at "bdp"); (case l => walk_at "num"))
  | ((with_reducible show divOk _); first | with_reducible assumption | decide +kernel | (refine' dok ?p ?h ?l; (case p => first | with_reducible assumption | omega); (case h => walk_at "bd"); (case l => walk_at "num")))
  | omega)
local macro_rules | `(tactic| walk_at "op") => `(tactic| first
  | with_reducible exact dAdd_int _ _
  | with_reducible exact dSub_int _ _
  | ((with_reducible refine dMul_int ?_); walk_at "dis")
  | with_reducible exact dAt_pp0 _ _
  | with_reducible exact dAt_pp1 _ _
  | with_reducible exact dAt_p0 _
  | with_reducible exact dAt_p1 _
  | with_reducible exact dAt_t0
  | with_reducible exact dAt_t1
  | with_reducible exact dAt_t2
  | with_reducible exact dAt_q0 _ _ _
  | with_reducible exact dAt_q1 _ _ _
  | with_reducible exact dAt_q2 _ _ _
  | with_reducible exact dAt_f0 _ _
  | with_reducible exact dAt_f1 _ _
  | with_reducible exact dLt_int _ _
  | with_reducible exact dLe_int _ _
  | with_reducible exact dGt_int _ _
  | with_reducible exact dGe_int _ _
  | with_reducible exact dEq_int _ _
  | with_reducible exact dNe_int _ _
  | ((with_reducible refine dMod_int ?_); walk_at "dis")
  | ((with_reducible refine dDiv_int ?_); walk_at "dis")
  | with_reducible exact dNeg_int _
  | with_reducible exact dIs_non _
  | with_reducible exact dIsNot_non _
  | with_reducible exact dAbs_int _
  | with_reducible exact dMax2_int _ _
  | with_reducible exact dMin2_int _ _
  | with_reducible exact dInt_bl _
  | with_reducible exact dLen_pts _
  | with_reducible exact dEq_pt _ _
  | with_reducible exact dNe_pt _ _
  | with_reducible exact dEq_pts _ _
  | with_reducible exact dNe_pts _ _
  | with_reducible exact dNe_bl _ _
  | with_reducible exact dEq_bl _ _
  | with_reducible exact dEq_D3 _ _ _ _ _ _
  | with_reducible exact dNe_D3 _ _ _ _ _ _
  | with_reducible exact dEq_np _
  | with_reducible exact dNe_np _
  | ((with_reducible refine at_last ?_); walk_at "dis")
  | with_reducible exact dAt_l0
  | with_reducible exact dAt_l1
  | with_reducible exact dAt_l2
  | with_reducible exact dAt_l3
  | with_reducible exact dAt_l4
  | with_reducible exact dAt_l5
  | with_reducible exact dAt_l6
  | with_reducible exact dAt_l7
  | ((with_reducible refine' dNe_self ?h ?l); (case h => walk_at "shp"); (case l => decide))
  | ((with_reducible refine' dEq_self ?h ?l); (case h => walk_at "shp"); (case l => decide))
  | with_reducible assumption
  | exact isi_int _ _ _ _ rfl kb_tuple_tuple
  | exact isi_int _ _ _ _ rfl kb_list_list
  | exact isi_int _ _ _ _ rfl kb_int_int
  | exact isi_int _ _ _ _ rfl kb_bool_bool
  | exact isi_int _ _ _ _ rfl kb_int_bool
  | exact isi_int _ _ _ _ rfl kb_list_tuple
  | exact isi_int _ _ _ _ rfl kb_tuple_list
  | with_reducible rfl)
local macro_rules | `(tactic| walk_at "shp") => `(tactic| first
  | with_reducible exact shp_int _
  | with_reducible exact shp_bl _
  | with_reducible exact shp_non
  | with_reducible exact shp_pt _
  | with_reducible exact shp_pts _
  | with_reducible exact shp_D2 _ _
  | with_reducible exact shp_fr _ _
  | with_reducible exact shp_D3 _ _ _
  | with_reducible exact shp_sp _ _ _
  | with_reducible exact shp_nilL
  | with_reducible exact shp_nilT
  | ((with_reducible refine' shp_consL ?h ?g); (case h => walk_at "shp"); (case g => walk_at "shp"))
  | ((with_reducible refine' shp_consT ?h ?g); (case h => walk_at "shp"); (case g => walk_at "shp"))
  | with_reducible assumption)
local macro_rules | `(tactic| walk_at "fn") => `(tactic| first
  | with_reducible assumption
  | with_reducible exact whole_int _
  | with_reducible exact divisor_eq _ _
  | with_reducible exact common_eq _ _)
local macro_rules | `(tactic| walk_at "ev") => `(tactic| first
  | with_reducible exact ev_c _
  | ((with_reducible refine' ev_var ?h1); (case h1 => exact rfl))
  | ((with_reducible refine' ev_e2 ?h1 ?h2 ?h3); (case h1 => walk_at "ev"); (case h2 => walk_at "ev"); (case h3 => walk_at "op"))
  | with_reducible exact ev_nil
  | ((with_reducible refine' ev_cons ?h1 ?h2); (case h1 => walk_at "ev"); (case h2 => walk_at "ev"))
  | ((with_reducible refine' ev_F ?h1 ?h2); (case h1 => walk_at "ev"); (case h2 => walk_at "fn"))
  | ((with_reducible refine' ev_mB ?h1); (case h1 => walk_at "ev"))
  | ((with_reducible refine' ev_B ?h1 ?h2); (case h1 => walk_at "ev"); (case h2 => walk_at "op"))
  | ((with_reducible refine' ev_tup2 ?h1 ?h2); (case h1 => walk_at "ev"); (case h2 => walk_at "ev"))
  | ((with_reducible refine' ev_tup3 ?h1 ?h2 ?h3); (case h1 => walk_at "ev"); (case h2 => walk_at "ev"); (case h3 => walk_at "ev"))
  | ((with_reducible refine' ev_tup ?h1 ?h2); (case h1 => walk_at "ev"); (case h2 => walk_at "len"))
  | ((with_reducible refine' ev_L ?h1); (case h1 => walk_at "ev"))
  | ((with_reducible refine' ev_lst ?h1 ?h2); (case h1 => walk_at "ev"); (case h2 => walk_at "len"))
  | ((with_reducible refine' ev_not ?h1); (case h1 => walk_at "ev"))
  | ((with_reducible refine' ev_and0 ?h1); (case h1 => walk_at "ev"))
  | ((with_reducible refine' ev_and ?h1 ?h2); (case h1 => walk_at "ev"); (case h2 => (intro hq; (try simp only [decide_eq_true_eq, decide_eq_false_iff_not, Bool.not_eq_true', Bool.not_eq_false'] at hq); walk_at "ev")))
  | ((with_reducible refine' ev_or1 ?h1); (case h1 => walk_at "ev"))
  | ((with_reducible refine' ev_or ?h1 ?h2); (case h1 => walk_at "ev"); (case h2 => (intro hq; (try simp only [decide_eq_true_eq, decide_eq_false_iff_not, Bool.not_eq_true', Bool.not_eq_false'] at hq); walk_at "ev")))
  | ((with_reducible refine' ev_eNot ?h1); (case h1 => walk_at "ev"))
  | ((with_reducible refine' ev_eAnd0 ?h1); (case h1 => walk_at "ev"))
  | ((with_reducible refine' ev_eAnd ?h1 ?h2); (case h1 => walk_at "ev"); (case h2 => (intro hq; (try simp only [decide_eq_true_eq, decide_eq_false_iff_not, Bool.not_eq_true', Bool.not_eq_false'] at hq); walk_at "ev")))
  | ((with_reducible refine' ev_eOr1 ?h1); (case h1 => walk_at "ev"))
  | ((with_reducible refine' ev_eOr ?h1 ?h2); (case h1 => walk_at "ev"); (case h2 => (intro hq; (try simp only [decide_eq_true_eq, decide_eq_false_iff_not, Bool.not_eq_true', Bool.not_eq_false'] at hq); walk_at "ev")))
  | ((with_reducible refine' ev_e1 ?h1 ?h2); (case h1 => walk_at "ev"); (case h2 => walk_at "op"))
  | ((with_reducible refine' ev_copy ?h1 ?h2); (case h1 => walk_at "ev"); (case h2 => exact rfl))
  | ((with_reducible refine' ev_ch ?h1 ?h2 ?h3 ?h4 ?h5); (case h1 => walk_at "ev"); (case h2 => walk_at "ev"); (case h3 => walk_at "op"); (case h4 => (intro hq; (try simp only [decide_eq_true_eq, decide_eq_false_iff_not, Bool.not_eq_true', Bool.not_eq_false'] at hq); walk_at "ev")); (case h5 => (intro _; walk_at "op")))
  | ((with_reducible refine' ev_lc ?h1 ?h2 ?h3 ?h4); (case h1 => walk_at "ev"); (case h2 => walk_at "its"); (case h3 => walk_at "len"); (case h4 => (intro _ _; exact ⟨_, rfl, by walk_at "ev"⟩)))
  | ((with_reducible refine' ev_lcR ?h1 ?h2 ?h3 ?h4); (case h1 => walk_at "ev"); (case h2 => walk_at "rng"); (case h3 => walk_at "len"); (case h4 => (intro _ _; exact ⟨_, rfl, by walk_at "ev"⟩)))
  | ((with_reducible refine' ev_cat ?h1 ?h2 ?h3); (case h1 => walk_at "ev"); (case h2 => walk_at "ev"); (case h3 => walk_at "len"))
  | ((with_reducible refine' ev_ownLen ?h1); (case h1 => exact rfl))
  | ((with_reducible refine' ev_ownAt ?h1 ?h2 ?h3); (case h1 => exact rfl); (case h2 => walk_at "ev"); (case h3 => walk_at "op"))
  | with_reducible assumption)
local macro_rules | `(tactic| walk_at "len") => `(tactic| first
  | ((simp only [List.length_map, List.length_cons, List.length_nil, List.length_append, List.length_range]) <;> walk_at "num")
  | walk_at "num")
local macro_rules | `(tactic| walk_at "its") => `(tactic| first
  | with_reducible exact its_map
  | with_reducible exact its_map2
  | exact rfl)
local macro_rules | `(tactic| walk_at "rng") => `(tactic| first
  | ((with_reducible refine rng1 ?_ ?_) <;> walk_at "num")
  | ((with_reducible refine rng2 ?_ ?_ ?_ ?_) <;> walk_at "num"))
local macro_rules | `(tactic| walk_at "es") => `(tactic| simp (config := {failIfUnchanged := false}) only [List.set_cons_zero, List.set_cons_succ])
local macro_rules | `(tactic| walk_at "start") => `(tactic| (simp only [List.map_cons, List.map_nil, List.cons_append, List.nil_append, List.length_cons, List.length_nil, Nat.reduceAdd, Nat.reduceSub, List.replicate_succ, List.replicate_zero]))
local macro_rules | `(tactic| walk_at "st1") => `(tactic| first
  | ((with_reducible refine' wo_seq ?k))
  | ((with_reducible refine' wo_ift ?h ?e ?k); (case h => walk_at "ev"); (case e => simp only [beq_self_eq_true, Bool.true_beq, Bool.false_beq, decide_eq_true_eq, decide_eq_false_iff_not, Bool.not_eq_true', Bool.not_eq_false', Bool.or_eq_true, Bool.and_eq_true, Bool.or_eq_false_iff, Bool.and_eq_false_imp, Bool.not_true, Bool.not_false, Bool.false_or, Bool.or_false, Bool.true_or, Bool.or_true, Bool.true_and, Bool.and_true, Bool.false_and, Bool.and_false, Bool.true_eq_false, Bool.false_eq_true, decide_true, decide_false, reduceCtorEq, D.isNone, Int.not_lt, Int.not_le, ne_eq, Decidable.not_not, not_true_eq_false, not_false_eq_true, false_implies, true_implies, implies_true, and_true, true_and, and_false, false_and, or_true, true_or, or_false, false_or, reduceIte, eq_self]))
  | ((with_reducible refine' wo_iff ?h ?e ?k); (case h => walk_at "ev"); (case e => simp only [beq_self_eq_true, Bool.true_beq, Bool.false_beq, decide_eq_true_eq, decide_eq_false_iff_not, Bool.not_eq_true', Bool.not_eq_false', Bool.or_eq_true, Bool.and_eq_true, Bool.or_eq_false_iff, Bool.and_eq_false_imp, Bool.not_true, Bool.not_false, Bool.false_or, Bool.or_false, Bool.true_or, Bool.or_true, Bool.true_and, Bool.and_true, Bool.false_and, Bool.and_false, Bool.true_eq_false, Bool.false_eq_true, decide_true, decide_false, reduceCtorEq, D.isNone, Int.not_lt, Int.not_le, ne_eq, Decidable.not_not, not_true_eq_false, not_false_eq_true, false_implies, true_implies, implies_true, and_true, true_and, and_false, false_and, or_true, true_or, or_false, false_or, reduceIte, eq_self]))
  | (((with_reducible refine' wo_asg ?h1 ?k); (case h1 => walk_at "ev")); walk_at "es")
  | ((with_reducible refine' wo_ret ?h1 ?k); (case h1 => walk_at "ev"))
  | (((with_reducible refine' wo_tgt ?h1 ?h2 ?k); (case h1 => walk_at "ev"); (case h2 => exact rfl)); walk_at "es")
  | ((with_reducible refine' wo_nil ?k))
  | ((with_reducible refine' wo_raise ?k))
  | (((with_reducible refine' wo_own ?h1 ?k); (case h1 => walk_at "ev")); walk_at "es")
  | (((with_reducible refine' wo_asgL ?h1 ?k); (case h1 => walk_at "ev")); walk_at "es")
  | (((with_reducible refine' wo_app ?h1 ?h2 ?h3 ?k); (case h1 => exact rfl); (case h2 => walk_at "ev"); (case h3 => walk_at "len")); walk_at "es")
  | (((with_reducible refine' wo_par ?h1 ?h2 ?k); (case h1 => walk_at "ev"); (case h2 => walk_at "ev")); walk_at "es")
  | ((with_reducible refine wo_frz ?_); simp only [frz, List.getElem?_cons_zero, List.getElem?_cons_succ, List.set_cons_zero, List.set_cons_succ]))
local macro_rules | `(tactic| walk_at "st") => `(tactic| (walk_at "st1"; try dsimp only))
local macro_rules | `(tactic| walk_at "hs") => `(tactic| ((try simp only [beq_self_eq_true, Bool.true_beq, Bool.false_beq, decide_eq_true_eq, decide_eq_false_iff_not, Bool.not_eq_true', Bool.not_eq_false', Bool.or_eq_true, Bool.and_eq_true, Bool.or_eq_false_iff, Bool.and_eq_false_imp, Bool.not_true, Bool.not_false, Bool.false_or, Bool.or_false, Bool.true_or, Bool.or_true, Bool.true_and, Bool.and_true, Bool.false_and, Bool.and_false, Bool.true_eq_false, Bool.false_eq_true, decide_true, decide_false, reduceCtorEq, D.isNone, Int.not_lt, Int.not_le, ne_eq, Decidable.not_not, not_true_eq_false, not_false_eq_true, false_implies, true_implies, implies_true, and_true, true_and, and_false, false_and, or_true, true_or, or_false, false_or, reduceIte, eq_self]); exact rfl))
local macro_rules | `(tactic| walk_at "fls") => `(tactic| first | (with_reducible exact False.elim) | (with_reducible refine fun (_ : True) => ?_) | skip)
local macro_rules | `(tactic| walk_at "if") => `(tactic| ((with_reducible refine' wo_ifx ?h ?e1 ?e2 ?k1 ?k2); (case h => walk_at "ev"); (case e1 => walk_at "hs"); (case e2 => walk_at "hs"); (case' k1 => walk_at "fls"); (case' k2 => walk_at "fls")))
local macro_rules | `(tactic| walk_at "tt") => `(tactic| (try simp only [beq_self_eq_true, Bool.true_beq, Bool.false_beq, decide_eq_true_eq, decide_eq_false_iff_not, Bool.not_eq_true', Bool.not_eq_false', Bool.or_eq_true, Bool.and_eq_true, Bool.or_eq_false_iff, Bool.and_eq_false_imp, Bool.not_true, Bool.not_false, Bool.false_or, Bool.or_false, Bool.true_or, Bool.or_true, Bool.true_and, Bool.and_true, Bool.false_and, Bool.and_false, Bool.true_eq_false, Bool.false_eq_true, decide_true, decide_false, reduceCtorEq, D.isNone, Int.not_lt, Int.not_le, ne_eq, Decidable.not_not, not_true_eq_false, not_false_eq_true, false_implies, true_implies, implies_true, and_true, true_and, and_false, false_and, or_true, true_or, or_false, false_or, reduceIte, eq_self]))
local macro_rules | `(tactic| walk_at "hc") => `(tactic| simp only [beq_self_eq_true, Bool.true_beq, Bool.false_beq, decide_eq_true_eq, decide_eq_false_iff_not, Bool.not_eq_true', Bool.not_eq_false', Bool.or_eq_true, Bool.and_eq_true, Bool.or_eq_false_iff, Bool.and_eq_false_imp, Bool.not_true, Bool.not_false, Bool.false_or, Bool.or_false, Bool.true_or, Bool.or_true, Bool.true_and, Bool.and_true, Bool.false_and, Bool.and_false, Bool.true_eq_false, Bool.false_eq_true, decide_true, decide_false, reduceCtorEq, D.isNone, Int.not_lt, Int.not_le, ne_eq, Decidable.not_not, not_true_eq_false, not_false_eq_true, false_implies, true_implies, implies_true, and_true, true_and, and_false, false_and, or_true, true_or, or_false, false_or, reduceIte, eq_self] at *)
local macro_rules | `(tactic| walk_at "sts") => `(tactic| (walk_at "st"; try (walk_at "st"; try (walk_at "st"; try (walk_at "st"; try (walk_at "st"; try (walk_at "st"; try (walk_at "st"; try (walk_at "st"; try (walk_at "st"; try (walk_at "st"; try (walk_at "st"; try (walk_at "st"; try (walk_at "st"; try (walk_at "st"; try (walk_at "st"; try (walk_at "st"; try (walk_at "st"; try (walk_at "st"; try (walk_at "st"; try (walk_at "st"; try (walk_at "st"; try (walk_at "st"; try (walk_at "st"; try (walk_at "st"; try (walk_at "st"; try (walk_at "st"; try (walk_at "st"; try (walk_at "st"; try (walk_at "st"; try (walk_at "st"; try (walk_at "st"; try (walk_at "st"; try (walk_at "st"; try (walk_at "st"; try (walk_at "st"; try (walk_at "st"; try (walk_at "st"; try (walk_at "st"; try (walk_at "st"; try (walk_at "st"; try (walk_at "st"))))))))))))))))))))))))))))))))))))))))))
local macro_rules | `(tactic| walk_at "op") => `(tactic| first
  | with_reducible assumption
  | with_reducible exact dIs_nn
  | with_reducible exact dIs_pt _
  | with_reducible exact dIs_D3 _ _ _
  | with_reducible exact dIsN_nn
  | with_reducible exact dIsN_pt _
  | with_reducible exact dIsN_D3 _ _ _
  | ((with_reducible refine at_czm ?_); first | with_reducible assumption | omega)
  | ((with_reducible refine at_czm1 ?_); first | with_reducible assumption | omega)
  | ((with_reducible refine at_sides ?_); first | with_reducible assumption | omega)
  | ((with_reducible refine at_normals ?_); first | with_reducible assumption | omega)
  | ((with_reducible refine at_cz ?_ ?_) <;> first | with_reducible assumption | omega)
  | with_reducible exact dLen_scr _
  | with_reducible exact dLen_tup _
  | walk_at "opx")
local macro_rules | `(tactic| walk_at "opx") => `(tactic| first
  | with_reducible exact isi_bb _
  | with_reducible exact dIs_i _
  | with_reducible exact isi_u _
  | with_reducible exact dLen_u _
  | with_reducible exact dEqN_D3t _ _
  | with_reducible exact dEqE_D3t _ _
  | ((with_reducible refine at_lstI ?_ ?_) <;> first | with_reducible assumption | omega)
  | with_reducible exact dIs_D3t _
  | with_reducible exact dIsN_D3t _
  | with_reducible exact dAt_u0 _
  | with_reducible exact dAt_u1 _
  | with_reducible exact dAt_u2 _
  | with_reducible exact dIs_nn
  | with_reducible exact dIs_pt _
  | with_reducible exact dIs_D3 _ _ _
  | with_reducible exact dIs_lst _
  | with_reducible exact dIsN_nn
  | with_reducible exact dIsN_pt _
  | with_reducible exact dIsN_D3 _ _ _
  | with_reducible exact dLen_t2 _
  | with_reducible exact dLen_t3 _ _ _
  | with_reducible assumption)
local macro_rules | `(tactic| walk_at "bdq") => `(tactic| first
  | ((with_reducible refine' bd_cz ?h ?g _); (case h => first | with_reducible assumption | exact Body.bd (by with_reducible assumption)); (case g => first | with_reducible assumption | exact Body.pos (by with_reducible assumption) | omega)))
local macro_rules | `(tactic| walk_at "shp") => `(tactic| first
  | ((with_reducible refine' shp_mapL ?h _); (case h => (intro _; walk_at "shp"))))
local macro_rules | `(tactic| walk_at "rng") => `(tactic| first
  | ((with_reducible refine rngN ?_); walk_at "num"))
local macro_rules | `(tactic| walk_at "st1") => `(tactic| first
  | (((with_reducible refine' wo_ins ?h1 ?h2 ?h3 ?h4 ?h5 ?h6 ?k); (case h1 => exact rfl); (case h2 => walk_at "ev"); (case h3 => walk_at "ev"); (case h4 => walk_at "num"); (case h5 => walk_at "num"); (case h6 => walk_at "len")); walk_at "es"))
local macro_rules | `(tactic| walk_at "ev") => `(tactic| first
  | with_reducible exact ev_home _ _ _
  | ((with_reducible refine' ev_cutS ?h1 ?h2 ?h3); (case h1 => walk_at "ev"); (case h2 => walk_at "ev"); (case h3 => walk_at "ev"))
  | ((with_reducible refine' ev_ownLenM ?h1); (case h1 => exact rfl))
  | ((with_reducible refine' ev_revm ?h1); (case h1 => walk_at "ev"))
  | ((with_reducible refine' ev_rev ?h1); (case h1 => walk_at "ev"))
  | ((with_reducible refine' ev_lc6 ?h1 ?h2 ?h3 ?h4 ?h5 ?h6 ?h7); (case h1 => walk_at "ev"); (case h2 => exact ⟨_, rfl, by walk_at "ev"⟩); (case h3 => exact ⟨_, rfl, by walk_at "ev"⟩); (case h4 => exact ⟨_, rfl, by walk_at "ev"⟩); (case h5 => exact ⟨_, rfl, by walk_at "ev"⟩); (case h6 => exact ⟨_, rfl, by walk_at "ev"⟩); (case h7 => exact ⟨_, rfl, by walk_at "ev"⟩))
  | ((with_reducible refine' ev_lc8 ?h1 ?h2 ?h3 ?h4 ?h5 ?h6 ?h7 ?h8 ?h9); (case h1 => walk_at "ev"); (case h2 => exact ⟨_, rfl, by walk_at "ev"⟩); (case h3 => exact ⟨_, rfl, by walk_at "ev"⟩); (case h4 => exact ⟨_, rfl, by walk_at "ev"⟩); (case h5 => exact ⟨_, rfl, by walk_at "ev"⟩); (case h6 => exact ⟨_, rfl, by walk_at "ev"⟩); (case h7 => exact ⟨_, rfl, by walk_at "ev"⟩); (case h8 => exact ⟨_, rfl, by walk_at "ev"⟩); (case h9 => exact ⟨_, rfl, by walk_at "ev"⟩))
  | ((with_reducible refine' ev_lc3 ?h1 ?h2 ?h3 ?h4); (case h1 => walk_at "ev"); (case h2 => exact ⟨_, rfl, by walk_at "ev"⟩); (case h3 => exact ⟨_, rfl, by walk_at "ev"⟩); (case h4 => exact ⟨_, rfl, by walk_at "ev"⟩))
  | ((with_reducible refine' ev_lcN ?h1 ?h2 ?h3 ?h4); (case h1 => walk_at "ev"); (case h2 => walk_at "rng"); (case h3 => walk_at "len"); (case h4 => (intro _ _; exact ⟨_, rfl, by walk_at "ev"⟩))))
local macro_rules | `(tactic| walk_at "okt") => `(tactic| first
  | with_reducible assumption
  | ((with_reducible refine okT.take ?_ _); walk_at "okt")
  | ((with_reducible refine okT.drop ?_ _); walk_at "okt")
  | ((with_reducible refine okT.app ?_ ?_) <;> walk_at "okt")
  | ((with_reducible refine okT_numI _))
  | decide)
local macro_rules | `(tactic| walk_at "lenT") => `(tactic| first
  | with_reducible assumption
  | omega
  | ((simp only [List.length_append, List.length_cons, List.length_nil, List.length_take, List.length_drop]) <;> omega)
  | decide)
local macro_rules | `(tactic| walk_at "op") => `(tactic| first
  | ((with_reducible refine dEq_T ?_ ?_) <;> walk_at "okt")
  | ((with_reducible refine dNe_T ?_ ?_) <;> walk_at "okt")
  | ((with_reducible refine dLen_T ?_); walk_at "lenT")
  | ((with_reducible refine dAdd_T ?_); walk_at "lenT")
  | with_reducible exact dIn_T _ _
  | with_reducible exact dOrd_T _
  | ((with_reducible refine dAt_T0 ?_ ?_); (first | with_reducible assumption | decide); walk_at "lenT")
  | ((with_reducible refine dAt_Tn ?_ ?_) <;> walk_at "lenT")
  | ((with_reducible refine dStr_T ?_); walk_at "log")
  | with_reducible exact isi_T _
  | with_reducible exact dIs_T _
  | with_reducible exact dIsN_T _
  | with_reducible exact dIs_nnT
  | with_reducible exact dIsN_nnT
  | with_reducible exact dIs_iT _
  | with_reducible exact dIsN_iT _
  | with_reducible exact dIs_D2T _ _
  | with_reducible exact dIsN_D2T _ _)
local macro_rules | `(tactic| walk_at "ev") => `(tactic| first
  | with_reducible exact ev_lit lit_e
  | with_reducible exact ev_lit lit_m
  | with_reducible exact ev_lit lit_0
  | with_reducible exact ev_lit lit_s
  | with_reducible exact ev_lit lit_f
  | ((with_reducible refine' ev_cutTo1 ?h1 ?h2); (case h1 => walk_at "ev"); (case h2 => walk_at "lenT"))
  | ((with_reducible refine' ev_cutFrom1 ?h1 ?h2); (case h1 => walk_at "ev"); (case h2 => walk_at "lenT"))
  | ((with_reducible refine' ev_cutTo ?h1 ?h2 ?h3); (case h1 => walk_at "ev"); (case h2 => walk_at "ev"); (case h3 => walk_at "lenT"))
  | ((with_reducible refine' ev_cutFrom ?h1 ?h2 ?h3); (case h1 => walk_at "ev"); (case h2 => walk_at "ev"); (case h3 => walk_at "lenT")))
local macro_rules | `(tactic| walk_at "st1") => `(tactic| first
  | ((with_reducible refine' wo_ift ?h ?e ?k); (case h => walk_at "ev"); (case e => first | decide | (simp [D.isNone]; done)))
  | ((with_reducible refine' wo_iff ?h ?e ?k); (case h => walk_at "ev"); (case e => first | decide | (simp [D.isNone]; done))))
local macro_rules | `(tactic| walk_at "log") => `(tactic| ((with_reducible refine log_bd ?_); walk_at "dis"))
theorem lit_20 : D.str "0123456789-+, \n\t_a./" = T [48, 49, 50, 51, 52, 53, 54, 55, 56, 57, 45, 43, 44, 32, 10, 9, 95, 97, 46, 47] := congrArg D.str (by decide +kernel)
theorem lit_7 : D.str "7" = T [55] := congrArg D.str (by decide +kernel)
def OkThing (d : D) : Prop := (∃ l, d = T l ∧ okT l ∧ l.length ≤ 1000) ∨ dIsi [d, .ty "str"] = some (.bl false)
theorem thing_q {c : Int} (hc : Bd 210 c) : ∃ d, F__law_thing [.int c] = .ok d ∧ OkThing d := by
  have b8 : Bd 210 (c / 8) := by walk_at "dis"
  obtain ⟨l0, kw, ow, lw⟩ := written_q b8
  obtain ⟨l1, kt, ot, lt⟩ := two_q b8
  obtain ⟨d1, ko, od⟩ := other_q b8
  have hk : 0 ≤ c % 8 := by omega
  unfold F__law_thing b__law_thing
  refine fn_ex ?_
  walk_at "start"
  walk_at "st"
  walk_at "st"
  walk_at "st"
  walk_at "st"
  generalize c % 8 = k at *
  generalize c / 8 = e at *
  walk_at "st"
  walk_at "st"
  walk_at "st"
  refine wo_cut (fun ρ => ∃ l, okT l ∧ l.length ≤ 200 ∧ ρ = [.v (.int e), .v (.int k), .v (T l), .un]) ?a ?b
  case a =>
    walk_at "if"
    case k1 => intro _; walk_at "st"; exact ⟨l1, ot, lt, rfl⟩
    case k2 => intro _; walk_at "st"; exact ⟨l0, ow, by omega, rfl⟩
  case b =>
  rintro ρ ⟨l, ol, ll, rfl⟩
  walk_at "st"
  refine wo_cut (fun ρ => ρ = [.v (.int e), .v (.int k), .v (T l), .un]) ?a ?b
  case a =>
    walk_at "if"
    case k1 =>
      intro _
      walk_at "st"
      walk_at "st"
      obtain ⟨m, hm⟩ : ∃ m : Nat, e / 40 % ((l.length : Int) + 1) = (m : Int) := ⟨(e / 40 % ((l.length : Int) + 1)).toNat, (Int.toNat_of_nonneg (Int.emod_nonneg _ (by omega))).symm⟩
      rw [hm]
      obtain ⟨j, hj⟩ : ∃ j : Nat, e / 2 % 20 = (j : Int) := ⟨(e / 2 % 20).toNat, (Int.toNat_of_nonneg (Int.emod_nonneg _ (by omega))).symm⟩
      have jl : j < 20 := by omega
      have lp : (l.take m).length ≤ 200 := by rw [List.length_take]; omega
      have ld : (l.drop m).length ≤ 200 := by rw [List.length_drop]; omega
      have sg : dAt (T [48, 49, 50, 51, 52, 53, 54, 55, 56, 57, 45, 43, 44, 32, 10, 9, 95, 97, 46, 47]) (.int (j : Int)) = some (T [([48, 49, 50, 51, 52, 53, 54, 55, 56, 57, 45, 43, 44, 32, 10, 9, 95, 97, 46, 47] : List Nat)[j]'(by simpa using jl)]) := dAt_Tn (by simpa using jl) (by decide)
      have os : okT [([48, 49, 50, 51, 52, 53, 54, 55, 56, 57, 45, 43, 44, 32, 10, 9, 95, 97, 46, 47] : List Nat)[j]'(by simpa using jl)] := okT.get (l := [48, 49, 50, 51, 52, 53, 54, 55, 56, 57, 45, 43, 44, 32, 10, 9, 95, 97, 46, 47]) (by decide) _
      generalize ([48, 49, 50, 51, 52, 53, 54, 55, 56, 57, 45, 43, 44, 32, 10, 9, 95, 97, 46, 47] : List Nat)[j]'(by simpa using jl) = s at *
      have mid : e2 dAt (eC (.str "0123456789-+, \n\t_a./")) (e2 dMod (e2 dDiv (eVar 0) (eC (.int 2))) (eC (.int 20))) [.v (.int e), .v (.int k), .v (T l), .v (.int (m : Int))] = .ok (T [s]) := by
        refine ev_e2 (ev_lit lit_20) (y := .int (j : Int)) ?_ sg
        rw [← hj]
        walk_at "ev"
      with_reducible refine' wo_ret (d := T (l.take m ++ [s] ++ l.drop m)) ?g1 ?g2
      case g1 =>
        refine ev_e2 (x := T (l.take m ++ [s])) (y := T (l.drop m)) (ev_e2 (x := T (l.take m)) (y := T [s]) ?_ mid (dAdd_T ?_)) ?_ (dAdd_T ?_)
        · walk_at "ev"
        · rw [List.length_singleton]; omega
        · walk_at "ev"
        · rw [List.length_append, List.length_singleton]; omega
      case g2 => exact .inl ⟨_, rfl, okT.app (okT.app (ol.take _) os) (ol.drop _), by rw [List.length_append, List.length_append, List.length_singleton]; omega⟩
    case k2 => intro _; walk_at "st"
  case b =>
  rintro ρ rfl
  have rp : ∀ n : Int, (List.replicate n.toNat (45 : Nat)).length = n.toNat := fun n => List.length_replicate
  have rq : ∀ n : Int, (List.replicate n.toNat (48 : Nat)).length = n.toNat := fun n => List.length_replicate
  have rr : ∀ n : Int, (List.replicate n.toNat (55 : Nat)).length = n.toNat := fun n => List.length_replicate
  walk_at "st"
  refine wo_cut (fun ρ => ρ = [.v (.int e), .v (.int k), .v (T l), .un]) ?a ?b
  case a =>
    walk_at "if"
    case k1 =>
      intro _
      have h1 : (numI (e / 6 % 10000000000000000000000000000000000000000)).length ≤ 62 := numI_len (by walk_at "dis")
      have m1 := mulS_T (c := 45) (n := e % 2) (by omega) (by omega)
      have m2 := mulS_T (c := 48) (n := e / 2 % 3) (by omega) (by omega)
      have r1 := rp (e % 2)
      have r2 := rq (e / 2 % 3)
      walk_at "st"
      exact .inl ⟨_, rfl, okT.app (okT.app (okT_rep (by decide)) (okT_rep (by decide))) (okT_numI _), by rw [List.length_append, List.length_append]; omega⟩
    case k2 => intro _; walk_at "st"
  case b =>
  rintro ρ rfl
  walk_at "st"
  refine wo_cut (fun ρ => ρ = [.v (.int e), .v (.int k), .v (T l), .un]) ?a ?b
  case a =>
    walk_at "if"
    case k1 =>
      intro _
      have h1 : (numI (1 + e / 2 % 9)).length ≤ 62 := numI_len (by walk_at "dis")
      have m1 := mulS_T (c := 45) (n := e % 2) (by omega) (by omega)
      have m2 := mulS_T (c := 55) (n := 58 + e / 18 % 4) (by omega) (by omega)
      have r1 := rp (e % 2)
      have r2 := rr (58 + e / 18 % 4)
      have l7 : ∀ ρ : En, eC (.str "7") ρ = .ok (T [55]) := fun ρ => ev_lit lit_7
      with_reducible refine' wo_ret (d := T (List.replicate (e % 2).toNat 45 ++ numI (1 + e / 2 % 9) ++ List.replicate (58 + e / 18 % 4).toNat 55)) ?g1 ?g2
      case g1 =>
        refine ev_e2 (x := T (List.replicate (e % 2).toNat 45 ++ numI (1 + e / 2 % 9))) (y := T (List.replicate (58 + e / 18 % 4).toNat 55)) ?_ (ev_e2 (l7 _) (y := .int (58 + e / 18 % 4)) ?_ m2) (dAdd_T ?_)
        · walk_at "ev"
        · walk_at "ev"
        · rw [List.length_append]; omega
      case g2 => exact .inl ⟨_, rfl, okT.app (okT.app (okT_rep (by decide)) (okT_numI _)) (okT_rep (by decide)), by rw [List.length_append, List.length_append]; omega⟩
    case k2 => intro _; walk_at "st"
  case b =>
  rintro ρ rfl
  walk_at "st"
  walk_at "if"
  case k1 =>
    intro _
    walk_at "st"
    exact .inr od
  case k2 =>
    intro _
    walk_at "st"
    walk_at "st"
    exact .inl ⟨l, rfl, ol, by omega⟩
end Law

namespace Law
open PySem PySem.Spec PyProof.Rows L2 GD
def l1_law : SM := sIf (mNot (mB (eF F__law_right_v7 (aCons (eF F__law_thing (aCons (eF F__law_cell (aCons (eVar 0) (aCons (eVar 1) (aNil)))) (aNil))) (aNil))))) (sRet (eC (.bl false))) (sNil)
def b_law : SM := sSeq (sForR (gNm 1) (aCons (eB dMax2 (aCons (eC (.int 1)) (aCons (eB dLen (aCons (eVar 0) (aNil))) (aNil)))) (aNil)) (l1_law)) (sRet (eC (.bl true)))
def F_law : List D → R D := runF 2 b_law
end Law

namespace Law
open PySem PySem.Spec PyProof.Rows L2 GD
def topS (i : Nat) : Stmt := PySem.Challenge.pw_glide_k46_numbers_and_portions_read.main.body.getD i (.Pass ⟨0, 0, 0, 0⟩)
structure Txt (K : PySem.W.Frag) (mg : Str → Option Value) (C_Crowded : Addr) (C_Flat : Addr) (C_GlideError : Addr) (C_NoName : Addr) (C_NoNumber : Addr) (C_NoRow : Addr) (C_NoText : Addr) (C_Past : Addr) (C_Twice : Addr) : Prop where
  z_ValueError : mg "ValueError" = none
  z_abs : mg "abs" = none
  z_all : mg "all" = none
  z_bool : mg "bool" = none
  z_int : mg "int" = none
  z_isinstance : mg "isinstance" = none
  z_len : mg "len" = none
  z_max : mg "max" = none
  z_ord : mg "ord" = none
  z_range : mg "range" = none
  z_str : mg "str" = none
  z_tuple : mg "tuple" = none
  k_FIGURES : KCS mg "FIGURES" "0123456789"
  g_Crowded : mg "Crowded" = some (.ref C_Crowded)
  kc_Crowded : PySem.W.keepIn K (.ref C_Crowded) = true
  b_Crowded : PySem.W.subIn K (.ref C_Crowded) (.type "BaseException") = some true
  t_Crowded : PySem.W.typeIn K (.ref C_Crowded) = some (.type "type")
  g_Flat : mg "Flat" = some (.ref C_Flat)
  kc_Flat : PySem.W.keepIn K (.ref C_Flat) = true
  b_Flat : PySem.W.subIn K (.ref C_Flat) (.type "BaseException") = some true
  t_Flat : PySem.W.typeIn K (.ref C_Flat) = some (.type "type")
  g_GlideError : mg "GlideError" = some (.ref C_GlideError)
  kc_GlideError : PySem.W.keepIn K (.ref C_GlideError) = true
  b_GlideError : PySem.W.subIn K (.ref C_GlideError) (.type "BaseException") = some true
  t_GlideError : PySem.W.typeIn K (.ref C_GlideError) = some (.type "type")
  g_NoName : mg "NoName" = some (.ref C_NoName)
  kc_NoName : PySem.W.keepIn K (.ref C_NoName) = true
  b_NoName : PySem.W.subIn K (.ref C_NoName) (.type "BaseException") = some true
  t_NoName : PySem.W.typeIn K (.ref C_NoName) = some (.type "type")
  g_NoNumber : mg "NoNumber" = some (.ref C_NoNumber)
  kc_NoNumber : PySem.W.keepIn K (.ref C_NoNumber) = true
  b_NoNumber : PySem.W.subIn K (.ref C_NoNumber) (.type "BaseException") = some true
  t_NoNumber : PySem.W.typeIn K (.ref C_NoNumber) = some (.type "type")
  g_NoRow : mg "NoRow" = some (.ref C_NoRow)
  kc_NoRow : PySem.W.keepIn K (.ref C_NoRow) = true
  b_NoRow : PySem.W.subIn K (.ref C_NoRow) (.type "BaseException") = some true
  t_NoRow : PySem.W.typeIn K (.ref C_NoRow) = some (.type "type")
  g_NoText : mg "NoText" = some (.ref C_NoText)
  x_NoText : PySem.W.excIn K C_NoText [.type "ValueError", .type "Exception", .type "BaseException", .type "object"] "ValueError.__new__" = true
  kc_NoText : PySem.W.keepIn K (.ref C_NoText) = true
  b_NoText : PySem.W.subIn K (.ref C_NoText) (.type "BaseException") = some true
  t_NoText : PySem.W.typeIn K (.ref C_NoText) = some (.type "type")
  g_Past : mg "Past" = some (.ref C_Past)
  kc_Past : PySem.W.keepIn K (.ref C_Past) = true
  b_Past : PySem.W.subIn K (.ref C_Past) (.type "BaseException") = some true
  t_Past : PySem.W.typeIn K (.ref C_Past) = some (.type "type")
  g_Twice : mg "Twice" = some (.ref C_Twice)
  kc_Twice : PySem.W.keepIn K (.ref C_Twice) = true
  b_Twice : PySem.W.subIn K (.ref C_Twice) (.type "BaseException") = some true
  t_Twice : PySem.W.typeIn K (.ref C_Twice) = some (.type "type")
  m_NoText : PySem.W.exmOne K (.ref C_NoText) (.ref C_GlideError) = some true
  v_NoText : ExcC K C_NoText
  w_NoText : PySem.W.kitOne K (.ref C_NoText) (.type "ValueError") = some true
  q_NoText_Crowded : PySem.W.kitOne K (.ref C_NoText) (.ref C_Crowded) = some false
  q_NoText_Flat : PySem.W.kitOne K (.ref C_NoText) (.ref C_Flat) = some false
  q_NoText_NoName : PySem.W.kitOne K (.ref C_NoText) (.ref C_NoName) = some false
  q_NoText_NoNumber : PySem.W.kitOne K (.ref C_NoText) (.ref C_NoNumber) = some false
  q_NoText_NoRow : PySem.W.kitOne K (.ref C_NoText) (.ref C_NoRow) = some false
  q_NoText_NoText : PySem.W.kitOne K (.ref C_NoText) (.ref C_NoText) = some true
  q_NoText_Past : PySem.W.kitOne K (.ref C_NoText) (.ref C_Past) = some false
  q_NoText_Twice : PySem.W.kitOne K (.ref C_NoText) (.ref C_Twice) = some false
section
variable {K : PySem.W.Frag} {mg : Str → Option Value} {C_Crowded : Addr} {C_Flat : Addr} {C_GlideError : Addr} {C_NoName : Addr} {C_NoNumber : Addr} {C_NoRow : Addr} {C_NoText : Addr} {C_Past : Addr} {C_Twice : Addr}
theorem xct (T : Txt K mg C_Crowded C_Flat C_GlideError C_NoName C_NoNumber C_NoRow C_NoText C_Past C_Twice) : ∀ y cls, xCt14 y = true → mg y = some cls → PySem.W.exmOne K cls (.ref C_GlideError) = some true := by
  intro y cls h e
  unfold xCt14 at h
  have h2 := List.contains_iff_mem.mp h
  simp only [List.mem_cons, List.not_mem_nil, or_false] at h2
  rcases h2 with rfl
  · cases e.symm.trans T.g_NoText; exact T.m_NoText
theorem exh (T : Txt K mg C_Crowded C_Flat C_GlideError C_NoName C_NoNumber C_NoRow C_NoText C_Past C_Twice) : ExH K mg xLy14 xLc14 xLt14 where
  c := (all_cons ⟨C_NoText, C_Crowded, T.g_NoText, T.g_Crowded, T.q_NoText_Crowded⟩ (all_cons ⟨C_NoText, C_Flat, T.g_NoText, T.g_Flat, T.q_NoText_Flat⟩ (all_cons ⟨C_NoText, C_NoName, T.g_NoText, T.g_NoName, T.q_NoText_NoName⟩ (all_cons ⟨C_NoText, C_NoNumber, T.g_NoText, T.g_NoNumber, T.q_NoText_NoNumber⟩ (all_cons ⟨C_NoText, C_NoRow, T.g_NoText, T.g_NoRow, T.q_NoText_NoRow⟩ (all_cons ⟨C_NoText, C_NoText, T.g_NoText, T.g_NoText, T.q_NoText_NoText⟩ (all_cons ⟨C_NoText, C_Past, T.g_NoText, T.g_Past, T.q_NoText_Past⟩ (all_cons ⟨C_NoText, C_Twice, T.g_NoText, T.g_Twice, T.q_NoText_Twice⟩ (fun _ h => nomatch h)))))))))
  t := (all_cons ⟨C_NoText, T.g_NoText, T.w_NoText⟩ (fun _ h => nomatch h))
  x := (all_cons ⟨C_NoText, T.g_NoText, T.v_NoText⟩ (fun _ h => nomatch h))
end
abbrev s_divisor : Stmt := topS 11
abbrev N_divisor : List Str := ["one", "other"]
theorem sc_divisor : FnScope N_divisor ["one", "other"] (defScope s_divisor) := ⟨rfl, rfl, rfl, by decide +kernel, rfl, by decide +kernel, by decide +kernel⟩
abbrev s_read_number : Stmt := topS 14
abbrev N_read_number : List Str := ["text", "figures", "sign"]
theorem sc_read_number : FnScope N_read_number ["text"] (defScope s_read_number) := ⟨rfl, rfl, rfl, by decide +kernel, rfl, by decide +kernel, by decide +kernel⟩
abbrev s_read_portion : Stmt := topS 15
abbrev N_read_portion : List Str := ["text", "words", "top", "bottom"]
theorem sc_read_portion : FnScope N_read_portion ["text"] (defScope s_read_portion) := ⟨rfl, rfl, rfl, by decide +kernel, rfl, by decide +kernel, by decide +kernel⟩
abbrev s_show_portion : Stmt := topS 16
abbrev N_show_portion : List Str := ["one"]
theorem sc_show_portion : FnScope N_show_portion ["one"] (defScope s_show_portion) := ⟨rfl, rfl, rfl, by decide +kernel, rfl, by decide +kernel, by decide +kernel⟩
abbrev s__law_cell : Stmt := topS 18
abbrev N__law_cell : List Str := ["script", "k", "number", "cell"]
theorem sc__law_cell : FnScope N__law_cell ["script", "k"] (defScope s__law_cell) := ⟨rfl, rfl, rfl, by decide +kernel, rfl, by decide +kernel, by decide +kernel⟩
abbrev s__law_whole : Stmt := topS 19
abbrev N__law_whole : List Str := ["found"]
theorem sc__law_whole : FnScope N__law_whole ["found"] (defScope s__law_whole) := ⟨rfl, rfl, rfl, by decide +kernel, rfl, by decide +kernel, by decide +kernel⟩
abbrev s__law_common : Stmt := topS 20
abbrev N__law_common : List Str := ["one", "other"]
theorem sc__law_common : FnScope N__law_common ["one", "other"] (defScope s__law_common) := ⟨rfl, rfl, rfl, by decide +kernel, rfl, by decide +kernel, by decide +kernel⟩
abbrev s__law_number_due : Stmt := topS 21
abbrev N__law_number_due : List Str := ["word", "figures", "number", "sign"]
theorem sc__law_number_due : FnScope N__law_number_due ["word"] (defScope s__law_number_due) := ⟨rfl, rfl, rfl, by decide +kernel, rfl, by decide +kernel, by decide +kernel⟩
abbrev s__law_cut_at : Stmt := topS 22
abbrev N__law_cut_at : List Str := ["text", "mark", "words", "sign"]
theorem sc__law_cut_at : FnScope N__law_cut_at ["text", "mark"] (defScope s__law_cut_at) := ⟨rfl, rfl, rfl, by decide +kernel, rfl, by decide +kernel, by decide +kernel⟩
abbrev s__law_written : Stmt := topS 23
abbrev N__law_written : List Str := ["cell"]
theorem sc__law_written : FnScope N__law_written ["cell"] (defScope s__law_written) := ⟨rfl, rfl, rfl, by decide +kernel, rfl, by decide +kernel, by decide +kernel⟩
abbrev s__law_two : Stmt := topS 24
abbrev N__law_two : List Str := ["cell"]
theorem sc__law_two : FnScope N__law_two ["cell"] (defScope s__law_two) := ⟨rfl, rfl, rfl, by decide +kernel, rfl, by decide +kernel, by decide +kernel⟩
abbrev s__law_other : Stmt := topS 25
abbrev N__law_other : List Str := ["cell", "some"]
theorem sc__law_other : FnScope N__law_other ["cell"] (defScope s__law_other) := ⟨rfl, rfl, rfl, by decide +kernel, rfl, by decide +kernel, by decide +kernel⟩
abbrev s__law_thing : Stmt := topS 26
abbrev N__law_thing : List Str := ["cell", "kind", "word", "at"]
theorem sc__law_thing : FnScope N__law_thing ["cell"] (defScope s__law_thing) := ⟨rfl, rfl, rfl, by decide +kernel, rfl, by decide +kernel, by decide +kernel⟩
abbrev s__law_portion_due : Stmt := topS 27
abbrev N__law_portion_due : List Str := ["text", "words", "top", "bottom"]
theorem sc__law_portion_due : FnScope N__law_portion_due ["text"] (defScope s__law_portion_due) := ⟨rfl, rfl, rfl, by decide +kernel, rfl, by decide +kernel, by decide +kernel⟩
abbrev s__law_kind : Stmt := topS 28
abbrev N__law_kind : List Str := ["e"]
theorem sc__law_kind : FnScope N__law_kind ["e"] (defScope s__law_kind) := ⟨rfl, rfl, rfl, by decide +kernel, rfl, by decide +kernel, by decide +kernel⟩
abbrev s__law_number_word : Stmt := topS 29
abbrev N__law_number_word : List Str := ["thing", "error", "found", "e"]
theorem sc__law_number_word : FnScope N__law_number_word ["thing"] (defScope s__law_number_word) := ⟨rfl, rfl, rfl, by decide +kernel, rfl, by decide +kernel, by decide +kernel⟩
abbrev s__law_portion_word : Stmt := topS 30
abbrev N__law_portion_word : List Str := ["thing", "error", "found", "e"]
theorem sc__law_portion_word : FnScope N__law_portion_word ["thing"] (defScope s__law_portion_word) := ⟨rfl, rfl, rfl, by decide +kernel, rfl, by decide +kernel, by decide +kernel⟩
abbrev s__law_right : Stmt := topS 31
abbrev N__law_right : List Str := ["thing", "number", "both", "told", "shown"]
theorem sc__law_right : FnScope N__law_right ["thing"] (defScope s__law_right) := ⟨rfl, rfl, rfl, by decide +kernel, rfl, by decide +kernel, by decide +kernel⟩
abbrev s_law : Stmt := topS 32
abbrev N_law : List Str := ["script", "k"]
theorem sc_law : FnScope N_law ["script"] (defScope s_law) := ⟨rfl, rfl, rfl, by decide +kernel, rfl, by decide +kernel, by decide +kernel⟩
section
variable {P : Program} {w : World} {K : PySem.W.Frag} {mg : Str → Option Value} {base : Heap} {C_Crowded : Addr} {C_Flat : Addr} {C_GlideError : Addr} {C_NoName : Addr} {C_NoNumber : Addr} {C_NoRow : Addr} {C_NoText : Addr} {C_Past : Addr} {C_Twice : Addr}
theorem ok_divisor {f : Addr} {fd : FuncData} (F : Fun K "divisor" "divisor" s_divisor f fd) (T : Txt K mg C_Crowded C_Flat C_GlideError C_NoName C_NoNumber C_NoRow C_NoText C_Past C_Twice) : FnOk P w K mg base (L2.CX P w) 1 f fd ["one", "other"] (spD K mg 2 F_divisor) :=
  fnOk_mk F sc_divisor fun cdv A outer s H E hr => pbd_cons (psd_set (i := 0) sc_divisor.nd rfl (Or.inl rfl) (ped_callB calld_abs (by rfl) T.z_abs bb_abs (pad_cons (ped_var (i := 0) rfl (Or.inl rfl)) (pad_nil)))) (pbd_cons (psd_set (i := 1) sc_divisor.nd rfl (Or.inl rfl) (ped_callB calld_abs (by rfl) T.z_abs bb_abs (pad_cons (ped_var (i := 1) rfl (Or.inl rfl)) (pad_nil)))) (pbd_cons (psd_while (passes_of rfl) (ptd_cmp (opd_gt) (ped_var (i := 1) rfl (Or.inl rfl)) (ped_int) (nomark _)) (pbd_one (psd_par (i := 0) (j := 1) rfl sc_divisor.nd rfl rfl (by decide) rfl rfl (ped_var (i := 1) rfl (Or.inl rfl)) (ped_op opd_mod (ped_var (i := 0) rfl (Or.inl rfl)) (ped_var (i := 1) rfl (Or.inl rfl)))))) (pbd_one (psd_ret (ped_var (i := 0) rfl (Or.inl rfl))))))
theorem ok_read_number {f : Addr} {fd : FuncData} (F : Fun K "read_number" "read_number" s_read_number f fd) (T : Txt K mg C_Crowded C_Flat C_GlideError C_NoName C_NoNumber C_NoRow C_NoText C_Past C_Twice) : FnOk P w K mg base (L2.CX P w) 1 f fd ["text"] (spD K mg 1 F_read_number) :=
  fnOk_mk F sc_read_number fun cdv A outer s H E hr => pbd_cons (psd_if (ptd_not (ptd_val (ped_callB calld_isi (by rfl) T.z_isinstance bb_isinstance (pad_cons (ped_var (i := 0) rfl (Or.inl rfl)) (pad_cons (ped_bltn (v := .ty "str") rfl T.z_str bb_str rfl (fun _ => .ty _)) (pad_nil)))) (by intro _; rfl))) (pbd_one (psd_raise rfl (takes_of rfl rfl rfl rfl) PySem.F.excBase_ValueError T.x_NoText T.g_NoText T.kc_NoText (raises_own T.b_NoText T.t_NoText) rfl)) (pbd_nil)) (pbd_cons (psd_set (i := 1) sc_read_number.nd rfl (Or.inl rfl) (ped_var (i := 0) rfl (Or.inl rfl))) (pbd_cons (psd_if (ptd_cmp (opd_eq hr.units) (ped_cut (ped_var (i := 0) rfl (Or.inl rfl)) (pod_none) (pod_some (ped_int))) (ped_str) (nomark _)) (pbd_one (psd_set (i := 1) sc_read_number.nd rfl (Or.inl rfl) (ped_cut (ped_var (i := 0) rfl (Or.inl rfl)) (pod_some (ped_int)) (pod_none)))) (pbd_nil)) (pbd_cons (psd_if (pwd_pt (pwd_or (ptd_cmp (opd_lt hr.units0) (ped_callB calld_len (by rfl) T.z_len bb_len (pad_cons (ped_var (i := 1) rfl (Or.inl rfl)) (pad_nil))) (ped_int) (nomark _)) (pwd_or1 (ptd_cmp (opd_gt) (ped_callB calld_len (by rfl) T.z_len bb_len (pad_cons (ped_var (i := 1) rfl (Or.inl rfl)) (pad_nil))) (ped_int) (nomark _))))) (pbd_one (psd_raise rfl (takes_of rfl rfl rfl rfl) PySem.F.excBase_ValueError T.x_NoText T.g_NoText T.kc_NoText (raises_own T.b_NoText T.t_NoText) rfl)) (pbd_nil)) (pbd_cons (psd_if (ptd_not (ptd_val (ped_callB (calld_all rfl) (by rfl) T.z_all bb_all (pad_cons (ped_new (pfd_lc rfl sc_read_number.nd (lcd_S (own := [("sign", 2)]) (ped_var (i := 1) rfl (Or.inl rfl)) (blkOk_by (own := [("sign", 2)]) (N := N_read_number) (sc := defScope s_read_number) (by decide +kernel)) (fun _ _ _ _ _ => pgv_name (i := 2) sc_read_number.nd rfl (Or.inl rfl) (by decide)) (fun _ _ _ _ _ => ptsd_nil) (fun _ _ _ _ _ => ped_cmp (opd_in (hr_in hr)) (ped_var (i := 2) rfl (Or.inl rfl)) ((T.k_FIGURES).ped rfl) (by rfl))))) (pad_nil))) (by intro _; rfl))) (pbd_one (psd_raise rfl (takes_of rfl rfl rfl rfl) PySem.F.excBase_ValueError T.x_NoText T.g_NoText T.kc_NoText (raises_own T.b_NoText T.t_NoText) rfl)) (pbd_nil)) (pbd_cons (psd_if (pwd_pt (pwd_and (ptd_cmp (opd_eq hr.units) (ped_ix (ped_var (i := 1) rfl (Or.inl rfl)) (ped_int) (fun _ _ => rfl)) (ped_str) (nomark _)) (pwd_and1 (ptd_cmp (opd_ne hr.units) (ped_var (i := 0) rfl (Or.inl rfl)) (ped_str) (nomark _))))) (pbd_one (psd_raise rfl (takes_of rfl rfl rfl rfl) PySem.F.excBase_ValueError T.x_NoText T.g_NoText T.kc_NoText (raises_own T.b_NoText T.t_NoText) rfl)) (pbd_nil)) (pbd_one (psd_ret (ped_callT calld_intS (by rfl) T.z_int bb_int (pad_cons (ped_var (i := 0) rfl (Or.inl rfl)) (pad_nil))))))))))
theorem ok_read_portion {f : Addr} {fd : FuncData} (F : Fun K "read_portion" "read_portion" s_read_portion f fd) (T : Txt K mg C_Crowded C_Flat C_GlideError C_NoName C_NoNumber C_NoRow C_NoText C_Past C_Twice) (h_read_number : FnD P w K mg base 1 "read_number" ["text"] F_read_number) (h_divisor : FnD P w K mg base 1 "divisor" ["one", "other"] F_divisor) : FnOk P w K mg base (L2.CX P w) 2 f fd ["text"] (spD K mg 1 F_read_portion) :=
  fnOk_mk F sc_read_portion fun cdv A outer s H E hr => pbd_cons (psd_if (ptd_not (ptd_val (ped_callB calld_isi (by rfl) T.z_isinstance bb_isinstance (pad_cons (ped_var (i := 0) rfl (Or.inl rfl)) (pad_cons (ped_bltn (v := .ty "str") rfl T.z_str bb_str rfl (fun _ => .ty _)) (pad_nil)))) (by intro _; rfl))) (pbd_one (psd_raise rfl (takes_of rfl rfl rfl rfl) PySem.F.excBase_ValueError T.x_NoText T.g_NoText T.kc_NoText (raises_own T.b_NoText T.t_NoText) rfl)) (pbd_nil)) (pbd_cons (psd_set (i := 1) sc_read_portion.nd rfl (Or.inl rfl) (ped_new (pfd_split (ped_var (i := 0) rfl (Or.inl rfl)) (ped_str)))) (pbd_cons (psd_if (ptd_cmp (opd_gt) (ped_callB calld_len (by rfl) T.z_len bb_len (pad_cons (ped_var (i := 1) rfl (Or.inl rfl)) (pad_nil))) (ped_int) (nomark _)) (pbd_one (psd_raise rfl (takes_of rfl rfl rfl rfl) PySem.F.excBase_ValueError T.x_NoText T.g_NoText T.kc_NoText (raises_own T.b_NoText T.t_NoText) rfl)) (pbd_nil)) (pbd_cons (psd_if (ptd_cmp (opd_eq hr.units) (ped_callB calld_len (by rfl) T.z_len bb_len (pad_cons (ped_var (i := 1) rfl (Or.inl rfl)) (pad_nil))) (ped_int) (nomark _)) (pbd_one (psd_ret (ped_tup (pad_cons (ped_call h_read_number (hr.mono (by decide)) (takes_of rfl rfl rfl rfl) (by rfl) (pad_cons (ped_var (i := 0) rfl (Or.inl rfl)) (pad_nil)) (aCons_len aNil_len)) (pad_cons (ped_int) (pad_nil)))))) (pbd_nil)) (pbd_cons (psd_set (i := 2) sc_read_portion.nd rfl (Or.inl rfl) (ped_call h_read_number (hr.mono (by decide)) (takes_of rfl rfl rfl rfl) (by rfl) (pad_cons (ped_ix (ped_var (i := 1) rfl (Or.inl rfl)) (ped_int) (fun _ _ => rfl)) (pad_nil)) (aCons_len aNil_len))) (pbd_cons (psd_set (i := 3) sc_read_portion.nd rfl (Or.inl rfl) (ped_call h_read_number (hr.mono (by decide)) (takes_of rfl rfl rfl rfl) (by rfl) (pad_cons (ped_ix (ped_var (i := 1) rfl (Or.inl rfl)) (ped_int) (fun _ _ => rfl)) (pad_nil)) (aCons_len aNil_len))) (pbd_cons (psd_if (pwd_pt (pwd_or (ptd_cmp (opd_lt hr.units0) (ped_var (i := 3) rfl (Or.inl rfl)) (ped_int) (nomark _)) (pwd_or1 (ptd_cmp (opd_ne hr.units) (ped_call h_divisor (hr.mono (by decide)) (takes_of rfl rfl rfl rfl) (by rfl) (pad_cons (ped_var (i := 2) rfl (Or.inl rfl)) (pad_cons (ped_var (i := 3) rfl (Or.inl rfl)) (pad_nil))) (aCons_len (aCons_len aNil_len))) (ped_int) (nomark _))))) (pbd_one (psd_raise rfl (takes_of rfl rfl rfl rfl) PySem.F.excBase_ValueError T.x_NoText T.g_NoText T.kc_NoText (raises_own T.b_NoText T.t_NoText) rfl)) (pbd_nil)) (pbd_one (psd_ret (ped_tup (pad_cons (ped_var (i := 2) rfl (Or.inl rfl)) (pad_cons (ped_var (i := 3) rfl (Or.inl rfl)) (pad_nil))))))))))))
theorem ok_show_portion {f : Addr} {fd : FuncData} (F : Fun K "show_portion" "show_portion" s_show_portion f fd) (T : Txt K mg C_Crowded C_Flat C_GlideError C_NoName C_NoNumber C_NoRow C_NoText C_Past C_Twice) : FnOk P w K mg base (L2.CX P w) 1 f fd ["one"] (spD K mg 1 F_show_portion) :=
  fnOk_mk F sc_show_portion fun cdv A outer s H E hr => pbd_cons (psd_if (ptd_cmp (opd_eq hr.units) (ped_ix (ped_var (i := 0) rfl (Or.inl rfl)) (ped_int) (fun _ _ => rfl)) (ped_int) (nomark _)) (pbd_one (psd_ret (ped_callT calld_str (by rfl) T.z_str bb_str (pad_cons (ped_ix (ped_var (i := 0) rfl (Or.inl rfl)) (ped_int) (fun _ _ => rfl)) (pad_nil))))) (pbd_nil)) (pbd_one (psd_ret (ped_op opd_add (ped_op opd_add (ped_callT calld_str (by rfl) T.z_str bb_str (pad_cons (ped_ix (ped_var (i := 0) rfl (Or.inl rfl)) (ped_int) (fun _ _ => rfl)) (pad_nil))) (ped_str)) (ped_callT calld_str (by rfl) T.z_str bb_str (pad_cons (ped_ix (ped_var (i := 0) rfl (Or.inl rfl)) (ped_int) (fun _ _ => rfl)) (pad_nil))))))
theorem ok__law_cell {f : Addr} {fd : FuncData} (F : Fun K "_law_cell" "_law_cell" s__law_cell f fd) (T : Txt K mg C_Crowded C_Flat C_GlideError C_NoName C_NoNumber C_NoRow C_NoText C_Past C_Twice) : FnOk P w K mg base (L2.CX P w) 1 f fd ["script", "k"] (spD K mg 2 F__law_cell) :=
  fnOk_mk F sc__law_cell fun cdv A outer s H E hr => pbd_cons (psd_if (ptd_cmp (opd_lt hr.units0) (ped_var (i := 1) rfl (Or.inl rfl)) (ped_callB calld_len (by rfl) T.z_len bb_len (pad_cons (ped_var (i := 0) rfl (Or.inl rfl)) (pad_nil))) (nomark _)) (pbd_one (psd_ret (ped_op opd_mod (ped_ix (ped_var (i := 0) rfl (Or.inl rfl)) (ped_var (i := 1) rfl (Or.inl rfl)) (fun _ _ => rfl)) (ped_const (ped_op opd_pow (ped_int) (ped_int)) (fun _ => rfl))))) (pbd_nil)) (pbd_cons (psd_set (i := 2) sc__law_cell.nd rfl (Or.inl rfl) (ped_op opd_add (ped_op opd_mul (ped_var (i := 1) rfl (Or.inl rfl)) (ped_int)) (ped_int))) (pbd_cons (psd_forL (passes_of rfl) rfl (ped_new (pfd_cut (ped_var (i := 0) rfl (Or.inl rfl)) (pod_none) (pod_some (ped_int)))) (pgd_name (i := 3) sc__law_cell.nd rfl (Or.inl rfl)) (pbd_one (psd_set (i := 2) sc__law_cell.nd rfl (Or.inl rfl) (ped_op opd_add (ped_op opd_mul (ped_var (i := 2) rfl (Or.inl rfl)) (ped_int)) (ped_op opd_mod (ped_var (i := 3) rfl (Or.inl rfl)) (ped_int)))))) (pbd_cons (psd_set (i := 2) sc__law_cell.nd rfl (Or.inl rfl) (ped_op opd_mod (ped_var (i := 2) rfl (Or.inl rfl)) (ped_int))) (pbd_one (psd_ret (ped_op opd_mod (ped_op opd_mul (ped_var (i := 2) rfl (Or.inl rfl)) (ped_var (i := 2) rfl (Or.inl rfl))) (ped_int)))))))
theorem ok__law_whole {f : Addr} {fd : FuncData} (F : Fun K "_law_whole" "_law_whole" s__law_whole f fd) (T : Txt K mg C_Crowded C_Flat C_GlideError C_NoName C_NoNumber C_NoRow C_NoText C_Past C_Twice) : FnOk P w K mg base (L2.CX P w) 1 f fd ["found"] (spD K mg 1 F__law_whole) :=
  fnOk_mk F sc__law_whole fun cdv A outer s H E hr => pbd_one (psd_ret (ped_and (ped_callB calld_isi (by rfl) T.z_isinstance bb_isinstance (pad_cons (ped_var (i := 0) rfl (Or.inl rfl)) (pad_cons (ped_bltn (v := .ty "int") rfl T.z_int bb_int rfl (fun _ => .ty _)) (pad_nil)))) (ped_one (ped_not (ped_callB calld_isi (by rfl) T.z_isinstance bb_isinstance (pad_cons (ped_var (i := 0) rfl (Or.inl rfl)) (pad_cons (ped_bltn (v := .ty "bool") rfl T.z_bool bb_bool rfl (fun _ => .ty _)) (pad_nil))))))))
theorem ok__law_common {f : Addr} {fd : FuncData} (F : Fun K "_law_common" "_law_common" s__law_common f fd) (T : Txt K mg C_Crowded C_Flat C_GlideError C_NoName C_NoNumber C_NoRow C_NoText C_Past C_Twice) : FnOk P w K mg base (L2.CX P w) 1 f fd ["one", "other"] (spD K mg 2 F__law_common) :=
  fnOk_mk F sc__law_common fun cdv A outer s H E hr => pbd_cons (psd_set (i := 0) sc__law_common.nd rfl (Or.inl rfl) (ped_callB calld_abs (by rfl) T.z_abs bb_abs (pad_cons (ped_var (i := 0) rfl (Or.inl rfl)) (pad_nil)))) (pbd_cons (psd_set (i := 1) sc__law_common.nd rfl (Or.inl rfl) (ped_callB calld_abs (by rfl) T.z_abs bb_abs (pad_cons (ped_var (i := 1) rfl (Or.inl rfl)) (pad_nil)))) (pbd_cons (psd_while (passes_of rfl) (ptd_cmp (opd_gt) (ped_var (i := 0) rfl (Or.inl rfl)) (ped_int) (nomark _)) (pbd_one (psd_par (i := 0) (j := 1) rfl sc__law_common.nd rfl rfl (by decide) rfl rfl (ped_op opd_mod (ped_var (i := 1) rfl (Or.inl rfl)) (ped_var (i := 0) rfl (Or.inl rfl))) (ped_var (i := 0) rfl (Or.inl rfl))))) (pbd_one (psd_ret (ped_var (i := 1) rfl (Or.inl rfl))))))
theorem ok__law_number_due {f : Addr} {fd : FuncData} (F : Fun K "_law_number_due" "_law_number_due" s__law_number_due f fd) (T : Txt K mg C_Crowded C_Flat C_GlideError C_NoName C_NoNumber C_NoRow C_NoText C_Past C_Twice) : FnOk P w K mg base (L2.CX P w) 1 f fd ["word"] (spD K mg 1 F__law_number_due) :=
  fnOk_mk F sc__law_number_due fun cdv A outer s H E hr => pbd_cons (psd_set (i := 1) sc__law_number_due.nd rfl (Or.inl rfl) (ped_var (i := 0) rfl (Or.inl rfl))) (pbd_cons (psd_if (ptd_cmp (opd_eq hr.units) (ped_cut (ped_var (i := 0) rfl (Or.inl rfl)) (pod_none) (pod_some (ped_int))) (ped_str) (nomark _)) (pbd_one (psd_set (i := 1) sc__law_number_due.nd rfl (Or.inl rfl) (ped_cut (ped_var (i := 0) rfl (Or.inl rfl)) (pod_some (ped_int)) (pod_none)))) (pbd_nil)) (pbd_cons (psd_if (pwd_pt (pwd_or (ptd_cmp (opd_eq hr.units) (ped_var (i := 1) rfl (Or.inl rfl)) (ped_str) (nomark _)) (pwd_or (ptd_cmp (opd_gt) (ped_callB calld_len (by rfl) T.z_len bb_len (pad_cons (ped_var (i := 1) rfl (Or.inl rfl)) (pad_nil))) (ped_int) (nomark _)) (pwd_or1 (pwd_pt (pwd_and (ptd_cmp (opd_eq hr.units) (ped_ix (ped_var (i := 1) rfl (Or.inl rfl)) (ped_int) (fun _ _ => rfl)) (ped_str) (nomark _)) (pwd_and1 (ptd_cmp (opd_ne hr.units) (ped_var (i := 0) rfl (Or.inl rfl)) (ped_str) (nomark _))))))))) (pbd_one (psd_ret (ped_non))) (pbd_nil)) (pbd_cons (psd_set (i := 2) sc__law_number_due.nd rfl (Or.inl rfl) (ped_int)) (pbd_cons (psd_forS (passes_of rfl) rfl (ped_var (i := 1) rfl (Or.inl rfl)) (pgd_name (i := 3) sc__law_number_due.nd rfl (Or.inl rfl)) (pbd_cons (psd_if (pwd_pt (pwd_or (ptd_cmp (opd_lt hr.units0) (ped_callB calld_ord (by rfl) T.z_ord bb_ord (pad_cons (ped_var (i := 3) rfl (Or.inl rfl)) (pad_nil))) (ped_int) (nomark _)) (pwd_or1 (ptd_cmp (opd_gt) (ped_callB calld_ord (by rfl) T.z_ord bb_ord (pad_cons (ped_var (i := 3) rfl (Or.inl rfl)) (pad_nil))) (ped_int) (nomark _))))) (pbd_one (psd_ret (ped_non))) (pbd_nil)) (pbd_one (psd_set (i := 2) sc__law_number_due.nd rfl (Or.inl rfl) (ped_op opd_sub (ped_op opd_add (ped_op opd_mul (ped_int) (ped_var (i := 2) rfl (Or.inl rfl))) (ped_callB calld_ord (by rfl) T.z_ord bb_ord (pad_cons (ped_var (i := 3) rfl (Or.inl rfl)) (pad_nil)))) (ped_int)))))) (pbd_cons (psd_if (ptd_cmp (opd_eq hr.units) (ped_cut (ped_var (i := 0) rfl (Or.inl rfl)) (pod_none) (pod_some (ped_int))) (ped_str) (nomark _)) (pbd_one (psd_ret (ped_op opd_sub (ped_int) (ped_var (i := 2) rfl (Or.inl rfl))))) (pbd_nil)) (pbd_one (psd_ret (ped_var (i := 2) rfl (Or.inl rfl)))))))))
theorem ok__law_cut_at {f : Addr} {fd : FuncData} (F : Fun K "_law_cut_at" "_law_cut_at" s__law_cut_at f fd) (T : Txt K mg C_Crowded C_Flat C_GlideError C_NoName C_NoNumber C_NoRow C_NoText C_Past C_Twice) : FnOk P w K mg base (L2.CX P w) 1 f fd ["text", "mark"] (spD K mg 2 F__law_cut_at) :=
  fnOk_mk F sc__law_cut_at fun cdv A outer s H E hr => pbd_cons (psd_own (i := 2) sc__law_cut_at.nd rfl (Or.inl rfl) (pfd_lst (pad_cons (ped_str) (pad_nil)))) (pbd_cons (psd_forS (passes_of rfl) rfl (ped_var (i := 0) rfl (Or.inl rfl)) (pgd_name (i := 3) sc__law_cut_at.nd rfl (Or.inl rfl)) (pbd_one (psd_if (ptd_cmp (opd_eq hr.units) (ped_var (i := 3) rfl (Or.inl rfl)) (ped_var (i := 1) rfl (Or.inl rfl)) (nomark _)) (pbd_one (psd_app (i := 2) rfl (Or.inl rfl) (ped_str))) (pbd_one (psd_put (i := 2) rfl (Or.inl rfl) (ped_const (ped_neg (ped_int)) (fun _ => rfl)) (ped_op opd_add (ped_ownAt (i := 2) rfl (Or.inl rfl) (ped_const (ped_neg (ped_int)) (fun _ => rfl)) (fun _ _ => rfl)) (ped_var (i := 3) rfl (Or.inl rfl)))))))) (pbd_one (psd_frz 2 (psd_ret (ped_var (i := 2) rfl (Or.inl rfl))))))
theorem ok__law_written {f : Addr} {fd : FuncData} (F : Fun K "_law_written" "_law_written" s__law_written f fd) (T : Txt K mg C_Crowded C_Flat C_GlideError C_NoName C_NoNumber C_NoRow C_NoText C_Past C_Twice) : FnOk P w K mg base (L2.CX P w) 1 f fd ["cell"] (spD K mg 1 F__law_written) :=
  fnOk_mk F sc__law_written fun cdv A outer s H E hr => pbd_cons (psd_if (ptd_cmp (opd_eq hr.units) (ped_op opd_mod (ped_var (i := 0) rfl (Or.inl rfl)) (ped_int)) (ped_int) (nomark _)) (pbd_one (psd_ret (ped_op opd_add (ped_str) (ped_callT calld_str (by rfl) T.z_str bb_str (pad_cons (ped_op opd_mod (ped_op opd_div (ped_var (i := 0) rfl (Or.inl rfl)) (ped_int)) (ped_const (ped_op opd_pow (ped_int) (ped_int)) (fun _ => rfl))) (pad_nil)))))) (pbd_nil)) (pbd_one (psd_ret (ped_callT calld_str (by rfl) T.z_str bb_str (pad_cons (ped_op opd_mod (ped_op opd_div (ped_var (i := 0) rfl (Or.inl rfl)) (ped_int)) (ped_const (ped_op opd_pow (ped_int) (ped_int)) (fun _ => rfl))) (pad_nil)))))
theorem ok__law_two {f : Addr} {fd : FuncData} (F : Fun K "_law_two" "_law_two" s__law_two f fd) (T : Txt K mg C_Crowded C_Flat C_GlideError C_NoName C_NoNumber C_NoRow C_NoText C_Past C_Twice) : FnOk P w K mg base (L2.CX P w) 1 f fd ["cell"] (spD K mg 1 F__law_two) :=
  fnOk_mk F sc__law_two fun cdv A outer s H E hr => pbd_cons (psd_if (ptd_cmp (opd_eq hr.units) (ped_op opd_mod (ped_var (i := 0) rfl (Or.inl rfl)) (ped_int)) (ped_int) (nomark _)) (pbd_one (psd_ret (ped_op opd_add (ped_op opd_add (ped_callT calld_str (by rfl) T.z_str bb_str (pad_cons (ped_op opd_sub (ped_op opd_mod (ped_op opd_div (ped_var (i := 0) rfl (Or.inl rfl)) (ped_int)) (ped_int)) (ped_int)) (pad_nil))) (ped_str)) (ped_callT calld_str (by rfl) T.z_str bb_str (pad_cons (ped_op opd_mod (ped_op opd_div (ped_var (i := 0) rfl (Or.inl rfl)) (ped_int)) (ped_int)) (pad_nil)))))) (pbd_nil)) (pbd_one (psd_ret (ped_op opd_add (ped_op opd_add (ped_callT calld_str (by rfl) T.z_str bb_str (pad_cons (ped_op opd_sub (ped_op opd_mod (ped_op opd_div (ped_var (i := 0) rfl (Or.inl rfl)) (ped_int)) (ped_const (ped_op opd_pow (ped_int) (ped_int)) (fun _ => rfl))) (ped_const (ped_op opd_mul (ped_int) (ped_const (ped_op opd_pow (ped_int) (ped_int)) (fun _ => rfl))) (fun _ => rfl))) (pad_nil))) (ped_str)) (ped_callT calld_str (by rfl) T.z_str bb_str (pad_cons (ped_op opd_mod (ped_op opd_div (ped_var (i := 0) rfl (Or.inl rfl)) (ped_int)) (ped_const (ped_op opd_pow (ped_int) (ped_int)) (fun _ => rfl))) (pad_nil))))))
theorem ok__law_other {f : Addr} {fd : FuncData} (F : Fun K "_law_other" "_law_other" s__law_other f fd) (T : Txt K mg C_Crowded C_Flat C_GlideError C_NoName C_NoNumber C_NoRow C_NoText C_Past C_Twice) : FnOk P w K mg base (L2.CX P w) 1 f fd ["cell"] (spD K mg 1 F__law_other) :=
  fnOk_mk F sc__law_other fun cdv A outer s H E hr => pbd_cons (psd_set (i := 1) sc__law_other.nd rfl (Or.inl rfl) (ped_new (pfd_lst (pad_cons (ped_non) (pad_cons (ped_int) (pad_cons (ped_bl) (pad_cons (ped_new (pfd_lst (pad_cons (ped_str) (pad_nil)))) (pad_cons (ped_tup (pad_cons (ped_str) (pad_nil))) (pad_cons (ped_dnew) (pad_cons (ped_new (pfd_lst (pad_nil))) (pad_cons (ped_op opd_sub (ped_int) (ped_op opd_mod (ped_var (i := 0) rfl (Or.inl rfl)) (ped_const (ped_op opd_pow (ped_int) (ped_int)) (fun _ => rfl)))) (pad_cons (ped_new (pfd_lst (pad_cons (ped_int) (pad_nil)))) (pad_cons (ped_tup (pad_cons (ped_int) (pad_cons (ped_int) (pad_nil)))) (pad_nil)))))))))))))) (pbd_one (psd_ret (ped_ix (ped_var (i := 1) rfl (Or.inl rfl)) (ped_op opd_mod (ped_var (i := 0) rfl (Or.inl rfl)) (ped_int)) (fun _ _ => rfl))))
theorem ok__law_thing {f : Addr} {fd : FuncData} (F : Fun K "_law_thing" "_law_thing" s__law_thing f fd) (T : Txt K mg C_Crowded C_Flat C_GlideError C_NoName C_NoNumber C_NoRow C_NoText C_Past C_Twice) (h__law_written : FnD P w K mg base 1 "_law_written" ["cell"] F__law_written) (h__law_two : FnD P w K mg base 1 "_law_two" ["cell"] F__law_two) (h__law_other : FnD P w K mg base 1 "_law_other" ["cell"] F__law_other) : FnOk P w K mg base (L2.CX P w) 2 f fd ["cell"] (spD K mg 1 F__law_thing) :=
  fnOk_mk F sc__law_thing fun cdv A outer s H E hr => pbd_cons (psd_set (i := 1) sc__law_thing.nd rfl (Or.inl rfl) (ped_op opd_mod (ped_var (i := 0) rfl (Or.inl rfl)) (ped_int))) (pbd_cons (psd_set (i := 0) sc__law_thing.nd rfl (Or.inl rfl) (ped_op opd_div (ped_var (i := 0) rfl (Or.inl rfl)) (ped_int))) (pbd_cons (psd_set (i := 2) sc__law_thing.nd rfl (Or.inl rfl) (ped_call h__law_written (hr.mono (by decide)) (takes_of rfl rfl rfl rfl) (by rfl) (pad_cons (ped_var (i := 0) rfl (Or.inl rfl)) (pad_nil)) (aCons_len aNil_len))) (pbd_cons (psd_if (pwd_pt (pwd_or (ptd_cmp (opd_eq hr.units) (ped_var (i := 1) rfl (Or.inl rfl)) (ped_int) (nomark _)) (pwd_or1 (ptd_cmp (opd_eq hr.units) (ped_var (i := 1) rfl (Or.inl rfl)) (ped_int) (nomark _))))) (pbd_one (psd_set (i := 2) sc__law_thing.nd rfl (Or.inl rfl) (ped_call h__law_two (hr.mono (by decide)) (takes_of rfl rfl rfl rfl) (by rfl) (pad_cons (ped_var (i := 0) rfl (Or.inl rfl)) (pad_nil)) (aCons_len aNil_len)))) (pbd_nil)) (pbd_cons (psd_if (pwd_pt (pwd_or (ptd_cmp (opd_eq hr.units) (ped_var (i := 1) rfl (Or.inl rfl)) (ped_int) (nomark _)) (pwd_or1 (ptd_cmp (opd_eq hr.units) (ped_var (i := 1) rfl (Or.inl rfl)) (ped_int) (nomark _))))) (pbd_cons (psd_set (i := 3) sc__law_thing.nd rfl (Or.inl rfl) (ped_op opd_mod (ped_op opd_div (ped_var (i := 0) rfl (Or.inl rfl)) (ped_int)) (ped_op opd_add (ped_callB calld_len (by rfl) T.z_len bb_len (pad_cons (ped_var (i := 2) rfl (Or.inl rfl)) (pad_nil))) (ped_int)))) (pbd_one (psd_ret (ped_op opd_add (ped_op opd_add (ped_cut (ped_var (i := 2) rfl (Or.inl rfl)) (pod_none) (pod_some (ped_var (i := 3) rfl (Or.inl rfl)))) (ped_ix (ped_str) (ped_op opd_mod (ped_op opd_div (ped_var (i := 0) rfl (Or.inl rfl)) (ped_int)) (ped_int)) (fun _ _ => rfl))) (ped_cut (ped_var (i := 2) rfl (Or.inl rfl)) (pod_some (ped_var (i := 3) rfl (Or.inl rfl))) (pod_none)))))) (pbd_nil)) (pbd_cons (psd_if (ptd_cmp (opd_eq hr.units) (ped_var (i := 1) rfl (Or.inl rfl)) (ped_int) (nomark _)) (pbd_one (psd_ret (ped_op opd_add (ped_op opd_add (ped_op opd_mulS (ped_str) (ped_op opd_mod (ped_var (i := 0) rfl (Or.inl rfl)) (ped_int))) (ped_op opd_mulS (ped_str) (ped_op opd_mod (ped_op opd_div (ped_var (i := 0) rfl (Or.inl rfl)) (ped_int)) (ped_int)))) (ped_callT calld_str (by rfl) T.z_str bb_str (pad_cons (ped_op opd_mod (ped_op opd_div (ped_var (i := 0) rfl (Or.inl rfl)) (ped_int)) (ped_const (ped_op opd_pow (ped_int) (ped_int)) (fun _ => rfl))) (pad_nil)))))) (pbd_nil)) (pbd_cons (psd_if (ptd_cmp (opd_eq hr.units) (ped_var (i := 1) rfl (Or.inl rfl)) (ped_int) (nomark _)) (pbd_one (psd_ret (ped_op opd_add (ped_op opd_add (ped_op opd_mulS (ped_str) (ped_op opd_mod (ped_var (i := 0) rfl (Or.inl rfl)) (ped_int))) (ped_callT calld_str (by rfl) T.z_str bb_str (pad_cons (ped_op opd_add (ped_int) (ped_op opd_mod (ped_op opd_div (ped_var (i := 0) rfl (Or.inl rfl)) (ped_int)) (ped_int))) (pad_nil)))) (ped_op opd_mulS (ped_str) (ped_op opd_add (ped_int) (ped_op opd_mod (ped_op opd_div (ped_var (i := 0) rfl (Or.inl rfl)) (ped_int)) (ped_int))))))) (pbd_nil)) (pbd_cons (psd_if (ptd_cmp (opd_eq hr.units) (ped_var (i := 1) rfl (Or.inl rfl)) (ped_int) (nomark _)) (pbd_one (psd_ret (ped_call h__law_other (hr.mono (by decide)) (takes_of rfl rfl rfl rfl) (by rfl) (pad_cons (ped_var (i := 0) rfl (Or.inl rfl)) (pad_nil)) (aCons_len aNil_len)))) (pbd_nil)) (pbd_one (psd_ret (ped_var (i := 2) rfl (Or.inl rfl)))))))))))
theorem ok__law_portion_due {f : Addr} {fd : FuncData} (F : Fun K "_law_portion_due" "_law_portion_due" s__law_portion_due f fd) (T : Txt K mg C_Crowded C_Flat C_GlideError C_NoName C_NoNumber C_NoRow C_NoText C_Past C_Twice) (h__law_cut_at : FnD P w K mg base 1 "_law_cut_at" ["text", "mark"] F__law_cut_at) (h__law_number_due : FnD P w K mg base 1 "_law_number_due" ["word"] F__law_number_due) (h__law_common : FnD P w K mg base 1 "_law_common" ["one", "other"] F__law_common) : FnOk P w K mg base (L2.CX P w) 2 f fd ["text"] (spD K mg 1 F__law_portion_due) :=
  fnOk_mk F sc__law_portion_due fun cdv A outer s H E hr => pbd_cons (psd_set (i := 1) sc__law_portion_due.nd rfl (Or.inl rfl) (ped_call h__law_cut_at (hr.mono (by decide)) (takes_of rfl rfl rfl rfl) (by rfl) (pad_cons (ped_var (i := 0) rfl (Or.inl rfl)) (pad_cons (ped_str) (pad_nil))) (aCons_len (aCons_len aNil_len)))) (pbd_cons (psd_if (ptd_cmp (opd_gt) (ped_callB calld_len (by rfl) T.z_len bb_len (pad_cons (ped_var (i := 1) rfl (Or.inl rfl)) (pad_nil))) (ped_int) (nomark _)) (pbd_one (psd_ret (ped_non))) (pbd_nil)) (pbd_cons (psd_set (i := 2) sc__law_portion_due.nd rfl (Or.inl rfl) (ped_call h__law_number_due (hr.mono (by decide)) (takes_of rfl rfl rfl rfl) (by rfl) (pad_cons (ped_ix (ped_var (i := 1) rfl (Or.inl rfl)) (ped_int) (fun _ _ => rfl)) (pad_nil)) (aCons_len aNil_len))) (pbd_cons (psd_if (pwd_pt (pwd_or (ptd_cmp (opd_is) (ped_var (i := 2) rfl (Or.inl rfl)) (ped_non) (nomark _)) (pwd_or1 (pwd_pt (pwd_and (ptd_cmp (opd_eq hr.units) (ped_callB calld_len (by rfl) T.z_len bb_len (pad_cons (ped_var (i := 1) rfl (Or.inl rfl)) (pad_nil))) (ped_int) (nomark _)) (pwd_and1 (ptd_cmp (opd_ne hr.units) (ped_ix (ped_var (i := 1) rfl (Or.inl rfl)) (ped_int) (fun _ _ => rfl)) (ped_var (i := 0) rfl (Or.inl rfl)) (nomark _)))))))) (pbd_one (psd_ret (ped_non))) (pbd_nil)) (pbd_cons (psd_if (ptd_cmp (opd_eq hr.units) (ped_callB calld_len (by rfl) T.z_len bb_len (pad_cons (ped_var (i := 1) rfl (Or.inl rfl)) (pad_nil))) (ped_int) (nomark _)) (pbd_one (psd_ret (ped_tup (pad_cons (ped_var (i := 2) rfl (Or.inl rfl)) (pad_cons (ped_int) (pad_nil)))))) (pbd_nil)) (pbd_cons (psd_set (i := 3) sc__law_portion_due.nd rfl (Or.inl rfl) (ped_call h__law_number_due (hr.mono (by decide)) (takes_of rfl rfl rfl rfl) (by rfl) (pad_cons (ped_ix (ped_var (i := 1) rfl (Or.inl rfl)) (ped_int) (fun _ _ => rfl)) (pad_nil)) (aCons_len aNil_len))) (pbd_cons (psd_if (pwd_pt (pwd_or (ptd_cmp (opd_is) (ped_var (i := 3) rfl (Or.inl rfl)) (ped_non) (nomark _)) (pwd_or (ptd_cmp (opd_lt hr.units0) (ped_var (i := 3) rfl (Or.inl rfl)) (ped_int) (nomark _)) (pwd_or1 (ptd_cmp (opd_ne hr.units) (ped_call h__law_common (hr.mono (by decide)) (takes_of rfl rfl rfl rfl) (by rfl) (pad_cons (ped_var (i := 2) rfl (Or.inl rfl)) (pad_cons (ped_var (i := 3) rfl (Or.inl rfl)) (pad_nil))) (aCons_len (aCons_len aNil_len))) (ped_int) (nomark _)))))) (pbd_one (psd_ret (ped_non))) (pbd_nil)) (pbd_one (psd_ret (ped_tup (pad_cons (ped_var (i := 2) rfl (Or.inl rfl)) (pad_cons (ped_var (i := 3) rfl (Or.inl rfl)) (pad_nil))))))))))))
theorem ok__law_kind {f : Addr} {fd : FuncData} (F : Fun K "_law_kind" "_law_kind" s__law_kind f fd) (T : Txt K mg C_Crowded C_Flat C_GlideError C_NoName C_NoNumber C_NoRow C_NoText C_Past C_Twice) : FnOk P w K mg base (L2.CX P w) 1 f fd ["e"] (spD K mg 1 F__law_kind) :=
  fnOk_mk F sc__law_kind fun cdv A outer s H E hr => pbd_cons (psd_if (pwd_pt (pwd_or (ptd_not (ptd_val (ped_callB (calld_isX (exh T)) (by rfl) T.z_isinstance bb_isinstance (pad_cons (ped_var (i := 0) rfl (Or.inl rfl)) (pad_cons (ped_bltn (v := .ty "ValueError") rfl T.z_ValueError bb_ValueError rfl (fun _ => .ty _)) (pad_nil)))) (by intro _; rfl))) (pwd_or1 (ptd_not (ptd_val (ped_callB (calld_isX (exh T)) (by rfl) T.z_isinstance bb_isinstance (pad_cons (ped_var (i := 0) rfl (Or.inl rfl)) (pad_cons (ped_glob (v := .ref C_NoText) rfl T.g_NoText rfl (fun _ => .cls T.g_NoText)) (pad_nil)))) (by intro _; rfl)))))) (pbd_one (psd_ret (ped_str))) (pbd_nil)) (pbd_cons (psd_if (ptd_val (ped_callB (calld_isX (exh T)) (by rfl) T.z_isinstance bb_isinstance (pad_cons (ped_var (i := 0) rfl (Or.inl rfl)) (pad_cons (ped_tup (pad_cons (ped_glob (v := .ref C_NoNumber) rfl T.g_NoNumber rfl (fun _ => .cls T.g_NoNumber)) (pad_cons (ped_glob (v := .ref C_Flat) rfl T.g_Flat rfl (fun _ => .cls T.g_Flat)) (pad_cons (ped_glob (v := .ref C_Crowded) rfl T.g_Crowded rfl (fun _ => .cls T.g_Crowded)) (pad_cons (ped_glob (v := .ref C_NoName) rfl T.g_NoName rfl (fun _ => .cls T.g_NoName)) (pad_cons (ped_glob (v := .ref C_Twice) rfl T.g_Twice rfl (fun _ => .cls T.g_Twice)) (pad_cons (ped_glob (v := .ref C_Past) rfl T.g_Past rfl (fun _ => .cls T.g_Past)) (pad_cons (ped_glob (v := .ref C_NoRow) rfl T.g_NoRow rfl (fun _ => .cls T.g_NoRow)) (pad_nil))))))))) (pad_nil)))) (by intro _; rfl)) (pbd_one (psd_ret (ped_str))) (pbd_nil)) (pbd_one (psd_ret (ped_str))))
theorem ok__law_number_word {f : Addr} {fd : FuncData} (F : Fun K "_law_number_word" "_law_number_word" s__law_number_word f fd) (T : Txt K mg C_Crowded C_Flat C_GlideError C_NoName C_NoNumber C_NoRow C_NoText C_Past C_Twice) (h_read_number : FnD P w K mg base 1 "read_number" ["text"] F_read_number) (h__law_kind : FnD P w K mg base 1 "_law_kind" ["e"] F__law_kind) : FnOk P w K mg base (L2.CX P w) 2 f fd ["thing"] (spD K mg 1 F__law_number_word) :=
  fnOk_mk F sc__law_number_word fun cdv A outer s H E hr => pbd_cons (psd_set (i := 1) sc__law_number_word.nd rfl (Or.inl rfl) (ped_non)) (pbd_cons (psd_set (i := 2) sc__law_number_word.nd rfl (Or.inl rfl) (ped_non)) (pbd_cons (psd_try (i := 3) (j := 1) (xct T) rfl rfl sc__law_number_word.nd rfl rfl ⟨by rfl, by decide, .inl T.g_GlideError⟩ (Or.inl rfl) rfl (Or.inl rfl) (fun Wn pn xe tk ps => pbd_one (psd_set (i := 2) sc__law_number_word.nd rfl (Or.inl rfl) (ped_call h_read_number (hr.mono (by decide)) tk (by rfl) (pad_cons (ped_var (i := 0) rfl (Or.inl rfl)) (pad_nil)) (aCons_len aNil_len))))) (pbd_cons (psd_if (ptd_cmp (opd_isNot) (ped_var (i := 1) rfl (Or.inl rfl)) (ped_non) (nomark _)) (pbd_one (psd_ret (ped_call h__law_kind (hr.mono (by decide)) (takes_of rfl rfl rfl rfl) (by rfl) (pad_cons (ped_var (i := 1) rfl (Or.inl rfl)) (pad_nil)) (aCons_len aNil_len)))) (pbd_nil)) (pbd_one (psd_ret (ped_new (pfd_lst (pad_cons (ped_str) (pad_cons (ped_var (i := 2) rfl (Or.inl rfl)) (pad_nil))))))))))
theorem ok__law_portion_word {f : Addr} {fd : FuncData} (F : Fun K "_law_portion_word" "_law_portion_word" s__law_portion_word f fd) (T : Txt K mg C_Crowded C_Flat C_GlideError C_NoName C_NoNumber C_NoRow C_NoText C_Past C_Twice) (h_read_portion : FnD P w K mg base 2 "read_portion" ["text"] F_read_portion) (h__law_kind : FnD P w K mg base 1 "_law_kind" ["e"] F__law_kind) : FnOk P w K mg base (L2.CX P w) 3 f fd ["thing"] (spD K mg 1 F__law_portion_word) :=
  fnOk_mk F sc__law_portion_word fun cdv A outer s H E hr => pbd_cons (psd_set (i := 1) sc__law_portion_word.nd rfl (Or.inl rfl) (ped_non)) (pbd_cons (psd_set (i := 2) sc__law_portion_word.nd rfl (Or.inl rfl) (ped_non)) (pbd_cons (psd_try (i := 3) (j := 1) (xct T) rfl rfl sc__law_portion_word.nd rfl rfl ⟨by rfl, by decide, .inl T.g_GlideError⟩ (Or.inl rfl) rfl (Or.inl rfl) (fun Wn pn xe tk ps => pbd_one (psd_set (i := 2) sc__law_portion_word.nd rfl (Or.inl rfl) (ped_call h_read_portion (hr.mono (by decide)) tk (by rfl) (pad_cons (ped_var (i := 0) rfl (Or.inl rfl)) (pad_nil)) (aCons_len aNil_len))))) (pbd_cons (psd_if (ptd_cmp (opd_isNot) (ped_var (i := 1) rfl (Or.inl rfl)) (ped_non) (nomark _)) (pbd_one (psd_ret (ped_call h__law_kind (hr.mono (by decide)) (takes_of rfl rfl rfl rfl) (by rfl) (pad_cons (ped_var (i := 1) rfl (Or.inl rfl)) (pad_nil)) (aCons_len aNil_len)))) (pbd_nil)) (pbd_one (psd_ret (ped_new (pfd_lst (pad_cons (ped_str) (pad_cons (ped_var (i := 2) rfl (Or.inl rfl)) (pad_nil))))))))))
theorem ok__law_right {f : Addr} {fd : FuncData} (F : Fun K "_law_right" "_law_right" s__law_right f fd) (T : Txt K mg C_Crowded C_Flat C_GlideError C_NoName C_NoNumber C_NoRow C_NoText C_Past C_Twice) (h__law_number_word : FnD P w K mg base 2 "_law_number_word" ["thing"] F__law_number_word) (h__law_portion_word : FnD P w K mg base 3 "_law_portion_word" ["thing"] F__law_portion_word) (h_show_portion : FnD P w K mg base 1 "show_portion" ["one"] F_show_portion) (h__law_number_due : FnD P w K mg base 1 "_law_number_due" ["word"] F__law_number_due) (h__law_portion_due : FnD P w K mg base 2 "_law_portion_due" ["text"] F__law_portion_due) (h__law_whole : FnD P w K mg base 1 "_law_whole" ["found"] F__law_whole) : FnOk P w K mg base (L2.CX P w) 4 f fd ["thing"] (spD K mg 1 F__law_right_v7) :=
  fnOk_mk F sc__law_right fun cdv A outer s H E hr => pbd_cons (psd_set (i := 1) sc__law_right.nd rfl (Or.inl rfl) (ped_non)) (pbd_cons (psd_set (i := 2) sc__law_right.nd rfl (Or.inl rfl) (ped_non)) (pbd_cons (psd_if (ptd_val (ped_callB calld_isi (by rfl) T.z_isinstance bb_isinstance (pad_cons (ped_var (i := 0) rfl (Or.inl rfl)) (pad_cons (ped_bltn (v := .ty "str") rfl T.z_str bb_str rfl (fun _ => .ty _)) (pad_nil)))) (by intro _; rfl)) (pbd_cons (psd_set (i := 1) sc__law_right.nd rfl (Or.inl rfl) (ped_call h__law_number_due (hr.mono (by decide)) (takes_of rfl rfl rfl rfl) (by rfl) (pad_cons (ped_var (i := 0) rfl (Or.inl rfl)) (pad_nil)) (aCons_len aNil_len))) (pbd_one (psd_set (i := 2) sc__law_right.nd rfl (Or.inl rfl) (ped_call h__law_portion_due (hr.mono (by decide)) (takes_of rfl rfl rfl rfl) (by rfl) (pad_cons (ped_var (i := 0) rfl (Or.inl rfl)) (pad_nil)) (aCons_len aNil_len))))) (pbd_nil)) (pbd_cons (psd_set (i := 3) sc__law_right.nd rfl (Or.inl rfl) (ped_call h__law_number_word (hr.mono (by decide)) (takes_of rfl rfl rfl rfl) (by rfl) (pad_cons (ped_var (i := 0) rfl (Or.inl rfl)) (pad_nil)) (aCons_len aNil_len))) (pbd_cons (psd_if (pwd_pt (pwd_and (ptd_cmp (opd_is) (ped_var (i := 1) rfl (Or.inl rfl)) (ped_non) (nomark _)) (pwd_and1 (ptd_cmp (opd_ne hr.units) (ped_var (i := 3) rfl (Or.inl rfl)) (ped_str) (nomark _))))) (pbd_one (psd_ret (ped_bl))) (pbd_nil)) (pbd_cons (psd_if (pwd_pt (pwd_and (ptd_cmp (opd_isNot) (ped_var (i := 1) rfl (Or.inl rfl)) (ped_non) (nomark _)) (pwd_and1 (pwd_pt (pwd_or (ptd_cmp (opd_ne hr.units) (ped_var (i := 3) rfl (Or.inl rfl)) (ped_new (pfd_lst (pad_cons (ped_str) (pad_cons (ped_var (i := 1) rfl (Or.inl rfl)) (pad_nil))))) (nomark _)) (pwd_or1 (ptd_not (ptd_val (ped_call h__law_whole (hr.mono (by decide)) (takes_of rfl rfl rfl rfl) (by rfl) (pad_cons (ped_ix (ped_var (i := 3) rfl (Or.inl rfl)) (ped_int) (fun _ _ => rfl)) (pad_nil)) (aCons_len aNil_len)) (by intro _; rfl))))))))) (pbd_one (psd_ret (ped_bl))) (pbd_nil)) (pbd_cons (psd_set (i := 3) sc__law_right.nd rfl (Or.inl rfl) (ped_call h__law_portion_word (hr.mono (by decide)) (takes_of rfl rfl rfl rfl) (by rfl) (pad_cons (ped_var (i := 0) rfl (Or.inl rfl)) (pad_nil)) (aCons_len aNil_len))) (pbd_cons (psd_if (ptd_cmp (opd_is) (ped_var (i := 2) rfl (Or.inl rfl)) (ped_non) (nomark _)) (pbd_one (psd_ret (ped_cmp (opd_eq hr.units) (ped_var (i := 3) rfl (Or.inl rfl)) (ped_str) (nomark _)))) (pbd_nil)) (pbd_cons (psd_if (pwd_pt (pwd_or (ptd_cmp (opd_ne hr.units) (ped_var (i := 3) rfl (Or.inl rfl)) (ped_new (pfd_lst (pad_cons (ped_str) (pad_cons (ped_var (i := 2) rfl (Or.inl rfl)) (pad_nil))))) (nomark _)) (pwd_or1 (ptd_not (ptd_val (ped_callB calld_isi (by rfl) T.z_isinstance bb_isinstance (pad_cons (ped_ix (ped_var (i := 3) rfl (Or.inl rfl)) (ped_int) (fun _ _ => rfl)) (pad_cons (ped_bltn (v := .ty "tuple") rfl T.z_tuple bb_tuple rfl (fun _ => .ty _)) (pad_nil)))) (by intro _; rfl)))))) (pbd_one (psd_ret (ped_bl))) (pbd_nil)) (pbd_cons (psd_set (i := 4) sc__law_right.nd rfl (Or.inl rfl) (ped_call h_show_portion (hr.mono (by decide)) (takes_of rfl rfl rfl rfl) (by rfl) (pad_cons (ped_var (i := 2) rfl (Or.inl rfl)) (pad_nil)) (aCons_len aNil_len))) (pbd_one (psd_ret (ped_and (ped_callB calld_isi (by rfl) T.z_isinstance bb_isinstance (pad_cons (ped_var (i := 4) rfl (Or.inl rfl)) (pad_cons (ped_bltn (v := .ty "str") rfl T.z_str bb_str rfl (fun _ => .ty _)) (pad_nil)))) (ped_one (ped_cmp (opd_eq hr.units) (ped_var (i := 4) rfl (Or.inl rfl)) (ped_var (i := 0) rfl (Or.inl rfl)) (nomark _)))))))))))))))
theorem ok_law {f : Addr} {fd : FuncData} (F : Fun K "law" "law" s_law f fd) (T : Txt K mg C_Crowded C_Flat C_GlideError C_NoName C_NoNumber C_NoRow C_NoText C_Past C_Twice) (h__law_right : FnD P w K mg base 4 "_law_right" ["thing"] F__law_right_v7) (h__law_thing : FnD P w K mg base 2 "_law_thing" ["cell"] F__law_thing) (h__law_cell : FnD P w K mg base 1 "_law_cell" ["script", "k"] F__law_cell) : FnOk P w K mg base (L2.CX P w) 5 f fd ["script"] (spD K mg 1 F_law) :=
  fnOk_mk F sc_law fun cdv A outer s H E hr => pbd_cons (psd_for1 (passes_of rfl) rfl (by rfl) T.z_range (pad_cons (ped_callB (calld_max2 rfl) (by rfl) T.z_max bb_max (pad_cons (ped_int) (pad_cons (ped_callB calld_len (by rfl) T.z_len bb_len (pad_cons (ped_var (i := 0) rfl (Or.inl rfl)) (pad_nil))) (pad_nil)))) (pad_nil)) (pgd_name (i := 1) sc_law.nd rfl (Or.inl rfl)) (pbd_one (psd_if (ptd_not (ptd_val (ped_call h__law_right (hr.mono (by decide)) (takes_of rfl rfl rfl rfl) (by rfl) (pad_cons (ped_call h__law_thing (hr.mono (by decide)) (takes_of rfl rfl rfl rfl) (by rfl) (pad_cons (ped_call h__law_cell (hr.mono (by decide)) (takes_of rfl rfl rfl rfl) (by rfl) (pad_cons (ped_var (i := 0) rfl (Or.inl rfl)) (pad_cons (ped_var (i := 1) rfl (Or.inl rfl)) (pad_nil))) (aCons_len (aCons_len aNil_len))) (pad_nil)) (aCons_len aNil_len)) (pad_nil)) (aCons_len aNil_len)) (by intro _; rfl))) (pbd_one (psd_ret (ped_bl))) (pbd_nil))) (aCons_len aNil_len)) (pbd_one (psd_ret (ped_bl)))
end
theorem all_mk {l : PySem.W.OpenLaw} {w : World} {K : PySem.W.Frag} {h : Heap} {mg : Str → Option Value} {fa f0 f1 f2 f3 f4 f5 f6 f7 f8 f9 f10 f11 f12 f13 f14 f15 f16 f17 f18 C_Crowded C_Flat C_GlideError C_NoName C_NoNumber C_NoRow C_NoText C_Past C_Twice : Addr} (X : K.In h) (G : h.Ns mainGlobals mg) (hfa : mg "law" = some (.ref fa))
    {tK_FIGURES : Tok}
    {od0 an0 od1 an1 od2 an2 od3 an3 od4 an4 od5 an5 od6 an6 od7 an7 od8 an8 od9 an9 od10 an10 od11 an11 od12 an12 od13 an13 od14 an14 od15 an15 od16 an16 od17 an17 od18 an18 : Option Addr} {sl0 sl1 sl2 sl3 sl4 sl5 sl6 sl7 sl8 sl9 sl10 sl11 sl12 sl13 sl14 sl15 sl16 sl17 sl18 : Array (Option Value)} {oc0 kV0 dc0 pm0 cd0 ct0 oc1 kV1 dc1 pm1 cd1 ct1 oc2 kV2 dc2 pm2 cd2 ct2 oc3 kV3 dc3 pm3 cd3 ct3 oc4 kV4 dc4 pm4 cd4 ct4 oc5 kV5 dc5 pm5 cd5 ct5 oc6 kV6 dc6 pm6 cd6 ct6 oc7 kV7 dc7 pm7 cd7 ct7 oc8 kV8 dc8 pm8 cd8 ct8 oc9 kV9 dc9 pm9 cd9 ct9 oc10 kV10 dc10 pm10 cd10 ct10 oc11 kV11 dc11 pm11 cd11 ct11 oc12 kV12 dc12 pm12 cd12 ct12 oc13 kV13 dc13 pm13 cd13 ct13 oc14 kV14 dc14 pm14 cd14 ct14 oc15 kV15 dc15 pm15 cd15 ct15 oc16 kV16 dc16 pm16 cd16 ct16 oc17 kV17 dc17 pm17 cd17 ct17 oc18 kV18 dc18 pm18 cd18 ct18 : Value}
    (gC_Crowded : PySem.W.nsIn K mainGlobals "Crowded" = some (some (.ref C_Crowded)))
    (kC_Crowded : PySem.W.keepIn K (.ref C_Crowded) = true)
    (bC_Crowded : PySem.W.subIn K (.ref C_Crowded) (.type "BaseException") = some true)
    (tC_Crowded : PySem.W.typeIn K (.ref C_Crowded) = some (.type "type"))
    (gC_Flat : PySem.W.nsIn K mainGlobals "Flat" = some (some (.ref C_Flat)))
    (kC_Flat : PySem.W.keepIn K (.ref C_Flat) = true)
    (bC_Flat : PySem.W.subIn K (.ref C_Flat) (.type "BaseException") = some true)
    (tC_Flat : PySem.W.typeIn K (.ref C_Flat) = some (.type "type"))
    (gC_GlideError : PySem.W.nsIn K mainGlobals "GlideError" = some (some (.ref C_GlideError)))
    (kC_GlideError : PySem.W.keepIn K (.ref C_GlideError) = true)
    (bC_GlideError : PySem.W.subIn K (.ref C_GlideError) (.type "BaseException") = some true)
    (tC_GlideError : PySem.W.typeIn K (.ref C_GlideError) = some (.type "type"))
    (gC_NoName : PySem.W.nsIn K mainGlobals "NoName" = some (some (.ref C_NoName)))
    (kC_NoName : PySem.W.keepIn K (.ref C_NoName) = true)
    (bC_NoName : PySem.W.subIn K (.ref C_NoName) (.type "BaseException") = some true)
    (tC_NoName : PySem.W.typeIn K (.ref C_NoName) = some (.type "type"))
    (gC_NoNumber : PySem.W.nsIn K mainGlobals "NoNumber" = some (some (.ref C_NoNumber)))
    (kC_NoNumber : PySem.W.keepIn K (.ref C_NoNumber) = true)
    (bC_NoNumber : PySem.W.subIn K (.ref C_NoNumber) (.type "BaseException") = some true)
    (tC_NoNumber : PySem.W.typeIn K (.ref C_NoNumber) = some (.type "type"))
    (gC_NoRow : PySem.W.nsIn K mainGlobals "NoRow" = some (some (.ref C_NoRow)))
    (kC_NoRow : PySem.W.keepIn K (.ref C_NoRow) = true)
    (bC_NoRow : PySem.W.subIn K (.ref C_NoRow) (.type "BaseException") = some true)
    (tC_NoRow : PySem.W.typeIn K (.ref C_NoRow) = some (.type "type"))
    (gC_NoText : PySem.W.nsIn K mainGlobals "NoText" = some (some (.ref C_NoText)))
    (xC_NoText : PySem.W.excIn K C_NoText [.type "ValueError", .type "Exception", .type "BaseException", .type "object"] "ValueError.__new__" = true)
    (kC_NoText : PySem.W.keepIn K (.ref C_NoText) = true)
    (bC_NoText : PySem.W.subIn K (.ref C_NoText) (.type "BaseException") = some true)
    (tC_NoText : PySem.W.typeIn K (.ref C_NoText) = some (.type "type"))
    (gC_Past : PySem.W.nsIn K mainGlobals "Past" = some (some (.ref C_Past)))
    (kC_Past : PySem.W.keepIn K (.ref C_Past) = true)
    (bC_Past : PySem.W.subIn K (.ref C_Past) (.type "BaseException") = some true)
    (tC_Past : PySem.W.typeIn K (.ref C_Past) = some (.type "type"))
    (gC_Twice : PySem.W.nsIn K mainGlobals "Twice" = some (some (.ref C_Twice)))
    (kC_Twice : PySem.W.keepIn K (.ref C_Twice) = true)
    (bC_Twice : PySem.W.subIn K (.ref C_Twice) (.type "BaseException") = some true)
    (tC_Twice : PySem.W.typeIn K (.ref C_Twice) = some (.type "type"))
    (sg_NoText : PySem.W.subIn K (.ref C_NoText) (.ref C_GlideError) = some true)
    (hd_Crowded : PySem.W.hasDictIn K C_Crowded = true)
    (hd_Flat : PySem.W.hasDictIn K C_Flat = true)
    (hd_GlideError : PySem.W.hasDictIn K C_GlideError = true)
    (hd_NoName : PySem.W.hasDictIn K C_NoName = true)
    (hd_NoNumber : PySem.W.hasDictIn K C_NoNumber = true)
    (hd_NoRow : PySem.W.hasDictIn K C_NoRow = true)
    (hd_NoText : PySem.W.hasDictIn K C_NoText = true)
    (hd_Past : PySem.W.hasDictIn K C_Past = true)
    (hd_Twice : PySem.W.hasDictIn K C_Twice = true)
    (oN : PySem.W.specialIn K (.builtin "object.__class__") "__get__" = some (some (.builtin "getset_descriptor.__get__")))
    (oT : PySem.W.takesIn K (.builtin "object.__class__") = some true)
    (vg_NoText : PySem.W.findIn K (.ref C_NoText) "__getattribute__" = some (some (.builtin "BaseException.__getattribute__")))
    (vk_NoText : PySem.W.findIn K (.ref C_NoText) "__getattr__" = some none)
    (va_NoText : PySem.W.findIn K (.ref C_NoText) "__class__" = some (some (.builtin "object.__class__")))
    (vm_NoText : PySem.W.mroIn K C_NoText (.type "object") = some true)
    (sv_NoText : PySem.W.subIn K (.ref C_NoText) (.type "ValueError") = some true)
    (su_NoText_Crowded : PySem.W.subIn K (.ref C_NoText) (.ref C_Crowded) = some false)
    (su_NoText_Flat : PySem.W.subIn K (.ref C_NoText) (.ref C_Flat) = some false)
    (su_NoText_NoName : PySem.W.subIn K (.ref C_NoText) (.ref C_NoName) = some false)
    (su_NoText_NoNumber : PySem.W.subIn K (.ref C_NoText) (.ref C_NoNumber) = some false)
    (su_NoText_NoRow : PySem.W.subIn K (.ref C_NoText) (.ref C_NoRow) = some false)
    (su_NoText_NoText : PySem.W.subIn K (.ref C_NoText) (.ref C_NoText) = some true)
    (su_NoText_Past : PySem.W.subIn K (.ref C_NoText) (.ref C_Past) = some false)
    (su_NoText_Twice : PySem.W.subIn K (.ref C_NoText) (.ref C_Twice) = some false)
    (ss_Crowded : PySem.W.subIn K (.ref C_Crowded) (.ref C_Crowded) = some true)
    (ss_Flat : PySem.W.subIn K (.ref C_Flat) (.ref C_Flat) = some true)
    (ss_NoName : PySem.W.subIn K (.ref C_NoName) (.ref C_NoName) = some true)
    (ss_NoNumber : PySem.W.subIn K (.ref C_NoNumber) (.ref C_NoNumber) = some true)
    (ss_NoRow : PySem.W.subIn K (.ref C_NoRow) (.ref C_NoRow) = some true)
    (ss_NoText : PySem.W.subIn K (.ref C_NoText) (.ref C_NoText) = some true)
    (ss_Past : PySem.W.subIn K (.ref C_Past) (.ref C_Past) = some true)
    (ss_Twice : PySem.W.subIn K (.ref C_Twice) (.ref C_Twice) = some true)
    (a0 : PySem.W.nsIn K mainGlobals "divisor" = some (some (.ref f0)))
    (l0 : K.lookup f0 = some ⟨oc0, od0, .func (PySem.W.fnOf "divisor" "divisor" (defArgs s_divisor) (defBody s_divisor) (defScope s_divisor) .none kV0 dc0 pm0 an0 cd0 ct0), sl0⟩)
    (c0 : PySem.W.codeIn K cd0 "divisor" = true)
    (k0 : PySem.W.keepIn K (.ref f0) = true)
    (a1 : PySem.W.nsIn K mainGlobals "read_number" = some (some (.ref f1)))
    (l1 : K.lookup f1 = some ⟨oc1, od1, .func (PySem.W.fnOf "read_number" "read_number" (defArgs s_read_number) (defBody s_read_number) (defScope s_read_number) .none kV1 dc1 pm1 an1 cd1 ct1), sl1⟩)
    (c1 : PySem.W.codeIn K cd1 "read_number" = true)
    (k1 : PySem.W.keepIn K (.ref f1) = true)
    (a2 : PySem.W.nsIn K mainGlobals "read_portion" = some (some (.ref f2)))
    (l2 : K.lookup f2 = some ⟨oc2, od2, .func (PySem.W.fnOf "read_portion" "read_portion" (defArgs s_read_portion) (defBody s_read_portion) (defScope s_read_portion) .none kV2 dc2 pm2 an2 cd2 ct2), sl2⟩)
    (c2 : PySem.W.codeIn K cd2 "read_portion" = true)
    (k2 : PySem.W.keepIn K (.ref f2) = true)
    (a3 : PySem.W.nsIn K mainGlobals "show_portion" = some (some (.ref f3)))
    (l3 : K.lookup f3 = some ⟨oc3, od3, .func (PySem.W.fnOf "show_portion" "show_portion" (defArgs s_show_portion) (defBody s_show_portion) (defScope s_show_portion) .none kV3 dc3 pm3 an3 cd3 ct3), sl3⟩)
    (c3 : PySem.W.codeIn K cd3 "show_portion" = true)
    (k3 : PySem.W.keepIn K (.ref f3) = true)
    (a4 : PySem.W.nsIn K mainGlobals "_law_cell" = some (some (.ref f4)))
    (l4 : K.lookup f4 = some ⟨oc4, od4, .func (PySem.W.fnOf "_law_cell" "_law_cell" (defArgs s__law_cell) (defBody s__law_cell) (defScope s__law_cell) .none kV4 dc4 pm4 an4 cd4 ct4), sl4⟩)
    (c4 : PySem.W.codeIn K cd4 "_law_cell" = true)
    (k4 : PySem.W.keepIn K (.ref f4) = true)
    (a5 : PySem.W.nsIn K mainGlobals "_law_whole" = some (some (.ref f5)))
    (l5 : K.lookup f5 = some ⟨oc5, od5, .func (PySem.W.fnOf "_law_whole" "_law_whole" (defArgs s__law_whole) (defBody s__law_whole) (defScope s__law_whole) .none kV5 dc5 pm5 an5 cd5 ct5), sl5⟩)
    (c5 : PySem.W.codeIn K cd5 "_law_whole" = true)
    (k5 : PySem.W.keepIn K (.ref f5) = true)
    (a6 : PySem.W.nsIn K mainGlobals "_law_common" = some (some (.ref f6)))
    (l6 : K.lookup f6 = some ⟨oc6, od6, .func (PySem.W.fnOf "_law_common" "_law_common" (defArgs s__law_common) (defBody s__law_common) (defScope s__law_common) .none kV6 dc6 pm6 an6 cd6 ct6), sl6⟩)
    (c6 : PySem.W.codeIn K cd6 "_law_common" = true)
    (k6 : PySem.W.keepIn K (.ref f6) = true)
    (a7 : PySem.W.nsIn K mainGlobals "_law_number_due" = some (some (.ref f7)))
    (l7 : K.lookup f7 = some ⟨oc7, od7, .func (PySem.W.fnOf "_law_number_due" "_law_number_due" (defArgs s__law_number_due) (defBody s__law_number_due) (defScope s__law_number_due) .none kV7 dc7 pm7 an7 cd7 ct7), sl7⟩)
    (c7 : PySem.W.codeIn K cd7 "_law_number_due" = true)
    (k7 : PySem.W.keepIn K (.ref f7) = true)
    (a8 : PySem.W.nsIn K mainGlobals "_law_cut_at" = some (some (.ref f8)))
    (l8 : K.lookup f8 = some ⟨oc8, od8, .func (PySem.W.fnOf "_law_cut_at" "_law_cut_at" (defArgs s__law_cut_at) (defBody s__law_cut_at) (defScope s__law_cut_at) .none kV8 dc8 pm8 an8 cd8 ct8), sl8⟩)
    (c8 : PySem.W.codeIn K cd8 "_law_cut_at" = true)
    (k8 : PySem.W.keepIn K (.ref f8) = true)
    (a9 : PySem.W.nsIn K mainGlobals "_law_written" = some (some (.ref f9)))
    (l9 : K.lookup f9 = some ⟨oc9, od9, .func (PySem.W.fnOf "_law_written" "_law_written" (defArgs s__law_written) (defBody s__law_written) (defScope s__law_written) .none kV9 dc9 pm9 an9 cd9 ct9), sl9⟩)
    (c9 : PySem.W.codeIn K cd9 "_law_written" = true)
    (k9 : PySem.W.keepIn K (.ref f9) = true)
    (a10 : PySem.W.nsIn K mainGlobals "_law_two" = some (some (.ref f10)))
    (l10 : K.lookup f10 = some ⟨oc10, od10, .func (PySem.W.fnOf "_law_two" "_law_two" (defArgs s__law_two) (defBody s__law_two) (defScope s__law_two) .none kV10 dc10 pm10 an10 cd10 ct10), sl10⟩)
    (c10 : PySem.W.codeIn K cd10 "_law_two" = true)
    (k10 : PySem.W.keepIn K (.ref f10) = true)
    (a11 : PySem.W.nsIn K mainGlobals "_law_other" = some (some (.ref f11)))
    (l11 : K.lookup f11 = some ⟨oc11, od11, .func (PySem.W.fnOf "_law_other" "_law_other" (defArgs s__law_other) (defBody s__law_other) (defScope s__law_other) .none kV11 dc11 pm11 an11 cd11 ct11), sl11⟩)
    (c11 : PySem.W.codeIn K cd11 "_law_other" = true)
    (k11 : PySem.W.keepIn K (.ref f11) = true)
    (a12 : PySem.W.nsIn K mainGlobals "_law_thing" = some (some (.ref f12)))
    (l12 : K.lookup f12 = some ⟨oc12, od12, .func (PySem.W.fnOf "_law_thing" "_law_thing" (defArgs s__law_thing) (defBody s__law_thing) (defScope s__law_thing) .none kV12 dc12 pm12 an12 cd12 ct12), sl12⟩)
    (c12 : PySem.W.codeIn K cd12 "_law_thing" = true)
    (k12 : PySem.W.keepIn K (.ref f12) = true)
    (a13 : PySem.W.nsIn K mainGlobals "_law_portion_due" = some (some (.ref f13)))
    (l13 : K.lookup f13 = some ⟨oc13, od13, .func (PySem.W.fnOf "_law_portion_due" "_law_portion_due" (defArgs s__law_portion_due) (defBody s__law_portion_due) (defScope s__law_portion_due) .none kV13 dc13 pm13 an13 cd13 ct13), sl13⟩)
    (c13 : PySem.W.codeIn K cd13 "_law_portion_due" = true)
    (k13 : PySem.W.keepIn K (.ref f13) = true)
    (a14 : PySem.W.nsIn K mainGlobals "_law_kind" = some (some (.ref f14)))
    (l14 : K.lookup f14 = some ⟨oc14, od14, .func (PySem.W.fnOf "_law_kind" "_law_kind" (defArgs s__law_kind) (defBody s__law_kind) (defScope s__law_kind) .none kV14 dc14 pm14 an14 cd14 ct14), sl14⟩)
    (c14 : PySem.W.codeIn K cd14 "_law_kind" = true)
    (k14 : PySem.W.keepIn K (.ref f14) = true)
    (a15 : PySem.W.nsIn K mainGlobals "_law_number_word" = some (some (.ref f15)))
    (l15 : K.lookup f15 = some ⟨oc15, od15, .func (PySem.W.fnOf "_law_number_word" "_law_number_word" (defArgs s__law_number_word) (defBody s__law_number_word) (defScope s__law_number_word) .none kV15 dc15 pm15 an15 cd15 ct15), sl15⟩)
    (c15 : PySem.W.codeIn K cd15 "_law_number_word" = true)
    (k15 : PySem.W.keepIn K (.ref f15) = true)
    (a16 : PySem.W.nsIn K mainGlobals "_law_portion_word" = some (some (.ref f16)))
    (l16 : K.lookup f16 = some ⟨oc16, od16, .func (PySem.W.fnOf "_law_portion_word" "_law_portion_word" (defArgs s__law_portion_word) (defBody s__law_portion_word) (defScope s__law_portion_word) .none kV16 dc16 pm16 an16 cd16 ct16), sl16⟩)
    (c16 : PySem.W.codeIn K cd16 "_law_portion_word" = true)
    (k16 : PySem.W.keepIn K (.ref f16) = true)
    (a17 : PySem.W.nsIn K mainGlobals "_law_right" = some (some (.ref f17)))
    (l17 : K.lookup f17 = some ⟨oc17, od17, .func (PySem.W.fnOf "_law_right" "_law_right" (defArgs s__law_right) (defBody s__law_right) (defScope s__law_right) .none kV17 dc17 pm17 an17 cd17 ct17), sl17⟩)
    (c17 : PySem.W.codeIn K cd17 "_law_right" = true)
    (k17 : PySem.W.keepIn K (.ref f17) = true)
    (a18 : PySem.W.nsIn K mainGlobals "law" = some (some (.ref f18)))
    (l18 : K.lookup f18 = some ⟨oc18, od18, .func (PySem.W.fnOf "law" "law" (defArgs s_law) (defBody s_law) (defScope s_law) .none kV18 dc18 pm18 an18 cd18 ct18), sl18⟩)
    (c18 : PySem.W.codeIn K cd18 "law" = true)
    (k18 : PySem.W.keepIn K (.ref f18) = true)
    (gK_FIGURES : PySem.W.nsIn K mainGlobals "FIGURES" = some (some (.str "0123456789" tK_FIGURES)))
    (zz_ValueError : PySem.W.nsIn K mainGlobals "ValueError" = some none)
    (zz_abs : PySem.W.nsIn K mainGlobals "abs" = some none)
    (zz_all : PySem.W.nsIn K mainGlobals "all" = some none)
    (zz_bool : PySem.W.nsIn K mainGlobals "bool" = some none)
    (zz_int : PySem.W.nsIn K mainGlobals "int" = some none)
    (zz_isinstance : PySem.W.nsIn K mainGlobals "isinstance" = some none)
    (zz_len : PySem.W.nsIn K mainGlobals "len" = some none)
    (zz_max : PySem.W.nsIn K mainGlobals "max" = some none)
    (zz_ord : PySem.W.nsIn K mainGlobals "ord" = some none)
    (zz_range : PySem.W.nsIn K mainGlobals "range" = some none)
    (zz_str : PySem.W.nsIn K mainGlobals "str" = some none)
    (zz_tuple : PySem.W.nsIn K mainGlobals "tuple" = some none)
    (hF : ∀ ns : List Int, ns.length ≤ 63 → F_law [.scr ns] = .ok (.bl true)) :
    ∃ fd : FuncData, (∀ (s : Shared) (v : Value), BindsTo s fd ⟨[v], []⟩ [("script", v)]) ∧ ∀ base : Heap, K.In base → base.Ns mainGlobals mg → FnOk l.prog w K mg base (L2.CX l.prog w) 5 fa fd ["script"] (spLaw K) := by
  have e := hfa.symm.trans (PySem.W.mg_of X G a18)
  cases e
  have T : Txt K mg C_Crowded C_Flat C_GlideError C_NoName C_NoNumber C_NoRow C_NoText C_Past C_Twice := ⟨PySem.W.mg_none_of X G zz_ValueError, PySem.W.mg_none_of X G zz_abs, PySem.W.mg_none_of X G zz_all, PySem.W.mg_none_of X G zz_bool, PySem.W.mg_none_of X G zz_int, PySem.W.mg_none_of X G zz_isinstance, PySem.W.mg_none_of X G zz_len, PySem.W.mg_none_of X G zz_max, PySem.W.mg_none_of X G zz_ord, PySem.W.mg_none_of X G zz_range, PySem.W.mg_none_of X G zz_str, PySem.W.mg_none_of X G zz_tuple, ⟨_, PySem.W.mg_of X G gK_FIGURES⟩, PySem.W.mg_of X G gC_Crowded, kC_Crowded, bC_Crowded, tC_Crowded, PySem.W.mg_of X G gC_Flat, kC_Flat, bC_Flat, tC_Flat, PySem.W.mg_of X G gC_GlideError, kC_GlideError, bC_GlideError, tC_GlideError, PySem.W.mg_of X G gC_NoName, kC_NoName, bC_NoName, tC_NoName, PySem.W.mg_of X G gC_NoNumber, kC_NoNumber, bC_NoNumber, tC_NoNumber, PySem.W.mg_of X G gC_NoRow, kC_NoRow, bC_NoRow, tC_NoRow, PySem.W.mg_of X G gC_NoText, xC_NoText, kC_NoText, bC_NoText, tC_NoText, PySem.W.mg_of X G gC_Past, kC_Past, bC_Past, tC_Past, PySem.W.mg_of X G gC_Twice, kC_Twice, bC_Twice, tC_Twice, PySem.W.exm_ref bC_GlideError hd_GlideError tC_GlideError sg_NoText, ⟨vg_NoText, vk_NoText, bC_NoText, hd_NoText, va_NoText, oN, oT, vm_NoText⟩, kit_ve sv_NoText, kit_sub su_NoText_Crowded hd_Crowded tC_Crowded ss_Crowded, kit_sub su_NoText_Flat hd_Flat tC_Flat ss_Flat, kit_sub su_NoText_NoName hd_NoName tC_NoName ss_NoName, kit_sub su_NoText_NoNumber hd_NoNumber tC_NoNumber ss_NoNumber, kit_sub su_NoText_NoRow hd_NoRow tC_NoRow ss_NoRow, kit_sub su_NoText_NoText hd_NoText tC_NoText ss_NoText, kit_sub su_NoText_Past hd_Past tC_Past ss_Past, kit_sub su_NoText_Twice hd_Twice tC_Twice ss_Twice⟩
  refine ⟨PySem.W.fnOf "law" "law" (defArgs s_law) (defBody s_law) (defScope s_law) .none kV18 dc18 pm18 an18 cd18 ct18, fun s v => .of_eq rfl, fun base _ _ => ?_⟩
  have h_divisor : FnD l.prog w K mg base 1 "divisor" ["one", "other"] F_divisor := fnd_mk (PySem.W.mg_of X G a0) k0 ((fun_mk (st := s_divisor) l0 c0 k0).binds (ps := ["one", "other"]) fun _ _ _ _ _ _ us hl => match us, hl with | [_, _], _ => rfl) (ok_divisor (fun_mk (st := s_divisor) l0 c0 k0) T)
  have h_read_number : FnD l.prog w K mg base 1 "read_number" ["text"] F_read_number := fnd_mk (PySem.W.mg_of X G a1) k1 ((fun_mk (st := s_read_number) l1 c1 k1).binds (ps := ["text"]) fun _ _ _ _ _ _ us hl => match us, hl with | [_], _ => rfl) (ok_read_number (fun_mk (st := s_read_number) l1 c1 k1) T)
  have h_read_portion : FnD l.prog w K mg base 2 "read_portion" ["text"] F_read_portion := fnd_mk (PySem.W.mg_of X G a2) k2 ((fun_mk (st := s_read_portion) l2 c2 k2).binds (ps := ["text"]) fun _ _ _ _ _ _ us hl => match us, hl with | [_], _ => rfl) (ok_read_portion (fun_mk (st := s_read_portion) l2 c2 k2) T h_read_number h_divisor)
  have h_show_portion : FnD l.prog w K mg base 1 "show_portion" ["one"] F_show_portion := fnd_mk (PySem.W.mg_of X G a3) k3 ((fun_mk (st := s_show_portion) l3 c3 k3).binds (ps := ["one"]) fun _ _ _ _ _ _ us hl => match us, hl with | [_], _ => rfl) (ok_show_portion (fun_mk (st := s_show_portion) l3 c3 k3) T)
  have h__law_cell : FnD l.prog w K mg base 1 "_law_cell" ["script", "k"] F__law_cell := fnd_mk (PySem.W.mg_of X G a4) k4 ((fun_mk (st := s__law_cell) l4 c4 k4).binds (ps := ["script", "k"]) fun _ _ _ _ _ _ us hl => match us, hl with | [_, _], _ => rfl) (ok__law_cell (fun_mk (st := s__law_cell) l4 c4 k4) T)
  have h__law_whole : FnD l.prog w K mg base 1 "_law_whole" ["found"] F__law_whole := fnd_mk (PySem.W.mg_of X G a5) k5 ((fun_mk (st := s__law_whole) l5 c5 k5).binds (ps := ["found"]) fun _ _ _ _ _ _ us hl => match us, hl with | [_], _ => rfl) (ok__law_whole (fun_mk (st := s__law_whole) l5 c5 k5) T)
  have h__law_common : FnD l.prog w K mg base 1 "_law_common" ["one", "other"] F__law_common := fnd_mk (PySem.W.mg_of X G a6) k6 ((fun_mk (st := s__law_common) l6 c6 k6).binds (ps := ["one", "other"]) fun _ _ _ _ _ _ us hl => match us, hl with | [_, _], _ => rfl) (ok__law_common (fun_mk (st := s__law_common) l6 c6 k6) T)
  have h__law_number_due : FnD l.prog w K mg base 1 "_law_number_due" ["word"] F__law_number_due := fnd_mk (PySem.W.mg_of X G a7) k7 ((fun_mk (st := s__law_number_due) l7 c7 k7).binds (ps := ["word"]) fun _ _ _ _ _ _ us hl => match us, hl with | [_], _ => rfl) (ok__law_number_due (fun_mk (st := s__law_number_due) l7 c7 k7) T)
  have h__law_cut_at : FnD l.prog w K mg base 1 "_law_cut_at" ["text", "mark"] F__law_cut_at := fnd_mk (PySem.W.mg_of X G a8) k8 ((fun_mk (st := s__law_cut_at) l8 c8 k8).binds (ps := ["text", "mark"]) fun _ _ _ _ _ _ us hl => match us, hl with | [_, _], _ => rfl) (ok__law_cut_at (fun_mk (st := s__law_cut_at) l8 c8 k8) T)
  have h__law_written : FnD l.prog w K mg base 1 "_law_written" ["cell"] F__law_written := fnd_mk (PySem.W.mg_of X G a9) k9 ((fun_mk (st := s__law_written) l9 c9 k9).binds (ps := ["cell"]) fun _ _ _ _ _ _ us hl => match us, hl with | [_], _ => rfl) (ok__law_written (fun_mk (st := s__law_written) l9 c9 k9) T)
  have h__law_two : FnD l.prog w K mg base 1 "_law_two" ["cell"] F__law_two := fnd_mk (PySem.W.mg_of X G a10) k10 ((fun_mk (st := s__law_two) l10 c10 k10).binds (ps := ["cell"]) fun _ _ _ _ _ _ us hl => match us, hl with | [_], _ => rfl) (ok__law_two (fun_mk (st := s__law_two) l10 c10 k10) T)
  have h__law_other : FnD l.prog w K mg base 1 "_law_other" ["cell"] F__law_other := fnd_mk (PySem.W.mg_of X G a11) k11 ((fun_mk (st := s__law_other) l11 c11 k11).binds (ps := ["cell"]) fun _ _ _ _ _ _ us hl => match us, hl with | [_], _ => rfl) (ok__law_other (fun_mk (st := s__law_other) l11 c11 k11) T)
  have h__law_thing : FnD l.prog w K mg base 2 "_law_thing" ["cell"] F__law_thing := fnd_mk (PySem.W.mg_of X G a12) k12 ((fun_mk (st := s__law_thing) l12 c12 k12).binds (ps := ["cell"]) fun _ _ _ _ _ _ us hl => match us, hl with | [_], _ => rfl) (ok__law_thing (fun_mk (st := s__law_thing) l12 c12 k12) T h__law_written h__law_two h__law_other)
  have h__law_portion_due : FnD l.prog w K mg base 2 "_law_portion_due" ["text"] F__law_portion_due := fnd_mk (PySem.W.mg_of X G a13) k13 ((fun_mk (st := s__law_portion_due) l13 c13 k13).binds (ps := ["text"]) fun _ _ _ _ _ _ us hl => match us, hl with | [_], _ => rfl) (ok__law_portion_due (fun_mk (st := s__law_portion_due) l13 c13 k13) T h__law_cut_at h__law_number_due h__law_common)
  have h__law_kind : FnD l.prog w K mg base 1 "_law_kind" ["e"] F__law_kind := fnd_mk (PySem.W.mg_of X G a14) k14 ((fun_mk (st := s__law_kind) l14 c14 k14).binds (ps := ["e"]) fun _ _ _ _ _ _ us hl => match us, hl with | [_], _ => rfl) (ok__law_kind (fun_mk (st := s__law_kind) l14 c14 k14) T)
  have h__law_number_word : FnD l.prog w K mg base 2 "_law_number_word" ["thing"] F__law_number_word := fnd_mk (PySem.W.mg_of X G a15) k15 ((fun_mk (st := s__law_number_word) l15 c15 k15).binds (ps := ["thing"]) fun _ _ _ _ _ _ us hl => match us, hl with | [_], _ => rfl) (ok__law_number_word (fun_mk (st := s__law_number_word) l15 c15 k15) T h_read_number h__law_kind)
  have h__law_portion_word : FnD l.prog w K mg base 3 "_law_portion_word" ["thing"] F__law_portion_word := fnd_mk (PySem.W.mg_of X G a16) k16 ((fun_mk (st := s__law_portion_word) l16 c16 k16).binds (ps := ["thing"]) fun _ _ _ _ _ _ us hl => match us, hl with | [_], _ => rfl) (ok__law_portion_word (fun_mk (st := s__law_portion_word) l16 c16 k16) T h_read_portion h__law_kind)
  have h__law_right : FnD l.prog w K mg base 4 "_law_right" ["thing"] F__law_right_v7 := fnd_mk (PySem.W.mg_of X G a17) k17 ((fun_mk (st := s__law_right) l17 c17 k17).binds (ps := ["thing"]) fun _ _ _ _ _ _ us hl => match us, hl with | [_], _ => rfl) (ok__law_right (fun_mk (st := s__law_right) l17 c17 k17) T h__law_number_word h__law_portion_word h_show_portion h__law_number_due h__law_portion_due h__law_whole)
  exact law_of (ok_law (fun_mk (st := s_law) l18 c18 k18) T h__law_right h__law_thing h__law_cell) hF
end Law

namespace Law
open PySem PySem.Spec PyProof.Rows L2 GD Hl TL
local macro_rules | `(tactic| walk_at "bd") => `(tactic| first
  | with_reducible assumption
  | with_reducible exact Bd.litO _
  | ((with_reducible refine' Bd.mul ?h ?g); (case h => walk_at "bd"); (case g => walk_at "bd"))
  | ((with_reducible refine' Bd.add ?h ?g); (case h => walk_at "bd"); (case g => walk_at "bd"))
  | ((with_reducible refine' Bd.sub ?h ?g); (case h => walk_at "bd"); (case g => walk_at "bd"))
  | ((with_reducible refine' Bd.neg ?h); (case h => walk_at "bd"))
  | ((with_reducible refine' Bd.emod ?h); (case h => walk_at "pos"))
  | ((with_reducible refine' Bd.ediv ?h); (case h => walk_at "bd"))
  | ((with_reducible refine' bd_fT ?h); (case h => walk_at "bd"))
  | ((with_reducible refine' bd_fB ?h); (case h => walk_at "bd"))
  | ((with_reducible refine' bd_sX ?h); (case h => walk_at "bd"))
  | ((with_reducible refine' bd_sY ?h); (case h => walk_at "bd"))
  | ((with_reducible refine' bd_sW ?h); (case h => walk_at "bd"))
  | ((with_reducible refine' bd_abs ?h); (case h => walk_at "bd"))
  | ((with_reducible refine' BdP.a ?h); (case h => walk_at "bdq"))
  | ((with_reducible refine' BdP.b ?h); (case h => walk_at "bdq"))
  | with_reducible exact bd_ite1
  | ((with_reducible refine' bd_ite ?h ?g); (case h => walk_at "bd"); (case g => walk_at "bd")))
local macro_rules | `(tactic| walk_at "pos") => `(tactic| first
  | with_reducible assumption
  | decide
  | omega)
local macro_rules | `(tactic| walk_at "bdq") => `(tactic| first
  | with_reducible assumption
  | ((with_reducible refine' bd_cy ?h ?g _); (case h => with_reducible assumption); (case g => first | with_reducible assumption | omega))
  | ((with_reducible refine' bd_mem ?h ?g); (case g => with_reducible assumption); (case h => with_reducible assumption))
  | ((with_reducible refine' bd_get ?h); (case h => with_reducible assumption)))
local macro_rules | `(tactic| walk_at "bdp") => `(tactic| first
  | walk_at "bdq"
  | ((with_reducible refine' BdP.mk ?h ?g); (case h => walk_at "bd"); (case g => walk_at "bd")))
local macro_rules | `(tactic| walk_at "num") => `(tactic| first
  | with_reducible assumption
  | omega
  | decide +kernel
  | (simp only [Nat.reduceLog2]; omega))
local macro_rules | `(tactic| walk_at "dis") => `(tactic| first
  | with_reducible assumption
  | ((with_reducible refine' mok ?h ?g ?l); (case h => walk_at "bd"); (case g => walk_at "bd"); (case l => walk_at "num"))
  | ((with_reducible refine' Bd.mono ?h ?l); (case h => walk_at "bd"); (case l => walk_at "num"))
  | ((with_reducible refine' BdP.mono ?h ?l); (case h => walk_at "bdp"); (case l => walk_at "num"))
  | ((with_reducible show divOk _); first | with_reducible assumption | decide +kernel | (refine' dok ?p ?h ?l; (case p => first | with_reducible assumption | omega); (case h => walk_at "bd"); (case l => walk_at "num")))
  | omega)
local macro_rules | `(tactic| walk_at "op") => `(tactic| first
  | with_reducible exact dAdd_int _ _
  | with_reducible exact dSub_int _ _
  | ((with_reducible refine dMul_int ?_); walk_at "dis")
  | with_reducible exact dAt_pp0 _ _
  | with_reducible exact dAt_pp1 _ _
  | with_reducible exact dAt_p0 _
  | with_reducible exact dAt_p1 _
  | with_reducible exact dAt_t0
  | with_reducible exact dAt_t1
  | with_reducible exact dAt_t2
  | with_reducible exact dAt_q0 _ _ _
  | with_reducible exact dAt_q1 _ _ _
  | with_reducible exact dAt_q2 _ _ _
  | with_reducible exact dAt_f0 _ _
  | with_reducible exact dAt_f1 _ _
  | with_reducible exact dLt_int _ _
  | with_reducible exact dLe_int _ _
  | with_reducible exact dGt_int _ _
  | with_reducible exact dGe_int _ _
  | with_reducible exact dEq_int _ _
  | with_reducible exact dNe_int _ _
  | ((with_reducible refine dMod_int ?_); walk_at "dis")
  | ((with_reducible refine dDiv_int ?_); walk_at "dis")
  | with_reducible exact dNeg_int _
  | with_reducible exact dIs_non _
  | with_reducible exact dIsNot_non _
  | with_reducible exact dAbs_int _
  | with_reducible exact dMax2_int _ _
  | with_reducible exact dMin2_int _ _
  | with_reducible exact dInt_bl _
  | with_reducible exact dLen_pts _
  | with_reducible exact dEq_pt _ _
  | with_reducible exact dNe_pt _ _
  | with_reducible exact dEq_pts _ _
  | with_reducible exact dNe_pts _ _
  | with_reducible exact dNe_bl _ _
  | with_reducible exact dEq_bl _ _
  | with_reducible exact dEq_D3 _ _ _ _ _ _
  | with_reducible exact dNe_D3 _ _ _ _ _ _
  | with_reducible exact dEq_np _
  | with_reducible exact dNe_np _
  | ((with_reducible refine at_last ?_); walk_at "dis")
  | with_reducible exact dAt_l0
  | with_reducible exact dAt_l1
  | with_reducible exact dAt_l2
  | with_reducible exact dAt_l3
  | with_reducible exact dAt_l4
  | with_reducible exact dAt_l5
  | with_reducible exact dAt_l6
  | with_reducible exact dAt_l7
  | ((with_reducible refine' dNe_self ?h ?l); (case h => walk_at "shp"); (case l => decide))
  | ((with_reducible refine' dEq_self ?h ?l); (case h => walk_at "shp"); (case l => decide))
  | with_reducible assumption
  | exact isi_int _ _ _ _ rfl kb_tuple_tuple
  | exact isi_int _ _ _ _ rfl kb_list_list
  | exact isi_int _ _ _ _ rfl kb_int_int
  | exact isi_int _ _ _ _ rfl kb_bool_bool
  | exact isi_int _ _ _ _ rfl kb_int_bool
  | exact isi_int _ _ _ _ rfl kb_list_tuple
  | exact isi_int _ _ _ _ rfl kb_tuple_list
  | with_reducible rfl)
local macro_rules | `(tactic| walk_at "shp") => `(tactic| first
  | with_reducible exact shp_int _
  | with_reducible exact shp_bl _
  | with_reducible exact shp_non
  | with_reducible exact shp_pt _
  | with_reducible exact shp_pts _
  | with_reducible exact shp_D2 _ _
  | with_reducible exact shp_fr _ _
  | with_reducible exact shp_D3 _ _ _
  | with_reducible exact shp_sp _ _ _
  | with_reducible exact shp_nilL
  | with_reducible exact shp_nilT
  | ((with_reducible refine' shp_consL ?h ?g); (case h => walk_at "shp"); (case g => walk_at "shp"))
  | ((with_reducible refine' shp_consT ?h ?g); (case h => walk_at "shp"); (case g => walk_at "shp"))
  | with_reducible assumption)
local macro_rules | `(tactic| walk_at "fn") => `(tactic| first
  | with_reducible assumption
  | with_reducible exact whole_int _
  | with_reducible exact divisor_eq _ _
  | with_reducible exact common_eq _ _)
local macro_rules | `(tactic| walk_at "ev") => `(tactic| first
  | with_reducible exact ev_c _
  | ((with_reducible refine' ev_var ?h1); (case h1 => exact rfl))
  | ((with_reducible refine' ev_e2 ?h1 ?h2 ?h3); (case h1 => walk_at "ev"); (case h2 => walk_at "ev"); (case h3 => walk_at "op"))
  | with_reducible exact ev_nil
  | ((with_reducible refine' ev_cons ?h1 ?h2); (case h1 => walk_at "ev"); (case h2 => walk_at "ev"))
  | ((with_reducible refine' ev_F ?h1 ?h2); (case h1 => walk_at "ev"); (case h2 => walk_at "fn"))
  | ((with_reducible refine' ev_mB ?h1); (case h1 => walk_at "ev"))
  | ((with_reducible refine' ev_B ?h1 ?h2); (case h1 => walk_at "ev"); (case h2 => walk_at "op"))
  | ((with_reducible refine' ev_tup2 ?h1 ?h2); (case h1 => walk_at "ev"); (case h2 => walk_at "ev"))
  | ((with_reducible refine' ev_tup3 ?h1 ?h2 ?h3); (case h1 => walk_at "ev"); (case h2 => walk_at "ev"); (case h3 => walk_at "ev"))
  | ((with_reducible refine' ev_tup ?h1 ?h2); (case h1 => walk_at "ev"); (case h2 => walk_at "len"))
  | ((with_reducible refine' ev_L ?h1); (case h1 => walk_at "ev"))
  | ((with_reducible refine' ev_lst ?h1 ?h2); (case h1 => walk_at "ev"); (case h2 => walk_at "len"))
  | ((with_reducible refine' ev_not ?h1); (case h1 => walk_at "ev"))
  | ((with_reducible refine' ev_and0 ?h1); (case h1 => walk_at "ev"))
  | ((with_reducible refine' ev_and ?h1 ?h2); (case h1 => walk_at "ev"); (case h2 => (intro hq; (try simp only [decide_eq_true_eq, decide_eq_false_iff_not, Bool.not_eq_true', Bool.not_eq_false'] at hq); walk_at "ev")))
  | ((with_reducible refine' ev_or1 ?h1); (case h1 => walk_at "ev"))
  | ((with_reducible refine' ev_or ?h1 ?h2); (case h1 => walk_at "ev"); (case h2 => (intro hq; (try simp only [decide_eq_true_eq, decide_eq_false_iff_not, Bool.not_eq_true', Bool.not_eq_false'] at hq); walk_at "ev")))
  | ((with_reducible refine' ev_eNot ?h1); (case h1 => walk_at "ev"))
  | ((with_reducible refine' ev_eAnd0 ?h1); (case h1 => walk_at "ev"))
  | ((with_reducible refine' ev_eAnd ?h1 ?h2); (case h1 => walk_at "ev"); (case h2 => (intro hq; (try simp only [decide_eq_true_eq, decide_eq_false_iff_not, Bool.not_eq_true', Bool.not_eq_false'] at hq); walk_at "ev")))
  | ((with_reducible refine' ev_eOr1 ?h1); (case h1 => walk_at "ev"))
  | ((with_reducible refine' ev_eOr ?h1 ?h2); (case h1 => walk_at "ev"); (case h2 => (intro hq; (try simp only [decide_eq_true_eq, decide_eq_false_iff_not, Bool.not_eq_true', Bool.not_eq_false'] at hq); walk_at "ev")))
  | ((with_reducible refine' ev_e1 ?h1 ?h2); (case h1 => walk_at "ev"); (case h2 => walk_at "op"))
  | ((with_reducible refine' ev_copy ?h1 ?h2); (case h1 => walk_at "ev"); (case h2 => exact rfl))
  | ((with_reducible refine' ev_ch ?h1 ?h2 ?h3 ?h4 ?h5); (case h1 => walk_at "ev"); (case h2 => walk_at "ev"); (case h3 => walk_at "op"); (case h4 => (intro hq; (try simp only [decide_eq_true_eq, decide_eq_false_iff_not, Bool.not_eq_true', Bool.not_eq_false'] at hq); walk_at "ev")); (case h5 => (intro _; walk_at "op")))
  | ((with_reducible refine' ev_lc ?h1 ?h2 ?h3 ?h4); (case h1 => walk_at "ev"); (case h2 => walk_at "its"); (case h3 => walk_at "len"); (case h4 => (intro _ _; exact ⟨_, rfl, by walk_at "ev"⟩)))
  | ((with_reducible refine' ev_lcR ?h1 ?h2 ?h3 ?h4); (case h1 => walk_at "ev"); (case h2 => walk_at "rng"); (case h3 => walk_at "len"); (case h4 => (intro _ _; exact ⟨_, rfl, by walk_at "ev"⟩)))
  | ((with_reducible refine' ev_cat ?h1 ?h2 ?h3); (case h1 => walk_at "ev"); (case h2 => walk_at "ev"); (case h3 => walk_at "len"))
  | ((with_reducible refine' ev_ownLen ?h1); (case h1 => exact rfl))
  | ((with_reducible refine' ev_ownAt ?h1 ?h2 ?h3); (case h1 => exact rfl); (case h2 => walk_at "ev"); (case h3 => walk_at "op"))
  | with_reducible assumption)
local macro_rules | `(tactic| walk_at "len") => `(tactic| first
  | ((simp only [List.length_map, List.length_cons, List.length_nil, List.length_append, List.length_range]) <;> walk_at "num")
  | walk_at "num")
local macro_rules | `(tactic| walk_at "its") => `(tactic| first
  | with_reducible exact its_map
  | with_reducible exact its_map2
  | exact rfl)
local macro_rules | `(tactic| walk_at "rng") => `(tactic| first
  | ((with_reducible refine rng1 ?_ ?_) <;> walk_at "num")
  | ((with_reducible refine rng2 ?_ ?_ ?_ ?_) <;> walk_at "num"))
local macro_rules | `(tactic| walk_at "es") => `(tactic| simp (config := {failIfUnchanged := false}) only [List.set_cons_zero, List.set_cons_succ])
local macro_rules | `(tactic| walk_at "start") => `(tactic| (simp only [List.map_cons, List.map_nil, List.cons_append, List.nil_append, List.length_cons, List.length_nil, Nat.reduceAdd, Nat.reduceSub, List.replicate_succ, List.replicate_zero]))
local macro_rules | `(tactic| walk_at "st1") => `(tactic| first
  | ((with_reducible refine' wo_seq ?k))
  | ((with_reducible refine' wo_ift ?h ?e ?k); (case h => walk_at "ev"); (case e => simp only [beq_self_eq_true, Bool.true_beq, Bool.false_beq, decide_eq_true_eq, decide_eq_false_iff_not, Bool.not_eq_true', Bool.not_eq_false', Bool.or_eq_true, Bool.and_eq_true, Bool.or_eq_false_iff, Bool.and_eq_false_imp, Bool.not_true, Bool.not_false, Bool.false_or, Bool.or_false, Bool.true_or, Bool.or_true, Bool.true_and, Bool.and_true, Bool.false_and, Bool.and_false, Bool.true_eq_false, Bool.false_eq_true, decide_true, decide_false, reduceCtorEq, D.isNone, Int.not_lt, Int.not_le, ne_eq, Decidable.not_not, not_true_eq_false, not_false_eq_true, false_implies, true_implies, implies_true, and_true, true_and, and_false, false_and, or_true, true_or, or_false, false_or, reduceIte, eq_self]))
  | ((with_reducible refine' wo_iff ?h ?e ?k); (case h => walk_at "ev"); (case e => simp only [beq_self_eq_true, Bool.true_beq, Bool.false_beq, decide_eq_true_eq, decide_eq_false_iff_not, Bool.not_eq_true', Bool.not_eq_false', Bool.or_eq_true, Bool.and_eq_true, Bool.or_eq_false_iff, Bool.and_eq_false_imp, Bool.not_true, Bool.not_false, Bool.false_or, Bool.or_false, Bool.true_or, Bool.or_true, Bool.true_and, Bool.and_true, Bool.false_and, Bool.and_false, Bool.true_eq_false, Bool.false_eq_true, decide_true, decide_false, reduceCtorEq, D.isNone, Int.not_lt, Int.not_le, ne_eq, Decidable.not_not, not_true_eq_false, not_false_eq_true, false_implies, true_implies, implies_true, and_true, true_and, and_false, false_and, or_true, true_or, or_false, false_or, reduceIte, eq_self]))
  | (((with_reducible refine' wo_asg ?h1 ?k); (case h1 => walk_at "ev")); walk_at "es")
  | ((with_reducible refine' wo_ret ?h1 ?k); (case h1 => walk_at "ev"))
  | (((with_reducible refine' wo_tgt ?h1 ?h2 ?k); (case h1 => walk_at "ev"); (case h2 => exact rfl)); walk_at "es")
  | ((with_reducible refine' wo_nil ?k))
  | ((with_reducible refine' wo_raise ?k))
  | (((with_reducible refine' wo_own ?h1 ?k); (case h1 => walk_at "ev")); walk_at "es")
  | (((with_reducible refine' wo_asgL ?h1 ?k); (case h1 => walk_at "ev")); walk_at "es")
  | (((with_reducible refine' wo_app ?h1 ?h2 ?h3 ?k); (case h1 => exact rfl); (case h2 => walk_at "ev"); (case h3 => walk_at "len")); walk_at "es")
  | (((with_reducible refine' wo_par ?h1 ?h2 ?k); (case h1 => walk_at "ev"); (case h2 => walk_at "ev")); walk_at "es")
  | ((with_reducible refine wo_frz ?_); simp only [frz, List.getElem?_cons_zero, List.getElem?_cons_succ, List.set_cons_zero, List.set_cons_succ]))
local macro_rules | `(tactic| walk_at "st") => `(tactic| (walk_at "st1"; try dsimp only))
local macro_rules | `(tactic| walk_at "hs") => `(tactic| ((try simp only [beq_self_eq_true, Bool.true_beq, Bool.false_beq, decide_eq_true_eq, decide_eq_false_iff_not, Bool.not_eq_true', Bool.not_eq_false', Bool.or_eq_true, Bool.and_eq_true, Bool.or_eq_false_iff, Bool.and_eq_false_imp, Bool.not_true, Bool.not_false, Bool.false_or, Bool.or_false, Bool.true_or, Bool.or_true, Bool.true_and, Bool.and_true, Bool.false_and, Bool.and_false, Bool.true_eq_false, Bool.false_eq_true, decide_true, decide_false, reduceCtorEq, D.isNone, Int.not_lt, Int.not_le, ne_eq, Decidable.not_not, not_true_eq_false, not_false_eq_true, false_implies, true_implies, implies_true, and_true, true_and, and_false, false_and, or_true, true_or, or_false, false_or, reduceIte, eq_self]); exact rfl))
local macro_rules | `(tactic| walk_at "fls") => `(tactic| first | (with_reducible exact False.elim) | (with_reducible refine fun (_ : True) => ?_) | skip)
local macro_rules | `(tactic| walk_at "if") => `(tactic| ((with_reducible refine' wo_ifx ?h ?e1 ?e2 ?k1 ?k2); (case h => walk_at "ev"); (case e1 => walk_at "hs"); (case e2 => walk_at "hs"); (case' k1 => walk_at "fls"); (case' k2 => walk_at "fls")))
local macro_rules | `(tactic| walk_at "tt") => `(tactic| (try simp only [beq_self_eq_true, Bool.true_beq, Bool.false_beq, decide_eq_true_eq, decide_eq_false_iff_not, Bool.not_eq_true', Bool.not_eq_false', Bool.or_eq_true, Bool.and_eq_true, Bool.or_eq_false_iff, Bool.and_eq_false_imp, Bool.not_true, Bool.not_false, Bool.false_or, Bool.or_false, Bool.true_or, Bool.or_true, Bool.true_and, Bool.and_true, Bool.false_and, Bool.and_false, Bool.true_eq_false, Bool.false_eq_true, decide_true, decide_false, reduceCtorEq, D.isNone, Int.not_lt, Int.not_le, ne_eq, Decidable.not_not, not_true_eq_false, not_false_eq_true, false_implies, true_implies, implies_true, and_true, true_and, and_false, false_and, or_true, true_or, or_false, false_or, reduceIte, eq_self]))
local macro_rules | `(tactic| walk_at "hc") => `(tactic| simp only [beq_self_eq_true, Bool.true_beq, Bool.false_beq, decide_eq_true_eq, decide_eq_false_iff_not, Bool.not_eq_true', Bool.not_eq_false', Bool.or_eq_true, Bool.and_eq_true, Bool.or_eq_false_iff, Bool.and_eq_false_imp, Bool.not_true, Bool.not_false, Bool.false_or, Bool.or_false, Bool.true_or, Bool.or_true, Bool.true_and, Bool.and_true, Bool.false_and, Bool.and_false, Bool.true_eq_false, Bool.false_eq_true, decide_true, decide_false, reduceCtorEq, D.isNone, Int.not_lt, Int.not_le, ne_eq, Decidable.not_not, not_true_eq_false, not_false_eq_true, false_implies, true_implies, implies_true, and_true, true_and, and_false, false_and, or_true, true_or, or_false, false_or, reduceIte, eq_self] at *)
local macro_rules | `(tactic| walk_at "sts") => `(tactic| (walk_at "st"; try (walk_at "st"; try (walk_at "st"; try (walk_at "st"; try (walk_at "st"; try (walk_at "st"; try (walk_at "st"; try (walk_at "st"; try (walk_at "st"; try (walk_at "st"; try (walk_at "st"; try (walk_at "st"; try (walk_at "st"; try (walk_at "st"; try (walk_at "st"; try (walk_at "st"; try (walk_at "st"; try (walk_at "st"; try (walk_at "st"; try (walk_at "st"; try (walk_at "st"; try (walk_at "st"; try (walk_at "st"; try (walk_at "st"; try (walk_at "st"; try (walk_at "st"; try (walk_at "st"; try (walk_at "st"; try (walk_at "st"; try (walk_at "st"; try (walk_at "st"; try (walk_at "st"; try (walk_at "st"; try (walk_at "st"; try (walk_at "st"; try (walk_at "st"; try (walk_at "st"; try (walk_at "st"; try (walk_at "st"; try (walk_at "st"; try (walk_at "st"))))))))))))))))))))))))))))))))))))))))))
local macro_rules | `(tactic| walk_at "op") => `(tactic| first
  | with_reducible assumption
  | with_reducible exact dIs_nn
  | with_reducible exact dIs_pt _
  | with_reducible exact dIs_D3 _ _ _
  | with_reducible exact dIsN_nn
  | with_reducible exact dIsN_pt _
  | with_reducible exact dIsN_D3 _ _ _
  | ((with_reducible refine at_czm ?_); first | with_reducible assumption | omega)
  | ((with_reducible refine at_czm1 ?_); first | with_reducible assumption | omega)
  | ((with_reducible refine at_sides ?_); first | with_reducible assumption | omega)
  | ((with_reducible refine at_normals ?_); first | with_reducible assumption | omega)
  | ((with_reducible refine at_cz ?_ ?_) <;> first | with_reducible assumption | omega)
  | with_reducible exact dLen_scr _
  | with_reducible exact dLen_tup _
  | walk_at "opx")
local macro_rules | `(tactic| walk_at "opx") => `(tactic| first
  | with_reducible exact isi_bb _
  | with_reducible exact dIs_i _
  | with_reducible exact isi_u _
  | with_reducible exact dLen_u _
  | with_reducible exact dEqN_D3t _ _
  | with_reducible exact dEqE_D3t _ _
  | ((with_reducible refine at_lstI ?_ ?_) <;> first | with_reducible assumption | omega)
  | with_reducible exact dIs_D3t _
  | with_reducible exact dIsN_D3t _
  | with_reducible exact dAt_u0 _
  | with_reducible exact dAt_u1 _
  | with_reducible exact dAt_u2 _
  | with_reducible exact dIs_nn
  | with_reducible exact dIs_pt _
  | with_reducible exact dIs_D3 _ _ _
  | with_reducible exact dIs_lst _
  | with_reducible exact dIsN_nn
  | with_reducible exact dIsN_pt _
  | with_reducible exact dIsN_D3 _ _ _
  | with_reducible exact dLen_t2 _
  | with_reducible exact dLen_t3 _ _ _
  | with_reducible assumption)
local macro_rules | `(tactic| walk_at "bdq") => `(tactic| first
  | ((with_reducible refine' bd_cz ?h ?g _); (case h => first | with_reducible assumption | exact Body.bd (by with_reducible assumption)); (case g => first | with_reducible assumption | exact Body.pos (by with_reducible assumption) | omega)))
local macro_rules | `(tactic| walk_at "shp") => `(tactic| first
  | ((with_reducible refine' shp_mapL ?h _); (case h => (intro _; walk_at "shp"))))
local macro_rules | `(tactic| walk_at "rng") => `(tactic| first
  | ((with_reducible refine rngN ?_); walk_at "num"))
local macro_rules | `(tactic| walk_at "st1") => `(tactic| first
  | (((with_reducible refine' wo_ins ?h1 ?h2 ?h3 ?h4 ?h5 ?h6 ?k); (case h1 => exact rfl); (case h2 => walk_at "ev"); (case h3 => walk_at "ev"); (case h4 => walk_at "num"); (case h5 => walk_at "num"); (case h6 => walk_at "len")); walk_at "es"))
local macro_rules | `(tactic| walk_at "ev") => `(tactic| first
  | with_reducible exact ev_home _ _ _
  | ((with_reducible refine' ev_cutS ?h1 ?h2 ?h3); (case h1 => walk_at "ev"); (case h2 => walk_at "ev"); (case h3 => walk_at "ev"))
  | ((with_reducible refine' ev_ownLenM ?h1); (case h1 => exact rfl))
  | ((with_reducible refine' ev_revm ?h1); (case h1 => walk_at "ev"))
  | ((with_reducible refine' ev_rev ?h1); (case h1 => walk_at "ev"))
  | ((with_reducible refine' ev_lc6 ?h1 ?h2 ?h3 ?h4 ?h5 ?h6 ?h7); (case h1 => walk_at "ev"); (case h2 => exact ⟨_, rfl, by walk_at "ev"⟩); (case h3 => exact ⟨_, rfl, by walk_at "ev"⟩); (case h4 => exact ⟨_, rfl, by walk_at "ev"⟩); (case h5 => exact ⟨_, rfl, by walk_at "ev"⟩); (case h6 => exact ⟨_, rfl, by walk_at "ev"⟩); (case h7 => exact ⟨_, rfl, by walk_at "ev"⟩))
  | ((with_reducible refine' ev_lc8 ?h1 ?h2 ?h3 ?h4 ?h5 ?h6 ?h7 ?h8 ?h9); (case h1 => walk_at "ev"); (case h2 => exact ⟨_, rfl, by walk_at "ev"⟩); (case h3 => exact ⟨_, rfl, by walk_at "ev"⟩); (case h4 => exact ⟨_, rfl, by walk_at "ev"⟩); (case h5 => exact ⟨_, rfl, by walk_at "ev"⟩); (case h6 => exact ⟨_, rfl, by walk_at "ev"⟩); (case h7 => exact ⟨_, rfl, by walk_at "ev"⟩); (case h8 => exact ⟨_, rfl, by walk_at "ev"⟩); (case h9 => exact ⟨_, rfl, by walk_at "ev"⟩))
  | ((with_reducible refine' ev_lc3 ?h1 ?h2 ?h3 ?h4); (case h1 => walk_at "ev"); (case h2 => exact ⟨_, rfl, by walk_at "ev"⟩); (case h3 => exact ⟨_, rfl, by walk_at "ev"⟩); (case h4 => exact ⟨_, rfl, by walk_at "ev"⟩))
  | ((with_reducible refine' ev_lcN ?h1 ?h2 ?h3 ?h4); (case h1 => walk_at "ev"); (case h2 => walk_at "rng"); (case h3 => walk_at "len"); (case h4 => (intro _ _; exact ⟨_, rfl, by walk_at "ev"⟩))))
local macro_rules | `(tactic| walk_at "okt") => `(tactic| first
  | with_reducible assumption
  | ((with_reducible refine okT.take ?_ _); walk_at "okt")
  | ((with_reducible refine okT.drop ?_ _); walk_at "okt")
  | ((with_reducible refine okT.app ?_ ?_) <;> walk_at "okt")
  | ((with_reducible refine okT_numI _))
  | decide)
local macro_rules | `(tactic| walk_at "lenT") => `(tactic| first
  | with_reducible assumption
  | omega
  | ((simp only [List.length_append, List.length_cons, List.length_nil, List.length_take, List.length_drop]) <;> omega)
  | decide)
local macro_rules | `(tactic| walk_at "op") => `(tactic| first
  | ((with_reducible refine dEq_T ?_ ?_) <;> walk_at "okt")
  | ((with_reducible refine dNe_T ?_ ?_) <;> walk_at "okt")
  | ((with_reducible refine dLen_T ?_); walk_at "lenT")
  | ((with_reducible refine dAdd_T ?_); walk_at "lenT")
  | with_reducible exact dIn_T _ _
  | with_reducible exact dOrd_T _
  | ((with_reducible refine dAt_T0 ?_ ?_); (first | with_reducible assumption | decide); walk_at "lenT")
  | ((with_reducible refine dAt_Tn ?_ ?_) <;> walk_at "lenT")
  | ((with_reducible refine dStr_T ?_); walk_at "log")
  | with_reducible exact isi_T _
  | with_reducible exact dIs_T _
  | with_reducible exact dIsN_T _
  | with_reducible exact dIs_nnT
  | with_reducible exact dIsN_nnT
  | with_reducible exact dIs_iT _
  | with_reducible exact dIsN_iT _
  | with_reducible exact dIs_D2T _ _
  | with_reducible exact dIsN_D2T _ _)
local macro_rules | `(tactic| walk_at "ev") => `(tactic| first
  | with_reducible exact ev_lit lit_e
  | with_reducible exact ev_lit lit_m
  | with_reducible exact ev_lit lit_0
  | with_reducible exact ev_lit lit_s
  | with_reducible exact ev_lit lit_f
  | ((with_reducible refine' ev_cutTo1 ?h1 ?h2); (case h1 => walk_at "ev"); (case h2 => walk_at "lenT"))
  | ((with_reducible refine' ev_cutFrom1 ?h1 ?h2); (case h1 => walk_at "ev"); (case h2 => walk_at "lenT"))
  | ((with_reducible refine' ev_cutTo ?h1 ?h2 ?h3); (case h1 => walk_at "ev"); (case h2 => walk_at "ev"); (case h3 => walk_at "lenT"))
  | ((with_reducible refine' ev_cutFrom ?h1 ?h2 ?h3); (case h1 => walk_at "ev"); (case h2 => walk_at "ev"); (case h3 => walk_at "lenT")))
local macro_rules | `(tactic| walk_at "st1") => `(tactic| first
  | ((with_reducible refine' wo_ift ?h ?e ?k); (case h => walk_at "ev"); (case e => first | decide | (simp [D.isNone]; done)))
  | ((with_reducible refine' wo_iff ?h ?e ?k); (case h => walk_at "ev"); (case e => first | decide | (simp [D.isNone]; done))))
local macro_rules | `(tactic| walk_at "log") => `(tactic| ((with_reducible refine log_bd ?_); walk_at "dis"))
theorem right_q {d : D} (h : OkThing d) : F__law_right_v7 [d] = .ok (.bl true) := by
  rcases h with ⟨l, rfl, h1, h2⟩ | h
  · exact right_T h1 h2
  · exact right_no h
theorem law_true (ns : List Int) (hl : ns.length ≤ 63) : F_law [.scr ns] = .ok (.bl true) := by
  unfold F_law b_law
  refine fn_ok ?_
  walk_at "start"
  walk_at "st"
  with_reducible refine' wo_rng (fun j ρ => ∃ s1, ρ = [.v (.scr ns), s1]) ?h1 ?h2 ?i0 ?step ?fin
  case h1 => walk_at "ev"
  case h2 => walk_at "rng"
  case i0 => exact ⟨_, rfl⟩
  case step =>
    rintro k ρ hk ⟨s1, rfl⟩
    refine ⟨_, rfl, ?_⟩
    obtain ⟨c, c0, c1, e0⟩ := cell_spec ns (k : Int) (by omega) (by omega)
    have bc : Bd 210 c := Bd.of_range c0 (Int.lt_trans c1 (by decide))
    obtain ⟨d, kt, ok⟩ := thing_q bc
    have kr := right_q ok
    unfold l1_law
    walk_at "es"
    walk_at "sts"
    exact ⟨_, rfl⟩
  case fin =>
    rintro ρ ⟨s1, rfl⟩
    walk_at "sts"
end Law

open PySem PySem.W PyProof.Rows in
set_option maxRecDepth 100000 in
set_option maxHeartbeats 0 in
theorem PySem.Challenge.cw_glide_k46_numbers_and_portions_read_holds : PySem.Challenge.rw_glide_k46_numbers_and_portions_read.Holds := by
  w_on; o_law; k_head; (case hw => w_witness2)
  k_fill
  refine GD.walk (l := PySem.Challenge.rw_glide_k46_numbers_and_portions_read) (k := 5) rfl rfl ⟨rfl, by decide, by decide⟩ (fun w h Y => PySem.W.kIn_of Y) ?F
  case F =>
    intro w mg fa h KX G hmg
    refine' Law.all_mk KX G hmg ?gC_Crowded ?kC_Crowded ?bC_Crowded ?tC_Crowded ?gC_Flat ?kC_Flat ?bC_Flat ?tC_Flat ?gC_GlideError ?kC_GlideError ?bC_GlideError ?tC_GlideError ?gC_NoName ?kC_NoName ?bC_NoName ?tC_NoName ?gC_NoNumber ?kC_NoNumber ?bC_NoNumber ?tC_NoNumber ?gC_NoRow ?kC_NoRow ?bC_NoRow ?tC_NoRow ?gC_NoText ?xC_NoText ?kC_NoText ?bC_NoText ?tC_NoText ?gC_Past ?kC_Past ?bC_Past ?tC_Past ?gC_Twice ?kC_Twice ?bC_Twice ?tC_Twice ?sg_NoText ?hd_Crowded ?hd_Flat ?hd_GlideError ?hd_NoName ?hd_NoNumber ?hd_NoRow ?hd_NoText ?hd_Past ?hd_Twice ?oN ?oT ?vg_NoText ?vk_NoText ?va_NoText ?vm_NoText ?sv_NoText ?su_NoText_Crowded ?su_NoText_Flat ?su_NoText_NoName ?su_NoText_NoNumber ?su_NoText_NoRow ?su_NoText_NoText ?su_NoText_Past ?su_NoText_Twice ?ss_Crowded ?ss_Flat ?ss_NoName ?ss_NoNumber ?ss_NoRow ?ss_NoText ?ss_Past ?ss_Twice ?a0 ?l0 ?c0 ?k0 ?a1 ?l1 ?c1 ?k1 ?a2 ?l2 ?c2 ?k2 ?a3 ?l3 ?c3 ?k3 ?a4 ?l4 ?c4 ?k4 ?a5 ?l5 ?c5 ?k5 ?a6 ?l6 ?c6 ?k6 ?a7 ?l7 ?c7 ?k7 ?a8 ?l8 ?c8 ?k8 ?a9 ?l9 ?c9 ?k9 ?a10 ?l10 ?c10 ?k10 ?a11 ?l11 ?c11 ?k11 ?a12 ?l12 ?c12 ?k12 ?a13 ?l13 ?c13 ?k13 ?a14 ?l14 ?c14 ?k14 ?a15 ?l15 ?c15 ?k15 ?a16 ?l16 ?c16 ?k16 ?a17 ?l17 ?c17 ?k17 ?a18 ?l18 ?c18 ?k18 ?gK_FIGURES ?zz_ValueError ?zz_abs ?zz_all ?zz_bool ?zz_int ?zz_isinstance ?zz_len ?zz_max ?zz_ord ?zz_range ?zz_str ?zz_tuple Law.law_true
    (case gC_Crowded => k_is)
    (case kC_Crowded => k_is)
    (case bC_Crowded => k_is)
    (case tC_Crowded => k_is)
    (case gC_Flat => k_is)
    (case kC_Flat => k_is)
    (case bC_Flat => k_is)
    (case tC_Flat => k_is)
    (case gC_GlideError => k_is)
    (case kC_GlideError => k_is)
    (case bC_GlideError => k_is)
    (case tC_GlideError => k_is)
    (case gC_NoName => k_is)
    (case kC_NoName => k_is)
    (case bC_NoName => k_is)
    (case tC_NoName => k_is)
    (case gC_NoNumber => k_is)
    (case kC_NoNumber => k_is)
    (case bC_NoNumber => k_is)
    (case tC_NoNumber => k_is)
    (case gC_NoRow => k_is)
    (case kC_NoRow => k_is)
    (case bC_NoRow => k_is)
    (case tC_NoRow => k_is)
    (case gC_NoText => k_is)
    (case xC_NoText => k_exc)
    (case kC_NoText => k_is)
    (case bC_NoText => k_is)
    (case tC_NoText => k_is)
    (case gC_Past => k_is)
    (case kC_Past => k_is)
    (case bC_Past => k_is)
    (case tC_Past => k_is)
    (case gC_Twice => k_is)
    (case kC_Twice => k_is)
    (case bC_Twice => k_is)
    (case tC_Twice => k_is)
    (case sg_NoText => k_is)
    (case hd_Crowded => k_is)
    (case hd_Flat => k_is)
    (case hd_GlideError => k_is)
    (case hd_NoName => k_is)
    (case hd_NoNumber => k_is)
    (case hd_NoRow => k_is)
    (case hd_NoText => k_is)
    (case hd_Past => k_is)
    (case hd_Twice => k_is)
    (case oN => k_is)
    (case oT => k_is)
    (case vg_NoText => k_is)
    (case vk_NoText => k_is)
    (case va_NoText => k_is)
    (case vm_NoText => k_is)
    (case sv_NoText => k_is)
    (case su_NoText_Crowded => k_is)
    (case su_NoText_Flat => k_is)
    (case su_NoText_NoName => k_is)
    (case su_NoText_NoNumber => k_is)
    (case su_NoText_NoRow => k_is)
    (case su_NoText_NoText => k_is)
    (case su_NoText_Past => k_is)
    (case su_NoText_Twice => k_is)
    (case ss_Crowded => k_is)
    (case ss_Flat => k_is)
    (case ss_NoName => k_is)
    (case ss_NoNumber => k_is)
    (case ss_NoRow => k_is)
    (case ss_NoText => k_is)
    (case ss_Past => k_is)
    (case ss_Twice => k_is)
    (case a0 => k_is)
    (case l0 => k_is)
    (case c0 => k_is)
    (case k0 => k_is)
    (case a1 => k_is)
    (case l1 => k_is)
    (case c1 => k_is)
    (case k1 => k_is)
    (case a2 => k_is)
    (case l2 => k_is)
    (case c2 => k_is)
    (case k2 => k_is)
    (case a3 => k_is)
    (case l3 => k_is)
    (case c3 => k_is)
    (case k3 => k_is)
    (case a4 => k_is)
    (case l4 => k_is)
    (case c4 => k_is)
    (case k4 => k_is)
    (case a5 => k_is)
    (case l5 => k_is)
    (case c5 => k_is)
    (case k5 => k_is)
    (case a6 => k_is)
    (case l6 => k_is)
    (case c6 => k_is)
    (case k6 => k_is)
    (case a7 => k_is)
    (case l7 => k_is)
    (case c7 => k_is)
    (case k7 => k_is)
    (case a8 => k_is)
    (case l8 => k_is)
    (case c8 => k_is)
    (case k8 => k_is)
    (case a9 => k_is)
    (case l9 => k_is)
    (case c9 => k_is)
    (case k9 => k_is)
    (case a10 => k_is)
    (case l10 => k_is)
    (case c10 => k_is)
    (case k10 => k_is)
    (case a11 => k_is)
    (case l11 => k_is)
    (case c11 => k_is)
    (case k11 => k_is)
    (case a12 => k_is)
    (case l12 => k_is)
    (case c12 => k_is)
    (case k12 => k_is)
    (case a13 => k_is)
    (case l13 => k_is)
    (case c13 => k_is)
    (case k13 => k_is)
    (case a14 => k_is)
    (case l14 => k_is)
    (case c14 => k_is)
    (case k14 => k_is)
    (case a15 => k_is)
    (case l15 => k_is)
    (case c15 => k_is)
    (case k15 => k_is)
    (case a16 => k_is)
    (case l16 => k_is)
    (case c16 => k_is)
    (case k16 => k_is)
    (case a17 => k_is)
    (case l17 => k_is)
    (case c17 => k_is)
    (case k17 => k_is)
    (case a18 => k_is)
    (case l18 => k_is)
    (case c18 => k_is)
    (case k18 => k_is)
    (case gK_FIGURES => k_is)
    (case zz_ValueError => k_is)
    (case zz_abs => k_is)
    (case zz_all => k_is)
    (case zz_bool => k_is)
    (case zz_int => k_is)
    (case zz_isinstance => k_is)
    (case zz_len => k_is)
    (case zz_max => k_is)
    (case zz_ord => k_is)
    (case zz_range => k_is)
    (case zz_str => k_is)
    (case zz_tuple => k_is)
