import PyProof.Rows.All
import Wide.All
import OpenK.AllK
import Wide.FinOn
import HandS.ForMost
import HandS.ForExc
import HandS.Wide
import HandS.IsInst
import HandS.ExcValue
import HandS.ExcIs
import HandS.Flow
import HandS.More
import HandS.TryOnly
import HandS.SortRule
import HandS.Conv
import HandS.Small
import KE.KDictSum
import HandS.Rev
import HandS.Iter
import HandS.Deep
import HandS.TupLe
import HandS.Text
import HandS.Walk
import PyProof.Rows.StrMul
import HandS.Dict
import KE.KSortTupAny
import KE.IntTextText
import PySem.Challenge.RW_glide_k47_points_read
set_option Elab.async false
set_option linter.all false
set_option maxRecDepth 100000
set_option maxHeartbeats 4000000
namespace GD
open PySem PySem.Spec PyProof.Rows L2
inductive D where
  | non
  | bl (b : Bool)
  | int (i : Int)
  | str (x : Str)
  | tup (ds : List D)
  | lst (ds : List D)
  | scr (ns : List Int)
  | dct (ks : List Key) (ds : List D)
  | exc (x : Str)
  | ty (n : String)
  | cls (x : Str)
  | obj (x : Str) (ns : List Str) (ds : List D)
def ExK (cls : Value) (a : Addr) : HO := .ext fun h => ∃ (oe : Obj) (vs : Array Value), h.get? a = some oe ∧ Zc cls none oe ∧ oe.data = .fields vs
def KT3 (K : PySem.W.Frag) (a : Addr) (x y z : Int) : Prop := ∃ (o : Obj) (its : Array Value) (n : Nat), K.lookup a = some o ∧ o.cls = .type "tuple" ∧ o.data = .seq its n ∧ its.size ≤ sizeLine ∧ Vals [.int x, .int y, .int z] its.toList
section
variable (K : PySem.W.Frag) (mg : Str → Option Value) (B : Hp)
mutual
inductive Is : V → D → Prop
  | non : Is .non .non
  | bl (b : Bool) : Is (.bl b) (.bl b)
  | int (i : Int) : Is (.int i) (.int i)
  | str (x : Str) : Is (.str x) (.str x)
  | tup {a : Addr} {xs : List V} {ds : List D} (h : B a = some (.tup xs)) (r : IsL xs ds) : Is (.ref a) (.tup ds)
  | tup3 {a : Addr} {x y z : Int} (h : KT3 K a x y z) : Is (.ref a) (.tup [.int x, .int y, .int z])
  | lst {a : Addr} {xs : List V} {ds : List D} (h : B a = some (.lst xs)) (r : IsL xs ds) : Is (.ref a) (.lst ds)
  | scr {a : Addr} {ns : List Int} (h : SqL K B a (ns.map V.int)) : Is (.ref a) (.scr ns)
  | dct {a : Addr} {kvs : List (Key × V)} {ks : List Key} {ds : List D} (h : B a = some (.dK kvs)) (hk : kvs.map (·.1) = ks) (r : IsL (kvs.map (·.2)) ds) : Is (.ref a) (.dct ks ds)
  | exc {a : Addr} {x : Str} {cls : Value} (hc : mg x = some cls) (h : B a = some (ExK cls a)) : Is (.ref a) (.exc x)
  | ty (n : String) : Is (.ty n) (.ty n)
  | cls {a : Addr} {x : Str} (h : mg x = some (.ref a)) : Is (.ref a) (.cls x)
  | obj {a C dx : Addr} {x : Str} {fs : List (Str × V)} {ns : List Str} {ds : List D} (hc : mg x = some (.ref C)) (h : B a = some (.ins C dx fs)) (hk : fs.map (·.1) = ns) (r : IsL (fs.map (·.2)) ds) : Is (.ref a) (.obj x ns ds)
inductive IsL : List V → List D → Prop
  | nil : IsL [] []
  | cons {v : V} {vs : List V} {d : D} {ds : List D} (h : Is v d) (r : IsL vs ds) : IsL (v :: vs) (d :: ds)
end
end
theorem seqT {K : PySem.W.Frag} {H H' : Hp} {a : Addr} {xs : List V} (e : Same H H') (h : SqT K H a xs) : SqT K H' a xs := by
  rcases h with (h | ⟨o, h⟩) | h
  · exact .inl (.inl (e _ _ h))
  · exact .inl (.inr ⟨o, e _ _ h⟩)
  · exact .inr h
section
variable {K : PySem.W.Frag} {mg : Str → Option Value} {B B' : Hp}
mutual
theorem Is.mono (e : Same B B') : ∀ {v : V} {d : D}, Is K mg B v d → Is K mg B' v d
  | _, _, .non => .non
  | _, _, .bl b => .bl b
  | _, _, .int i => .int i
  | _, _, .str x => .str x
  | _, _, .tup h r => .tup (e _ _ h) (IsL.mono e r)
  | _, _, .tup3 h => .tup3 h
  | _, _, .lst h r => .lst (e _ _ h) (IsL.mono e r)
  | _, _, .scr h => .scr (e.seq h)
  | _, _, .dct h k r => .dct (e _ _ h) k (IsL.mono e r)
  | _, _, .exc c h => .exc c (e _ _ h)
  | _, _, .ty n => .ty n
  | _, _, .cls h => .cls h
  | _, _, .obj c h k r => .obj c (e _ _ h) k (IsL.mono e r)
theorem IsL.mono (e : Same B B') : ∀ {vs : List V} {ds : List D}, IsL K mg B vs ds → IsL K mg B' vs ds
  | _, _, .nil => .nil
  | _, _, .cons h r => .cons (Is.mono e h) (IsL.mono e r)
end
theorem IsL.length : ∀ {vs : List V} {ds : List D}, IsL K mg B vs ds → vs.length = ds.length
  | _, _, .nil => rfl
  | _, _, .cons _ r => congrArg (· + 1) (IsL.length r)
theorem IsL.get : ∀ {vs : List V} {ds : List D} {i : Nat} {d : D}, IsL K mg B vs ds → ds[i]? = some d → ∃ v, vs[i]? = some v ∧ Is K mg B v d
  | _, _, _, _, .nil, e => by simp at e
  | _, _, 0, d, .cons h _, e => by
    simp at e
    subst e
    exact ⟨_, rfl, h⟩
  | _, _, i + 1, d, .cons _ r, e => by
    obtain ⟨v, h1, h2⟩ := IsL.get (i := i) (d := d) r (by simpa using e)
    exact ⟨v, by simpa using h1, h2⟩
theorem IsL.at : ∀ {vs : List V} {ds : List D} {i : Nat} {v : V}, IsL K mg B vs ds → vs[i]? = some v → ∃ d, ds[i]? = some d ∧ Is K mg B v d
  | _, _, _, _, .nil, e => by simp at e
  | _, _, 0, v, .cons h _, e => by
    simp at e
    subst e
    exact ⟨_, rfl, h⟩
  | _, _, i + 1, v, .cons _ r, e => by
    obtain ⟨d, h1, h2⟩ := IsL.at (i := i) (v := v) r (by simpa using e)
    exact ⟨d, by simpa using h1, h2⟩
theorem IsL.append : ∀ {vs ws : List V} {ds es : List D}, IsL K mg B vs ds → IsL K mg B ws es → IsL K mg B (vs ++ ws) (ds ++ es)
  | _, _, _, _, .nil, s => s
  | _, _, _, _, .cons h r, s => .cons h (IsL.append r s)
theorem IsL.take : ∀ {vs : List V} {ds : List D} (n : Nat), IsL K mg B vs ds → IsL K mg B (vs.take n) (ds.take n)
  | _, _, 0, _ => .nil
  | _, _, _ + 1, .nil => .nil
  | _, _, n + 1, .cons h r => .cons h (IsL.take n r)
theorem IsL.drop : ∀ {vs : List V} {ds : List D} (n : Nat), IsL K mg B vs ds → IsL K mg B (vs.drop n) (ds.drop n)
  | _, _, 0, r => r
  | _, _, _ + 1, .nil => .nil
  | _, _, n + 1, .cons _ r => IsL.drop n r
theorem IsL.set {v : V} {d : D} (h : Is K mg B v d) : ∀ {vs : List V} {ds : List D} (i : Nat), IsL K mg B vs ds → IsL K mg B (vs.set i v) (ds.set i d)
  | _, _, _, .nil => .nil
  | _, _, 0, .cons _ r => .cons h r
  | _, _, i + 1, .cons h' r => .cons h' (IsL.set h i r)
theorem IsL.snoc {v : V} {d : D} {vs : List V} {ds : List D} (r : IsL K mg B vs ds) (h : Is K mg B v d) : IsL K mg B (vs ++ [v]) (ds ++ [d]) := r.append (.cons h .nil)
theorem IsL.ints : ∀ (ns : List Int), IsL K mg B (ns.map V.int) (ns.map D.int)
  | [] => .nil
  | n :: ns => .cons (.int n) (IsL.ints ns)
end
def nt (o : HO) : Prop := ∀ xs, o ≠ .tup xs
theorem nt_lst {xs : List V} : nt (.lst xs) := fun _ q => nomatch q
theorem nt_dK {xs : List (Key × V)} : nt (.dK xs) := fun _ q => nomatch q
structure Grow (B H B' H' : Hp) : Prop where
  bb : Same B B'
  hh : Same H H'
  bh : Same B' H'
  sep : ∀ p o, H p = some o → nt o → B p = none → B' p = none
section
variable {B H B' H' B2 H2 : Hp}
theorem Grow.refl (h : Same B H) : Grow B H B H := ⟨Same.refl _, Same.refl _, h, fun _ _ _ _ n => n⟩
theorem Grow.trans (a : Grow B H B' H') (b : Grow B' H' B2 H2) : Grow B H B2 H2 :=
  ⟨a.bb.trans b.bb, a.hh.trans b.hh, b.bh, fun p o e t n => b.sep p o (a.hh p o e) t (a.sep p o e t n)⟩
theorem Grow.new {p : Addr} {o : HO} (h : Same B H) (n : H p = none) : Grow B H (upd B p o) (upd H p o) := by
  have nb : ∀ q u, B q = some u → q ≠ p := fun q u e => ne_of_none (h q u e) n
  refine ⟨fun q u e => ?_, fun q u e => ?_, fun q u e => ?_, fun q u e _ z => ?_⟩
  · rw [upd_ne (nb q u e)]; exact e
  · rw [upd_ne (ne_of_none e n)]; exact e
  · by_cases hq : q = p
    · subst hq; rw [upd_same] at e ⊢; exact e
    · rw [upd_ne hq] at e ⊢; exact h q u e
  · rw [upd_ne (ne_of_none e n)]; exact z
theorem Grow.own {p : Addr} {o : HO} (h : Same B H) (n : H p = none) : Grow B H B (upd H p o) := by
  refine ⟨Same.refl _, fun q u e => ?_, fun q u e => ?_, fun _ _ _ _ z => z⟩
  · rw [upd_ne (ne_of_none e n)]; exact e
  · rw [upd_ne (ne_of_none (h q u e) n)]; exact h q u e
end
inductive Sl where
  | un
  | v (d : D)
  | l (ds : List D)
  | r (t : Nat)
abbrev En := List Sl
structure Wd where
  B : Hp
  H : Hp
  al : List Addr
structure EnvOk (K : PySem.W.Frag) (mg : Str → Option Value) (W : Wd) (B H : Hp) (σ : L2.St) (ρ : En) : Prop where
  gr : Grow W.B W.H B H
  len : σ.length = ρ.length
  val : ∀ (i : Nat) (d : D), ρ[i]? = some (.v d) → ∃ v, σ[i]? = some (some v) ∧ Is K mg B v d
  own : ∀ (i : Nat) (ds : List D), ρ[i]? = some (.l ds) → ∃ p xs, σ[i]? = some (some (.ref p)) ∧ H p = some (.lst xs) ∧ B p = none ∧ W.H p = none ∧ IsL K mg B xs ds
  dis : ∀ (i j : Nat) (ds es : List D) (p : Addr), ρ[i]? = some (.l ds) → ρ[j]? = some (.l es) → σ[i]? = some (some (.ref p)) → σ[j]? = some (some (.ref p)) → i = j
  ref : ∀ (i t : Nat), ρ[i]? = some (.r t) → ∃ p, W.al[t]? = some p ∧ σ[i]? = some (some (.ref p))
section
variable {K : PySem.W.Frag} {mg : Str → Option Value} {W : Wd} {B H B' H' : Hp} {σ : L2.St} {ρ : En}
theorem EnvOk.bh (E : EnvOk K mg W B H σ ρ) : Same B H := E.gr.bh
theorem EnvOk.grow (E : EnvOk K mg W B H σ ρ) (g : Grow B H B' H') : EnvOk K mg W B' H' σ ρ :=
  ⟨E.gr.trans g, E.len, fun i d e => let ⟨v, h1, h2⟩ := E.val i d e; ⟨v, h1, h2.mono g.bb⟩,
    fun i ds e => let ⟨p, xs, h1, h2, h3, h4, h5⟩ := E.own i ds e; ⟨p, xs, h1, g.hh _ _ h2, g.sep _ _ h2 nt_lst h3, h4, h5.mono g.bb⟩, E.dis, E.ref⟩
theorem EnvOk.here (E : EnvOk K mg W B H σ ρ) : EnvOk K mg ⟨B, W.H, W.al⟩ B H σ ρ :=
  ⟨⟨Same.refl _, E.gr.hh, E.gr.bh, fun _ _ _ _ n => n⟩, E.len, E.val, E.own, E.dis, E.ref⟩
theorem EnvOk.back {B1 : Hp} (g : Grow W.B W.H B H) (E : EnvOk K mg ⟨B, W.H, W.al⟩ B' H' σ ρ) : EnvOk K mg W B' H' σ ρ :=
  ⟨⟨g.bb.trans E.gr.bb, E.gr.hh, E.gr.bh, fun p o e t n => E.gr.sep p o e t (g.sep p o e t n)⟩, E.len, E.val, E.own, E.dis, E.ref⟩
theorem get_set {α : Type} {l : List α} {i j : Nat} {x y : α} (h : (l.set i x)[j]? = some y) : (j = i ∧ y = x ∧ i < l.length) ∨ (j ≠ i ∧ l[j]? = some y) := by
  by_cases e : i = j
  · subst e
    by_cases hl : i < l.length
    · rw [List.getElem?_set_self hl] at h
      exact .inl ⟨rfl, (Option.some.inj h).symm, hl⟩
    · rw [List.getElem?_eq_none (by simpa using hl)] at h
      cases h
  · rw [List.getElem?_set_ne e] at h
    exact .inr ⟨fun z => e z.symm, h⟩
theorem EnvOk.refSet {i : Nat} {o : Option V} {s : Sl} (E : EnvOk K mg W B H σ ρ) (hs : ∀ t, s ≠ .r t) : ∀ (j t : Nat), (ρ.set i s)[j]? = some (.r t) → ∃ p, W.al[t]? = some p ∧ (σ.set i o)[j]? = some (some (.ref p)) := by
  intro j t hj
  rcases get_set hj with ⟨_, e1, _⟩ | ⟨hne, e1⟩
  · exact absurd e1.symm (hs t)
  · obtain ⟨p, h1, h2⟩ := E.ref j t e1
    exact ⟨p, h1, by rw [List.getElem?_set_ne (Ne.symm hne)]; exact h2⟩
theorem EnvOk.refSet0 {i : Nat} {s : Sl} (E : EnvOk K mg W B H σ ρ) (hs : ∀ t, s ≠ .r t) : ∀ (j t : Nat), (ρ.set i s)[j]? = some (.r t) → ∃ p, W.al[t]? = some p ∧ σ[j]? = some (some (.ref p)) := by
  intro j t hj
  rcases get_set hj with ⟨_, e1, _⟩ | ⟨hne, e1⟩
  · exact absurd e1.symm (hs t)
  · exact E.ref j t e1
theorem EnvOk.set (E : EnvOk K mg W B H σ ρ) {i : Nat} {v : V} {d : D} (h : Is K mg B v d) : EnvOk K mg W B H (σ.set i (some v)) (ρ.set i (.v d)) := by
  refine ⟨E.gr, by simp [E.len], fun j e hj => ?_, fun j ds hj => ?_, fun j k ds es p hj hk h1 h2 => ?_, E.refSet fun _ z => nomatch z⟩
  · rcases get_set hj with ⟨rfl, e1, hl⟩ | ⟨hne, e1⟩
    · cases e1
      exact ⟨v, by rw [List.getElem?_set_self (by rw [E.len]; exact hl)], h⟩
    · obtain ⟨u, h1, h2⟩ := E.val j e e1
      exact ⟨u, by rw [List.getElem?_set_ne (Ne.symm hne)]; exact h1, h2⟩
  · rcases get_set hj with ⟨_, e1, _⟩ | ⟨hne, e1⟩
    · cases e1
    · obtain ⟨p, xs, h1, h2⟩ := E.own j ds e1
      exact ⟨p, xs, by rw [List.getElem?_set_ne (Ne.symm hne)]; exact h1, h2⟩
  · rcases get_set hj with ⟨_, e1, _⟩ | ⟨n1, e1⟩
    · cases e1
    · rcases get_set hk with ⟨_, e2, _⟩ | ⟨n2, e2⟩
      · cases e2
      · rw [List.getElem?_set_ne (Ne.symm n1)] at h1
        rw [List.getElem?_set_ne (Ne.symm n2)] at h2
        exact E.dis j k ds es p e1 e2 h1 h2
theorem EnvOk.setL (E : EnvOk K mg W B H σ ρ) {i : Nat} {p : Addr} {xs : List V} {ds : List D} (hp : H p = some (.lst xs)) (nb : B p = none) (nw : W.H p = none)
    (nn : ∀ (j : Nat) (es : List D), ρ[j]? = some (.l es) → j ≠ i → σ[j]? ≠ some (some (.ref p))) (h : IsL K mg B xs ds) : EnvOk K mg W B H (σ.set i (some (.ref p))) (ρ.set i (.l ds)) := by
  refine ⟨E.gr, by simp [E.len], fun j e hj => ?_, fun j es hj => ?_, fun j k es fs q hj hk h1 h2 => ?_, E.refSet fun _ z => nomatch z⟩
  · rcases get_set hj with ⟨_, e1, _⟩ | ⟨hne, e1⟩
    · cases e1
    · obtain ⟨u, h1, h2⟩ := E.val j e e1
      exact ⟨u, by rw [List.getElem?_set_ne (Ne.symm hne)]; exact h1, h2⟩
  · rcases get_set hj with ⟨rfl, e1, hl⟩ | ⟨hne, e1⟩
    · cases e1
      exact ⟨p, xs, by rw [List.getElem?_set_self (by rw [E.len]; exact hl)], hp, nb, nw, h⟩
    · obtain ⟨q, ys, h1, h2⟩ := E.own j es e1
      exact ⟨q, ys, by rw [List.getElem?_set_ne (Ne.symm hne)]; exact h1, h2⟩
  · rcases get_set hj with ⟨rfl, e1, hl⟩ | ⟨n1, e1⟩
    · rcases get_set hk with ⟨rfl, e2, _⟩ | ⟨n2, e2⟩
      · rfl
      · rw [List.getElem?_set_self (by rw [E.len]; exact hl)] at h1
        rw [List.getElem?_set_ne (Ne.symm n2)] at h2
        cases h1
        exact absurd h2 (nn k fs e2 n2)
    · rcases get_set hk with ⟨rfl, e2, hl⟩ | ⟨n2, e2⟩
      · rw [List.getElem?_set_self (by rw [E.len]; exact hl)] at h2
        rw [List.getElem?_set_ne (Ne.symm n1)] at h1
        cases h2
        exact absurd h1 (nn j es e1 n1)
      · rw [List.getElem?_set_ne (Ne.symm n1)] at h1
        rw [List.getElem?_set_ne (Ne.symm n2)] at h2
        exact E.dis j k es fs q e1 e2 h1 h2
theorem EnvOk.mut (E : EnvOk K mg W B H σ ρ) {i : Nat} {p : Addr} {xs ys : List V} {ds es : List D} (hi : ρ[i]? = some (.l ds)) (hs : σ[i]? = some (some (.ref p))) (h : IsL K mg B ys es) :
    EnvOk K mg W B (upd H p (.lst ys)) σ (ρ.set i (.l es)) := by
  obtain ⟨p', zs, h1, h2, h3, h4, h5⟩ := E.own i ds hi
  have ep : p' = p := by
    rw [hs] at h1
    cases h1
    rfl
  subst ep
  have nb : ∀ q u, B q = some u → q ≠ p' := fun q u e z => by rw [z, h3] at e; cases e
  have nw : ∀ q u, W.H q = some u → q ≠ p' := fun q u e z => by rw [z, h4] at e; cases e
  have hl : i < ρ.length := (List.getElem?_eq_some_iff.mp hi).1
  refine ⟨⟨E.gr.bb, fun q u e => ?_, fun q u e => ?_, E.gr.sep⟩, by simp [E.len], fun j e hj => ?_, fun j fs hj => ?_, fun j k fs gs q hj hk h1 h2 => ?_, E.refSet0 fun _ z => nomatch z⟩
  · rw [upd_ne (nw q u e)]; exact E.gr.hh q u e
  · rw [upd_ne (nb q u e)]; exact E.gr.bh q u e
  · rcases get_set hj with ⟨_, e1, _⟩ | ⟨hne, e1⟩
    · cases e1
    · exact E.val j e e1
  · rcases get_set hj with ⟨rfl, e1, _⟩ | ⟨hne, e1⟩
    · cases e1
      exact ⟨p', ys, hs, upd_same, h3, h4, h⟩
    · obtain ⟨q, zs', g1, g2, g3⟩ := E.own j fs e1
      have hq : q ≠ p' := fun z => hne (E.dis j i fs ds p' e1 hi (by rw [g1, z]) hs)
      exact ⟨q, zs', g1, by rw [upd_ne hq]; exact g2, g3⟩
  · have hj' : ∃ es, ρ[j]? = some (.l es) := by
      rcases get_set hj with ⟨rfl, _, _⟩ | ⟨_, e1⟩
      · exact ⟨_, hi⟩
      · exact ⟨_, e1⟩
    have hk' : ∃ es, ρ[k]? = some (.l es) := by
      rcases get_set hk with ⟨rfl, _, _⟩ | ⟨_, e1⟩
      · exact ⟨_, hi⟩
      · exact ⟨_, e1⟩
    obtain ⟨_, e1⟩ := hj'
    obtain ⟨_, e2⟩ := hk'
    exact E.dis j k _ _ q e1 e2 h1 h2
def frz (i : Nat) (ρ : En) : En := match ρ[i]? with
  | some (.l ds) => ρ.set i (.v (.lst ds))
  | _ => ρ
theorem EnvOk.frz (E : EnvOk K mg W B H σ ρ) (i : Nat) : ∃ B', EnvOk K mg W B' H σ (frz i ρ) := by
  unfold GD.frz
  split
  · rename_i ds hi
    obtain ⟨p, xs, h1, h2, h3, h4, h5⟩ := E.own i ds hi
    have nb : ∀ q u, B q = some u → q ≠ p := fun q u e z => by rw [z, h3] at e; cases e
    have bb : Same B (upd B p (.lst xs)) := fun q u e => by rw [upd_ne (nb q u e)]; exact e
    have hl : i < ρ.length := (List.getElem?_eq_some_iff.mp hi).1
    refine ⟨upd B p (.lst xs), ⟨⟨E.gr.bb.trans bb, E.gr.hh, fun q u e => ?_, fun q u e tt n => ?_⟩, by simp [E.len], fun j e hj => ?_, fun j fs hj => ?_, fun j k fs gs q hj hk g1 g2 => ?_, E.refSet0 fun _ z => nomatch z⟩⟩
    · by_cases hq : q = p
      · subst hq; rw [upd_same] at e; rw [h2, e]
      · rw [upd_ne hq] at e; exact E.gr.bh q u e
    · rw [upd_ne (fun z => by rw [z, h4] at e; cases e)]
      exact E.gr.sep q u e tt n
    · rcases get_set hj with ⟨rfl, e1, _⟩ | ⟨hne, e1⟩
      · cases e1
        exact ⟨_, h1, .lst upd_same (h5.mono bb)⟩
      · obtain ⟨u, g1, g2⟩ := E.val j e e1
        exact ⟨u, g1, g2.mono bb⟩
    · rcases get_set hj with ⟨_, e1, _⟩ | ⟨hne, e1⟩
      · cases e1
      · obtain ⟨q, zs', g1, g2, g3, g4, g5⟩ := E.own j fs e1
        have hq : q ≠ p := fun z => hne (E.dis j i fs ds p e1 hi (by rw [g1, z]) h1)
        exact ⟨q, zs', g1, g2, by rw [upd_ne hq]; exact g3, g4, g5.mono bb⟩
    · rcases get_set hj with ⟨_, e1, _⟩ | ⟨_, e1⟩
      · cases e1
      · rcases get_set hk with ⟨_, e2, _⟩ | ⟨_, e2⟩
        · cases e2
        · exact E.dis j k _ _ q e1 e2 g1 g2
  · exact ⟨B, E⟩
theorem EnvOk.drop (E : EnvOk K mg W B H σ ρ) (i : Nat) {o : Option V} : EnvOk K mg W B H (σ.set i o) (ρ.set i .un) := by
  refine ⟨E.gr, by simp [E.len], fun j e hj => ?_, fun j ds hj => ?_, fun j k ds es p hj hk h1 h2 => ?_, E.refSet fun _ z => nomatch z⟩
  · rcases get_set hj with ⟨_, e1, _⟩ | ⟨hne, e1⟩
    · cases e1
    · obtain ⟨u, h1, h2⟩ := E.val j e e1
      exact ⟨u, by rw [List.getElem?_set_ne (Ne.symm hne)]; exact h1, h2⟩
  · rcases get_set hj with ⟨_, e1, _⟩ | ⟨hne, e1⟩
    · cases e1
    · obtain ⟨p, xs, h1, h2⟩ := E.own j ds e1
      exact ⟨p, xs, by rw [List.getElem?_set_ne (Ne.symm hne)]; exact h1, h2⟩
  · rcases get_set hj with ⟨_, e1, _⟩ | ⟨n1, e1⟩
    · cases e1
    · rcases get_set hk with ⟨_, e2, _⟩ | ⟨n2, e2⟩
      · cases e2
      · rw [List.getElem?_set_ne (Ne.symm n1)] at h1
        rw [List.getElem?_set_ne (Ne.symm n2)] at h2
        exact E.dis j k ds es p e1 e2 h1 h2
end
inductive R (α : Type) where
  | ok (a : α)
  | er (x : Str)
  | st
def R.bind {α β : Type} (r : R α) (f : α → R β) : R β := match r with
  | .ok a => f a
  | .er x => .er x
  | .st => .st
def Post {α : Type} (r : R α) (P : α → Prop) (E : Str → Prop) : Prop := match r with
  | .ok a => P a
  | .er x => E x
  | .st => False
theorem Post.bind {α β : Type} {r : R α} {f : α → R β} {P : β → Prop} {E : Str → Prop} (h : Post (r.bind f) P E) : Post r (fun a => Post (f a) P E) E := by
  cases r <;> exact h
theorem Post.mono {α : Type} {r : R α} {P P' : α → Prop} {E E' : Str → Prop} (h : Post r P E) (hp : ∀ a, r = .ok a → P a → P' a) (he : ∀ x, E x → E' x) : Post r P' E' := by
  cases r with
  | ok a => exact hp a rfl h
  | er x => exact he x h
  | st => exact h
inductive Out where
  | nx (ρ : En)
  | rt (d : D)
  | bk (ρ : En)
  | ct (ρ : En)
  | er (x : Str) (ρ : En)
  | st
abbrev EM := En → R D
abbrev TM := En → R Bool
abbrev AM := En → R (List D)
abbrev SM := En → Out
def wpE (X : Cx) (e : Expr) : TE := fun σ H Q => ∃ t, PE X e t ∧ t σ H Q
def wpT (X : Cx) (e : Expr) : TT := fun σ H Q => ∃ t, PT X e t ∧ t σ H Q
def wpA (X : Cx) (es : List Expr) : TA := fun σ H Q => ∃ t, PA X es t ∧ t σ H Q
def wpS (X : Cx) (s : Stmt) : TS := fun D σ H => ∃ t, PS X s t ∧ t D σ H
def wpB (X : Cx) (ss : List Stmt) : TS := fun D σ H => ∃ t, PSs X ss t ∧ t D σ H
theorem pe_wp {X : Cx} {e : Expr} : PE X e (wpE X e) := ⟨fun pins s σ H Q I ⟨_, h, q⟩ => h.run pins s σ H Q I q⟩
theorem pt_wp {X : Cx} {e : Expr} : PT X e (wpT X e) := ⟨fun pins s σ H Q I ⟨_, h, q⟩ => h.run pins s σ H Q I q⟩
theorem pa_wp {X : Cx} {es : List Expr} : PA X es (wpA X es) := ⟨fun pos pins s σ H Q I ⟨_, h, q⟩ => h.run pos pins s σ H Q I q⟩
theorem ps_wp {X : Cx} {s : Stmt} : PS X s (wpS X s) := ⟨fun pins s σ H D I ⟨_, h, q⟩ => h.run pins s σ H D I q⟩
theorem pb_wp {X : Cx} {ss : List Stmt} : PSs X ss (wpB X ss) := ⟨fun pins s σ H D I ⟨_, h, q⟩ => h.run pins s σ H D I q⟩
def okD (X : Cx) (B H : Hp) (Q : VK) (d : D) : Prop := ∀ v B' H', Grow B H B' H' → Is X.K X.mg B' v d → Q v H'
def okT (B H : Hp) (Q : Bool → Hp → Prop) (b : Bool) : Prop := ∀ B' H', Grow B H B' H' → Q b H'
def okA (X : Cx) (B H : Hp) (Q : List V → Hp → Prop) (ds : List D) : Prop := ∀ vs B' H', Grow B H B' H' → IsL X.K X.mg B' vs ds → Q vs H'
def okF (X : Cx) (B H : Hp) (Q : VK) (ds : List D) : Prop := ∀ p xs B' H', Grow B H B' H' → H p = none → H' p = some (.lst xs) → B' p = none → IsL X.K X.mg B' xs ds → Q (.ref p) H'
def erD (X : Cx) (Wx : WX) (σ : L2.St) (B H : Hp) (x : Str) : Prop := ∀ cls B' H', X.mg x = some cls → Grow B H B' H' → Wx cls none σ H'
def PED (X : Cx) (Wx : WX) (e : Expr) (m : EM) : Prop := ∀ W σ H B ρ, EnvOk X.K X.mg W B H σ ρ → ∀ Q, Post (m ρ) (okD X B H Q) (erD X Wx σ B H) → wpE X e σ H Q
def PTD (X : Cx) (Wx : WX) (e : Expr) (m : TM) : Prop := ∀ W σ H B ρ, EnvOk X.K X.mg W B H σ ρ → ∀ Q, Post (m ρ) (okT B H Q) (erD X Wx σ B H) → wpT X e σ H Q
def PAD (X : Cx) (Wx : WX) (es : List Expr) (m : AM) : Prop := ∀ W σ H B ρ, EnvOk X.K X.mg W B H σ ρ → ∀ Q, Post (m ρ) (okA X B H Q) (erD X Wx σ B H) → wpA X es σ H Q
def PFD (X : Cx) (Wx : WX) (e : Expr) (m : AM) : Prop := ∀ W σ H B ρ, EnvOk X.K X.mg W B H σ ρ → ∀ Q, Post (m ρ) (okF X B H Q) (erD X Wx σ B H) → wpE X e σ H Q
def PostS (X : Cx) (W : Wd) (Wx : WX) (o : Out) (D : Ends) : Prop := match o with
  | .nx ρ => ∀ σ B H, EnvOk X.K X.mg W B H σ ρ → D.nx σ H
  | .rt d => ∀ v B H, Grow W.B W.H B H → Is X.K X.mg B v d → D.rt v H
  | .bk ρ => ∀ σ B H, EnvOk X.K X.mg W B H σ ρ → D.bk σ H
  | .ct ρ => ∀ σ B H, EnvOk X.K X.mg W B H σ ρ → D.ct σ H
  | .er x ρ => ∀ cls σ B H, X.mg x = some cls → EnvOk X.K X.mg W B H σ ρ → Wx cls none σ H
  | .st => False
def PSD (X : Cx) (Wx : WX) (s : Stmt) (m : SM) : Prop := ∀ W σ H B ρ, EnvOk X.K X.mg W B H σ ρ → ∀ D, PostS X W Wx (m ρ) D → wpS X s D σ H
def PBD (X : Cx) (Wx : WX) (ss : List Stmt) (m : SM) : Prop := ∀ W σ H B ρ, EnvOk X.K X.mg W B H σ ρ → ∀ D, PostS X W Wx (m ρ) D → wpB X ss D σ H
section
variable {X : Cx} {Wx : WX} {W : Wd} {σ : L2.St} {B H B1 H1 : Hp}
theorem okD.later {Q : VK} {d : D} (h : okD X B H Q d) (g : Grow B H B1 H1) : okD X B1 H1 Q d := fun v B' H' g' r => h v B' H' (g.trans g') r
theorem okT.later {Q : Bool → Hp → Prop} {b : Bool} (h : okT B H Q b) (g : Grow B H B1 H1) : okT B1 H1 Q b := fun B' H' g' => h B' H' (g.trans g')
theorem okA.later {Q : List V → Hp → Prop} {ds : List D} (h : okA X B H Q ds) (g : Grow B H B1 H1) : okA X B1 H1 Q ds := fun v B' H' g' r => h v B' H' (g.trans g') r
theorem okF.later {Q : VK} {ds : List D} (h : okF X B H Q ds) (g : Grow B H B1 H1) : okF X B1 H1 Q ds := fun p xs B' H' g' n e n' r => h p xs B' H' (g.trans g') (by
  cases q : H p with
  | none => rfl
  | some o => rw [g.hh p o q] at n; cases n) e n' r
theorem erD.later {x : Str} (h : erD X Wx σ B H x) (g : Grow B H B1 H1) : erD X Wx σ B1 H1 x := fun cls B' H' e g' => h cls B' H' e (g.trans g')
end
end GD
namespace GD
open PySem PySem.Spec PyProof.Rows L2
def R.ofO {α : Type} (o : Option α) : R α := match o with
  | some a => .ok a
  | none => .st
theorem Post.ofO {α : Type} {o : Option α} {P : α → Prop} {E : Str → Prop} (h : Post (R.ofO o) P E) : ∃ a, o = some a ∧ P a := by
  cases o with
  | none => exact h.elim
  | some a => exact ⟨a, rfl, h⟩
def mulOk (i j : Int) : Prop := i.natAbs.log2 + j.natAbs.log2 < 1000000
instance (i j : Int) : Decidable (mulOk i j) := by unfold mulOk; infer_instance
def divOk (j : Int) : Prop := 0 < j ∧ j.natAbs.log2 < 9000
instance (j : Int) : Decidable (divOk j) := by unfold divOk; infer_instance
def powOk (i j : Int) : Prop := 0 ≤ j ∧ j ≤ 1000000 ∧ i.natAbs < 2 ^ 64
instance (i j : Int) : Decidable (powOk i j) := by unfold powOk; infer_instance
def catOk (m n : Nat) : Prop := m + n ≤ sizeLine
instance (m n : Nat) : Decidable (catOk m n) := by unfold catOk; infer_instance
def dAdd : D → D → Option D
  | .int i, .int j => some (.int (i + j))
  | .str x, .str y => if catOk x.length y.length then some (.str (x ++ y)) else none
  | .lst xs, .lst ys => if catOk xs.length ys.length then some (.lst (xs ++ ys)) else none
  | .tup xs, .tup ys => if xs.isEmpty = false ∧ ys.isEmpty = false ∧ catOk xs.length ys.length then some (.tup (xs ++ ys)) else none
  | _, _ => none
def dSub : D → D → Option D
  | .int i, .int j => some (.int (i - j))
  | _, _ => none
def dMul : D → D → Option D
  | .int i, .int j => if mulOk i j then some (.int (i * j)) else none
  | _, _ => none
def dDiv : D → D → Option D
  | .int i, .int j => if divOk j then some (.int (i / j)) else none
  | _, _ => none
def dMod : D → D → Option D
  | .int i, .int j => if 0 < j then some (.int (i % j)) else none
  | _, _ => none
def dPow : D → D → Option D
  | .int i, .int j => if powOk i j then some (.int (i ^ j.toNat)) else none
  | _, _ => none
def dNeg : D → Option D
  | .int i => some (.int (-i))
  | _ => none
def intsOf : List D → Option (List Int)
  | [] => some []
  | .int i :: ds => (intsOf ds).map (i :: ·)
  | _ => none
def dLt : D → D → Option D
  | .int i, .int j => some (.bl (decide (i < j)))
  | .str x, .str y => some (.bl (decide (x.cps.toList < y.cps.toList)))
  | .tup xs, .tup ys => (intsOf xs).bind fun ns => (intsOf ys).map fun ms => .bl (HT.lexLt ns ms)
  | _, _ => none
def dLe : D → D → Option D
  | .int i, .int j => some (.bl (decide (i ≤ j)))
  | .str x, .str y => some (.bl (!decide (y.cps.toList < x.cps.toList)))
  | _, _ => none
def dGt : D → D → Option D
  | .int i, .int j => some (.bl (decide (j < i)))
  | .str x, .str y => some (.bl (decide (y.cps.toList < x.cps.toList)))
  | _, _ => none
def dGe : D → D → Option D
  | .int i, .int j => some (.bl (decide (j ≤ i)))
  | .str x, .str y => some (.bl (!decide (x.cps.toList < y.cps.toList)))
  | _, _ => none
mutual
def toP : D → PyData
  | .non => .none
  | .bl b => .bool b
  | .int i => .int i
  | .str x => .str x
  | .tup ds => .tuple (toPs ds)
  | .lst ds => .list (toPs ds)
  | .scr ns => .list (ns.map .int)
  | _ => .dict []
def toPs : List D → List PyData
  | [] => []
  | d :: ds => toP d :: toPs ds
end
def dEq (d e : D) : Option D := if SeqAt.shaped (toP d) = true ∧ SeqAt.shaped (toP e) = true then some (.bl (PyData.eqv (toP d) (toP e))) else none
def dNe (d e : D) : Option D := if SeqAt.shaped (toP d) = true ∧ SeqAt.shaped (toP e) = true then some (.bl (!PyData.eqv (toP d) (toP e))) else none
def D.isNone : D → Bool
  | .non => true
  | _ => false
def dIs (d e : D) : Option D := match e with
  | .non => some (.bl d.isNone)
  | _ => none
def dIsNot (d e : D) : Option D := match e with
  | .non => some (.bl (!d.isNone))
  | _ => none
def dAt : D → D → Option D
  | .tup ds, .int k => atI ds k
  | .lst ds, .int k => atI ds k
  | .scr ns, .int k => (atI ns k).map D.int
  | .str x, .int k => if x.length ≤ sizeLine then (atI x.cps.toList k).map fun c => .str ⟨#[c]⟩ else none
  | _, _ => none
def eVar (i : Nat) : EM := fun ρ => match ρ[i]? with
  | some (.v d) => .ok d
  | _ => .st
def eC (d : D) : EM := fun _ => .ok d
def e1 (g : D → Option D) (ma : EM) : EM := fun ρ => (ma ρ).bind fun x => R.ofO (g x)
def e2 (g : D → D → Option D) (ma mb : EM) : EM := fun ρ => (ma ρ).bind fun x => (mb ρ).bind fun y => R.ofO (g x y)
def asB : D → Option Bool
  | .bl b => some b
  | _ => none
def mB (ma : EM) : TM := fun ρ => (ma ρ).bind fun x => R.ofO (asB x)
def aNil : AM := fun _ => .ok []
def aCons (ma : EM) (mr : AM) : AM := fun ρ => (ma ρ).bind fun x => (mr ρ).bind fun xs => .ok (x :: xs)
def eF (F : List D → R D) (ma : AM) : EM := fun ρ => (ma ρ).bind F
def eB (g : List D → Option D) (ma : AM) : EM := fun ρ => (ma ρ).bind fun ds => R.ofO (g ds)
def eTup (ma : AM) : EM := fun ρ => (ma ρ).bind fun ds => if ds.length ≤ sizeLine then .ok (.tup ds) else .st
def aLst (ma : AM) : AM := fun ρ => (ma ρ).bind fun ds => if ds.length ≤ sizeLine then .ok ds else .st
def eL (mf : AM) : EM := fun ρ => (mf ρ).bind fun ds => .ok (.lst ds)
def mNot (t : TM) : TM := fun ρ => (t ρ).bind fun b => .ok (!b)
def mAnd (t u : TM) : TM := fun ρ => (t ρ).bind fun b => if b = true then u ρ else .ok false
def mOr (t u : TM) : TM := fun ρ => (t ρ).bind fun b => if b = true then .ok true else u ρ
def eNot (a : EM) : EM := fun ρ => (mB a ρ).bind fun b => .ok (.bl (!b))
def eAnd (a b : EM) : EM := fun ρ => (mB a ρ).bind fun c => if c = true then b ρ else .ok (.bl false)
def eOr (a b : EM) : EM := fun ρ => (mB a ρ).bind fun c => if c = true then .ok (.bl true) else b ρ
def eCh (g g' : D → D → Option D) (ma mb mc : EM) : EM := fun ρ => (ma ρ).bind fun x => (mb ρ).bind fun y => (R.ofO (g x y)).bind fun z => (R.ofO (asB z)).bind fun k =>
  if k = true then (mc ρ).bind fun w => R.ofO (g' y w) else .ok (.bl false)
section
variable {K : PySem.W.Frag} {mg : Str → Option Value} {B : Hp} {v : V}
theorem Is.int_inv {i : Int} (h : Is K mg B v (.int i)) : v = .int i := by cases h; rfl
theorem Is.bl_inv {b : Bool} (h : Is K mg B v (.bl b)) : v = .bl b := by cases h; rfl
theorem Is.str_inv {x : Str} (h : Is K mg B v (.str x)) : v = .str x := by cases h; rfl
theorem Is.non_inv (h : Is K mg B v .non) : v = .non := by cases h; rfl
theorem Is.ty_inv {n : String} (h : Is K mg B v (.ty n)) : v = .ty n := by cases h; rfl
theorem Is.tup_inv {ds : List D} (h : Is K mg B v (.tup ds)) : ∃ a xs, v = .ref a ∧ SqT K B a xs ∧ IsL K mg B xs ds := by
  cases h with
  | tup h r => exact ⟨_, _, rfl, SqT.of h, r⟩
  | tup3 h => exact ⟨_, _, rfl, .inr h, .cons (.int _) (.cons (.int _) (.cons (.int _) .nil))⟩
theorem Is.lst_inv {ds : List D} (h : Is K mg B v (.lst ds)) : ∃ a xs, v = .ref a ∧ B a = some (.lst xs) ∧ IsL K mg B xs ds := by
  cases h with
  | lst h r => exact ⟨_, _, rfl, h, r⟩
theorem Is.scr_inv {ns : List Int} (h : Is K mg B v (.scr ns)) : ∃ a, v = .ref a ∧ SqL K B a (ns.map V.int) := by
  cases h with
  | scr h => exact ⟨_, rfl, h⟩
theorem Is.none_iff {d : D} (h : Is K mg B v d) : decide (v = V.non) = d.isNone := by
  cases h <;> simp [D.isNone]
theorem IsL.ints_inv : ∀ {ds : List D} {ns : List Int} {xs : List V}, intsOf ds = some ns → IsL K mg B xs ds → xs = ns.map V.int
  | [], ns, xs, e, h => by
    cases h
    simp [intsOf] at e
    subst e
    rfl
  | d :: ds, ns, xs, e, h => by
    cases h with
    | cons h r =>
      cases d with
      | int i =>
        simp only [intsOf, Option.map_eq_some_iff] at e
        obtain ⟨ms, e1, rfl⟩ := e
        rw [h.int_inv, IsL.ints_inv e1 r]
        rfl
      | _ => simp [intsOf] at e
theorem seqL_of {H : Hp} {a : Addr} {xs : List V} (e : Same B H) (h : B a = some (.lst xs)) : SqL K H a xs := SqL.of (e _ _ h)
theorem dps_ints {H : Hp} : ∀ ns : List Int, DpAll K H (ns.map V.int) (ns.map PyData.int)
  | [] => .nil
  | n :: ns => .cons (.int n) (dps_ints ns)
mutual
theorem Is.dp {H : Hp} (e : Same B H) : ∀ {v : V} {d : D}, Is K mg B v d → (SeqAt.shaped (toP d) = true ∨ PyData.canLay0 (toP d) = true) → Dp K H v (toP d)
  | _, _, .non, _ => .non
  | _, _, .bl b, _ => .bl b
  | _, _, .int i, _ => .int i
  | _, _, .str x, _ => .str x
  | _, _, .tup h r, c => by
    simp only [toP]
    refine .tup (SqT.of (e _ _ h)) (IsL.dp e r ?_)
    rcases c with c | c
    · have := SeqAt.canLay_of_shaped c
      simpa [toP, PyData.canLay0] using this
    · simpa [toP, PyData.canLay0] using c
  | _, _, .tup3 (x := x) (y := y) (z := z) h, c => by
    simp only [toP, toPs]
    exact .tup (.inr h) (dps_ints [x, y, z])
  | _, _, .lst h r, c => by
    simp only [toP]
    refine .lst (seqL_of e h) (IsL.dp e r ?_)
    rcases c with c | c
    · have := SeqAt.canLay_of_shaped c
      simpa [toP, PyData.canLay0] using this
    · simpa [toP, PyData.canLay0] using c
  | _, _, .scr (ns := ns) h, _ => by
    simp only [toP]
    refine .lst (e.seq h) ?_
    exact dps_ints ns
  | _, _, .dct h k r, c => by
    rcases c with c | c
    · have := SeqAt.canLay_of_shaped c
      simp [toP, PyData.canLay0] at this
    · simp [toP, PyData.canLay0] at c
  | _, _, .exc h k, c => by
    rcases c with c | c
    · have := SeqAt.canLay_of_shaped c
      simp [toP, PyData.canLay0] at this
    · simp [toP, PyData.canLay0] at c
  | _, _, .ty n, c => by
    rcases c with c | c
    · have := SeqAt.canLay_of_shaped c
      simp [toP, PyData.canLay0] at this
    · simp [toP, PyData.canLay0] at c
  | _, _, .cls h, c => by
    rcases c with c | c
    · have := SeqAt.canLay_of_shaped c
      simp [toP, PyData.canLay0] at this
    · simp [toP, PyData.canLay0] at c
  | _, _, .obj hc h k r, c => by
    rcases c with c | c
    · have := SeqAt.canLay_of_shaped c
      simp [toP, PyData.canLay0] at this
    · simp [toP, PyData.canLay0] at c
theorem IsL.dp {H : Hp} (e : Same B H) : ∀ {vs : List V} {ds : List D}, IsL K mg B vs ds → PyData.canLayAll0 (toPs ds) = true → DpAll K H vs (toPs ds)
  | _, _, .nil, _ => .nil
  | _, _, .cons h r, c => by
    simp only [toPs] at c ⊢
    simp only [PyData.canLayAll0, Bool.and_eq_true] at c
    exact .cons (Is.dp e h (.inr c.1)) (IsL.dp e r c.2)
end
end
def wpO (X : Cx) (f : Value → Value → Sem Value) : R2 := fun x y H Q => ∃ r, OpR X f r ∧ r x y H Q
theorem op_wp {X : Cx} {f : Value → Value → Sem Value} : OpR X f (wpO X f) := fun pins s σ H x y v u Q I rx ry ⟨_, ho, q⟩ => ho pins s σ H x y v u Q I rx ry q
def OpD (X : Cx) (f : Value → Value → Sem Value) (g : D → D → Option D) : Prop :=
  ∀ B H x y d e d' Q, Same B H → Is X.K X.mg B x d → Is X.K X.mg B y e → g d e = some d' → okD X B H Q d' → wpO X f x y H Q
section
variable {X : Cx} {B H : Hp} {Q : VK} {d : D}
theorem okD.at {v : V} (h : okD X B H Q d) (e : Same B H) (r : Is X.K X.mg B v d) : Q v H := h v B H (Grow.refl e) r
theorem okD.nt {ds : List D} {xs : List V} {p : Addr} (h : okD X B H Q (.tup ds)) (e : Same B H) (n : H p = none) (r : IsL X.K X.mg B xs ds) : Q (.ref p) (upd H p (.tup xs)) :=
  h _ _ _ (Grow.new e n) (.tup upd_same (r.mono (Grow.new (o := .tup xs) e n).bb))
theorem okD.nl {ds : List D} {xs : List V} {p : Addr} (h : okD X B H Q (.lst ds)) (e : Same B H) (n : H p = none) (r : IsL X.K X.mg B xs ds) : Q (.ref p) (upd H p (.lst xs)) :=
  h _ _ _ (Grow.new e n) (.lst upd_same (r.mono (Grow.new (o := .lst xs) e n).bb))
theorem some_ite {α : Type} {c : Prop} [Decidable c] {a b : α} (h : (if c then some a else none) = some b) : c ∧ a = b := by
  by_cases hc : c
  · rw [if_pos hc] at h; exact ⟨hc, Option.some.inj h⟩
  · rw [if_neg hc] at h; cases h
theorem opd_add : OpD X (binaryOp .Add) dAdd := by
  intro B H x y d e d' Q b rx ry g q
  unfold dAdd at g
  split at g
  · cases g
    rw [rx.int_inv, ry.int_inv]
    exact ⟨_, op_add, _, _, rfl, rfl, q.at b (.int _)⟩
  · obtain ⟨hc, rfl⟩ := some_ite g
    rw [rx.str_inv, ry.str_inv]
    exact ⟨_, op_add_str, _, _, rfl, rfl, hc, q.at b (.str _)⟩
  · obtain ⟨hc, rfl⟩ := some_ite g
    obtain ⟨a1, xs, rfl, h1, r1⟩ := rx.lst_inv
    obtain ⟨a2, ys, rfl, h2, r2⟩ := ry.lst_inv
    exact ⟨_, op_cat, a1, a2, xs, ys, rfl, rfl, b _ _ h1, b _ _ h2, by rw [r1.length, r2.length]; exact hc, fun p hp => q.nl b hp (r1.append r2)⟩
  · obtain ⟨⟨h1, h2, hc⟩, rfl⟩ := some_ite g
    obtain ⟨a1, xs, rfl, g1, r1⟩ := rx.tup_inv
    obtain ⟨a2, ys, rfl, g2, r2⟩ := ry.tup_inv
    rename_i ds es
    have n1 : xs ≠ [] := by
      intro z
      subst z
      cases r1
      simp at h1
    have n2 : ys ≠ [] := by
      intro z
      subst z
      cases r2
      simp at h2
    exact ⟨_, op_catT, a1, a2, xs, ys, rfl, rfl, seqT b g1, seqT b g2, n1, by rw [r1.length, r2.length]; exact hc, fun z => absurd z n2, fun _ p hp => q.nt b hp (r1.append r2)⟩
  · cases g
theorem opd_sub : OpD X (binaryOp .Sub) dSub := by
  intro B H x y d e d' Q b rx ry g q
  unfold dSub at g
  split at g
  · cases g
    rw [rx.int_inv, ry.int_inv]
    exact ⟨_, op_sub, _, _, rfl, rfl, q.at b (.int _)⟩
  · cases g
theorem opd_mul : OpD X (binaryOp .Mult) dMul := by
  intro B H x y d e d' Q b rx ry g q
  unfold dMul at g
  split at g
  · obtain ⟨hc, rfl⟩ := some_ite g
    rw [rx.int_inv, ry.int_inv]
    exact ⟨_, op_mulW, _, _, rfl, rfl, hc, q.at b (.int _)⟩
  · cases g
theorem opd_div : OpD X (binaryOp .FloorDiv) dDiv := by
  intro B H x y d e d' Q b rx ry g q
  unfold dDiv at g
  split at g
  · obtain ⟨hc, rfl⟩ := some_ite g
    rw [rx.int_inv, ry.int_inv]
    exact ⟨_, op_fdivW, _, _, rfl, rfl, hc, q.at b (.int _)⟩
  · cases g
theorem opd_mod : OpD X (binaryOp .Mod) dMod := by
  intro B H x y d e d' Q b rx ry g q
  unfold dMod at g
  split at g
  · obtain ⟨hc, rfl⟩ := some_ite g
    rw [rx.int_inv, ry.int_inv]
    exact ⟨_, op_mod, _, _, rfl, rfl, hc, q.at b (.int _)⟩
  · cases g
theorem opd_pow : OpD X (binaryOp .Pow) dPow := by
  intro B H x y d e d' Q b rx ry g q
  unfold dPow at g
  split at g
  · obtain ⟨hc, rfl⟩ := some_ite g
    rw [rx.int_inv, ry.int_inv]
    exact ⟨_, op_pow, _, _, rfl, rfl, hc, q.at b (.int _)⟩
  · cases g
theorem opd_lt (hu : X.A.units < cLine) : OpD X (compareOp .Lt) dLt := by
  intro B H x y d e d' Q b rx ry g q
  unfold dLt at g
  split at g
  · cases g
    rw [rx.int_inv, ry.int_inv]
    exact ⟨_, op_lt, _, _, rfl, rfl, q.at b (.bl _)⟩
  · cases g
    rw [rx.str_inv, ry.str_inv]
    exact ⟨_, op_lt_str, _, _, rfl, rfl, q.at b (.bl _)⟩
  · simp only [Option.bind_eq_some_iff, Option.map_eq_some_iff] at g
    obtain ⟨ns, g1, ms, g2, rfl⟩ := g
    obtain ⟨a1, xs, rfl, h1, r1⟩ := rx.tup_inv
    obtain ⟨a2, ys, rfl, h2, r2⟩ := ry.tup_inv
    have e1 := IsL.ints_inv g1 r1
    have e2 := IsL.ints_inv g2 r2
    subst e1 e2
    exact ⟨_, op_ltT hu, _, _, _, _, rfl, rfl, seqT b h1, seqT b h2, q.at b (.bl _)⟩
  · cases g
theorem opd_gt : OpD X (compareOp .Gt) dGt := by
  intro B H x y d e d' Q b rx ry g q
  unfold dGt at g
  split at g
  · cases g
    rw [rx.int_inv, ry.int_inv]
    exact ⟨_, op_gt, _, _, rfl, rfl, q.at b (.bl _)⟩
  · cases g
    rw [rx.str_inv, ry.str_inv]
    exact ⟨_, op_gt_str, _, _, rfl, rfl, q.at b (.bl _)⟩
  · cases g
theorem opd_eq (hu : X.A.units + 64 < cLine) : OpD X (compareOp .Eq) dEq := by
  intro B H x y d e d' Q b rx ry g q
  obtain ⟨⟨h1, h2⟩, rfl⟩ := some_ite g
  exact ⟨_, op_eqD hu, _, _, rx.dp b (.inl h1), ry.dp b (.inl h2), h1, h2, q.at b (.bl _)⟩
theorem opd_ne (hu : X.A.units + 64 < cLine) : OpD X (compareOp .NotEq) dNe := by
  intro B H x y d e d' Q b rx ry g q
  obtain ⟨⟨h1, h2⟩, rfl⟩ := some_ite g
  exact ⟨_, op_neD hu, _, _, rx.dp b (.inl h1), ry.dp b (.inl h2), h1, h2, q.at b (.bl _)⟩
theorem opd_is : OpD X (compareOp .Is) dIs := by
  intro B H x y d e d' Q b rx ry g q
  unfold dIs at g
  split at g
  · cases g
    rw [ry.non_inv]
    exact ⟨_, op_isN, rfl, by rw [rx.none_iff]; exact q.at b (.bl _)⟩
  · cases g
theorem opd_isNot : OpD X (compareOp .IsNot) dIsNot := by
  intro B H x y d e d' Q b rx ry g q
  unfold dIsNot at g
  split at g
  · cases g
    rw [ry.non_inv]
    exact ⟨_, op_notN, rfl, by rw [rx.none_iff]; exact q.at b (.bl _)⟩
  · cases g
def wpIx (X : Cx) : R2 := fun x y H Q => ∃ r, IxR X r ∧ r x y H Q
theorem ix_wp : IxR X (wpIx X) := fun value slice pins s σ H x y v u Q I rx ry ⟨_, ho, q⟩ => ho value slice pins s σ H x y v u Q I rx ry q
theorem IsL.atI {K : PySem.W.Frag} {mg : Str → Option Value} {xs : List V} {ds : List D} {k : Int} (r : IsL K mg B xs ds) (h : atI ds k = some d) : ∃ v, L2.atI xs k = some v ∧ Is K mg B v d := by
  unfold L2.atI at h ⊢
  rw [r.length]
  cases e : ixN ds.length k with
  | none => rw [e] at h; cases h
  | some j =>
    rw [e] at h
    exact r.get h
theorem ixd {x y : V} {d e d' : D} (b : Same B H) (rx : Is X.K X.mg B x d) (ry : Is X.K X.mg B y e) (g : dAt d e = some d') (q : okD X B H Q d') : wpIx X x y H Q := by
  unfold dAt at g
  split at g
  · obtain ⟨a1, xs, rfl, h1, r1⟩ := rx.tup_inv
    rw [ry.int_inv]
    obtain ⟨v, e1, r⟩ := r1.atI g
    exact ⟨_, ix_tup, _, _, _, _, rfl, rfl, seqT b h1, e1, q.at b r⟩
  · obtain ⟨a1, xs, rfl, h1, r1⟩ := rx.lst_inv
    rw [ry.int_inv]
    obtain ⟨v, e1, r⟩ := r1.atI g
    exact ⟨_, ix_list, _, _, _, _, rfl, rfl, seqL_of b h1, e1, q.at b r⟩
  · obtain ⟨a1, rfl, h1⟩ := rx.scr_inv
    rw [ry.int_inv]
    simp only [Option.map_eq_some_iff] at g
    obtain ⟨i, g1, rfl⟩ := g
    refine ⟨_, ix_list, _, _, _, .int i, rfl, rfl, b.seq h1, ?_, q.at b (.int i)⟩
    unfold L2.atI at g1 ⊢
    rw [List.length_map]
    rename_i ns k
    cases e : ixN ns.length k with
    | none => rw [e] at g1; cases g1
    | some j =>
      rw [e] at g1
      show (ns.map V.int)[j]? = _
      rw [List.getElem?_map, show ns[j]? = some i from g1]
      rfl
  · rw [rx.str_inv, ry.int_inv]
    split at g
    · rename_i hl
      simp only [Option.map_eq_some_iff] at g
      obtain ⟨c, g1, rfl⟩ := g
      exact ⟨_, ix_str, _, _, _, rfl, rfl, hl, g1, q.at b (.str _)⟩
    · cases g
  · cases g
end
section
variable {X : Cx} {Wx : WX} {a b c e : Expr} {es : List Expr} {pos p : Pos} {ma mb mc m : EM} {mr : AM}
theorem two {α : Type} {W : Wd} {σ : L2.St} {B H : Hp} {ρ : En} {k : D → D → R α} {P : α → Prop} {Rr : V → V → Hp → Prop} (ha : PED X Wx a ma) (hb : PED X Wx b mb) (E : EnvOk X.K X.mg W B H σ ρ)
    (h : Post ((ma ρ).bind fun d => (mb ρ).bind fun e => k d e) P (erD X Wx σ B H))
    (f : ∀ d e x y B2 H2, Grow B H B2 H2 → Is X.K X.mg B2 x d → Is X.K X.mg B2 y e → Post (k d e) P (erD X Wx σ B H) → Rr x y H2) : wpE X a σ H fun x H1 => wpE X b σ H1 fun y H2 => Rr x y H2 := by
  refine ha W σ H B ρ E _ (h.bind.mono (fun d _ hd x B1 H1 g1 rx => ?_) fun x h => h)
  exact hb W σ H1 B1 ρ (E.grow g1) _ (hd.bind.mono (fun e _ he y B2 H2 g2 ry => f d e x y B2 H2 (g1.trans g2) (rx.mono g2.bb) ry he) fun x h => h.later g1)
theorem ped_var {i : Nat} {x : Str} (hN : X.N[i]? = some x) (hv : Vis X.env.scope x) (hd : (x == ("__debug__" : Str)) = false := by decide) (hcd : (x == ("__classdict__" : Str)) = false := by decide) : PED X Wx (.Name x pos) (eVar i) := by
  intro W σ H B ρ E Q h
  unfold eVar at h
  split at h
  · rename_i d hd'
    obtain ⟨v, h1, h2⟩ := E.val i d hd'
    exact ⟨_, pe_var hN hv hd hcd, v, h1, okD.at h E.bh h2⟩
  · exact h.elim
theorem ped_int {i j} : PED X Wx (.Constant (.int i) j pos) (eC (.int i)) := fun W σ H B ρ E Q h => ⟨_, pe_int, okD.at h E.bh (.int i)⟩
theorem ped_bl {i j} : PED X Wx (.Constant (.bool i) j pos) (eC (.bl i)) := fun W σ H B ρ E Q h => ⟨_, pe_bl, okD.at h E.bh (.bl i)⟩
theorem ped_non {j} : PED X Wx (.Constant .none j pos) (eC .non) := fun W σ H B ρ E Q h => ⟨_, pe_non, okD.at h E.bh .non⟩
theorem ped_str {x j} : PED X Wx (.Constant (.str x) j pos) (eC (.str x)) := fun W σ H B ρ E Q h => ⟨_, pe_str, okD.at h E.bh (.str x)⟩
theorem ped_glob {x : Str} {v : V} {u : Value} {d : D} (hg : Gl X x) (hm : X.mg x = some u) (r : RelV v u) (hd : ∀ B, Is X.K X.mg B v d) (hdb : (x == ("__debug__" : Str)) = false := by decide) : PED X Wx (.Name x pos) (eC d) :=
  fun W σ H B ρ E Q h => ⟨_, pe_glob hg hm r hdb, okD.at h E.bh (hd B)⟩
theorem ped_bltn {x : Str} {v : V} {u : Value} {d : D} (hg : Gl X x) (hm : X.mg x = none) (hv : bootBuiltins x = some u) (r : RelV v u) (hd : ∀ B, Is X.K X.mg B v d) (hn : x ≠ "__name__" := by decide) (hdb : (x == ("__debug__" : Str)) = false := by decide) :
    PED X Wx (.Name x pos) (eC d) := fun W σ H B ρ E Q h => ⟨_, pe_bltn hg hm hv r hn hdb, okD.at h E.bh (hd B)⟩
theorem ped_op {op : Operator} {g : D → D → Option D} (ho : OpD X (binaryOp op) g) (ha : PED X Wx a ma) (hb : PED X Wx b mb) : PED X Wx (.BinOp a op b pos) (e2 g ma mb) :=
  fun W σ H B ρ E Q h => ⟨_, pe_op op_wp pe_wp pe_wp, two ha hb E h fun d e x y B2 H2 gr rx ry hk => by
    obtain ⟨d', e1, q⟩ := hk.ofO
    exact ho B2 H2 x y d e d' Q gr.bh rx ry e1 (q.later gr)⟩
theorem ped_const {d : D} (h : PED X Wx e m) (hd : ∀ ρ, m ρ = .ok d) : PED X Wx e (eC d) := fun W σ H B ρ E Q q => h W σ H B ρ E Q (by rw [hd ρ]; exact q)
theorem ped_cmp {op : CmpOp} {g : D → D → Option D} (ho : OpD X (compareOp op) g) (ha : PED X Wx a ma) (hb : PED X Wx b mb) (hm : behindInMarks op b = false) : PED X Wx (.Compare a [op] [b] pos) (e2 g ma mb) :=
  fun W σ H B ρ E Q h => ⟨_, pe_cmpR op_wp pe_wp pe_wp hm, two ha hb E h fun d e x y B2 H2 gr rx ry hk => by
    obtain ⟨d', e1, q⟩ := hk.ofO
    exact ho B2 H2 x y d e d' Q gr.bh rx ry e1 (q.later gr)⟩
theorem ptd_cmp {op : CmpOp} {g : D → D → Option D} (ho : OpD X (compareOp op) g) (ha : PED X Wx a ma) (hb : PED X Wx b mb) (hm : behindInMarks op b = false) : PTD X Wx (.Compare a [op] [b] pos) (mB (e2 g ma mb)) :=
  fun W σ H B ρ E Q h => ⟨_, pt_cmpR op_wp pe_wp pe_wp hm, by
    have h' : Post ((ma ρ).bind fun d => (mb ρ).bind fun e => (R.ofO (g d e)).bind fun x => R.ofO (asB x)) (okT B H Q) (erD X Wx σ B H) := by
      have := h
      unfold GD.mB e2 at this
      cases hm : ma ρ with
      | ok d =>
        rw [hm] at this
        cases hn : mb ρ with
        | ok e => rw [hn] at this; exact this
        | er x => rw [hn] at this; exact this
        | st => rw [hn] at this; exact this
      | er x => rw [hm] at this; exact this
      | st => rw [hm] at this; exact this
    exact two ha hb E h' fun d e x y B2 H2 gr rx ry hk => by
      obtain ⟨d', e1, q⟩ := hk.bind.ofO
      refine ho B2 H2 x y d e d' _ gr.bh rx ry e1 fun v B3 H3 g3 r3 => ?_
      obtain ⟨k, e2, q2⟩ := q.ofO
      cases d' with
      | bl k' =>
        obtain rfl : k' = k := Option.some.inj e2
        exact ⟨k', r3.bl_inv, q2 B3 H3 (gr.trans g3)⟩
      | _ => cases e2⟩
theorem ped_un {op : UnaryOp} {r : V → Hp → VK → Prop} {g : D → Option D} (hu : UnR X (unaryOp op) r) (ho : ∀ B H x d d' Q, Same B H → Is X.K X.mg B x d → g d = some d' → okD X B H Q d' → r x H Q) (ha : PED X Wx a ma) : PED X Wx (.UnaryOp op a pos) (e1 g ma) :=
  fun W σ H B ρ E Q h => ⟨_, pe_un hu pe_wp, ha W σ H B ρ E _ ((show Post ((ma ρ).bind fun x => R.ofO (g x)) _ _ from h).bind.mono (fun d _ hd x B1 H1 g1 rx => by
    obtain ⟨d', e1, q⟩ := hd.ofO
    exact ho B1 H1 x d d' Q g1.bh rx e1 (q.later g1)) fun x h => h)⟩
theorem ped_neg (ha : PED X Wx a ma) : PED X Wx (.UnaryOp .USub a pos) (e1 dNeg ma) := ped_un un_neg (fun B H x d d' Q b r g q => by
  unfold dNeg at g
  split at g
  · cases g
    rw [r.int_inv]
    exact ⟨_, rfl, q.at b (.int _)⟩
  · cases g) ha
theorem ped_ix (ha : PED X Wx a ma) (hb : PED X Wx b mb) (hs : PlainIx b) : PED X Wx (.Subscript a b pos) (e2 dAt ma mb) :=
  fun W σ H B ρ E Q h => ⟨_, pe_ix ix_wp pe_wp pe_wp hs, two ha hb E h fun d e x y B2 H2 gr rx ry hk => by
    obtain ⟨d', e1, q⟩ := hk.ofO
    exact ixd gr.bh rx ry e1 (q.later gr)⟩
theorem ptd_val (ha : PED X Wx a ma) (he : ∀ whole, isTrue a X.env whole = (do let v ← whole; standAt a.pos; holding [v] (truthy v))) : PTD X Wx a (GD.mB ma) :=
  fun W σ H B ρ E Q h => ⟨_, pt_val pe_wp he, ha W σ H B ρ E _ ((show Post ((ma ρ).bind fun x => R.ofO (asB x)) _ _ from h).bind.mono (fun d _ hd x B1 H1 g1 rx => by
    obtain ⟨k, e1, q⟩ := hd.ofO
    cases d with
    | bl k' =>
      obtain rfl : k' = k := Option.some.inj e1
      exact ⟨k', rx.bl_inv, q B1 H1 g1⟩
    | _ => cases e1) fun x h => h)⟩
variable {t u : TM} {rest : List Expr}
theorem ptd_not (ha : PTD X Wx a t) : PTD X Wx (.UnaryOp .Not a pos) (GD.mNot t) :=
  fun W σ H B ρ E Q h => ⟨_, pt_not pt_wp, ha W σ H B ρ E _ ((show Post ((t ρ).bind fun b => R.ok (!b)) _ _ from h).bind.mono (fun b _ hb B1 H1 g1 => (show okT B H Q (!b) from hb) B1 H1 g1) fun x h => h)⟩
def wpW (X : Cx) (e : Expr) : TT := fun σ H Q => ∃ t, PW X e t ∧ t σ H Q
theorem pw_wp : PW X e (wpW X e) := ⟨fun wh pins s σ H Q I ⟨_, h, q⟩ => h.run wh pins s σ H Q I q⟩
def PWD (X : Cx) (Wx : WX) (e : Expr) (m : TM) : Prop := ∀ W σ H B ρ, EnvOk X.K X.mg W B H σ ρ → ∀ Q, Post (m ρ) (okT B H Q) (erD X Wx σ B H) → wpW X e σ H Q
theorem pwd_pt (h : PWD X Wx e t) : PTD X Wx e t := fun W σ H B ρ E Q q => let ⟨r, h1, h2⟩ := h W σ H B ρ E Q q; ⟨r, h1.pt, h2⟩
theorem pwd_and1 (ha : PTD X Wx a t) : PWD X Wx (.BoolOp .And [a] pos) t := fun W σ H B ρ E Q h => ⟨_, pw_and1 pt_wp, ha W σ H B ρ E Q h⟩
theorem pwd_or1 (ha : PTD X Wx a t) : PWD X Wx (.BoolOp .Or [a] pos) t := fun W σ H B ρ E Q h => ⟨_, pw_or1 pt_wp, ha W σ H B ρ E Q h⟩
theorem pwd_and (ha : PTD X Wx a t) (hb : PWD X Wx (.BoolOp .And (b :: rest) pos) u) : PWD X Wx (.BoolOp .And (a :: b :: rest) pos) (GD.mAnd t u) :=
  fun W σ H B ρ E Q h => ⟨_, pw_and pt_wp pw_wp, ha W σ H B ρ E _ ((show Post ((t ρ).bind fun b => if b = true then u ρ else .ok false) _ _ from h).bind.mono (fun k _ hk B1 H1 g1 => by
    cases k with
    | true =>
      rw [if_pos rfl] at hk ⊢
      exact hb W σ H1 B1 ρ (E.grow g1) Q (hk.mono (fun _ _ q => q.later g1) fun _ q => q.later g1)
    | false =>
      rw [if_neg Bool.false_ne_true] at hk ⊢
      exact (show okT B H Q false from hk) B1 H1 g1) fun x h => h)⟩
theorem pwd_or (ha : PTD X Wx a t) (hb : PWD X Wx (.BoolOp .Or (b :: rest) pos) u) : PWD X Wx (.BoolOp .Or (a :: b :: rest) pos) (GD.mOr t u) :=
  fun W σ H B ρ E Q h => ⟨_, pw_or pt_wp pw_wp, ha W σ H B ρ E _ ((show Post ((t ρ).bind fun b => if b = true then .ok true else u ρ) _ _ from h).bind.mono (fun k _ hk B1 H1 g1 => by
    cases k with
    | false =>
      rw [if_neg Bool.false_ne_true] at hk ⊢
      exact hb W σ H1 B1 ρ (E.grow g1) Q (hk.mono (fun _ _ q => q.later g1) fun _ q => q.later g1)
    | true =>
      rw [if_pos rfl] at hk ⊢
      exact (show okT B H Q true from hk) B1 H1 g1) fun x h => h)⟩
theorem pad_nil : PAD X Wx [] aNil := fun W σ H B ρ E Q h => ⟨_, pa_nil, h [] B H (Grow.refl E.bh) .nil⟩
theorem pad_cons (ha : PED X Wx a ma) (hr : PAD X Wx es mr) (hs : starEach (a :: es) X.env = (false, eval a X.env) :: starEach es X.env := by rfl) : PAD X Wx (a :: es) (aCons ma mr) :=
  fun W σ H B ρ E Q h => ⟨_, pa_cons pe_wp pa_wp hs, ha W σ H B ρ E _ ((show Post ((ma ρ).bind fun x => (mr ρ).bind fun xs => R.ok (x :: xs)) _ _ from h).bind.mono (fun d _ hd x B1 H1 g1 rx =>
    hr W σ H1 B1 ρ (E.grow g1) _ (hd.bind.mono (fun ds _ hds vs B2 H2 g2 r2 => (show okA X B H Q (d :: ds) from hds) _ B2 H2 (g1.trans g2) (.cons (rx.mono g2.bb) r2)) fun x h => h.later g1)) fun x h => h)⟩
theorem ped_tup {k} (h : PAD X Wx es mr) : PED X Wx (.Tuple es k pos) (eTup mr) :=
  fun W σ H B ρ E Q hq => ⟨_, pe_tup pa_wp, h W σ H B ρ E _ ((show Post ((mr ρ).bind fun ds => if ds.length ≤ sizeLine then R.ok (D.tup ds) else R.st) _ _ from hq).bind.mono (fun ds _ hd vs B1 H1 g1 r1 => by
    by_cases hl : ds.length ≤ sizeLine
    · rw [if_pos hl] at hd
      exact ⟨by rw [r1.length]; exact hl, fun p hp => okD.nt ((show okD X B H Q (.tup ds) from hd).later g1) g1.bh hp r1⟩
    · rw [if_neg hl] at hd
      exact hd.elim) fun x h => h)⟩
theorem okF.nl {B H : Hp} {Q : VK} {ds : List D} {xs : List V} {p : Addr} (h : okF X B H Q ds) (e : Same B H) (n : H p = none) (r : IsL X.K X.mg B xs ds) : Q (.ref p) (upd H p (.lst xs)) :=
  h p xs B _ (Grow.own e n) n upd_same (by
    cases q : B p with
    | none => rfl
    | some o => rw [e p o q] at n; cases n) r
theorem pfd_lst (h : PAD X Wx es mr) : PFD X Wx (.List es pos) (aLst mr) :=
  fun W σ H B ρ E Q hq => ⟨_, pe_lst pa_wp, h W σ H B ρ E _ ((show Post ((mr ρ).bind fun ds => if ds.length ≤ sizeLine then R.ok ds else R.st) _ _ from hq).bind.mono (fun ds _ hd vs B1 H1 g1 r1 => by
    by_cases hl : ds.length ≤ sizeLine
    · rw [if_pos hl] at hd
      exact ⟨by rw [r1.length]; exact hl, fun p hp => okF.nl ((show okF X B H Q ds from hd).later g1) g1.bh hp r1⟩
    · rw [if_neg hl] at hd
      exact hd.elim) fun x h => h)⟩
theorem ped_new {mf : AM} (h : PFD X Wx e mf) : PED X Wx e (eL mf) :=
  fun W σ H B ρ E Q hq => h W σ H B ρ E Q ((show Post ((mf ρ).bind fun ds => R.ok (D.lst ds)) _ _ from hq).bind.mono (fun ds _ hd p xs B1 H1 g n e1 nb r => by
    have nb' : ∀ q u, B1 q = some u → q ≠ p := fun q u e z => by rw [z, nb] at e; cases e
    have s1 : Same B1 (upd B1 p (.lst xs)) := fun q u e => by rw [upd_ne (nb' q u e)]; exact e
    refine (show okD X B H Q (.lst ds) from hd) _ (upd B1 p (.lst xs)) H1 ⟨g.bb.trans s1, g.hh, fun q u e => ?_, fun q u e tt z => ?_⟩ (.lst upd_same (r.mono s1))
    · by_cases hq : q = p
      · subst hq; rw [upd_same] at e; rw [e1, e]
      · rw [upd_ne hq] at e; exact g.bh q u e
    · rw [upd_ne (ne_of_none e n)]
      exact g.sep q u e tt z) fun x h => h)
def spD (K : PySem.W.Frag) (mg : Str → Option Value) (n : Nat) (F : List D → R D) : Sp := fun vs H Q E => ∃ B ds, Same B H ∧ ds.length = n ∧ IsL K mg B vs ds ∧
  Post (F ds) (fun d => ∀ v B' H', Grow B H B' H' → Is K mg B' v d → Q v H') (fun x => ∀ cls B' H', mg x = some cls → Grow B H B' H' → E cls none H')
def FnD (P : Program) (w : World) (K : PySem.W.Frag) (mg : Str → Option Value) (base : Heap) (k : Nat) (x : Str) (ps : List Str) (F : List D → R D) : Prop :=
  ∃ f fd, mg x = some (.ref f) ∧ PySem.W.keepIn K (.ref f) = true ∧ Binds K fd ps [] ∧ FnOk P w K mg base (L2.CX P w) k f fd ps (spD K mg ps.length F)
theorem ped_call {k : Nat} {x : Str} {ps : List Str} {F : List D → R D} (hF : FnD X.prog X.w X.K X.mg X.base k x ps F) (hr : Room k X.A) (tk : Takes X Wx) (hg : Gl X x) (ha : PAD X Wx (a :: es) (aCons ma mr)) (hn : ∀ ρ ds, aCons ma mr ρ = .ok ds → ds.length = ps.length)
    (hdb : (x == ("__debug__" : Str)) = false := by decide) (he : starEach (a :: es) X.env = (false, eval a X.env) :: starEach es X.env := by rfl) (hpl : (backTo pos (starEach es X.env)).any (·.1) = false := by rfl) :
    PED X Wx (.Call (.Name x p) (a :: es) [] pos) (eF F (aCons ma mr)) := by
  obtain ⟨f, fd, hm, hk, hb, hf⟩ := hF
  intro W σ H B ρ E Q h
  refine ⟨_, pe_callS hf hr hg hm hk hb (fun σ => passAt tk σ) pa_wp hdb he hpl, ?_⟩
  refine ha W σ H B ρ E _ ((show Post ((aCons ma mr ρ).bind F) _ _ from h).bind.mono (fun ds hds hd vs B1 H1 g1 r1 => ?_) fun x h => h)
  exact ⟨B1, ds, g1.bh, hn ρ ds hds, r1, hd.mono (fun d _ q v B2 H2 g2 r2 => q v B2 H2 (g1.trans g2) r2) fun x q cls B2 H2 e g2 => q cls B2 H2 e (g1.trans g2)⟩
theorem aCons_len {n : Nat} (h : ∀ ρ ds, mr ρ = .ok ds → ds.length = n) : ∀ ρ ds, aCons ma mr ρ = .ok ds → ds.length = n + 1 := by
  intro ρ ds e
  unfold aCons at e
  cases h1 : ma ρ with
  | ok d =>
    rw [h1] at e
    cases h2 : mr ρ with
    | ok xs =>
      rw [h2] at e
      cases e
      rw [List.length_cons, h ρ xs h2]
    | er x => rw [h2] at e; cases e
    | st => rw [h2] at e; cases e
  | er x => rw [h1] at e; cases e
  | st => rw [h1] at e; cases e
theorem aNil_len : ∀ (ρ : En) ds, aNil ρ = .ok ds → ds.length = 0 := by
  intro ρ ds e
  cases e
  rfl
def CallD (X : Cx) (f : Value) (g : List D → Option D) : Prop := ∀ B H vs ds d' Q, Same B H → IsL X.K X.mg B vs ds → g ds = some d' → okD X B H Q d' → ∃ r, CallR X f r ∧ r vs H Q
def wpC (X : Cx) (f : Value) : List V → Hp → VK → Prop := fun vs H Q => ∃ r, CallR X f r ∧ r vs H Q
theorem call_wp {f : Value} : CallR X f (wpC X f) := fun pins s σ H xs us Q I r ⟨_, h, q⟩ => h pins s σ H xs us Q I r q
theorem ped_callB {x : Str} {id : String} {g : List D → Option D} (hc : CallD X (.builtin id) g) (hg : Gl X x) (hm : X.mg x = none) (hv : bootBuiltins x = some (.builtin id)) (ha : PAD X Wx (a :: es) mr) (hn : x ≠ "__name__" := by decide) (hdb : (x == ("__debug__" : Str)) = false := by decide)
    (he : starEach (a :: es) X.env = (false, eval a X.env) :: starEach es X.env := by rfl) (hpl : (backTo pos (starEach es X.env)).any (·.1) = false := by rfl) : PED X Wx (.Call (.Name x p) (a :: es) [] pos) (eB g mr) :=
  fun W σ H B ρ E Q h => ⟨_, pe_callB call_wp hg hm hv pa_wp hn hdb he hpl, ha W σ H B ρ E _ ((show Post ((mr ρ).bind fun ds => R.ofO (g ds)) _ _ from h).bind.mono (fun ds _ hd vs B1 H1 g1 r1 => by
    obtain ⟨d', e1, q⟩ := hd.ofO
    exact hc B1 H1 vs ds d' Q g1.bh r1 e1 (q.later g1)) fun x h => h)⟩
theorem ped_callT {x : Str} {T : String} {g : List D → Option D} (hc : CallD X (.type T) g) (hg : Gl X x) (hm : X.mg x = none) (hv : bootBuiltins x = some (.type T)) (ha : PAD X Wx (a :: es) mr) (hn : x ≠ "__name__" := by decide) (hdb : (x == ("__debug__" : Str)) = false := by decide)
    (he : starEach (a :: es) X.env = (false, eval a X.env) :: starEach es X.env := by rfl) (hpl : (backTo pos (starEach es X.env)).any (·.1) = false := by rfl) : PED X Wx (.Call (.Name x p) (a :: es) [] pos) (eB g mr) :=
  fun W σ H B ρ E Q h => ⟨_, pe_callTy call_wp hg hm hv pa_wp hn hdb he hpl, ha W σ H B ρ E _ ((show Post ((mr ρ).bind fun ds => R.ofO (g ds)) _ _ from h).bind.mono (fun ds _ hd vs B1 H1 g1 r1 => by
    obtain ⟨d', e1, q⟩ := hd.ofO
    exact hc B1 H1 vs ds d' Q g1.bh r1 e1 (q.later g1)) fun x h => h)⟩
end
end GD
namespace GD
open PySem PySem.Spec PyProof.Rows L2
def sNil : SM := fun ρ => .nx ρ
def sSeq (a b : SM) : SM := fun ρ => match a ρ with
  | .nx ρ' => b ρ'
  | o => o
def ofR {α : Type} (r : R α) (ρ : En) (k : α → Out) : Out := match r with
  | .ok a => k a
  | .er x => .er x ρ
  | .st => .st
def sIf (t : TM) (a b : SM) : SM := fun ρ => ofR (t ρ) ρ fun c => if c = true then a ρ else b ρ
def sAsg (i : Nat) (m : EM) : SM := fun ρ => ofR (m ρ) ρ fun d => .nx (ρ.set i (.v d))
def sRet (m : EM) : SM := fun ρ => ofR (m ρ) ρ .rt
def sRetN : SM := fun _ => .rt .non
def sExpr (m : EM) : SM := fun ρ => ofR (m ρ) ρ fun _ => .nx ρ
def sRaise (x : Str) : SM := fun ρ => .er x ρ
def sOwn (i : Nat) (m : AM) : SM := fun ρ => ofR (m ρ) ρ fun ds => .nx (ρ.set i (.l ds))
def sFrz (i : Nat) (a : SM) : SM := fun ρ => a (frz i ρ)
def gNm (i : Nat) : D → En → Option En := fun d ρ => some (ρ.set i (.v d))
def gsNil : List D → En → Option En := fun ds ρ => match ds with
  | [] => some ρ
  | _ => none
def gsCons (g : D → En → Option En) (gs : List D → En → Option En) : List D → En → Option En := fun ds ρ => match ds with
  | d :: r => (g d ρ).bind fun ρ' => gs r ρ'
  | [] => none
def gTp (gs : List D → En → Option En) : D → En → Option En := fun d ρ => match d with
  | .tup ds => gs ds ρ
  | _ => none
def sTgt (g : D → En → Option En) (m : EM) : SM := fun ρ => ofR (m ρ) ρ fun d => match g d ρ with
  | some ρ' => .nx ρ'
  | none => .st
def sPar (i j : Nat) (ma mb : EM) : SM := fun ρ => ofR ((ma ρ).bind fun x => (mb ρ).bind fun y => .ok (x, y)) ρ fun p => .nx ((ρ.set i (.v p.1)).set j (.v p.2))
def loop (g : D → En → Option En) (body : SM) : List D → En → Out
  | [], ρ => .nx ρ
  | d :: r, ρ => match g d ρ with
    | none => .st
    | some ρ' => match body ρ' with
      | .nx ρ2 => loop g body r ρ2
      | .ct ρ2 => loop g body r ρ2
      | .bk ρ2 => .nx ρ2
      | o => o
def asL : D → Option (List D)
  | .lst ds => some ds
  | .scr ns => some (ns.map D.int)
  | _ => none
def asT : D → Option (List D)
  | .tup ds => some ds
  | _ => none
def sFor (g : D → En → Option En) (f : D → Option (List D)) (m : EM) (body : SM) : SM := fun ρ => ofR ((m ρ).bind fun d => R.ofO (f d)) ρ fun ds => loop g body ds ρ
def rg (a c : Int) (n : Nat) : List D := (List.range n).map fun i => D.int (a + (i : Nat) * c)
def dRange : List D → Option (List D)
  | [.int j] => if -(2 ^ 62) ≤ j ∧ j < 2 ^ 62 then some (rg 0 1 j.toNat) else none
  | [.int i, .int j] => if -(2 ^ 62) ≤ i ∧ i < 2 ^ 62 ∧ -(2 ^ 62) ≤ j ∧ j < 2 ^ 62 then some (rg i 1 (j - i).toNat) else none
  | [.int i, .int j, .int c] => if c ≠ 0 ∧ c.natAbs < 1073741824 ∧ Builtin.Range.small i j c = true ∧ 0 ≤ Builtin.Range.rangeSize i j c then some (rg i c (Builtin.Range.rangeSize i j c).toNat) else none
  | _ => none
def sForR (g : D → En → Option En) (m : AM) (body : SM) : SM := fun ρ => ofR ((m ρ).bind fun ds => R.ofO (dRange ds)) ρ fun ds => loop g body ds ρ
def whileN (t : TM) (body : SM) : Nat → En → Out
  | 0, _ => .st
  | n + 1, ρ => ofR (t ρ) ρ fun c => if c = true then (match body ρ with
      | .nx ρ2 => whileN t body n ρ2
      | .ct ρ2 => whileN t body n ρ2
      | .bk ρ2 => .nx ρ2
      | o => o) else .nx ρ
def sWhile (fuel : En → Nat) (t : TM) (body : SM) : SM := fun ρ => whileN t body (fuel ρ) ρ
def sApp (i : Nat) (m : EM) : SM := fun ρ => match ρ[i]? with
  | some (.l ds) => ofR (m ρ) ρ fun d => if ds.length < sizeLine then .nx (ρ.set i (.l (ds ++ [d]))) else .st
  | _ => .st
def runF (n : Nat) (m : SM) (ds : List D) : R D := match m (ds.map Sl.v ++ List.replicate (n - ds.length) Sl.un) with
  | .rt d => .ok d
  | .nx _ => .ok .non
  | .er x _ => .er x
  | _ => .st
section
variable {X : Cx} {Wx : WX} {W : Wd} {a b c e : Expr} {es : List Expr} {st : Stmt} {ss ts : List Stmt} {pos p : Pos} {ma mb m : EM} {mr mf : AM} {t : TM} {sa sb sc : SM} {σ : L2.St} {B H : Hp} {ρ : En} {D : Ends}
theorem PostS.ofR {α : Type} {r : R α} {k : α → Out} (h : PostS X W Wx (GD.ofR r ρ k) D) (E : EnvOk X.K X.mg W B H σ ρ) : Post r (fun x => PostS X W Wx (k x) D) (erD X Wx σ B H) := by
  cases r with
  | ok x => exact h
  | er x => exact fun cls B' H' e g => h cls σ B' H' e (E.grow g)
  | st => exact h
theorem pbd_nil : PBD X Wx [] sNil := fun W σ H B ρ E D h => ⟨_, pss_nil, (show PostS X W Wx (.nx ρ) D from h) σ B H E⟩
theorem pbd_cons (h1 : PSD X Wx st sa) (h2 : PBD X Wx ss sb) : PBD X Wx (st :: ss) (sSeq sa sb) :=
  fun W σ H B ρ E D h => ⟨_, pss_cons ps_wp pb_wp, h1 W σ H B ρ E { D with nx := wpB X ss D } (by
    unfold sSeq at h
    cases e : sa ρ with
    | nx ρ' =>
      rw [e] at h
      exact fun σ' B' H' E' => h2 W σ' H' B' ρ' E' D h
    | rt d => rw [e] at h; exact h
    | bk ρ' => rw [e] at h; exact h
    | ct ρ' => rw [e] at h; exact h
    | er x ρ' => rw [e] at h; exact h
    | st => rw [e] at h; exact h)⟩
theorem pbd_one (h1 : PSD X Wx st sa) : PBD X Wx [st] sa := fun W σ H B ρ E D h => ⟨_, pss_one ps_wp, h1 W σ H B ρ E D h⟩
theorem psd_frz (i : Nat) (h : PSD X Wx st sa) : PSD X Wx st (sFrz i sa) := fun W σ H B ρ E D q =>
  let ⟨B', E'⟩ := E.frz i
  h W σ H B' _ E' D q
theorem psd_ret (h : PED X Wx e m) : PSD X Wx (.Return (some e) pos) (sRet m) := fun W σ H B ρ E D q =>
  ⟨_, ps_ret pe_wp, h W σ H B ρ E _ ((PostS.ofR q E).mono (fun d _ hd v B' H' g r => (show PostS X W Wx (.rt d) D from hd) v B' H' (E.gr.trans g) r) fun _ z => z)⟩
theorem psd_if (hc : PTD X Wx c t) (ha : PBD X Wx ss sa) (hb : PBD X Wx ts sb) : PSD X Wx (.If c ss ts pos) (sIf t sa sb) := fun W σ H B ρ E D q =>
  ⟨_, ps_if pt_wp pb_wp pb_wp, hc W σ H B ρ E _ ((PostS.ofR q E).mono (fun k _ hk B' H' g => by
    cases k with
    | true =>
      rw [if_pos rfl] at hk ⊢
      exact ha W σ H' B' ρ (E.grow g) D hk
    | false =>
      rw [if_neg Bool.false_ne_true] at hk ⊢
      exact hb W σ H' B' ρ (E.grow g) D hk) fun _ z => z)⟩
theorem psd_set {i : Nat} {x : Str} {pos' : Pos} (hN : X.N.Nodup) (hi : X.N[i]? = some x) (hx : Loc X.env.scope x) (h : PED X Wx e m) (hs : swapsWith e (some (.Name x pos')) pos.line X.env = pure false := by rfl)
    (hf : X.fn x = true ∨ X.env.scope.names.lookup x = some .local := by first | exact .inl rfl | exact .inr rfl | assumption) : PSD X Wx (.Assign [.Name x pos'] e pos) (sAsg i m) := fun W σ H B ρ E D q =>
  ⟨_, ps_set hN hi hx pe_wp hs hf, h W σ H B ρ E _ ((PostS.ofR q E).mono (fun d _ hd v B' H' g r => (show PostS X W Wx (.nx (ρ.set i (.v d))) D from hd) _ B' H' ((E.grow g).set r)) fun _ z => z)⟩
theorem psd_own {i : Nat} {x : Str} {pos' : Pos} (hN : X.N.Nodup) (hi : X.N[i]? = some x) (hx : Loc X.env.scope x) (h : PFD X Wx e mf) (hs : swapsWith e (some (.Name x pos')) pos.line X.env = pure false := by rfl)
    (hf : X.fn x = true ∨ X.env.scope.names.lookup x = some .local := by first | exact .inl rfl | exact .inr rfl | assumption) : PSD X Wx (.Assign [.Name x pos'] e pos) (sOwn i mf) := fun W σ H B ρ E D q =>
  ⟨_, ps_set hN hi hx pe_wp hs hf, h W σ H B ρ E _ ((PostS.ofR q E).mono (fun ds _ hd p xs B' H' g n e1 nb r => (show PostS X W Wx (.nx (ρ.set i (.l ds))) D from hd) _ B' H' ((E.grow g).setL e1 nb (by
    cases q : W.H p with
    | none => rfl
    | some o => rw [E.gr.hh p o q] at n; cases n) (fun j fs hj _ z => by
      obtain ⟨p', ys, h1, h2, _⟩ := E.own j fs hj
      rw [z] at h1
      cases h1
      rw [n] at h2
      cases h2) r)) fun _ z => z)⟩
def wpG (X : Cx) (tg : Expr) : TG := fun v σ H Q => ∃ t, PG X tg t ∧ t v σ H Q
theorem pg_wp {tg : Expr} : PG X tg (wpG X tg) := ⟨fun pins s σ H v u Q I r ⟨_, h, q⟩ => h.run pins s σ H v u Q I r q⟩
def PGD (X : Cx) (tg : Expr) (g : GD.D → En → Option En) : Prop := ∀ W σ H B ρ ρ' d v, EnvOk X.K X.mg W B H σ ρ → Is X.K X.mg B v d → g d ρ = some ρ' → ∀ Q : L2.St → Hp → Prop, (∀ σ', EnvOk X.K X.mg W B H σ' ρ' → Q σ' H) → wpG X tg v σ H Q
theorem pgd_name {i : Nat} {x : Str} (hN : X.N.Nodup) (hi : X.N[i]? = some x) (hx : Loc X.env.scope x) (hf : X.fn x = true ∨ X.env.scope.names.lookup x = some .local := by first | exact .inl rfl | exact .inr rfl | assumption) : PGD X (.Name x pos) (gNm i) := by
  intro W σ H B ρ ρ' d v E r g Q q
  cases g
  exact ⟨_, pg_name hN hi hx hf, q _ (E.set r)⟩
theorem psd_raise {C : Addr} {bmB : List Value} {Bn newId initId : String} {x s : Str} {j : Nat} {p2 pos2 : Pos} (hc : X.calm = true) (tk : Takes X Wx) (F : ExcBaseFacts Bn newId initId bmB) (q : PySem.W.excIn X.K C bmB newId = true) (gC : X.mg x = some (.ref C)) (kC : PySem.W.keepIn X.K (.ref C) = true)
    (r : Raises X (.ref C)) (hg : Gl X x) (hdb : (x == ("__debug__" : Str)) = false := by decide) : PSD X Wx (.Raise (some (.Call (.Name x p) [.Constant (.str s) j p2] [] pos)) none pos2) (sRaise x) := fun W σ H B ρ E D h =>
  ⟨_, ps_raise hc tk (pmk_own F q gC kC r hg hdb), (show PostS X W Wx (.er x ρ) D from h) _ σ B H gC E⟩
def ends (D : Ends) (N : L2.St → Hp → Prop) : Ends := { D with nx := N, ct := N, bk := D.nx }
theorem loop_turn {g : GD.D → En → Option En} {d : GD.D} {r : List GD.D} {tgt : Expr} {body : List Stmt} {N : L2.St → Hp → Prop} {v : V} (hg : PGD X tgt g) (hb : PBD X Wx body sb) (E : EnvOk X.K X.mg W B H σ ρ) (rv : Is X.K X.mg B v d)
    (q : PostS X W Wx (loop g sb (d :: r) ρ) D) (hN : ∀ σ' B' H' ρ', EnvOk X.K X.mg W B' H' σ' ρ' → PostS X W Wx (loop g sb r ρ') D → N σ' H') :
    wpG X tgt v σ H fun σ2 H2 => wpB X body (ends D N) σ2 H2 := by
  unfold loop at q
  cases eg : g d ρ with
  | none => rw [eg] at q; exact q.elim
  | some ρ1 =>
    rw [eg] at q
    dsimp only at q
    refine hg W σ H B ρ ρ1 d v E rv eg _ fun σ1 E1 => hb W σ1 H B ρ1 E1 _ ?_
    revert q
    cases eb : sb ρ1 with
    | nx ρ2 => exact fun q σ2 B2 H2 E2 => hN σ2 B2 H2 ρ2 E2 q
    | ct ρ2 => exact fun q σ2 B2 H2 E2 => hN σ2 B2 H2 ρ2 E2 q
    | bk ρ2 => exact fun q => q
    | rt d => exact fun q => q
    | er x ρ2 => exact fun q => q
    | st => exact fun q => q
theorem drop_get {α : Type} {l : List α} {i : Nat} {x : α} (h : l[i]? = some x) : l.drop i = x :: l.drop (i + 1) := by
  obtain ⟨hi, e⟩ := List.getElem?_eq_some_iff.mp h
  rw [List.drop_eq_getElem_cons hi, e]
theorem PostS.back {o : Out} (g : Grow W.B W.H B H) (q : PostS X W Wx o D) : PostS X ⟨B, W.H, W.al⟩ Wx o D := by
  cases o with
  | nx ρ => exact fun σ' B' H' E => q σ' B' H' (E.back (B1 := B) g)
  | rt d => exact fun v B' H' gr r => q v B' H' ⟨g.bb.trans gr.bb, gr.hh, gr.bh, fun p o e t n => gr.sep p o e t (g.sep p o e t n)⟩ r
  | bk ρ => exact fun σ' B' H' E => q σ' B' H' (E.back (B1 := B) g)
  | ct ρ => exact fun σ' B' H' E => q σ' B' H' (E.back (B1 := B) g)
  | er x ρ => exact fun cls σ' B' H' e E => q cls σ' B' H' e (E.back (B1 := B) g)
  | st => exact q
theorem psd_forL {tgt : Expr} {body : List Stmt} {g : GD.D → En → Option En} (hp : PassesOwn (model X.prog X.w) X.A X.env X.xe) (hc : X.calm = true) (h : PED X Wx e m) (hg : PGD X tgt g) (hb : PBD X Wx body sb) (hfs : ∀ x, foldedSetIterable e X.env x = pure x := by intro _; rfl) :
    PSD X Wx (.For tgt e body [] pos) (sFor g asL m sb) := fun W σ H B ρ E D q =>
  ⟨_, ps_for (hs := hfs) hp hc (pi_list pe_wp) pg_wp pb_wp, by
    refine h W σ H B ρ E _ ((PostS.ofR q E).bind.mono (fun d _ hd v B1 H1 g1 rv => ?_) fun _ z => z)
    obtain ⟨ds, ed, q1⟩ := hd.ofO
    have E1 := E.grow g1
    have q2 := PostS.back E1.gr q1
    obtain ⟨a, xs, ev, hs, r⟩ : ∃ a xs, v = V.ref a ∧ SqL X.K B1 a xs ∧ IsL X.K X.mg B1 xs ds := by
      cases d with
      | lst ds' =>
        cases ed
        obtain ⟨a, xs, ev, h1, r⟩ := rv.lst_inv
        exact ⟨a, xs, ev, SqL.of h1, r⟩
      | scr ns =>
        cases ed
        obtain ⟨a, ev, h1⟩ := rv.scr_inv
        exact ⟨a, _, ev, h1, IsL.ints ns⟩
      | _ => cases ed
    exact ⟨a, ev, ⟨xs, g1.bh.seq hs⟩, for_list (K := X.K) (a := a) (xs := xs) (fun i σ' H' => ∃ B' ρ', EnvOk X.K X.mg ⟨B1, W.H, W.al⟩ B' H' σ' ρ' ∧ PostS X ⟨B1, W.H, W.al⟩ Wx (loop g sb (ds.drop i) ρ') D)
        ⟨B1, ρ, E1.here, q2⟩ (fun i σ' H' _ ⟨B', ρ', E', _⟩ => (E'.gr.bb.trans E'.gr.bh).seq hs)
        (fun i x σ' H' hx ⟨B', ρ', E', q'⟩ => by
          obtain ⟨d', hd', r'⟩ := r.at hx
          rw [drop_get hd'] at q'
          exact loop_turn hg hb E' (r'.mono E'.gr.bb) q' fun σ2 B2 H2 ρ2 E2 z => ⟨B2, ρ2, E2, z⟩)
        (fun σ' H' ⟨B', ρ', E', q'⟩ => by
          rw [r.length, List.drop_length] at q'
          exact (show PostS X ⟨B1, W.H, W.al⟩ Wx (.nx ρ') D from q') σ' B' H' E')⟩⟩
theorem rg_get {i c : Int} {n k : Nat} (h : k < n) : (rg i c n)[k]? = some (GD.D.int (i + (k : Nat) * c)) := by
  unfold rg
  rw [List.getElem?_map, List.getElem?_range h]
  rfl
theorem rg_len {i c : Int} {n : Nat} : (rg i c n).length = n := by
  unfold rg
  rw [List.length_map, List.length_range]
end
theorem env_start {K : PySem.W.Frag} {mg : Str → Option Value} {B H : Hp} {N : List Str} {vs : List V} {ds : List D} (b : Same B H) (r : IsL K mg B vs ds) :
    EnvOk K mg ⟨B, H, []⟩ B H (L2.start N vs) (ds.map Sl.v ++ List.replicate (N.length - ds.length) Sl.un) := by
  have hl := r.length
  refine ⟨Grow.refl b, by simp [L2.start, hl], fun i d h => ?_, fun i es h => ?_, fun i j es fs p h _ _ _ => ?_, fun i t h => ?_⟩
  · by_cases hi : i < ds.length
    · rw [List.getElem?_append_left (by rw [List.length_map]; exact hi), List.getElem?_map] at h
      cases e : ds[i]? with
      | none => rw [e] at h; cases h
      | some d' =>
        rw [e] at h
        cases h
        obtain ⟨v, h1, h2⟩ := r.get e
        exact ⟨v, by unfold L2.start; rw [List.getElem?_append_left (by rw [List.length_map, hl]; exact hi), List.getElem?_map, h1]; rfl, h2⟩
    · rw [List.getElem?_append_right (by rw [List.length_map]; omega), List.getElem?_replicate] at h
      split at h <;> cases h
  all_goals
    by_cases hi : i < ds.length
    · rw [List.getElem?_append_left (by rw [List.length_map]; exact hi), List.getElem?_map] at h
      cases e : ds[i]? with
      | none => rw [e] at h; cases h
      | some d' => rw [e] at h; cases h
    · rw [List.getElem?_append_right (by rw [List.length_map]; omega), List.getElem?_replicate] at h
      split at h <;> cases h
section
variable {P : Program} {w : World} {K : PySem.W.Frag} {mg : Str → Option Value} {base : Heap}
theorem fnOk_mk {x qual : Str} {st : Stmt} {f : Addr} {fd : FuncData} {N ps : List Str} {k : Nat} {m : SM} (F : Fun K x qual st f fd) (S : FnScope N ps (defScope st))
    (hb : ∀ (cdv : Value) (A : Around) (outer : List PySem.Env) (s : Shared) (H : Hp) (E : XK), Room k (A.deeper (envOfC qual (defScope st) s.heap.objs.size f cdv)) →
      PBD (cxOf (L2.CX P w) P w K mg base N qual (defScope st) f cdv A outer s H E) (fun cls d _ H => E cls d H) (defBody st) m) :
    FnOk P w K mg base (L2.CX P w) (k + 1) f fd ps (spD K mg ps.length (runF N.length m)) := by
  refine F.okX S (fun vs H Q E h => ?_) (fun cdv A outer s H vs Q E hr h => ?_)
  · obtain ⟨B, ds, _, hl, r, _⟩ := h
    rw [r.length, hl]
  · obtain ⟨B, ds, b, hl, r, q⟩ := h
    have z := hb cdv A outer s H E hr ⟨B, H, []⟩ (L2.start N vs) H B _ (env_start b r) { nx := fun _ H' => Q .non H', rt := Q } (by
      unfold runF at q
      show PostS _ _ _ (m (ds.map Sl.v ++ List.replicate (N.length - ds.length) Sl.un)) _
      cases e : m (ds.map Sl.v ++ List.replicate (N.length - ds.length) Sl.un) with
      | nx ρ =>
        rw [e] at q
        exact fun σ' B' H' E' => q .non B' H' E'.gr .non
      | rt d => rw [e] at q; exact q
      | bk ρ => rw [e] at q; exact q.elim
      | ct ρ => rw [e] at q; exact q.elim
      | er y ρ =>
        rw [e] at q
        exact fun cls σ' B' H' ec E' => q cls B' H' ec E'.gr
      | st => rw [e] at q; exact q.elim)
    exact z
end
end GD
namespace GD
open PySem PySem.Spec PyProof.Rows L2
def dAbs : List D → Option D
  | [.int i] => some (.int i.natAbs)
  | _ => none
def dMax2 : List D → Option D
  | [.int i, .int j] => some (.int (max i j))
  | _ => none
def dMin2 : List D → Option D
  | [.int i, .int j] => some (.int (min i j))
  | _ => none
def dLen : List D → Option D
  | [.lst ds] => some (.int ds.length)
  | [.tup ds] => some (.int ds.length)
  | [.scr ns] => some (.int ns.length)
  | [.str x] => if x.length ≤ sizeLine then some (.int x.length) else none
  | _ => none
def boolsOf : List D → Option (List Bool)
  | [] => some []
  | .bl i :: ds => (boolsOf ds).map (i :: ·)
  | _ => none
def dAll : List D → Option D
  | [.lst ds] => (boolsOf ds).map fun bs => .bl (bs.all id)
  | _ => none
def dInt : List D → Option D
  | [.int i] => some (.int i)
  | [.bl b] => some (.int (if b then 1 else 0))
  | _ => none
def tyName : D → Option String
  | .non => some "NoneType"
  | .bl _ => some "bool"
  | .int _ => some "int"
  | .str _ => some "str"
  | .tup _ => some "tuple"
  | .lst _ => some "list"
  | .scr _ => some "list"
  | .dct _ _ => some "dict"
  | _ => none
def dIsi : List D → Option D
  | [d, .ty n] => (tyName d).bind fun t => (kitB t n).map D.bl
  | _ => none
def cutL {α : Type} (xs : List α) (lo hi : Option Int) : List α := (xs.drop (HT.sIx xs.length 0 lo)).take (HT.sIx xs.length xs.length hi - HT.sIx xs.length 0 lo)
def dCut (d : D) (lo hi : Option Int) : Option D := match d with
  | .str x => if x.length ≤ sizeLine then some (.str (cutS x lo hi)) else none
  | .tup ds => if HT.sIx ds.length 0 lo = 0 ∧ HT.sIx ds.length ds.length hi = ds.length then none else some (.tup (cutL ds lo hi))
  | _ => none
section
variable {X : Cx} {K : PySem.W.Frag} {mg : Str → Option Value} {B : Hp}
theorem IsL.one_inv {vs : List V} {d : D} (h : IsL K mg B vs [d]) : ∃ v, vs = [v] ∧ Is K mg B v d := by
  cases h with
  | cons h r => cases r; exact ⟨_, rfl, h⟩
theorem IsL.two_inv {vs : List V} {d e : D} (h : IsL K mg B vs [d, e]) : ∃ v u, vs = [v, u] ∧ Is K mg B v d ∧ Is K mg B u e := by
  cases h with
  | cons h r =>
    obtain ⟨u, rfl, h2⟩ := r.one_inv
    exact ⟨_, u, rfl, h, h2⟩
theorem IsL.bools_inv : ∀ {ds : List D} {ns : List Bool} {xs : List V}, boolsOf ds = some ns → IsL K mg B xs ds → xs = ns.map V.bl
  | [], ns, xs, e, h => by
    cases h
    simp [boolsOf] at e
    subst e
    rfl
  | d :: ds, ns, xs, e, h => by
    cases h with
    | cons h r =>
      cases d with
      | bl i =>
        simp only [boolsOf, Option.map_eq_some_iff] at e
        obtain ⟨ms, e1, rfl⟩ := e
        rw [h.bl_inv, IsL.bools_inv e1 r]
        rfl
      | _ => simp [boolsOf] at e
theorem calld_max2 (hc : X.calm = true) : CallD X (.builtin "max") dMax2 := by
  intro B H vs ds d' Q b r g q
  unfold dMax2 at g
  split at g
  · cases g
    obtain ⟨v, u, rfl, h, h2⟩ := r.two_inv
    rw [h.int_inv, h2.int_inv]
    rename_i i j
    refine ⟨_, call_max2 hc, i, j, rfl, ?_⟩
    have e : (if j > i then j else i) = max i j := by split <;> omega
    rw [e]
    exact q.at b (.int _)
  · cases g
theorem calld_min2 (hc : X.calm = true) : CallD X (.builtin "min") dMin2 := by
  intro B H vs ds d' Q b r g q
  unfold dMin2 at g
  split at g
  · cases g
    obtain ⟨v, u, rfl, h, h2⟩ := r.two_inv
    rw [h.int_inv, h2.int_inv]
    rename_i i j
    refine ⟨_, call_min2 hc, i, j, rfl, ?_⟩
    have e : (if j < i then j else i) = min i j := by split <;> omega
    rw [e]
    exact q.at b (.int _)
  · cases g
theorem calld_len : CallD X (.builtin "len") dLen := by
  intro B H vs ds d' Q b r g q
  unfold dLen at g
  split at g
  · cases g
    obtain ⟨v, rfl, h⟩ := r.one_inv
    obtain ⟨a, xs, rfl, h1, r1⟩ := h.lst_inv
    refine ⟨_, call_len_seq, a, xs, rfl, .inl (seqL_of b h1), ?_⟩
    rw [r1.length]
    exact q.at b (.int _)
  · cases g
    obtain ⟨v, rfl, h⟩ := r.one_inv
    obtain ⟨a, xs, rfl, h1, r1⟩ := h.tup_inv
    refine ⟨_, call_len_seq, a, xs, rfl, .inr (seqT b h1), ?_⟩
    rw [r1.length]
    exact q.at b (.int _)
  · cases g
    obtain ⟨v, rfl, h⟩ := r.one_inv
    obtain ⟨a, rfl, h1⟩ := h.scr_inv
    refine ⟨_, call_len_seq, a, _, rfl, .inl (b.seq h1), ?_⟩
    rw [List.length_map]
    exact q.at b (.int _)
  · obtain ⟨hl, rfl⟩ := some_ite g
    obtain ⟨v, rfl, h⟩ := r.one_inv
    rw [h.str_inv]
    exact ⟨_, call_len_str, _, rfl, hl, q.at b (.int _)⟩
  · cases g
theorem calld_all (hc : X.calm = true) : CallD X (.builtin "all") dAll := by
  intro B H vs ds d' Q b r g q
  unfold dAll at g
  split at g
  · simp only [Option.map_eq_some_iff] at g
    obtain ⟨ns, g1, rfl⟩ := g
    obtain ⟨v, rfl, h⟩ := r.one_inv
    obtain ⟨a, xs, rfl, h1, r1⟩ := h.lst_inv
    have e1 := IsL.bools_inv g1 r1
    subst e1
    exact ⟨_, cr_all hc, a, ns, rfl, seqL_of b h1, q.at b (.bl _)⟩
  · cases g
theorem Is.tyX {H : Hp} (b : Same B H) {v : V} {d : D} {t : String} (h : Is K mg B v d) (e : tyName d = some t) : TyX K H v (.type t) := by
  cases h with
  | non => cases e; exact .base .non
  | bl x => cases e; exact .base (.bl x)
  | int x => cases e; exact .base (.int x)
  | str x => cases e; exact .base (.str x)
  | tup h r => cases e; exact .base (.tup (b _ _ h))
  | tup3 h =>
    cases e
    obtain ⟨o, its, n, h1, h2, _⟩ := h
    exact .kTuple h1 h2
  | lst h r => cases e; exact .base (.lst (b _ _ h))
  | scr h =>
    cases e
    rcases h with (h | ⟨o, h⟩) | ⟨o, its, n, hk, hc, _⟩
    · exact .base (.lst (b _ _ h))
    · exact .base (.frz (b _ _ h))
    · exact .kList hk hc
  | dct h _ _ => cases e; exact .base (.dK (b _ _ h))
  | exc _ _ => cases e
  | ty _ => cases e
  | cls _ => cases e
  | obj _ _ _ _ => cases e
theorem calld_isi : CallD X (.builtin "isinstance") dIsi := by
  intro B H vs ds d' Q b r g q
  unfold dIsi at g
  split at g
  · simp only [Option.bind_eq_some_iff, Option.map_eq_some_iff] at g
    obtain ⟨t, g1, k, g2, rfl⟩ := g
    obtain ⟨v, u, rfl, h, h2⟩ := r.two_inv
    rw [h2.ty_inv]
    exact ⟨_, call_isi, _, _, _, _, k, rfl, .ty _, h.tyX b g1, kit_ty g2, q.at b (.bl _)⟩
  · cases g
end
def aB (g : List D → Option (List D)) (ma : AM) : AM := fun ρ => (ma ρ).bind fun ds => R.ofO (g ds)
section
variable {X : Cx} {Wx : WX} {a b c e : Expr} {es : List Expr} {pos p p2 : Pos} {ma mb m : EM} {mr : AM}
abbrev OM := En → R (Option Int)
def oNone : OM := fun _ => .ok none
def oSome (m : EM) : OM := fun ρ => (m ρ).bind fun d => match d with
  | .int i => .ok (some i)
  | _ => .st
def wpPO (X : Cx) (o : Option Expr) : TO := fun σ H Q => ∃ t, PO X o t ∧ t σ H Q
theorem po_wp {o : Option Expr} : PO X o (wpPO X o) := ⟨fun pins s σ H Q I ⟨_, h, q⟩ => h.run pins s σ H Q I q⟩
def POD (X : Cx) (Wx : WX) (o : Option Expr) (m : OM) : Prop := ∀ W σ H B ρ, EnvOk X.K X.mg W B H σ ρ → ∀ Q : Option Int → Hp → Prop, Post (m ρ) (fun i => ∀ B' H', Grow B H B' H' → Q i H') (erD X Wx σ B H) → wpPO X o σ H Q
theorem pod_none : POD X Wx none oNone := fun W σ H B ρ E Q h => ⟨_, po_none, h B H (Grow.refl E.bh)⟩
theorem pod_some (h : PED X Wx e m) : POD X Wx (some e) (oSome m) := fun W σ H B ρ E Q q =>
  ⟨_, po_some pe_wp, h W σ H B ρ E _ ((show Post ((m ρ).bind fun d => match d with
    | .int i => R.ok (some i)
    | _ => R.st) _ _ from q).bind.mono (fun d _ hd v B1 H1 g1 r => by
    cases d with
    | int i => exact ⟨i, r.int_inv, (show ∀ B' H', Grow B H B' H' → Q (some i) H' from hd) B1 H1 g1⟩
    | _ => exact hd.elim) fun x h => h)⟩
variable {lo hi : Option Expr} {ml mh : OM}
theorem slice3 {α : Type} {W : Wd} {σ : L2.St} {B H : Hp} {ρ : En} {k : D → Option Int → Option Int → R α} {P : α → Prop} {Rr : V → Option Int → Option Int → Hp → Prop} (ha : PED X Wx a ma) (hl : POD X Wx lo ml) (hh : POD X Wx hi mh) (E : EnvOk X.K X.mg W B H σ ρ)
    (h : Post ((ma ρ).bind fun d => (ml ρ).bind fun i => (mh ρ).bind fun j => k d i j) P (erD X Wx σ B H))
    (f : ∀ d i j x B2 H2, Grow B H B2 H2 → Is X.K X.mg B2 x d → Post (k d i j) P (erD X Wx σ B H) → Rr x i j H2) : wpE X a σ H fun x H1 => wpPO X lo σ H1 fun i H2 => wpPO X hi σ H2 fun j H3 => Rr x i j H3 := by
  refine ha W σ H B ρ E _ (h.bind.mono (fun d _ hd x B1 H1 g1 rx => ?_) fun x h => h)
  refine hl W σ H1 B1 ρ (E.grow g1) _ (hd.bind.mono (fun i _ hi B2 H2 g2 => ?_) fun x h => h.later g1)
  exact hh W σ H2 B2 ρ ((E.grow g1).grow g2) _ (hi.bind.mono (fun j _ hj B3 H3 g3 => f d i j x B3 H3 ((g1.trans g2).trans g3) ((rx.mono g2.bb).mono g3.bb) hj) fun x h => h.later (g1.trans g2))
def aCut (ma : EM) (ml mh : OM) : AM := fun ρ => (ma ρ).bind fun d => (ml ρ).bind fun i => (mh ρ).bind fun j => (R.ofO (asL d)).bind fun ds => .ok (cutL ds i j)
def eCut (ma : EM) (ml mh : OM) : EM := fun ρ => (ma ρ).bind fun d => (ml ρ).bind fun i => (mh ρ).bind fun j => R.ofO (dCut d i j)
theorem IsL.cut {K : PySem.W.Frag} {mg : Str → Option Value} {B : Hp} {xs : List V} {ds : List D} (r : IsL K mg B xs ds) (lo hi : Option Int) : IsL K mg B (cutV xs lo hi) (cutL ds lo hi) := by
  unfold cutV cutL
  rw [r.length]
  exact (r.drop _).take _
theorem pfd_cut (ha : PED X Wx a ma) (hl : POD X Wx lo ml) (hh : POD X Wx hi mh) : PFD X Wx (.Subscript a (.Slice lo hi none p2) pos) (aCut ma ml mh) :=
  fun W σ H B ρ E Q h => ⟨_, pe_slice sl_list pe_wp po_wp po_wp, slice3 ha hl hh E h fun d i j x B2 H2 g r hk => by
    obtain ⟨ds, e1, q⟩ := hk.bind.ofO
    have q' : okF X B H Q (cutL ds i j) := q
    unfold asL at e1
    split at e1
    · cases e1
      obtain ⟨a1, xs, rfl, h1, r1⟩ := r.lst_inv
      exact ⟨a1, xs, rfl, seqL_of g.bh h1, fun p hp => (q'.later g).nl g.bh hp (r1.cut i j)⟩
    · cases e1
      obtain ⟨a1, rfl, h1⟩ := r.scr_inv
      exact ⟨a1, _, rfl, g.bh.seq h1, fun p hp => (q'.later g).nl g.bh hp ((IsL.ints _).cut i j)⟩
    · cases e1⟩
def wpSl (X : Cx) : V → Option Int → Option Int → Hp → VK → Prop := fun x lo hi H Q => ∃ r, SlR X r ∧ r x lo hi H Q
theorem sl_wp : SlR X (wpSl X) := fun pins s σ H x v vl vu lo hi sl Q I rx hs pl pu ⟨_, h, q⟩ => h pins s σ H x v vl vu lo hi sl Q I rx hs pl pu q
theorem ped_cut (ha : PED X Wx a ma) (hl : POD X Wx lo ml) (hh : POD X Wx hi mh) : PED X Wx (.Subscript a (.Slice lo hi none p2) pos) (eCut ma ml mh) :=
  fun W σ H B ρ E Q h => ⟨_, pe_slice sl_wp pe_wp po_wp po_wp, slice3 ha hl hh E h fun d i j x B2 H2 g r hk => by
    obtain ⟨d', e1, q⟩ := hk.ofO
    have q' : okD X B H Q d' := q
    unfold dCut at e1
    split at e1
    · obtain ⟨hl, rfl⟩ := some_ite e1
      rw [r.str_inv]
      exact ⟨_, sl_str, _, rfl, hl, (q'.later g).at g.bh (.str _)⟩
    · split at e1
      · cases e1
      · rename_i hc
        cases e1
        obtain ⟨a1, xs, rfl, h1, r1⟩ := r.tup_inv
        exact ⟨_, sl_tup, a1, xs, rfl, seqT g.bh h1, by rw [r1.length]; exact hc, fun p hp => (q'.later g).nt g.bh hp (r1.cut i j)⟩
    · cases e1⟩
theorem ped_dnew : PED X Wx (.Dict [] [] pos) (eC (.dct [] [])) := fun W σ H B ρ E Q h =>
  ⟨_, pe_dnewK, fun d hd => (show okD X B H Q (.dct [] []) from h) _ _ _ (Grow.new E.bh hd) (.dct upd_same rfl .nil)⟩
end
end GD
namespace GD
open PySem PySem.Spec PyProof.Rows L2
theorem bb_len : bootBuiltins "len" = some (.builtin "len") := by decide +kernel
theorem bb_max : bootBuiltins "max" = some (.builtin "max") := by decide +kernel
theorem bb_min : bootBuiltins "min" = some (.builtin "min") := by decide +kernel
theorem bb_all : bootBuiltins "all" = some (.builtin "all") := by decide +kernel
theorem bb_isinstance : bootBuiltins "isinstance" = some (.builtin "isinstance") := by decide +kernel
theorem bb_int : bootBuiltins "int" = some (.type "int") := by decide +kernel
theorem bb_str : bootBuiltins "str" = some (.type "str") := by decide +kernel
def fuelI (i : Nat) : En → Nat := fun ρ => match ρ[i]? with
  | some (.v (.int k)) => k.natAbs + 1
  | _ => 0
def spLaw (K : PySem.W.Frag) : Sp := fun vs H Q _ => ∃ (a : Addr) (ns : List Int), vs = [.ref a] ∧ SqL K H a (ns.map V.int) ∧ ns.length ≤ 63 ∧ ∀ H', Q (.bl true) H'
theorem law_of {P : Program} {w : World} {K : PySem.W.Frag} {mg : Str → Option Value} {base : Heap} {k : Nat} {f : Addr} {fd : FuncData} {F : List D → R D} (h : FnOk P w K mg base (L2.CX P w) k f fd ["script"] (spD K mg 1 F))
    (hF : ∀ ns : List Int, ns.length ≤ 63 → F [.scr ns] = .ok (.bl true)) : FnOk P w K mg base (L2.CX P w) k f fd ["script"] (spLaw K) := by
  refine h.imp fun vs H Q E hs => ?_
  obtain ⟨a, ns, rfl, hS, hl, q⟩ := hs
  refine ⟨H, [.scr ns], Same.refl _, rfl, .cons (.scr hS) .nil, ?_⟩
  rw [hF ns hl]
  intro v B' H' _ r
  rw [r.bl_inv]
  exact q H'
theorem walk {l : PySem.W.OpenLaw} {q : Program} {loose : List Str} {XP : (Str → Option Value) → Heap → Prop} {YP : World → Heap → Prop} {d : DefRec} {K : Params → PySem.W.Frag} {k : Nat} (hn : l.most = some 63) (hdf : d.params.defaults = []) (hr : Room k callerA)
    (hY : ∀ (w : World) (h : Heap), YP w h → (K w.params).In h)
    (F : ∀ (w : World) (mg : Str → Option Value) (fa : Addr) (h : Heap), (K w.params).In h → h.Ns mainGlobals mg → mg d.name = some (.ref fa) →
      ∃ fd : FuncData, (∀ (s : Shared) (u : Value), BindsTo s fd ⟨[u], []⟩ [("script", u)]) ∧ ∀ base : Heap, (K w.params).In base → base.Ns mainGlobals mg → FnOk l.prog w (K w.params) mg base (L2.CX l.prog w) k fa fd ["script"] (spLaw (K w.params))) :
    PySem.W.WalkO q loose XP YP l.row.toRowW d [] (fun f vs => PySem.call f vs) :=
  L2.walk_of (n := 63) (k := k) (x := "script") (CX := fun w => L2.CX l.prog w) (sp := fun w => spLaw (K w.params)) hn (by decide) hdf hr hY F (fun _ _ a ns hl _ hS => ⟨a, ns, rfl, hS, hl, fun _ => rfl⟩) fun w H s e s' z => by
    obtain ⟨_, _, _, _, _, _, _, _, _, _, _, _, z⟩ := z
    exact z
theorem fnd_mk {P : Program} {w : World} {K : PySem.W.Frag} {mg : Str → Option Value} {base : Heap} {k : Nat} {x : Str} {ps : List Str} {F : List D → R D} {f : Addr} {fd : FuncData} (hm : mg x = some (.ref f)) (hk : PySem.W.keepIn K (.ref f) = true) (hb : Binds K fd ps [])
    (h : FnOk P w K mg base (L2.CX P w) k f fd ps (spD K mg ps.length F)) : FnD P w K mg base k x ps F := ⟨f, fd, hm, hk, hb, h⟩
end GD
namespace GD
open PySem PySem.Spec PyProof.Rows L2
def Bd (n : Nat) (x : Int) : Prop := x.natAbs < 2 ^ n
instance (n : Nat) (x : Int) : Decidable (Bd n x) := by unfold Bd; infer_instance
theorem Bd.mono {m n : Nat} {x : Int} (h : Bd m x) (l : m ≤ n) : Bd n x := Nat.lt_of_lt_of_le h (Nat.pow_le_pow_right (by decide) l)
theorem Bd.mul {m n : Nat} {x y : Int} (h : Bd m x) (g : Bd n y) : Bd (m + n) (x * y) := wide_lt h g
theorem Bd.add {m n : Nat} {x y : Int} (h : Bd m x) (g : Bd n y) : Bd (max m n + 1) (x + y) := by
  have h1 : Bd (max m n) x := h.mono (by omega)
  have h2 : Bd (max m n) y := g.mono (by omega)
  unfold Bd at *
  have := Int.natAbs_add_le x y
  rw [Nat.pow_succ]
  omega
theorem Bd.sub {m n : Nat} {x y : Int} (h : Bd m x) (g : Bd n y) : Bd (max m n + 1) (x - y) := by
  have h1 : Bd (max m n) x := h.mono (by omega)
  have h2 : Bd (max m n) y := g.mono (by omega)
  unfold Bd at *
  have := Int.natAbs_sub_le x y
  rw [Nat.pow_succ]
  omega
theorem Bd.neg {n : Nat} {x : Int} (h : Bd n x) : Bd n (-x) := by
  unfold Bd at *
  rw [Int.natAbs_neg]
  exact h
theorem Bd.of_range {n : Nat} {x : Int} (h0 : 0 ≤ x) (h : x < 2 ^ n) : Bd n x := by
  unfold Bd
  have : ((x.natAbs : Nat) : Int) < ((2 ^ n : Nat) : Int) := by
    rw [Int.natCast_pow]
    have e : ((x.natAbs : Nat) : Int) = x := Int.natAbs_of_nonneg h0
    rw [e]
    exact h
  exact Int.ofNat_lt.mp this
theorem Bd.of_le {n : Nat} {x y : Int} (h : Bd n y) (l : x.natAbs ≤ y.natAbs) : Bd n x := Nat.lt_of_le_of_lt l h
theorem Bd.log {n : Nat} {x : Int} (h : Bd n x) : x.natAbs.log2 ≤ n := by
  by_cases z : x.natAbs = 0
  · rw [z]; simp
  · have := (Nat.log2_lt z).mpr h
    omega
theorem mok {m n : Nat} {x y : Int} (h : Bd m x) (g : Bd n y) (l : m + n < 1000000) : mulOk x y := by
  have := h.log
  have := g.log
  unfold mulOk
  omega
theorem dok {n : Nat} {y : Int} (h0 : 0 < y) (g : Bd n y) (l : n < 9000) : divOk y := by
  have := g.log
  exact ⟨h0, by omega⟩
section
variable {α β : Type} {ρ : En}
theorem bind_ok (a : α) (f : α → R β) : (R.ok a).bind f = f a := rfl
theorem bind_er (x : Str) (f : α → R β) : (R.er x : R α).bind f = .er x := rfl
theorem bind_st (f : α → R β) : (R.st : R α).bind f = .st := rfl
theorem ofO_some (a : α) : R.ofO (some a) = .ok a := rfl
theorem asB_bl (b : Bool) : asB (.bl b) = some b := rfl
theorem ofR_ok (a : α) (k : α → Out) : ofR (.ok a) ρ k = k a := rfl
theorem ofR_er (x : Str) (k : α → Out) : ofR (.er x : R α) ρ k = .er x ρ := rfl
theorem dAdd_int (i j : Int) : dAdd (.int i) (.int j) = some (.int (i + j)) := rfl
theorem dSub_int (i j : Int) : dSub (.int i) (.int j) = some (.int (i - j)) := rfl
theorem dMul_int {i j : Int} (h : mulOk i j) : dMul (.int i) (.int j) = some (.int (i * j)) := if_pos h
theorem dDiv_int {i j : Int} (h : divOk j) : dDiv (.int i) (.int j) = some (.int (i / j)) := if_pos h
theorem dDiv_lit {i j : Int} (h : 0 < j) (g : j < 18446744073709551616) : dDiv (.int i) (.int j) = some (.int (i / j)) := dDiv_int (dok (n := 64) h (Bd.of_range (by omega) g) (by decide))
theorem dMod_int {i j : Int} (h : 0 < j) : dMod (.int i) (.int j) = some (.int (i % j)) := if_pos h
theorem dNeg_int (i : Int) : dNeg (.int i) = some (.int (-i)) := rfl
theorem dLt_int (i j : Int) : dLt (.int i) (.int j) = some (.bl (decide (i < j))) := rfl
theorem dLe_int (i j : Int) : dLe (.int i) (.int j) = some (.bl (decide (i ≤ j))) := rfl
theorem dGt_int (i j : Int) : dGt (.int i) (.int j) = some (.bl (decide (j < i))) := rfl
theorem dGe_int (i j : Int) : dGe (.int i) (.int j) = some (.bl (decide (j ≤ i))) := rfl
theorem dEq_int (i j : Int) : dEq (.int i) (.int j) = some (.bl (decide (i = j))) := by
  show some (D.bl (i == j)) = _
  rw [Bool.beq_eq_decide_eq]
theorem dNe_int (i j : Int) : dNe (.int i) (.int j) = some (.bl (!decide (i = j))) := by
  show some (D.bl (!(i == j))) = _
  rw [Bool.beq_eq_decide_eq]
theorem dEq_bl (i j : Bool) : dEq (.bl i) (.bl j) = some (.bl (i == j)) := rfl
theorem dIs_non (d : D) : dIs d .non = some (.bl d.isNone) := rfl
theorem dIsNot_non (d : D) : dIsNot d .non = some (.bl (!d.isNone)) := rfl
theorem kb_int_int : kitB "int" "int" = some true := by decide +kernel
theorem kb_int_bool : kitB "int" "bool" = some false := by decide +kernel
theorem kb_bool_bool : kitB "bool" "bool" = some true := by decide +kernel
theorem kb_tuple_tuple : kitB "tuple" "tuple" = some true := by decide +kernel
theorem kb_tuple_list : kitB "tuple" "list" = some false := by decide +kernel
theorem kb_list_list : kitB "list" "list" = some true := by decide +kernel
theorem kb_list_tuple : kitB "list" "tuple" = some false := by decide +kernel
theorem kb_str_str : kitB "str" "str" = some true := by decide +kernel
theorem line_le {n : Nat} (h : n ≤ 16777216) : (n ≤ sizeLine) = True := eq_true (by rw [sizeLine_eq]; exact h)
theorem isi_int (d : D) (t : String) (b : Bool) (n : String) (h : tyName d = some t) (k : kitB t n = some b) : dIsi [d, .ty n] = some (.bl b) := by
  simp only [dIsi, h, Option.bind_some, k, Option.map_some]
theorem loop_cons {g : D → En → Option En} {body : SM} {d : D} {r : List D} {ρ1 ρ2 : En} (h1 : g d ρ = some ρ1) (h2 : body ρ1 = .nx ρ2) : loop g body (d :: r) ρ = loop g body r ρ2 := by
  show (match g d ρ with
      | none => Out.st
      | some ρ' => match body ρ' with
        | .nx ρ2 => loop g body r ρ2
        | .ct ρ2 => loop g body r ρ2
        | .bk ρ2 => .nx ρ2
        | o => o) = _
  rw [h1]
  show (match body ρ1 with
        | .nx ρ2 => loop g body r ρ2
        | .ct ρ2 => loop g body r ρ2
        | .bk ρ2 => .nx ρ2
        | o => o) = _
  rw [h2]
theorem dAt_lst {ds : List D} {j : Nat} {d : D} (h : ds[j]? = some d) : dAt (.lst ds) (.int (j : Int)) = some d := atI_nat h
theorem dAt_tup {ds : List D} {j : Nat} {d : D} (h : ds[j]? = some d) : dAt (.tup ds) (.int (j : Int)) = some d := atI_nat h
theorem dAt_scr {ns : List Int} {j : Nat} {x : Int} (h : ns[j]? = some x) : dAt (.scr ns) (.int (j : Int)) = some (.int x) := by
  show (atI ns (j : Int)).map D.int = _
  rw [atI_nat h]
  rfl
theorem cutL_ints (ns : List Int) (lo hi : Option Int) : cutL (ns.map D.int) lo hi = (cutL ns lo hi).map D.int := by
  unfold cutL
  rw [List.length_map, List.map_take, List.map_drop]
theorem cutL_len {α : Type} (xs : List α) (k : Nat) : (cutL xs none (some (k : Int))).length ≤ k := by
  unfold cutL
  rw [List.length_take, HT.sIx_nat, HT.sIx_none]
  omega
theorem dAt_t0 {a : D} {ds : List D} : dAt (.tup (a :: ds)) (.int 0) = some a := dAt_tup (j := 0) rfl
theorem dAt_t1 {a b : D} {ds : List D} : dAt (.tup (a :: b :: ds)) (.int 1) = some b := dAt_tup (j := 1) rfl
theorem dAt_t2 {a b c : D} {ds : List D} : dAt (.tup (a :: b :: c :: ds)) (.int 2) = some c := dAt_tup (j := 2) rfl
theorem dAt_l0 {a : D} {ds : List D} : dAt (.lst (a :: ds)) (.int 0) = some a := dAt_lst (j := 0) rfl
theorem dAt_l1 {a b : D} {ds : List D} : dAt (.lst (a :: b :: ds)) (.int 1) = some b := dAt_lst (j := 1) rfl
theorem dAt_l2 {a b c : D} {ds : List D} : dAt (.lst (a :: b :: c :: ds)) (.int 2) = some c := dAt_lst (j := 2) rfl
theorem dAt_l3 {a b c d : D} {ds : List D} : dAt (.lst (a :: b :: c :: d :: ds)) (.int 3) = some d := dAt_lst (j := 3) rfl
theorem dAt_l4 {a b c d e : D} {ds : List D} : dAt (.lst (a :: b :: c :: d :: e :: ds)) (.int 4) = some e := dAt_lst (j := 4) rfl
theorem dAt_l5 {a b c d e f : D} {ds : List D} : dAt (.lst (a :: b :: c :: d :: e :: f :: ds)) (.int 5) = some f := dAt_lst (j := 5) rfl
theorem dAt_l6 {a b c d e f g : D} {ds : List D} : dAt (.lst (a :: b :: c :: d :: e :: f :: g :: ds)) (.int 6) = some g := dAt_lst (j := 6) rfl
theorem dAt_l7 {a b c d e f g h : D} {ds : List D} : dAt (.lst (a :: b :: c :: d :: e :: f :: g :: h :: ds)) (.int 7) = some h := dAt_lst (j := 7) rfl
end
end GD
namespace GD
open PySem PySem.Spec PyProof.Rows L2
def wipeE : List Nat → En → En
  | [], ρ => ρ
  | v :: vs, ρ => (wipeE vs ρ).set v .un
def noEr {α : Type} (r : R α) : R α := match r with
  | .er _ => .st
  | o => o
def lcGo (g : D → En → Option En) (t : TM) (m : EM) : List D → En → R (List D)
  | [], _ => .ok []
  | d :: r, ρ => match g d ρ with
    | none => .st
    | some ρ1 => (noEr (t ρ1)).bind fun b => if b = true then (noEr (m ρ1)).bind fun x => (lcGo g t m r ρ).bind fun xs => .ok (x :: xs) else lcGo g t m r ρ
def aLc (f : D → Option (List D)) (vs : List Nat) (g : D → En → Option En) (t : TM) (mi m : EM) : AM := fun ρ => (mi ρ).bind fun d => (R.ofO (f d)).bind fun ds => if ds.length ≤ sizeLine then lcGo g t m ds (wipeE vs ρ) else .st
def aLcR (vs : List Nat) (g : D → En → Option En) (t : TM) (mi : AM) (m : EM) : AM := fun ρ => (mi ρ).bind fun as => (R.ofO (dRange as)).bind fun ds => if ds.length ≤ sizeLine then lcGo g t m ds (wipeE vs ρ) else .st
def mYes : TM := fun _ => .ok true
section
variable {K : PySem.W.Frag} {mg : Str → Option Value} {W : Wd} {B H : Hp} {σ σ2 : L2.St} {ρ : En}
theorem EnvOk.wipe (E : EnvOk K mg W B H σ ρ) : ∀ vs : List Nat, EnvOk K mg W B H (L2.wipe σ vs) (wipeE vs ρ)
  | [] => E
  | v :: vs => (EnvOk.wipe E vs).drop v
theorem wipe_get : ∀ (vs : List Nat) (i : Nat), (L2.wipe σ vs)[i]? = if i ∈ vs ∧ i < σ.length then some none else σ[i]?
  | [], i => by simp [L2.wipe]
  | v :: vs, i => by
    show ((L2.wipe σ vs).set v none)[i]? = _
    by_cases hv : v = i
    · subst hv
      by_cases hl : v < σ.length
      · rw [List.getElem?_set_self (by rw [wipe_length]; exact hl), if_pos ⟨List.mem_cons_self, hl⟩]
      · rw [if_neg (fun z => hl z.2), List.getElem?_eq_none (by rw [List.length_set, wipe_length]; omega), List.getElem?_eq_none (by omega)]
    · rw [List.getElem?_set_ne hv, wipe_get vs i]
      have e : (i ∈ v :: vs) ↔ i ∈ vs := by
        rw [List.mem_cons]
        exact ⟨fun z => z.elim (fun z => absurd z.symm hv) id, Or.inr⟩
      simp only [e]
theorem wipe_agree {vs : List Nat} (hl : σ2.length = σ.length) (h : ∀ j, j ∉ vs → σ2[j]? = (L2.wipe σ vs)[j]?) : L2.wipe σ2 vs = L2.wipe σ vs := by
  apply List.ext_getElem?
  intro i
  rw [wipe_get, wipe_get]
  by_cases hi : i ∈ vs
  · by_cases hs : i < σ.length
    · rw [if_pos ⟨hi, by omega⟩, if_pos ⟨hi, hs⟩]
    · rw [if_neg (fun z => hs (by omega)), if_neg (fun z => hs z.2), List.getElem?_eq_none (by omega), List.getElem?_eq_none (by omega)]
  · rw [if_neg (fun z => hi z.1), if_neg (fun z => hi z.1), h i hi, wipe_get, if_neg (fun z => hi z.1)]
end
section
variable {X : Cx} {Wx : WX} {a b c e : Expr} {es : List Expr} {pos p : Pos} {ma mb m : EM} {mr : AM}
def PGV (X : Cx) (tg : Expr) (vs : List Nat) (g : D → En → Option En) : Prop := ∀ W σ H B ρ ρ' d v, EnvOk X.K X.mg W B H σ ρ → Is X.K X.mg B v d → g d ρ = some ρ' → ∀ Q : L2.St → Hp → Prop,
  (∀ σ', EnvOk X.K X.mg W B H σ' ρ' → σ'.length = σ.length → (∀ j, j ∉ vs → σ'[j]? = σ[j]?) → Q σ' H) → wpG X tg v σ H Q
theorem pgv_name {i : Nat} {x : Str} {vs : List Nat} (hN : X.N.Nodup) (hi : X.N[i]? = some x) (hx : Loc X.env.scope x) (hv : i ∈ vs) (hf : X.fn x = true ∨ X.env.scope.names.lookup x = some .local := by first | exact .inl rfl | exact .inr rfl | assumption) : PGV X (.Name x pos) vs (gNm i) := by
  intro W σ H B ρ ρ' d v E r g Q q
  cases g
  exact ⟨_, pg_name hN hi hx hf, q _ (E.set r) (by simp) fun j hj => List.getElem?_set_ne (fun z => hj (by rw [← z]; exact hv))⟩
def wpTs (X : Cx) (ifs : List Expr) : TT := fun σ H Q => ∃ t, PTs X ifs t ∧ t σ H Q
theorem pts_wp {ifs : List Expr} : PTs X ifs (wpTs X ifs) := ⟨fun pins s σ H Q I ⟨_, h, q⟩ => h.run pins s σ H Q I q⟩
abbrev W0 : WX := fun _ _ _ _ => False
def PTSD (X : Cx) (ifs : List Expr) (t : TM) : Prop := ∀ W σ H B ρ, EnvOk X.K X.mg W B H σ ρ → ∀ Q, Post (t ρ) (okT B H Q) (erD X W0 σ B H) → wpTs X ifs σ H Q
theorem ptsd_nil : PTSD X [] mYes := fun W σ H B ρ E Q h => ⟨_, pts_nil, (show okT B H Q true from h) B H (Grow.refl E.bh)⟩
theorem Post.noEr {α : Type} {r : R α} {P : α → Prop} {E E' : Str → Prop} (h : Post (GD.noEr r) P E) : Post r P E' := by
  cases r with
  | ok a => exact h
  | er x => exact h.elim
  | st => exact h
theorem Post.noErB {α β : Type} {r : R α} {f : α → R β} {P : β → Prop} {E E' : Str → Prop} (h : Post ((GD.noEr r).bind f) P E) : Post r (fun a => Post (f a) P E) E' := by
  cases r with
  | ok a => exact h
  | er x => exact h.elim
  | st => exact h
variable {elt tg iter : Expr} {ifs : List Expr} {scope : Scope} {own : List (Str × Nat)} {g : D → En → Option En} {t : TM}
def blkG (X : Cx) (scope : Scope) (tg : Expr) : TG := fun v σ H Q => ∀ (s : Shared) (H0 : Hp) (C : Addr) (cl : List (Str × Addr)) (fp : List Addr), wpG (X.blk s H0 scope (compEnvC scope cl C X.env) fp) tg v σ H Q
def blkT (X : Cx) (scope : Scope) (ifs : List Expr) : TT := fun σ H Q => ∀ (s : Shared) (H0 : Hp) (C : Addr) (cl : List (Str × Addr)) (fp : List Addr), wpTs (X.blk s H0 scope (compEnvC scope cl C X.env) fp) ifs σ H Q
def blkE (X : Cx) (scope : Scope) (e : Expr) : TE := fun σ H Q => ∀ (s : Shared) (H0 : Hp) (C : Addr) (cl : List (Str × Addr)) (fp : List Addr), wpE (X.blk s H0 scope (compEnvC scope cl C X.env) fp) e σ H Q
structure Blk (X : Cx) (scope : Scope) (own : List (Str × Nat)) (tg : Expr) (ifs : List Expr) (elt : Expr) (g : D → En → Option En) (t : TM) (m : EM) : Prop where
  g : ∀ (s : Shared) (H : Hp) (C : Addr) (cl : List (Str × Addr)) (fp : List Addr), PGV (X.blk s H scope (compEnvC scope cl C X.env) fp) tg (own.map (·.2)) g
  t : ∀ (s : Shared) (H : Hp) (C : Addr) (cl : List (Str × Addr)) (fp : List Addr), PTSD (X.blk s H scope (compEnvC scope cl C X.env) fp) ifs t
  e : ∀ (s : Shared) (H : Hp) (C : Addr) (cl : List (Str × Addr)) (fp : List Addr), PED (X.blk s H scope (compEnvC scope cl C X.env) fp) W0 elt m
def LcPv (X : Cx) (g : D → En → Option En) (t : TM) (m : EM) (vs : List Nat) (B1 H1 : Hp) (ρ : En) (P : List D → Prop) (ds : List D) (D' : Addr) (i : Nat) (H : Hp) : Prop :=
  ∃ B' acc es, Grow B1 H1 B' H ∧ H D' = some (.lst acc) ∧ B' D' = none ∧ IsL X.K X.mg B' acc es ∧ acc.length ≤ i ∧ Post (lcGo g t m (ds.drop i) (wipeE vs ρ)) (fun r => P (es ++ r)) (fun _ => False)
theorem lc_turn {W : Wd} {σ : L2.St} {B1 H1 H : Hp} {ρ : En} {P : List D → Prop} {ds : List D} {D' : Addr} {i : Nat} {d : D} {v : V} (hb : Blk X scope own tg ifs elt g t m) (E : EnvOk X.K X.mg W B1 H1 σ ρ) (hD : H1 D' = none) (hd : ds[i]? = some d) (hl : ds.length ≤ sizeLine)
    (h : LcPv X g t m (own.map (·.2)) B1 H1 ρ P ds D' i H) (hv : ∀ B', Same B1 B' → Is X.K X.mg B' v d) :
    blkG X scope tg v (L2.wipe σ (own.map (·.2))) H fun σ2 H2 => L2.wipe σ2 (own.map (·.2)) = L2.wipe σ (own.map (·.2)) ∧ blkT X scope ifs σ2 H2 fun b H3 =>
      if b = true then blkE X scope elt σ2 H3 fun y H4 => ∃ acc, H4 D' = some (.lst acc) ∧ acc.length < sizeLine ∧ LcPv X g t m (own.map (·.2)) B1 H1 ρ P ds D' (i + 1) (upd H4 D' (.lst (acc ++ [y]))) else LcPv X g t m (own.map (·.2)) B1 H1 ρ P ds D' (i + 1) H3 := by
  obtain ⟨B', acc, es, g1, hacc, nb, ra, la, q⟩ := h
  have hi : i < ds.length := (List.getElem?_eq_some_iff.mp hd).1
  rw [drop_get hd] at q
  unfold lcGo at q
  intro s H0 C cl fp
  cases eg : g d (wipeE (own.map (·.2)) ρ) with
  | none => rw [eg] at q; exact q.elim
  | some ρ1 =>
    rw [eg] at q
    dsimp only at q
    have E1 := (E.grow g1).wipe (own.map (·.2))
    refine hb.g s H0 C cl fp W _ H B' _ ρ1 d v E1 (hv B' g1.bb) eg _ fun σ2 E2 l2 a2 => ⟨wipe_agree (l2.trans (wipe_length _ _)) a2, fun s3 H30 C3 cl3 fp3 => ?_⟩
    refine hb.t s3 H30 C3 cl3 fp3 W σ2 H B' ρ1 E2 _ ((q.noErB (E' := fun _ => False)).mono (fun b _ hb' B3 H3 g3 => ?_) fun _ z => z.elim)
    cases b with
    | true =>
      rw [if_pos rfl] at hb' ⊢
      intro s4 H40 C4 cl4 fp4
      refine hb.e s4 H40 C4 cl4 fp4 W σ2 H3 B3 ρ1 (E2.grow g3) _ ((hb'.noErB (E' := fun _ => False)).mono (fun x _ hx y B4 H4 g4 ry => ?_) fun _ z => z.elim)
      have e4 : H4 D' = some (.lst acc) := g4.hh _ _ (g3.hh _ _ hacc)
      have n4 : B4 D' = none := g4.sep _ _ (g3.hh _ _ hacc) nt_lst (g3.sep _ _ hacc nt_lst nb)
      have G := (g1.trans g3).trans g4
      refine ⟨acc, e4, Nat.lt_of_lt_of_le (Nat.lt_of_le_of_lt la hi) hl, B4, acc ++ [y], es ++ [x], ⟨G.bb, fun q u e => ?_, fun q u e => ?_, G.sep⟩, upd_same, n4, ((ra.mono g3.bb).mono g4.bb).snoc ry, by rw [List.length_append, List.length_singleton]; omega, hx.bind.mono (fun r _ hr => ?_) fun _ z => z⟩
      · rw [upd_ne (ne_of_none e hD)]; exact G.hh q u e
      · rw [upd_ne (fun z => by rw [z, n4] at e; cases e)]; exact G.bh q u e
      · rw [List.append_assoc]
        exact hr
    | false =>
      rw [if_neg Bool.false_ne_true] at hb' ⊢
      exact ⟨B3, acc, es, g1.trans g3, g3.hh _ _ hacc, g3.sep _ _ hacc nt_lst nb, ra.mono g3.bb, by omega, hb'⟩
theorem lc_start {B1 H1 : Hp} {ρ : En} {P : List D → Prop} {ds : List D} {D' : Addr} {vs : List Nat} (b : Same B1 H1) (hD : H1 D' = none) (q : Post (lcGo g t m ds (wipeE vs ρ)) P (fun _ => False)) :
    LcPv X g t m vs B1 H1 ρ P ds D' 0 (upd H1 D' (.lst [])) := by
  refine ⟨B1, [], [], Grow.own b hD, upd_same, ?_, .nil, Nat.le_refl _, q.mono (fun r _ h => h) fun _ z => z⟩
  cases e : B1 D' with
  | none => rfl
  | some o => rw [b _ o e] at hD; cases hD
theorem lc_end {W : Wd} {B H B1 H1 H' : Hp} {Q : VK} {ρ : En} {ds : List D} {D' : Addr} {vs : List Nat} {n : Nat} (g1 : Grow B H B1 H1) (hD : H1 D' = none) (hn : n = ds.length) (h : LcPv X g t m vs B1 H1 ρ (okF X B H Q) ds D' n H') : Q (.ref D') H' := by
  subst hn
  obtain ⟨B', acc, es, g2, hacc, nb, ra, _, q⟩ := h
  rw [List.drop_length] at q
  have q' : okF X B H Q (es ++ []) := q
  rw [List.append_nil] at q'
  exact q' D' acc B' H' (g1.trans g2) (by
    cases e : H D' with
    | none => rfl
    | some o => rw [g1.hh _ o e] at hD; cases hD) hacc nb ra
theorem lcGo_noer : ∀ (ds : List D) (ρ : En) (x : Str), lcGo g t m ds ρ ≠ .er x
  | [], ρ, x => fun h => by cases h
  | d :: r, ρ, x => fun h => by
    unfold lcGo at h
    split at h
    · cases h
    · rename_i ρ1 _
      cases e1 : t ρ1 with
      | ok b =>
        rw [e1] at h
        have h' : (if b = true then (noEr (m ρ1)).bind fun x => (lcGo g t m r ρ).bind fun xs => R.ok (x :: xs) else lcGo g t m r ρ) = .er x := h
        cases b with
        | true =>
          rw [if_pos rfl] at h'
          cases e2 : m ρ1 with
          | ok y =>
            rw [e2] at h'
            have h2 : ((lcGo g t m r ρ).bind fun xs => R.ok (y :: xs)) = .er x := h'
            cases e3 : lcGo g t m r ρ with
            | ok z => rw [e3] at h2; cases h2
            | er z => exact lcGo_noer r ρ z e3
            | st => rw [e3] at h2; cases h2
          | er y => rw [e2] at h'; cases h'
          | st => rw [e2] at h'; cases h'
        | false =>
          rw [if_neg Bool.false_ne_true] at h'
          exact lcGo_noer r ρ x h'
      | er y => rw [e1] at h; cases h
      | st => rw [e1] at h; cases h
theorem post_lc {ds : List D} {ρ : En} {P : List D → Prop} {Er : Str → Prop} (h : Post (if ds.length ≤ sizeLine then lcGo g t m ds ρ else .st) P Er) : ds.length ≤ sizeLine ∧ Post (lcGo g t m ds ρ) P (fun _ => False) := by
  by_cases hl : ds.length ≤ sizeLine
  · rw [if_pos hl] at h
    refine ⟨hl, ?_⟩
    cases e : lcGo g t m ds ρ with
    | ok r => rw [e] at h; exact h
    | er x => exact (lcGo_noer ds ρ x e).elim
    | st => rw [e] at h; exact h
  · rw [if_neg hl] at h
    exact h.elim
def LCD (X : Cx) (Wx : WX) (own : List (Str × Nat)) (elt tg iter : Expr) (ifs : List Expr) (scope : Scope) (m : AM) : Prop :=
  BlkOk X.N X.env.scope scope own ∧ (∀ x, foldedSetIterable iter X.env x = pure x) ∧ ∃ (wi : TI) (g : TG) (tt : TT) (te : TE), PI X tg iter wi ∧
    (∀ (s : Shared) (H : Hp) (C : Addr) (cl : List (Str × Addr)) (fp : List Addr), PG (X.blk s H scope (compEnvC scope cl C X.env) fp) tg g) ∧
    (∀ (s : Shared) (H : Hp) (C : Addr) (cl : List (Str × Addr)) (fp : List Addr), PTs (X.blk s H scope (compEnvC scope cl C X.env) fp) ifs tt) ∧
    (∀ (s : Shared) (H : Hp) (C : Addr) (cl : List (Str × Addr)) (fp : List Addr), PE (X.blk s H scope (compEnvC scope cl C X.env) fp) elt te) ∧
    ∀ W σ H B ρ, EnvOk X.K X.mg W B H σ ρ → ∀ Q, Post (m ρ) (okF X B H Q) (erD X Wx σ B H) → tLc wi g tt te (own.map (·.2)) σ H Q
theorem pfd_lc (hc : X.calm = true) (hN : X.N.Nodup) (h : LCD X Wx own elt tg iter ifs scope mr) : PFD X Wx (.ListComp elt [⟨tg, iter, ifs, 0⟩] scope pos) mr := by
  obtain ⟨ok, hs, wi, g, tt, te, hi, hg, ht, he, q⟩ := h
  exact fun W σ H B ρ E Q hq => ⟨_, pe_lc hc hN hi ok hg ht he hs, q W σ H B ρ E Q hq⟩
def sAsgL (i : Nat) (m : AM) : SM := fun ρ => ofR (m ρ) ρ fun ds => .nx (ρ.set i (.v (.lst ds)))
theorem frozen {B H B1 H1 : Hp} {p : Addr} {xs : List V} {ds : List D} (g : Grow B H B1 H1) (n : H p = none) (e1 : H1 p = some (.lst xs)) (nb : B1 p = none) (r : IsL X.K X.mg B1 xs ds) :
    Grow B H (upd B1 p (.lst xs)) H1 ∧ Is X.K X.mg (upd B1 p (.lst xs)) (.ref p) (.lst ds) := by
  have nb' : ∀ q u, B1 q = some u → q ≠ p := fun q u e z => by rw [z, nb] at e; cases e
  have s1 : Same B1 (upd B1 p (.lst xs)) := fun q u e => by rw [upd_ne (nb' q u e)]; exact e
  refine ⟨⟨g.bb.trans s1, g.hh, fun q u e => ?_, fun q u e tt z => ?_⟩, .lst upd_same (r.mono s1)⟩
  · by_cases hq : q = p
    · subst hq; rw [upd_same] at e; rw [e1, e]
    · rw [upd_ne hq] at e; exact g.bh q u e
  · rw [upd_ne (ne_of_none e n)]
    exact g.sep q u e tt z
theorem psd_setL {i : Nat} {y : Str} {py spos : Pos} (hc : X.calm = true) (hN : X.N.Nodup) (hy : X.N[i]? = some y) (hyl : X.env.scope.names.lookup y = some .local) (h : LCD X Wx own elt tg iter ifs scope mr)
    (hsw : swapsWith (.ListComp elt [⟨tg, iter, ifs, 0⟩] scope pos) (some (.Name y py)) spos.line X.env = pure true) :
    PSD X Wx (.Assign [.Name y py] (.ListComp elt [⟨tg, iter, ifs, 0⟩] scope pos) spos) (sAsgL i mr) := by
  obtain ⟨ok, hs, wi, g, tt, te, hi, hg, ht, he, q⟩ := h
  exact fun W σ H B ρ E D hq => ⟨_, ps_setLc hc hN hy hyl hsw hi ok hg ht he hs, q W σ H B ρ E _ ((PostS.ofR hq E).mono (fun ds _ hd p xs B' H' g n e1 nb r =>
    let ⟨g2, r2⟩ := frozen g n e1 nb r
    (show PostS X W Wx (.nx (ρ.set i (.v (.lst ds)))) D from hd) _ _ H' ((E.grow g2).set r2)) fun _ z => z)⟩
theorem lcd_L (hi : PED X Wx iter ma) (ok : BlkOk X.N X.env.scope scope own)
    (hg : ∀ (s : Shared) (H : Hp) (C : Addr) (cl : List (Str × Addr)) (fp : List Addr), PGV (X.blk s H scope (compEnvC scope cl C X.env) fp) tg (own.map (·.2)) g)
    (ht : ∀ (s : Shared) (H : Hp) (C : Addr) (cl : List (Str × Addr)) (fp : List Addr), PTSD (X.blk s H scope (compEnvC scope cl C X.env) fp) ifs t)
    (he : ∀ (s : Shared) (H : Hp) (C : Addr) (cl : List (Str × Addr)) (fp : List Addr), PED (X.blk s H scope (compEnvC scope cl C X.env) fp) W0 elt m)
    (hs : ∀ x, foldedSetIterable iter X.env x = pure x := by intro _; rfl) : LCD X Wx own elt tg iter ifs scope (aLc asL (own.map (·.2)) g t ma m) :=
  ⟨ok, hs, iList X.K (wpE X iter), blkG X scope tg, blkT X scope ifs, blkE X scope elt, pi_list pe_wp, (fun s H C cl fp => ⟨fun pins s' σ' H' v u Q I r q => pg_wp.run pins s' σ' H' v u Q I r (q s H C cl fp)⟩), (fun s H C cl fp => ⟨fun pins s' σ' H' Q I q => pts_wp.run pins s' σ' H' Q I (q s H C cl fp)⟩),
      (fun s H C cl fp => ⟨fun pins s' σ' H' Q I q => pe_wp.run pins s' σ' H' Q I (q s H C cl fp)⟩), fun W σ H B ρ E Q h => by
    refine hi W σ H B ρ E _ ((show Post ((ma ρ).bind fun d => (R.ofO (asL d)).bind fun ds => if ds.length ≤ sizeLine then lcGo g t m ds (wipeE (own.map (·.2)) ρ) else .st) _ _ from h).bind.mono (fun d _ hd v B1 H1 g1 rv => ?_) fun _ z => z)
    obtain ⟨ds, ed, q1⟩ := hd.bind.ofO
    obtain ⟨hl, q2⟩ := post_lc q1
    obtain ⟨a, xs, ev, hsq, r⟩ : ∃ a xs, v = V.ref a ∧ SqL X.K B1 a xs ∧ IsL X.K X.mg B1 xs ds := by
      cases d with
      | lst ds' =>
        cases ed
        obtain ⟨a, xs, ev, h1, r⟩ := rv.lst_inv
        exact ⟨a, xs, ev, SqL.of h1, r⟩
      | scr ns =>
        cases ed
        obtain ⟨a, ev, h1⟩ := rv.scr_inv
        exact ⟨a, _, ev, h1, IsL.ints ns⟩
      | _ => cases ed
    refine ⟨a, ev, ⟨xs, g1.bh.seq hsq⟩, fun D' hD => ?_⟩
    exact lc_list (K := X.K) (a := a) (xs := xs) (LcPv X g t m (own.map (·.2)) B1 H1 ρ (okF X B H Q) ds D') (lc_start g1.bh hD q2) (fun i H' _ ⟨B', _, _, g2, _⟩ => (g2.bb.trans g2.bh).seq hsq)
      (fun i x H' hx p => by
        obtain ⟨d', hd', r'⟩ := r.at hx
        exact lc_turn ⟨hg, ht, he⟩ (E.grow g1) hD hd' hl p fun B' s => r'.mono s)
      (fun H' p => lc_end (W := W) g1 hD r.length p)⟩
theorem lc_rg {W : Wd} {σ : L2.St} {B H B1 H1 : Hp} {Q : VK} {ρ : En} {lo : Int} {n : Nat} {D' : Addr} (hb : Blk X scope own tg ifs elt g t m) (E : EnvOk X.K X.mg W B1 H1 σ ρ) (g1 : Grow B H B1 H1) (hD : H1 D' = none) (hl : (rg lo 1 n).length ≤ sizeLine)
    (q : Post (lcGo g t m (rg lo 1 n) (wipeE (own.map (·.2)) ρ)) (okF X B H Q) (fun _ => False)) :
    ∃ W : Nat → Nat → Hp → Prop, (∃ m, W 0 m (upd H1 D' (.lst []))) ∧ ∀ i m H, W i m H →
      ((Itr lo n).stop i H ∧ Q (.ref D') H) ∨ ((Itr lo n).go i H ∧ ∃ Nx : Hp → Prop, (∀ H', Nx H' → ∃ m', m' < m ∧ W (i + 1) m' H') ∧ ∀ x H', (Itr lo n).yld i H x H' → blkG X scope tg x (L2.wipe σ (own.map (·.2))) H' fun σ2 H2 => L2.wipe σ2 (own.map (·.2)) = L2.wipe σ (own.map (·.2)) ∧ blkT X scope ifs σ2 H2 fun b H3 =>
        if b = true then blkE X scope elt σ2 H3 fun y H4 => ∃ acc, H4 D' = some (.lst acc) ∧ acc.length < sizeLine ∧ Nx (upd H4 D' (.lst (acc ++ [y]))) else Nx H3) :=
  lc_range (lo := lo) (n := n) (LcPv X g t m (own.map (·.2)) B1 H1 ρ (okF X B H Q) (rg lo 1 n) D') (lc_start E.bh hD q)
    (fun i H' hi p => by
      have hg := rg_get (i := lo) (c := 1) hi
      rw [Int.mul_one] at hg
      exact lc_turn hb E hD hg hl p fun B' s => .int _)
    (fun H' p => lc_end (W := W) g1 hD rg_len.symm p)
theorem lcd_1 (hgl : Gl X "range") (hm : X.mg "range" = none) (hi : PAD X Wx [a] mr) (hln : ∀ ρ ds, mr ρ = .ok ds → ds.length = 1) (ok : BlkOk X.N X.env.scope scope own)
    (hg : ∀ (s : Shared) (H : Hp) (C : Addr) (cl : List (Str × Addr)) (fp : List Addr), PGV (X.blk s H scope (compEnvC scope cl C X.env) fp) tg (own.map (·.2)) g)
    (ht : ∀ (s : Shared) (H : Hp) (C : Addr) (cl : List (Str × Addr)) (fp : List Addr), PTSD (X.blk s H scope (compEnvC scope cl C X.env) fp) ifs t)
    (he : ∀ (s : Shared) (H : Hp) (C : Addr) (cl : List (Str × Addr)) (fp : List Addr), PED (X.blk s H scope (compEnvC scope cl C X.env) fp) W0 elt m)
    {cpos : Pos} (hs1 : starEach [a] X.env = [(false, eval a X.env)] := by rfl) (hs : ∀ x, foldedSetIterable (.Call (.Name "range" p) [a] [] cpos) X.env x = pure x := by intro _; rfl) :
    LCD X Wx own elt tg (.Call (.Name "range" p) [a] [] cpos) ifs scope (aLcR (own.map (·.2)) g t mr m) :=
  ⟨ok, hs, iRng1 (wpA X [a]), blkG X scope tg, blkT X scope ifs, blkE X scope elt, pi_range1 hgl hm pa_wp hs1, (fun s H C cl fp => ⟨fun pins s' σ' H' v u Q I r q => pg_wp.run pins s' σ' H' v u Q I r (q s H C cl fp)⟩), (fun s H C cl fp => ⟨fun pins s' σ' H' Q I q => pts_wp.run pins s' σ' H' Q I (q s H C cl fp)⟩),
      (fun s H C cl fp => ⟨fun pins s' σ' H' Q I q => pe_wp.run pins s' σ' H' Q I (q s H C cl fp)⟩), fun W σ H B ρ E Q h => by
    refine hi W σ H B ρ E _ ((show Post ((mr ρ).bind fun as => (R.ofO (dRange as)).bind fun ds => if ds.length ≤ sizeLine then lcGo g t m ds (wipeE (own.map (·.2)) ρ) else .st) _ _ from h).bind.mono (fun as eas hd vs B1 H1 g1 rv => ?_) fun _ z => z)
    obtain ⟨ds, ed, q1⟩ := hd.bind.ofO
    obtain ⟨hl, q2⟩ := post_lc q1
    have hl1 := hln ρ as eas
    match as, hl1, ed, rv with
    | [d], _, ed, rv =>
      cases d with
      | int j =>
        obtain ⟨hj, rfl⟩ := some_ite ed
        obtain ⟨v, rfl, r1⟩ := rv.one_inv
        rw [r1.int_inv]
        exact ⟨j, rfl, hj.1, hj.2, fun D' hD => lc_rg ⟨hg, ht, he⟩ (E.grow g1) g1 hD hl q2⟩
      | _ => cases ed⟩
end
end GD
namespace GD
open PySem PySem.Spec PyProof.Rows L2
theorem exK_ok {P : Program} {w : World} {H : Hp} {h : Heap} {a : Addr} {cls : Value} {oe : Obj} {vs : Array Value} (g : h.get? a = some oe) (z : Zc cls none oe) (d : oe.data = .fields vs) : ObjOk P w H h a (ExK cls a) :=
  ⟨⟨oe, vs, g, z, d⟩, ⟨oe, g⟩, fun _ _ y k => y.elim fun o y' => y'.elim fun v y2 => ⟨o, v, k o y2.1, y2.2⟩⟩
section
variable {X : Cx} {pins : List (Addr × Obj)} {σ : L2.St} {H : Hp} {s : Shared}
theorem inv_keeps {a : Addr} {cls : Value} {oe : Obj} {vs : Array Value} (I : Inv X pins σ H s) (g : s.heap.get? a = some oe) (z : Zc cls none oe) (d : oe.data = .fields vs) (nh : H a = none)
    (n0 : ∀ o, X.s_0.heap.get? a = some o → a ∈ X.ex) (nl : a ≠ X.env.locals) (np : ∀ p ∈ X.pn ++ pins, p.1 ≠ a) : Inv X pins σ (upd H a (ExK cls a)) s := by
  have off : ∀ b o, H b = some o → upd H a (ExK cls a) b = some o := fun b o e => by
    rw [upd_ne (ne_of_none e nh)]; exact e
  have non : ∀ b, H b = none → b ≠ a → upd H a (ExK cls a) b = none := fun b e hb => by
    rw [upd_ne hb]; exact e
  refine { ok := I.ok, os := I.os, bare := I.bare, base := ?_, loc := I.loc, cell := I.cell, free := non _ I.free (Ne.symm nl), freeC := fun x c e => ?_, pin := fun p hp => ?_, hok := fun b o e => ?_, len := I.len }
  · have U := I.base
    exact { keep := U.keep, slot := U.slot, there := U.there, free := fun b o e e1 hx => non b (U.free b o e e1 hx) (fun q => by subst q; exact hx (n0 o e)),
            tups := fun b xs e => off _ _ (U.tups b xs e), frzs := fun b o u e => off _ _ (U.frzs b o u e), tbls := fun b ps e => (U.tbls b ps e).imp fun _ q => off _ _ q }
  · refine non c (I.freeC x c e) fun q => ?_
    obtain ⟨v, hv⟩ := I.cell x c e
    obtain ⟨o, ho, hd⟩ := hv
    rw [q, g] at ho
    cases ho
    rw [d] at hd
    cases hd
  · obtain ⟨p1, p2, p3⟩ := I.pin p hp
    exact ⟨p1, non _ p2 (np p hp), p3⟩
  · by_cases hb : b = a
    · subst hb
      rw [upd_same] at e
      cases e
      exact exK_ok g z d
    · rw [upd_ne hb] at e
      exact (I.hok b o e).stay (fun _ _ _ q => q) (fun b' q => off _ _ q) fun b' xs q => off _ _ q
def wKeep (K : PySem.W.Frag) (c : Value) (i : Nat) (ts : Addr → Value → TS) (D : Ends) : WX := fun cls d σ H =>
  d = none ∧ PySem.W.exmOne K cls c = some true ∧ ∀ a, H a = none → ts a cls { nx := fun σ1 H1 => D.nx (σ1.set i none) (upd H1 a (ExK cls a)), rt := fun _ _ => False, bk := fun _ _ => False, ct := fun _ _ => False } (σ.set i (some (.ref a))) H
theorem catch_run {x n : Str} {c : Value} {i : Nat} {suite : List Stmt} {b₀ : Stmt} {np pos' : Pos} {ts : Addr → Value → TS} {D : Ends} {xe : Value → Shared → Prop} {u : Value} {s' : Shared}
    (ok : X.Ok) (hs : X.stack = X.env :: X.outer) (hf : X.env.frame = some X.env.locals) (hN : X.N.Nodup) (hi : X.N[i]? = some n) (hln : X.env.kindOf n = some .local) (hc : Names X x c)
    (hsu : ∀ (a : Addr) (oe : Obj) (cls : Value) (pn : List (Addr × Obj)), PSs (X.suite a ((a, oe) :: pn)) (b₀ :: suite) (ts a cls))
    (y : XE (X.tr (X.pn ++ pins) xe) (wKeep X.K c i ts D) u s') :
    wpAny (model X.prog X.w) X.A (noteFrame u X.env) (fun _ s2 => wpAny (model X.prog X.w) X.A (setFlight u none) (fun _ s3 =>
      wpAny (model X.prog X.w) X.A (handleBy u X.env [.ExceptHandler (some (.Name x np)) (some n) (b₀ :: suite) pos']) (SP X pins D) X.xe s3) X.xe s2) X.xe s' := by
  rcases y with ⟨a, G, s0, ps, σ1, H1, cls, dd, rfl, J1, ground, ups, sky, nh, eos, bare, dn, em, go⟩
  subst dn
  have J0 : Inv X pins σ1 H1 s0 := J1.ofTry ok
  have fr : X.A.frames = some (X.env :: X.outer) := hs ▸ ok.frames
  have sky2 : Sky G (X.env :: X.outer) a (Zc cls none) X.env.locals s'.heap := hs ▸ sky
  refine Sky.land Zc.steady fr hf sky2 fun hA flA upA => ?_
  have JA : Inv X pins σ1 H1 { s' with heap := hA } := J0.landed ground flA.1 (ups.trans upA) eos bare
  -- where the error is not
  have out : a ∉ frs (X.env :: X.outer) := by
    intro m
    obtain ⟨_, o, eo, no⟩ := flA.2.2.1.mem m
    obtain ⟨oe, vs, e1, _, e2⟩ := flA.there
    cases e1.symm.trans eo
    exact no _ e2
  have aL : a ≠ X.env.locals := fun q => out (List.mem_filterMap.mpr ⟨X.env, List.mem_cons_self, by rw [hf, q]⟩)
  have aF : a ∉ X.fs := fun q => out (by
    obtain ⟨e, h1, h2⟩ := List.mem_filterMap.mp q
    exact List.mem_filterMap.mpr ⟨e, List.mem_cons_of_mem _ h1, h2⟩)
  have new0 : ∀ o, s0.heap.get? a = some o → False := fun o q => by
    have := ground a o q (by rw [show (X.tr (X.pn ++ pins) xe).stack = X.env :: X.outer from hs]; exact out)
    rw [flA.2.1] at this
    cases this
  have n0 : ∀ o, X.s_0.heap.get? a = some o → a ∈ X.ex := fun o q => by
    apply Decidable.byContradiction
    intro hx
    obtain ⟨o', q'⟩ := J0.base.there a o q hx
    exact new0 o' q'
  have npn : ∀ p ∈ X.pn ++ pins, p.1 ≠ a := fun p hp q => new0 p.2 (by rw [← q]; exact (J0.pin p hp).1)
  -- the clause's class
  obtain ⟨oA, vA, eA, zA, dA⟩ := flA.there
  have SA := JA.suite eA dA nh aL aF
  have ty : PySem.W.Looks (model X.prog X.w) hA (typeOf (.ref a)) cls := fun _ _ _ _ k q => wpAny_typeOf_ref (k _ _ eA) (zA.1.symm ▸ q)
  have yes := PySem.W.exm_one (M := model X.prog X.w) JA.kIn ty em
  have ask : ∀ {Q : Value → Shared → Prop} {E : Value → Shared → Prop}, Q c { s' with heap := hA } → wpAny (model X.prog X.w) (X.A.mark (some (.ref a))) (eval (.Name x np) X.env) Q E { s' with heap := hA } := by
    intro Q E q
    rcases hc with ⟨hg, hdb, h1 | ⟨h1, h2, h3⟩⟩
    · exact ld_glob (X := X.suite a ((a, oA) :: (X.pn ++ pins))) SA hg h1 q hdb
    · exact ld_blt (X := X.suite a ((a, oA) :: (X.pn ++ pins))) SA hg h1 h2 q h3 hdb
  refine wpAny_handleBy_cons (codeAny_handlers_test (ask (yes.here ?_))) (by intro q; cases q)
  apply codeAny_handlers_suite_as
  refine HandSPX.lands_againZ flA fun hB flB upB => ?_
  have JB : Inv X pins σ1 H1 { s' with heap := hB } := J0.landed ground flB.1 ((ups.trans upA).trans upB) eos bare
  obtain ⟨oB, vB, eB, zB, dB⟩ := flB.there
  have SB := JB.suite eB dB nh aL aF
  refine store_ok (X := X.suite a ((a, oB) :: (X.pn ++ pins))) (v := .ref a) SB hN hi (Or.inl hln) rfl (fun s5 S5 => ?_) (Or.inr hln)
  have run := (hsu a oB cls (X.pn ++ pins)).run [] s5 _ H1 _ S5 (go a nh)
  refine wpAny_mono run (fun f s6 q => ?_) fun _ _ z => z.elim
  match f, q with
  | .next, ⟨σ6, H6, S6, q6⟩ =>
    refine gone_ok (X := X.suite a ((a, oB) :: (X.pn ++ pins))) S6 hN hi hln fun s7 S7 => ?_
    obtain ⟨g7, n7, _⟩ := S7.pin (a, oB) (List.mem_append.mpr (.inl List.mem_cons_self))
    exact ⟨_, _, inv_keeps (S7.unsuite ok) g7 zB dB n7 n0 aL npn, q6⟩
  | .brk, ⟨_, _, _, q6⟩ => exact q6.elim
  | .cont, ⟨_, _, _, q6⟩ => exact q6.elim
  | .ret _, ⟨_, _, _, _, _, q6⟩ => exact q6.elim
theorem ps_tryKeep {x n : Str} {c : Value} {i : Nat} {body suite : List Stmt} {b₀ : Stmt} {np pos pos' : Pos} {tb : WX → TS} {ts : Addr → Value → TS}
    (hs : X.stack = X.env :: X.outer) (hf : X.env.frame = some X.env.locals) (hN : X.N.Nodup) (hi : X.N[i]? = some n) (hln : X.env.kindOf n = some .local) (hc : Names X x c)
    (hb : ∀ (W : WX) (pn : List (Addr × Obj)) (xe : Value → Shared → Prop), Takes (X.tr pn xe) W → PassesOwn (model X.prog X.w) X.A X.env xe → PSs (X.tr pn xe) body (tb W))
    (hsu : ∀ (a : Addr) (oe : Obj) (cls : Value) (pn : List (Addr × Obj)), PSs (X.suite a ((a, oe) :: pn)) (b₀ :: suite) (ts a cls)) :
    PS X (.Try body [.ExceptHandler (some (.Name x np)) (some n) (b₀ :: suite) pos'] [] [] pos) (fun D σ H => tb (wKeep X.K c i ts D) D σ H) := by
  constructor
  intro pins s σ H D I h
  refine wpAny_Try_except ?_
  have ok := I.ok
  let xe : Value → Shared → Prop := fun e s1 => wpAny (model X.prog X.w) X.A (noteFrame e X.env) (fun _ s2 => wpAny (model X.prog X.w) X.A (setFlight e none) (fun _ s3 =>
    wpAny (model X.prog X.w) X.A (handleBy e X.env [.ExceptHandler (some (.Name x np)) (some n) (b₀ :: suite) pos']) (SP X pins D) X.xe s3) X.xe s2) X.xe s1
  have bd := (hb (wKeep X.K c i ts D) (X.pn ++ pins) xe (fun u s' y => catch_run ok hs hf hN hi hln hc hsu y) PassesOwn.looking).run [] s σ H D (I.toTry _) h
  refine wpAny_mono bd (fun f s1 q => ?_) fun _ _ z => z
  match f, q with
  | .next, ⟨σ', H', J, q⟩ => exact wpAny_execs_nil ⟨σ', H', J.ofTry ok, q⟩
  | .brk, ⟨σ', H', J, q⟩ => exact ⟨σ', H', J.ofTry ok, q⟩
  | .cont, ⟨σ', H', J, q⟩ => exact ⟨σ', H', J.ofTry ok, q⟩
  | .ret u, ⟨v, σ', H', J, r, q⟩ => exact ⟨v, σ', H', J.ofTry ok, r, q⟩
end
def sTry (ct : Str → Bool) (i j : Nat) (body : SM) : SM := fun ρ => match body ρ with
  | .er x ρ1 => if ct x = true ∧ i < ρ1.length then .nx (((ρ1.set i (.v (.exc x))).set j (.v (.exc x))).set i .un) else .st
  | o => o
section
variable {X : Cx} {Wx : WX}
theorem psd_try {ct : Str → Bool} {x n m : Str} {c : Value} {i j : Nat} {body : List Stmt} {mb : SM} {np pos pos' q1 q2 q3 : Pos}
    (hct : ∀ y cls, ct y = true → X.mg y = some cls → PySem.W.exmOne X.K cls c = some true)
    (hs : X.stack = X.env :: X.outer) (hf : X.env.frame = some X.env.locals) (hN : X.N.Nodup) (hi : X.N[i]? = some n) (hln : X.env.kindOf n = some .local) (hc : Names X x c)
    (hv : Vis X.env.scope n) (hj : X.N[j]? = some m) (hx : Loc X.env.scope m)
    (hb : ∀ (W : WX) (pn : List (Addr × Obj)) (xe : Value → Shared → Prop), Takes (X.tr pn xe) W → PassesOwn (model X.prog X.w) X.A X.env xe → PBD (X.tr pn xe) W body mb)
    (hsw : swapsWith (.Name n q2) (some (.Name m q1)) q3.line X.env = pure false := by rfl) (hf2 : X.fn m = true ∨ X.env.scope.names.lookup m = some .local := by first | exact .inl rfl | exact .inr rfl | assumption)
    (hd : (n == ("__debug__" : Str)) = false := by decide) (hcd : (n == ("__classdict__" : Str)) = false := by decide) :
    PSD X Wx (.Try body [.ExceptHandler (some (.Name x np)) (some n) [.Assign [.Name m q1] (.Name n q2) q3] pos'] [] [] pos) (sTry ct i j mb) := by
  intro W σ H B ρ E D q
  refine ⟨_, ps_tryKeep (tb := fun Wn D σ H => ∀ pn xe, Takes (X.tr pn xe) Wn → PassesOwn (model X.prog X.w) X.A X.env xe → wpB (X.tr pn xe) body D σ H)
    (ts := fun a cls D σ H => ∃ v, σ[i]? = some (some v) ∧ D.nx (σ.set j (some v)) H) hs hf hN hi hln hc
    (fun Wn pn xe tk ps => ⟨fun pins s σ H D I h => pb_wp.run pins s σ H D I (h pn xe tk ps)⟩)
    (fun a oe cls pn => pss_one (ps_set (X := X.suite a ((a, oe) :: pn)) hN hj hx (pe_var hi hv hd hcd) hsw hf2)), fun pn xe tk ps => ?_⟩
  refine hb _ pn xe tk ps W σ H B ρ E D ?_
  unfold sTry at q
  cases e : mb ρ with
  | er y ρ1 =>
    rw [e] at q
    have q' : PostS X W Wx (if ct y = true ∧ i < ρ1.length then .nx (((ρ1.set i (.v (.exc y))).set j (.v (.exc y))).set i .un) else .st) D := q
    by_cases hy : ct y = true ∧ i < ρ1.length
    · rw [if_pos hy] at q'
      intro cls σ1 B1 H1 hm E1
      refine ⟨rfl, hct y cls hy.1 hm, fun a na => ?_⟩
      have hl : i < σ1.length := by rw [E1.len]; exact hy.2
      refine ⟨.ref a, List.getElem?_set_self hl, ?_⟩
      have r : Is X.K X.mg (upd B1 a (ExK cls a)) (.ref a) (.exc y) := .exc hm upd_same
      exact (show ∀ σ B H, EnvOk X.K X.mg W B H σ _ → D.nx σ H from q') _ _ _ ((((E1.grow (Grow.new E1.bh na)).set r).set r).drop i)
    · rw [if_neg hy] at q'
      exact q'.elim
  | nx ρ1 => rw [e] at q; exact q
  | rt d => rw [e] at q; exact q
  | bk ρ1 => rw [e] at q; exact q
  | ct ρ1 => rw [e] at q; exact q
  | st => rw [e] at q; exact q.elim
end
def lookX (L : List (Str × Str × Bool)) (y c : Str) : Option Bool := (L.find? fun t => t.1 == y && t.2.1 == c).map (·.2.2)
def anyX (L : List (Str × Str × Bool)) (y : Str) : List D → Option Bool
  | [] => some false
  | .cls c :: r => match lookX L y c with
    | some true => (anyX L y r).map fun _ => true
    | some false => anyX L y r
    | none => none
  | _ => none
def isX (Lc : List (Str × Str × Bool)) (Lt : List (Str × String × Bool)) (y : Str) : D → Option Bool
  | .cls c => lookX Lc y c
  | .ty n => (Lt.find? fun t => t.1 == y && t.2.1 == n).map (·.2.2)
  | .tup ds => anyX Lc y ds
  | _ => none
def dIsX (Ly : List Str) (Lc : List (Str × Str × Bool)) (Lt : List (Str × String × Bool)) : List D → Option D
  | [.exc y, u] => if Ly.contains y = true then (isX Lc Lt y u).map .bl else none
  | _ => none
structure ExH (K : PySem.W.Frag) (mg : Str → Option Value) (Ly : List Str) (Lc : List (Str × Str × Bool)) (Lt : List (Str × String × Bool)) : Prop where
  c : ∀ t ∈ Lc, ∃ D C, mg t.1 = some (.ref D) ∧ mg t.2.1 = some (.ref C) ∧ PySem.W.kitOne K (.ref D) (.ref C) = some t.2.2
  t : ∀ t ∈ Lt, ∃ D, mg t.1 = some (.ref D) ∧ PySem.W.kitOne K (.ref D) (.type t.2.1) = some t.2.2
  x : ∀ y ∈ Ly, ∃ D, mg y = some (.ref D) ∧ ExcC K D
def rIsX (K : PySem.W.Frag) : List V → Hp → VK → Prop := fun xs H Q => ∃ (a D : Addr) (u : V) (b : Bool), xs = [.ref a, u] ∧ H a = some (ExK (.ref D) a) ∧ ExcC K D ∧
  ((∃ cv, (∀ z, RelV u z → z = cv) ∧ PySem.W.kitOne K (.ref D) cv = some b) ∨ (∃ tp cs ws, u = .ref tp ∧ SqT K H tp cs ∧ (∀ its, Vals cs its → its = ws) ∧ PySem.W.kitAny K (.ref D) ws = some b)) ∧ Q (.bl b) H
section
variable {X : Cx}
theorem call_isX : CallR X (.builtin "isinstance") (rIsX X.K) := by
  intro pins s σ H xs us Q I r h
  obtain ⟨a, D, u, b, rfl, hX, C, hk, q⟩ := h
  obtain ⟨z1, z2, rfl, r1, r2⟩ := vals2 r
  cases (show z1 = Value.ref a from r1)
  obtain ⟨⟨oe, vs, g, z, d⟩, _⟩ := (show ObjOk X.prog X.w H s.heap a (ExK (.ref D) a) from I.hok a _ hX)
  have J : PySem.W.InstAt s.heap a oe D none := by
    obtain ⟨c1, c2, c3, c4⟩ := oe
    obtain ⟨w1, w2⟩ := z
    dsimp only at w1 w2 d
    subst w1 w2 d
    exact ⟨g, rfl, rfl, trivial⟩
  have Z := PySem.W.handS_kitx_exc (x := a) (ox := oe) C.hg C.hk C.hs C.hd C.ha C.hn C.ht C.hm
  have out : ∀ tk, ∃ v H1, Inv X pins σ H1 { s with toks := tk } ∧ RelV v (.bool b) ∧ Q v H1 := fun tk => ⟨.bl b, H, I.tok tk, rfl, q⟩
  rcases hk with ⟨cv, e1, e2⟩ | ⟨tp, cs, ws, rfl, hT, e1, e2⟩
  · have e := e1 _ r2
    subst e
    exact PySem.W.kia_one Z I.kIn J e2 (by intro q; cases q) out
  · cases (show z2 = Value.ref tp from r2)
    obtain ⟨its, rv, ht, _⟩ := I.tuple hT
    have e := e1 _ rv
    subst e
    obtain ⟨o, h1, h2, n, h3⟩ := ht
    obtain ⟨c1, c2, c3, c4⟩ := o
    dsimp only at h2 h3
    subst h2 h3
    exact PySem.W.kia_tup Z I.kIn J h1 e2 (by intro q; cases q) out
theorem any_of {K : PySem.W.Frag} {mg : Str → Option Value} {B : Hp} {Ly Lc Lt} (F : ExH K mg Ly Lc Lt) {y : Str} {D : Addr} (hy : mg y = some (.ref D)) : ∀ {cs : List V} {ds : List GD.D} {b : Bool}, IsL K mg B cs ds → anyX Lc y ds = some b →
    ∃ ws, (∀ its, Vals cs its → its = ws) ∧ PySem.W.kitAny K (.ref D) ws = some b
  | _, _, b, .nil, h => ⟨[], fun its v => by cases v; rfl, h⟩
  | _, _, b, .cons (d := d) h1 r, h => by
    cases h1 with
    | cls hm =>
      rename_i a c
      unfold anyX at h
      cases e : lookX Lc y c with
      | none => rw [e] at h; cases h
      | some k =>
        rw [e] at h
        have kt : PySem.W.kitOne K (.ref D) (.ref a) = some k := by
          unfold lookX at e
          obtain ⟨t, ht, e2⟩ := Option.map_eq_some_iff.mp e
          have hm1 := List.mem_of_find?_eq_some ht
          have hp := List.find?_some ht
          rw [Bool.and_eq_true] at hp
          obtain ⟨D', C, m1, m2, k1⟩ := F.c t hm1
          rw [beq_iff_eq.mp hp.1, hy] at m1
          rw [beq_iff_eq.mp hp.2, hm] at m2
          cases m1
          cases m2
          rw [← e2]
          exact k1
        cases k with
        | true =>
          obtain ⟨k2, h2, rfl⟩ := Option.map_eq_some_iff.mp h
          obtain ⟨ws, hws, _⟩ := any_of F hy r h2
          refine ⟨.ref a :: ws, fun its v => ?_, by unfold PySem.W.kitAny; rw [kt]⟩
          cases v with
          | cons r1 r2 => rw [hws _ r2]; exact congrArg (· :: ws) r1
        | false =>
          obtain ⟨ws, hws, hk⟩ := any_of F hy r h
          refine ⟨.ref a :: ws, fun its v => ?_, by unfold PySem.W.kitAny; rw [kt]; exact hk⟩
          cases v with
          | cons r1 r2 => rw [hws _ r2]; exact congrArg (· :: ws) r1
    | _ => cases h
theorem calld_isX {Ly Lc Lt} (F : ExH X.K X.mg Ly Lc Lt) : CallD X (.builtin "isinstance") (dIsX Ly Lc Lt) := by
  intro B H vs ds d' Q b r g q
  unfold dIsX at g
  split at g
  · rename_i y u0
    split at g
    · rename_i hy
      obtain ⟨k, e, rfl⟩ := Option.map_eq_some_iff.mp g
      obtain ⟨v, u, rfl, h1, h2⟩ := r.two_inv
      obtain ⟨D, mD, hC⟩ := F.x y (List.contains_iff_mem.mp hy)
      cases h1 with
      | exc hc h =>
        rename_i a cls
        rw [mD] at hc
        cases hc
        have fin : ((∃ cv, (∀ z, RelV u z → z = cv) ∧ PySem.W.kitOne X.K (.ref D) cv = some k) ∨ (∃ tp cs ws, u = .ref tp ∧ SqT X.K H tp cs ∧ (∀ its, Vals cs its → its = ws) ∧ PySem.W.kitAny X.K (.ref D) ws = some k)) → ∃ r, CallR X (.builtin "isinstance") r ∧ r [.ref a, u] H Q :=
          fun hk => ⟨_, call_isX, a, D, u, k, rfl, b _ _ h, hC, hk, q.at b (.bl _)⟩
        unfold isX at e
        split at e
        · unfold lookX at e
          obtain ⟨t, ht, e2⟩ := Option.map_eq_some_iff.mp e
          have hp := List.find?_some ht
          rw [Bool.and_eq_true] at hp
          obtain ⟨D', C, m1, m2, k1⟩ := F.c t (List.mem_of_find?_eq_some ht)
          rw [beq_iff_eq.mp hp.1, mD] at m1
          rw [beq_iff_eq.mp hp.2] at m2
          rw [e2] at k1
          cases m1
          cases h2 with
          | cls hm =>
            rw [m2] at hm
            cases hm
            exact fin (.inl ⟨.ref C, fun z hz => hz, k1⟩)
        · rename_i n
          obtain ⟨t, ht, e2⟩ := Option.map_eq_some_iff.mp e
          have hp := List.find?_some ht
          rw [Bool.and_eq_true] at hp
          obtain ⟨D', m1, k1⟩ := F.t t (List.mem_of_find?_eq_some ht)
          rw [beq_iff_eq.mp hp.1, mD] at m1
          rw [beq_iff_eq.mp hp.2] at k1
          rw [e2] at k1
          cases m1
          rw [h2.ty_inv] at fin ⊢
          exact fin (.inl ⟨.type n, fun z hz => hz, k1⟩)
        · obtain ⟨tp, xs, rfl, hT, rl⟩ := h2.tup_inv
          obtain ⟨ws, h3, h4⟩ := any_of F mD rl e
          exact fin (.inr ⟨tp, xs, ws, rfl, seqT b hT, h3, h4⟩)
        · cases e
    · cases g
  · cases g
end
theorem all_cons {α : Type} {p : α → Prop} {a : α} {l : List α} (h : p a) (t : ∀ x ∈ l, p x) : ∀ x ∈ a :: l, p x := List.forall_mem_cons.mpr ⟨h, t⟩
theorem bb_ValueError : bootBuiltins "ValueError" = some (.type "ValueError") := by rfl
theorem kit_sub {K : PySem.W.Frag} {x c : Addr} {r : Bool} (h : PySem.W.subIn K (.ref x) (.ref c) = some r) (hd : PySem.W.hasDictIn K c = true) (ht : PySem.W.typeIn K (.ref c) = some (.type "type")) (hs : PySem.W.subIn K (.ref c) (.ref c) = some true) : PySem.W.kitOne K (.ref x) (.ref c) = some r := by
  unfold PySem.W.kitOne
  split
  · rename_i e
    have e2 : x = c := Value.ref.inj (beq_iff_eq.mp e)
    rw [e2, hs] at h
    exact h
  · obtain ⟨cd, h2, _⟩ := PySem.W.any_some hd
    show (if ((PySem.W.clsIn K c).isSome && PySem.W.typeIn K (.ref c) == some (.type "type")) = true then PySem.W.subIn K (.ref x) (.ref c) else none) = some r
    rw [if_pos (by rw [h2, ht]; rfl)]
    exact h
theorem kit_meta_ve : PySem.W.kitMeta "ValueError" = true := by decide +kernel
theorem kit_ve {K : PySem.W.Frag} {x : Addr} (h : PySem.W.subIn K (.ref x) (.type "ValueError") = some true) : PySem.W.kitOne K (.ref x) (.type "ValueError") = some true := by
  unfold PySem.W.kitOne
  split
  · rfl
  · show (if PySem.W.kitMeta "ValueError" = true then PySem.W.subIn K (.ref x) (.type "ValueError") else none) = some true
    rw [if_pos kit_meta_ve]
    exact h
end GD
namespace GD
open PySem PySem.Spec PyProof.Rows L2
def putD (ds : List D) (k d : D) : Option (List D) := match k with
  | .int j => (ixN ds.length j).map fun j => ds.set j d
  | _ => none
def sPut (i : Nat) (mk m : EM) : SM := fun ρ => match ρ[i]? with
  | some (.l ds) => ofR ((m ρ).bind fun d => (mk ρ).bind fun k => R.ofO (putD ds k d)) ρ fun es => .nx (ρ.set i (.l es))
  | _ => .st
def eOwnAt (i : Nat) (m : EM) : EM := fun ρ => match ρ[i]? with
  | some (.l ds) => (m ρ).bind fun k => match k with
    | .int j => R.ofO (L2.atI ds j)
    | _ => .st
  | _ => .st
def eOwnLen (i : Nat) : EM := fun ρ => match ρ[i]? with
  | some (.l ds) => .ok (.int ds.length)
  | _ => .st
section
variable {X : Cx} {Wx : WX} {a b c e : Expr} {es : List Expr} {pos p cp ap : Pos} {ma mb m : EM} {mr : AM} {i : Nat} {x : Str}
theorem own_at {W : Wd} {B H B' H' : Hp} {σ : L2.St} {ρ : En} {ds : List D} (E : EnvOk X.K X.mg W B H σ ρ) (g : Grow B H B' H') (h : ρ[i]? = some (.l ds)) :
    ∃ l xs, σ[i]? = some (some (.ref l)) ∧ H' l = some (.lst xs) ∧ IsL X.K X.mg B' xs ds ∧ H l = some (.lst xs) := by
  obtain ⟨l, xs, h1, h2, _, _, h5⟩ := E.own i ds h
  exact ⟨l, xs, h1, g.hh _ _ h2, h5.mono g.bb, h2⟩
theorem tyL {l : Addr} {xs : List V} {H : Hp} (h : H l = some (.lst xs)) : tyV X.K "list" (.ref l) H := .inl ⟨rfl, xs, .inl (.inl h)⟩
theorem psd_app (hi : X.N[i]? = some x) (hv : Vis X.env.scope x) (ha : PED X Wx e m) (hd : (x == ("__debug__" : Str)) = false := by decide) (hcd : (x == ("__classdict__" : Str)) = false := by decide)
    (hbase : attributeBase (.Name x p) "append" X.env (eval (.Name x p) X.env) = eval (.Name x p) X.env := by rfl)
    (hfew : ((backTo cp (starEach [e] X.env)).all (fun x => !x.1) && (backToKw cp (keywordEach [] X.env)).all (fun x => x.1.isSome)
      && decide (([e] : List Expr).length + ([] : List Keyword).length + (if ([] : List Keyword).isEmpty then 0 else 1) < 30)) = true := by rfl)
    (hline : (ap.endLine == cp.line) = true := by rfl) (hs : starEach [e] X.env = (false, eval e X.env) :: starEach [] X.env := by rfl) (hpl : (backTo cp (starEach [] X.env)).any (·.1) = false := by rfl)
    (hsw : swapsWith (.Call (.Attribute (.Name x p) "append" ap) [e] [] cp) none pos.line X.env = pure false := by rfl) :
    PSD X Wx (.Expr (.Call (.Attribute (.Name x p) "append" ap) [e] [] cp) pos) (sApp i m) := by
  intro W σ H B ρ E D q
  unfold sApp at q
  split at q
  · rename_i ds hr
    refine ⟨_, ps_expr (pe_bm F.plainAttrs_list F.slot_list_append F.type_list_append mt_append (pe_var hi hv hd hcd) pa_wp hbase hfew hline hs hpl) hsw, ?_⟩
    obtain ⟨l, xs, h1, h2, _⟩ := own_at E (Grow.refl E.bh) hr
    refine ⟨.ref l, h1, tyL h2, ?_⟩
    refine (pad_cons ha pad_nil hs) W σ H B ρ E _ ?_
    have q2 := PostS.ofR q E
    unfold aCons aNil
    refine (?_ : Post ((m ρ).bind fun u => (R.ok ([] : List GD.D)).bind fun xs => .ok (u :: xs)) _ _)
    cases em : m ρ with
    | ok u =>
      rw [em] at q2
      intro vs B' H' g r
      cases r with
      | cons r1 r =>
        cases r
        have q3 : PostS X W Wx (if ds.length < sizeLine then .nx (ρ.set i (.l (ds ++ [u]))) else .st) D := q2
        split at q3
        · rename_i hz
          obtain ⟨l', xs', k1, k2, k3, k4⟩ := own_at E g hr
          rw [h1] at k1
          cases k1
          rw [h2] at k4
          cases k4
          refine ⟨l, xs, _, rfl, rfl, k2, by rw [k3.length]; exact hz, ?_⟩
          exact (show PostS X W Wx (.nx _) D from q3) _ _ _ ((E.grow g).mut (xs := xs) hr h1 (k3.snoc r1))
        · exact q3.elim
    | er z => rw [em] at q2; exact q2
    | st => rw [em] at q2; exact q2
  · exact q.elim
theorem psd_put {k : Expr} {mk : EM} {sp : Pos} (hi : X.N[i]? = some x) (hv : Vis X.env.scope x) (hk : PED X Wx k mk) (ha : PED X Wx e m) (hd : (x == ("__debug__" : Str)) = false := by decide) (hcd : (x == ("__classdict__" : Str)) = false := by decide)
    (hs : swapsWithSole [.Subscript (.Name x p) k sp] e pos.line X.env = pure false := by rfl) (hw : swappedStores [.Subscript (.Name x p) k sp] e X.env = pure none := by rfl)
    (h1 : (assignEach [.Subscript (.Name x p) k sp] X.env).map (·.2) = [assign (.Subscript (.Name x p) k sp) X.env] := by rfl)
    (has : ∀ v, assign (.Subscript (.Name x p) k sp) X.env v = (do
      let ov ← holding [v] (eval (.Name x p) X.env)
      let iv ← holding [v, ov] (eval k X.env)
      standAt sp
      holding [v, ov, iv] (setItem ov iv v)
      release [v, ov, iv] []) := by intro _; rfl) : PSD X Wx (.Assign [.Subscript (.Name x p) k sp] e pos) (sPut i mk m) := by
  intro W σ H B ρ E D q
  unfold sPut at q
  split at q
  · rename_i ds hr
    refine ⟨_, ps_asg pe_wp (pg_sub (pe_var hi hv hd hcd) pe_wp set_list has) hs hw h1, ?_⟩
    refine ha W σ H B ρ E _ ((PostS.ofR q E).bind.mono (fun d _ q2 v B1 H1 g1 r1 => ?_) fun _ z => z)
    obtain ⟨l, xs, s1, h2, h3, _⟩ := own_at E g1 hr
    refine ⟨.ref l, s1, ?_⟩
    refine hk W σ H1 B1 ρ (E.grow g1) _ (q2.bind.mono (fun kk hkk q3 u B2 H2 g2 r2 => ?_) fun _ z => z.later g1)
    obtain ⟨fs, e1, q4⟩ := Post.ofO q3
    unfold putD at e1
    split at e1
    · rename_i j
      obtain ⟨n, e2, rfl⟩ := Option.map_eq_some_iff.mp e1
      have h3' := h3.mono g2.bb
      refine ⟨l, xs, j, n, rfl, r2.int_inv, g2.hh _ _ h2, by rw [h3'.length]; exact e2, ?_⟩
      exact (show PostS X W Wx (.nx _) D from q4) _ _ _ (((E.grow g1).grow g2).mut (xs := xs) hr s1 (IsL.set (r1.mono g2.bb) n h3'))
    · cases e1
  · exact q.elim
theorem ped_ownAt (hi : X.N[i]? = some x) (hv : Vis X.env.scope x) (hb : PED X Wx b mb) (hs : PlainIx b) (hd : (x == ("__debug__" : Str)) = false := by decide) (hcd : (x == ("__classdict__" : Str)) = false := by decide) :
    PED X Wx (.Subscript (.Name x p) b pos) (eOwnAt i mb) := by
  intro W σ H B ρ E Q q
  unfold eOwnAt at q
  split at q
  · rename_i ds hr
    obtain ⟨l, xs, h1, h2, _⟩ := own_at E (Grow.refl E.bh) hr
    refine ⟨_, pe_ix ix_list (pe_var hi hv hd hcd) pe_wp hs, .ref l, h1, ?_⟩
    refine hb W σ H B ρ E _ (q.bind.mono (fun kk _ q2 u B2 H2 g2 r2 => ?_) fun _ z => z)
    cases kk with
    | int j =>
      obtain ⟨d, e1, q3⟩ := Post.ofO q2
      obtain ⟨l', xs', k1, k2, k3, k4⟩ := own_at E g2 hr
      rw [h1] at k1
      cases k1
      obtain ⟨v, e2, r⟩ := k3.atI e1
      exact ⟨l, xs', j, v, rfl, r2.int_inv, .inl (.inl k2), e2, okD.at (q3.later g2) g2.bh r⟩
    | _ => exact q2.elim
  · exact q.elim
end
end GD
namespace GD
open PySem PySem.Spec PyProof.Rows L2
abbrev Pt := Int × Int
abbrev lx (p q : Pt) : Prop := p.1 < q.1 ∨ (p.1 = q.1 ∧ p.2 < q.2)
instance (p q : Pt) : Decidable (lx p q) := by unfold lx; infer_instance
section
variable {X : Cx}
end
def D2p (p : Pt) : D := .tup [.int p.1, .int p.2]
end GD
namespace GD
open PySem PySem.Spec PyProof.Rows L2
section
variable {K : PySem.W.Frag} {mg : Str → Option Value} {W : Wd} {B H : Hp} {σ : L2.St} {ρ : En}
theorem EnvOk.off (E : EnvOk K mg W B H σ ρ) {p : Addr} {o u : HO} (hp : H p = some u) (hu : ∀ xs, u ≠ .lst xs) (nb : B p = none) (nw : W.H p = none) : EnvOk K mg W B (upd H p o) σ ρ := by
  have ne : ∀ {G : Hp} {q : Addr} {w : HO}, G p = none → G q = some w → q ≠ p := fun n e z => by rw [z, n] at e; cases e
  refine ⟨⟨E.gr.bb, fun q w e => ?_, fun q w e => ?_, E.gr.sep⟩, E.len, E.val, fun i ds e => ?_, E.dis, E.ref⟩
  · rw [upd_ne (ne nw e)]; exact E.gr.hh q w e
  · rw [upd_ne (ne nb e)]; exact E.gr.bh q w e
  · obtain ⟨q, xs, h1, h2, h3⟩ := E.own i ds e
    have hq : q ≠ p := fun z => by
      rw [z, hp] at h2
      exact hu xs (Option.some.inj h2)
    exact ⟨q, xs, h1, by rw [upd_ne hq]; exact h2, h3⟩
end
section
variable {X : Cx} {Wx : WX} {it : Expr} {m : EM} {i j k : Nat} {x y z : Str} {ss : List Stmt} {sb : SM}
end
end GD
namespace GD
open PySem PySem.Spec PyProof.Rows L2 RT
section
variable {prog : Program} {w : World} {A : Around} {E : Value → Shared → Prop} {s : Shared}
end
section
variable {X : Cx} {Wx : WX} {a b e : Expr} {ma mb m : EM} {pos p p2 pos2 : Pos}
def catL : D → D → Option (List D)
  | .lst xs, .lst ys => if xs.length + ys.length ≤ sizeLine then some (xs ++ ys) else none
  | _, _ => none
def aCat (ma mb : EM) : AM := fun ρ => (ma ρ).bind fun x => (mb ρ).bind fun y => R.ofO (catL x y)
def aLRev (m : EM) : AM := fun ρ => (m ρ).bind fun d => (R.ofO (asL d)).bind fun ds => .ok ds.reverse
end
end GD
namespace GD
open PySem PySem.Spec PyProof.Rows L2
def insD (ds : List D) (k d : D) : Option (List D) := match k with
  | .int j => if 0 ≤ j ∧ j < 2 ^ 63 ∧ ds.length < sizeLine then some (ds.take j.toNat ++ [d] ++ ds.drop j.toNat) else none
  | _ => none
def sIns (i : Nat) (mk m : EM) : SM := fun ρ => match ρ[i]? with
  | some (.l ds) => ofR ((mk ρ).bind fun k => (m ρ).bind fun d => R.ofO (insD ds k d)) ρ fun es => .nx (ρ.set i (.l es))
  | _ => .st
section
variable {X : Cx} {Wx : WX} {a b c e f : Expr} {es : List Expr} {pos p cp ap : Pos} {ma mb m mk : EM} {mr : AM} {i : Nat} {x : Str}
end
structure KC3 (K : PySem.W.Frag) (mg : Str → Option Value) (x : Str) (i j k : Int) : Prop where
  h : ∃ a : Addr, mg x = some (.ref a) ∧ KT3 K a i j k
theorem KC3.ped {X : Cx} {Wx : WX} {x : Str} {i j k : Int} {pos : Pos} (c : KC3 X.K X.mg x i j k) (hg : Gl X x) (hdb : (x == ("__debug__" : Str)) = false := by decide) : PED X Wx (.Name x pos) (eC (.tup [.int i, .int j, .int k])) := by
  obtain ⟨a, h1, h2⟩ := c.h
  exact ped_glob (v := .ref a) hg h1 rfl (fun _ => .tup3 h2) hdb
def dInB (d : D) (ds : List D) : Bool := (toPs ds).any fun z => PyData.eqv z (toP d)
def dIn (d e : D) : Option D := match e with
  | .lst ds => if SeqAt.shaped (toP d) = true ∧ SeqAt.shaped (toP (.lst ds)) = true then some (.bl (dInB d ds)) else none
  | .str y => match d with
    | .str x => some (.bl (!(Builtin.Str.occurrences y x 0 y.length 1).isEmpty))
    | _ => none
  | _ => none
theorem hr_in {k : Nat} {A : Around} (r : Room k A) : A.units + 65 < cLine := by have := r.un; omega
section
variable {X : Cx}
theorem dIn_inv {d e d' : D} (g : dIn d e = some d') : (∃ ds, e = .lst ds ∧ SeqAt.shaped (toP d) = true ∧ SeqAt.shaped (toP (.lst ds)) = true ∧ d' = .bl (dInB d ds)) ∨
    ∃ x y, d = .str x ∧ e = .str y ∧ d' = .bl (!(Builtin.Str.occurrences y x 0 y.length 1).isEmpty) := by
  unfold dIn at g
  split at g
  · obtain ⟨⟨h1, h2⟩, rfl⟩ := some_ite g
    exact .inl ⟨_, rfl, h1, h2, rfl⟩
  · split at g
    · cases g
      exact .inr ⟨_, _, rfl, rfl, rfl⟩
    · cases g
  · cases g
theorem opd_in (hu : X.A.units + 65 < cLine) : OpD X (compareOp .In) dIn := by
  intro B H x y d e d' Q b rx ry g q
  rcases dIn_inv g with ⟨ds, rfl, h1, h2, rfl⟩ | ⟨x', y', rfl, rfl, rfl⟩
  · exact ⟨_, op_inD hu, _, _, rx.dp b (.inl h1), ry.dp b (.inl h2), h1, h2, q.at b (.bl _)⟩
  · rw [rx.str_inv, ry.str_inv]
    exact ⟨_, op_in_str, _, _, rfl, rfl, q.at b (.bl _)⟩
end
section
variable {X : Cx} {Wx : WX} {a b c : Expr} {pos : Pos} {ma mb mc : EM}
end
end GD
namespace GD
open PySem PySem.Spec PyProof.Rows L2
section
variable {K : PySem.W.Frag} {mg : Str → Option Value} {B : Hp}
end
section
variable {X : Cx} {Wx : WX} {e o a : Expr} {es : List Expr} {f m x : Str} {pos apos p : Pos} {me mo ma : EM} {mr : AM} {cs : List Str}
end
section
variable {X : Cx} {CX : CXT} {k : Nat} {m : Str} {E : L2.St → XK} {o e : Expr} {es : List Expr} {ta : TE} {t : TA} {apos pos p : Pos} {pl : Sem Bool}
end
section
variable {X : Cx} {Wx : WX} {e o a : Expr} {es : List Expr} {f m x : Str} {pos apos p : Pos} {me mo ma : EM} {mr : AM} {cs : List Str}
end
structure ObjC (K : PySem.W.Frag) (C : Addr) : Prop where
  cl : Cls K C
  ha : PySem.W.findIn K (.ref C) "__class__" = some (some (.builtin "object.__class__"))
  hn : PySem.W.specialIn K (.builtin "object.__class__") "__get__" = some (some (.builtin "getset_descriptor.__get__"))
  ht : PySem.W.takesIn K (.builtin "object.__class__") = some true
  hm : PySem.W.mroIn K C (.type "object") = some true
end GD
namespace GD
open PySem PySem.Spec PyProof.Rows L2
section
variable {K : PySem.W.Frag} {mg : Str → Option Value} {B : Hp}
end
section
variable {X : Cx} {Wx : WX} {o e : Expr} {pos apos : Pos} {mo me : EM}
end
end GD
namespace GD
open PySem PySem.Spec PyProof.Rows L2
def sgn (c : Nat) : D := .str ⟨#[c]⟩
def asS : D → Option (List D)
  | .str x => some (x.cps.toList.map sgn)
  | _ => none
def dStr : List D → Option D
  | [.int i] => if i.natAbs.log2 < 1920 then some (.str (toString i)) else none
  | _ => none
def dOrd : List D → Option D
  | [.str x] => if x.length = 1 then some (.int (x.cps.getD 0 0 : Nat)) else none
  | _ => none
def dIntS : List D → Option D
  | [.str a] => if a.length ≤ 640 then (PySem.intText? a).map D.int else none
  | _ => none
def aSplit (mo me : EM) : AM := fun ρ => (mo ρ).bind fun d => match d with
  | .str a => (me ρ).bind fun e => match e with
    | .str b => if (b.length == 0) = false ∧ a.length + 2 ≤ sizeLine then .ok ((Txt.split a b).map D.str) else .st
    | _ => .st
  | _ => .st
def strsOf : List D → Option (List Str)
  | [] => some []
  | .str i :: ds => (strsOf ds).map (i :: ·)
  | _ => none
def dJoin (a : Str) : D → Option D
  | .lst ds => (strsOf ds).bind fun ys => if (ys.map (·.length)).sum + ys.length * a.length ≤ 16777216 then some (.str (Txt.join a ys)) else none
  | _ => none
def eJoin (mo me : EM) : EM := fun ρ => (mo ρ).bind fun d => match d with
  | .str a => (me ρ).bind fun e => R.ofO (dJoin a e)
  | _ => .st
section
variable {X : Cx} {K : PySem.W.Frag} {mg : Str → Option Value} {B : Hp}
theorem IsL.strs_inv : ∀ {ds : List D} {ns : List Str} {xs : List V}, strsOf ds = some ns → IsL K mg B xs ds → xs = ns.map V.str
  | [], ns, xs, e, h => by
    cases h
    simp [strsOf] at e
    subst e
    rfl
  | d :: ds, ns, xs, e, h => by
    cases h with
    | cons h r =>
      cases d with
      | str i =>
        simp only [strsOf, Option.map_eq_some_iff] at e
        obtain ⟨ms, e1, rfl⟩ := e
        rw [h.str_inv, IsL.strs_inv e1 r]
        rfl
      | _ => simp [strsOf] at e
theorem IsL.strs : ∀ (ns : List Str), IsL K mg B (ns.map V.str) (ns.map D.str)
  | [] => .nil
  | n :: ns => .cons (.str n) (IsL.strs ns)
theorem calld_str : CallD X (.type "str") dStr := by
  intro B H vs ds d' Q b r g q
  unfold dStr at g
  split at g
  · obtain ⟨hl, rfl⟩ := some_ite g
    obtain ⟨v, rfl, h⟩ := r.one_inv
    rw [h.int_inv]
    exact ⟨_, call_str_int, _, rfl, hl, q.at b (.str _)⟩
  · cases g
theorem calld_ord : CallD X (.builtin "ord") dOrd := by
  intro B H vs ds d' Q b r g q
  unfold dOrd at g
  split at g
  · obtain ⟨hl, rfl⟩ := some_ite g
    obtain ⟨v, rfl, h⟩ := r.one_inv
    rw [h.str_inv]
    exact ⟨_, call_ord, _, rfl, hl, q.at b (.int _)⟩
  · cases g
theorem calld_intS : CallD X (.type "int") dIntS := by
  intro B H vs ds d' Q b r g q
  unfold dIntS at g
  split at g
  · split at g
    · rename_i hl
      obtain ⟨n, e, rfl⟩ := Option.map_eq_some_iff.mp g
      obtain ⟨v, rfl, h⟩ := r.one_inv
      rw [h.str_inv]
      exact ⟨_, call_int_str, _, _, rfl, e, hl, q.at b (.int _)⟩
    · cases g
  · cases g
end
section
variable {X : Cx} {Wx : WX} {o e : Expr} {pos apos : Pos} {mo me m : EM} {sb : SM}
theorem pfd_split (ho : PED X Wx o mo) (he : PED X Wx e me)
    (hs : starEach [e] X.env = [(false, eval e X.env)] := by rfl) (hbase : attributeBase o "split" X.env (eval o X.env) = eval o X.env := by rfl) (hline : (apos.endLine == pos.line) = true := by rfl) :
    PFD X Wx (.Call (.Attribute o "split" apos) [e] [] pos) (aSplit mo me) := by
  intro W σ H B ρ E Q h
  refine ⟨_, pe_split pe_wp pe_wp hs hbase hline, ?_⟩
  refine ho W σ H B ρ E _ ((show Post ((mo ρ).bind _) _ _ from h).bind.mono (fun d _ hd v B1 H1 g1 r1 => ?_) fun x h => h)
  cases d with
  | str a =>
    refine ⟨⟨a, r1.str_inv⟩, ?_⟩
    refine he W σ H1 B1 ρ (E.grow g1) _ ((show Post ((me ρ).bind _) _ _ from hd).bind.mono (fun d2 _ hd2 v2 B2 H2 g2 r2 => ?_) fun x h => h.later g1)
    cases d2 with
    | str b =>
      have q0 : Post (if (b.length == 0) = false ∧ a.length + 2 ≤ sizeLine then R.ok ((Txt.split a b).map D.str) else .st) (okF X B H Q) (erD X Wx σ B H) := hd2
      by_cases hc : (b.length == 0) = false ∧ a.length + 2 ≤ sizeLine
      · rw [if_pos hc] at q0
        refine ⟨a, b, r1.str_inv, by rw [r2.str_inv], hc.1, hc.2, fun p hp => ?_⟩
        exact okF.nl ((((show okF X B H Q _ from q0).later g1).later g2)) g2.bh hp (IsL.strs _)
      · rw [if_neg hc] at q0
        exact q0.elim
    | _ => exact hd2.elim
  | _ => exact hd.elim
theorem ped_join (ho : PED X Wx o mo) (he : PED X Wx e me)
    (hs : starEach [e] X.env = [(false, eval e X.env)] := by rfl) (hbase : attributeBase o "join" X.env (eval o X.env) = eval o X.env := by rfl) (hline : (apos.endLine == pos.line) = true := by rfl) :
    PED X Wx (.Call (.Attribute o "join" apos) [e] [] pos) (eJoin mo me) := by
  intro W σ H B ρ E Q h
  refine ⟨_, pe_join pe_wp pe_wp hs hbase hline, ?_⟩
  refine ho W σ H B ρ E _ ((show Post ((mo ρ).bind _) _ _ from h).bind.mono (fun d _ hd v B1 H1 g1 r1 => ?_) fun x h => h)
  cases d with
  | str a =>
    refine ⟨⟨a, r1.str_inv⟩, ?_⟩
    refine he W σ H1 B1 ρ (E.grow g1) _ ((show Post ((me ρ).bind _) _ _ from hd).bind.mono (fun d2 _ hd2 v2 B2 H2 g2 r2 => ?_) fun x h => h.later g1)
    obtain ⟨d', e1, q⟩ := Post.ofO hd2
    unfold dJoin at e1
    split at e1
    · obtain ⟨ys, e2, e3⟩ := Option.bind_eq_some_iff.mp e1
      obtain ⟨hz, rfl⟩ := some_ite e3
      obtain ⟨p, xs, rfl, k1, l1⟩ := r2.lst_inv
      have ex := IsL.strs_inv e2 l1
      refine ⟨a, p, ys, r1.str_inv, rfl, .inl (by rw [← ex]; exact seqL_of g2.bh k1), hz, ?_⟩
      exact ((q.later g1).later g2).at g2.bh (.str _)
    · cases e1
  | _ => exact hd.elim
theorem psd_forS {tgt : Expr} {body : List Stmt} {g : GD.D → En → Option En} (hp : PassesOwn (model X.prog X.w) X.A X.env X.xe) (hc : X.calm = true) (h : PED X Wx e m) (hg : PGD X tgt g) (hb : PBD X Wx body sb) (hfs : ∀ x, foldedSetIterable e X.env x = pure x := by intro _; rfl) :
    PSD X Wx (.For tgt e body [] pos) (sFor g asS m sb) := fun W σ H B ρ E D q =>
  ⟨_, ps_for (hs := hfs) hp hc (pi_str pe_wp) pg_wp pb_wp, by
    refine h W σ H B ρ E _ ((PostS.ofR q E).bind.mono (fun d _ hd v B1 H1 g1 rv => ?_) fun _ z => z)
    obtain ⟨ds, ed, q1⟩ := hd.ofO
    have E1 := E.grow g1
    have q2 := PostS.back E1.gr q1
    cases d with
    | str x =>
      cases ed
      refine ⟨x, rv.str_inv, for_it (walk_str (z := x)) (fun i σ' H' => ∃ B' ρ', EnvOk X.K X.mg ⟨B1, W.H, W.al⟩ B' H' σ' ρ' ∧ PostS X ⟨B1, W.H, W.al⟩ Wx (loop g sb ((x.cps.toList.map sgn).drop i) ρ') D)
        ⟨B1, ρ, E1.here, q2⟩ (fun _ _ _ _ _ => trivial) (fun i v σ' H' H2 hi ⟨B', ρ', E', q'⟩ ⟨e1, c, hc1, e2⟩ => ?_) (fun σ' H' ⟨B', ρ', E', q'⟩ => ?_)⟩
      · subst e1 e2
        have hd' : (x.cps.toList.map sgn)[i]? = some (sgn c) := by rw [List.getElem?_map, Array.getElem?_toList, hc1]; rfl
        rw [drop_get hd'] at q'
        exact loop_turn hg hb E' (.str _) q' fun σ2 B2 H2 ρ2 E2 z => ⟨B2, ρ2, E2, z⟩
      · rw [show x.cps.size = (x.cps.toList.map sgn).length by simp, List.drop_length] at q'
        exact (show PostS X ⟨B1, W.H, W.al⟩ Wx (.nx ρ') D from q') σ' B' H' E'
    | _ => cases ed⟩
end
section
variable {X : Cx} {Wx : WX} {elt tg iter : Expr} {ifs : List Expr} {scope : Scope} {own : List (Str × Nat)} {ma m : EM} {t : TM} {g : D → En → Option En}
theorem lcd_S (hi : PED X Wx iter ma) (ok : BlkOk X.N X.env.scope scope own)
    (hg : ∀ (s : Shared) (H : Hp) (C : Addr) (cl : List (Str × Addr)) (fp : List Addr), PGV (X.blk s H scope (compEnvC scope cl C X.env) fp) tg (own.map (·.2)) g)
    (ht : ∀ (s : Shared) (H : Hp) (C : Addr) (cl : List (Str × Addr)) (fp : List Addr), PTSD (X.blk s H scope (compEnvC scope cl C X.env) fp) ifs t)
    (he : ∀ (s : Shared) (H : Hp) (C : Addr) (cl : List (Str × Addr)) (fp : List Addr), PED (X.blk s H scope (compEnvC scope cl C X.env) fp) W0 elt m)
    (hs : ∀ x, foldedSetIterable iter X.env x = pure x := by intro _; rfl) : LCD X Wx own elt tg iter ifs scope (aLc asS (own.map (·.2)) g t ma m) :=
  ⟨ok, hs, iStr (wpE X iter), blkG X scope tg, blkT X scope ifs, blkE X scope elt, pi_str pe_wp, (fun s H C cl fp => ⟨fun pins s' σ' H' v u Q I r q => pg_wp.run pins s' σ' H' v u Q I r (q s H C cl fp)⟩), (fun s H C cl fp => ⟨fun pins s' σ' H' Q I q => pts_wp.run pins s' σ' H' Q I (q s H C cl fp)⟩),
      (fun s H C cl fp => ⟨fun pins s' σ' H' Q I q => pe_wp.run pins s' σ' H' Q I (q s H C cl fp)⟩), fun W σ H B ρ E Q h => by
    refine hi W σ H B ρ E _ ((show Post ((ma ρ).bind fun d => (R.ofO (asS d)).bind fun ds => if ds.length ≤ sizeLine then lcGo g t m ds (wipeE (own.map (·.2)) ρ) else .st) _ _ from h).bind.mono (fun d _ hd v B1 H1 g1 rv => ?_) fun _ z => z)
    obtain ⟨ds, ed, q1⟩ := hd.bind.ofO
    obtain ⟨hl, q2⟩ := post_lc q1
    cases d with
    | str x =>
      cases ed
      refine ⟨x, rv.str_inv, fun D' hD => ?_⟩
      exact lc_it (walk_str (z := x)) (LcPv X g t m (own.map (·.2)) B1 H1 ρ (okF X B H Q) (x.cps.toList.map sgn) D') (lc_start g1.bh hD q2) (fun _ _ _ _ => trivial)
        (fun i v H' H2 hi p ⟨e1, c, hc1, e2⟩ => by
          subst e1 e2
          exact lc_turn ⟨hg, ht, he⟩ (E.grow g1) hD (d := sgn c) (by rw [List.getElem?_map, Array.getElem?_toList, hc1]; rfl) hl p fun B' s => .str _)
        (fun H' p => lc_end (W := W) g1 hD (by simp) p)
    | _ => cases ed⟩
end
structure KCS (mg : Str → Option Value) (x s : Str) : Prop where
  h : ∃ t : Tok, mg x = some (.str s t)
theorem KCS.ped {X : Cx} {Wx : WX} {x s : Str} {pos : Pos} (c : KCS X.mg x s) (hg : Gl X x) (hdb : (x == ("__debug__" : Str)) = false := by decide) : PED X Wx (.Name x pos) (eC (.str s)) := by
  obtain ⟨t, h1⟩ := c.h
  exact ped_glob (v := .str s) hg h1 ⟨t, rfl⟩ (fun _ => .str _) hdb
theorem bb_ord : bootBuiltins "ord" = some (.builtin "ord") := by decide +kernel
end GD
namespace GD
open PySem PySem.Spec PyProof.Rows L2
inductive AV where
  | d (d : D)
  | r (t : Nat)
inductive Cell where
  | lst (as : List AV)
  | dct (kas : List (Key × AV))
  | lk (kas : List (Key × AV))
  | obj (x : Str) (fas : List (Str × AV))
abbrev Sto := List Cell
section
variable (K : PySem.W.Frag) (mg : Str → Option Value) (al : List Addr) (B : Hp)
inductive IsA : V → AV → Prop
  | d {v : V} {d : D} (h : Is K mg B v d) : IsA v (.d d)
  | r {t : Nat} {p : Addr} (h : al[t]? = some p) : IsA (.ref p) (.r t)
inductive IsAL : List V → List AV → Prop
  | nil : IsAL [] []
  | cons {v : V} {vs : List V} {a : AV} {as : List AV} (h : IsA K mg al B v a) (r : IsAL vs as) : IsAL (v :: vs) (a :: as)
inductive IsP {κ : Type} : List (κ × V) → List (κ × AV) → Prop
  | nil : IsP [] []
  | cons {k : κ} {v : V} {a : AV} {kvs : List (κ × V)} {kas : List (κ × AV)} (h : IsA K mg al B v a) (r : IsP kvs kas) : IsP ((k, v) :: kvs) ((k, a) :: kas)
inductive CellOk (G H : Hp) (p : Addr) : Cell → Prop
  | lst {xs : List V} {as : List AV} (h : H p = some (.lst xs)) (r : IsAL K mg al B xs as) (n : G p = none) : CellOk G H p (.lst as)
  | dct {kvs : List (Key × V)} {kas : List (Key × AV)} (h : H p = some (.dK kvs)) (r : IsP K mg al B kvs kas) (n : G p = none) : CellOk G H p (.dct kas)
  | lk {o : Obj} {kvs : List (Key × V)} {kas : List (Key × AV)} (h : G p = some (.frz o (.dK kvs))) (r : IsP K mg al B kvs kas) : CellOk G H p (.lk kas)
  | obj {C dx : Addr} {fs : List (Str × V)} {x : Str} {fas : List (Str × AV)} (m : mg x = some (.ref C)) (h : H p = some (.ins C dx fs)) (r : IsP K mg al B fs fas) (n : G p = none) : CellOk G H p (.obj x fas)
structure StOk (G : Hp) (n : Nat) (s : Sto) (H : Hp) : Prop where
  len : al.length = s.length
  nd : al.Nodup
  cell : ∀ (t : Nat) (c : Cell), s[t]? = some c → ∃ p, al[t]? = some p ∧ B p = none ∧ CellOk K mg al B G H p c
  new : ∀ (t : Nat) (p : Addr), n ≤ t → al[t]? = some p → G p = none
end
theorem pre_get {α : Type} {l m : List α} (h : l <+: m) {t : Nat} {p : α} (e : l[t]? = some p) : m[t]? = some p := by
  obtain ⟨r, rfl⟩ := h
  rw [List.getElem?_append_left (List.getElem?_eq_some_iff.mp e).1]
  exact e
section
variable {K : PySem.W.Frag} {mg : Str → Option Value} {al al' : List Addr} {B B' G H H' : Hp}
theorem IsA.mono {v : V} {a : AV} (h : IsA K mg al B v a) (p : al <+: al') (e : Same B B') : IsA K mg al' B' v a := by
  cases h with
  | d h => exact .d (h.mono e)
  | r h => exact .r (pre_get p h)
theorem IsAL.mono (p : al <+: al') (e : Same B B') : ∀ {vs : List V} {as : List AV}, IsAL K mg al B vs as → IsAL K mg al' B' vs as
  | _, _, .nil => .nil
  | _, _, .cons h r => .cons (h.mono p e) (IsAL.mono p e r)
theorem IsAL.length : ∀ {vs : List V} {as : List AV}, IsAL K mg al B vs as → vs.length = as.length
  | _, _, .nil => rfl
  | _, _, .cons _ r => congrArg (· + 1) (IsAL.length r)
theorem IsAL.get : ∀ {vs : List V} {as : List AV} {i : Nat} {a : AV}, IsAL K mg al B vs as → as[i]? = some a → ∃ v, vs[i]? = some v ∧ IsA K mg al B v a
  | _, _, _, _, .nil, e => by simp at e
  | _, _, 0, a, .cons h _, e => by
    simp at e
    subst e
    exact ⟨_, rfl, h⟩
  | _, _, i + 1, a, .cons _ r, e => by
    obtain ⟨v, h1, h2⟩ := IsAL.get (i := i) (a := a) r (by simpa using e)
    exact ⟨v, by simpa using h1, h2⟩
theorem IsAL.at : ∀ {vs : List V} {as : List AV} {i : Nat} {v : V}, IsAL K mg al B vs as → vs[i]? = some v → ∃ a, as[i]? = some a ∧ IsA K mg al B v a
  | _, _, _, _, .nil, e => by simp at e
  | _, _, 0, v, .cons h _, e => by
    simp at e
    subst e
    exact ⟨_, rfl, h⟩
  | _, _, i + 1, v, .cons _ r, e => by
    obtain ⟨a, h1, h2⟩ := IsAL.at (i := i) (v := v) r (by simpa using e)
    exact ⟨a, by simpa using h1, h2⟩
theorem IsAL.append : ∀ {vs ws : List V} {as bs : List AV}, IsAL K mg al B vs as → IsAL K mg al B ws bs → IsAL K mg al B (vs ++ ws) (as ++ bs)
  | _, _, _, _, .nil, s => s
  | _, _, _, _, .cons h r, s => .cons h (IsAL.append r s)
theorem IsAL.snoc {v : V} {a : AV} {vs : List V} {as : List AV} (r : IsAL K mg al B vs as) (h : IsA K mg al B v a) : IsAL K mg al B (vs ++ [v]) (as ++ [a]) := r.append (.cons h .nil)
theorem IsAL.set {v : V} {a : AV} (h : IsA K mg al B v a) : ∀ {vs : List V} {as : List AV} (i : Nat), IsAL K mg al B vs as → IsAL K mg al B (vs.set i v) (as.set i a)
  | _, _, _, .nil => .nil
  | _, _, 0, .cons _ r => .cons h r
  | _, _, i + 1, .cons h' r => .cons h' (IsAL.set h i r)
theorem IsAL.data : ∀ {vs : List V} {ds : List D}, IsL K mg B vs ds → IsAL K mg al B vs (ds.map AV.d)
  | _, _, .nil => .nil
  | _, _, .cons h r => .cons (.d h) (IsAL.data r)
theorem IsP.mono {κ : Type} (p : al <+: al') (e : Same B B') : ∀ {kvs : List (κ × V)} {kas : List (κ × AV)}, IsP K mg al B kvs kas → IsP K mg al' B' kvs kas
  | _, _, .nil => .nil
  | _, _, .cons h r => .cons (h.mono p e) (IsP.mono p e r)
theorem IsP.length {κ : Type} : ∀ {kvs : List (κ × V)} {kas : List (κ × AV)}, IsP K mg al B kvs kas → kvs.length = kas.length
  | _, _, .nil => rfl
  | _, _, .cons _ r => congrArg (· + 1) (IsP.length r)
theorem IsP.keys {κ : Type} : ∀ {kvs : List (κ × V)} {kas : List (κ × AV)}, IsP K mg al B kvs kas → kvs.map (·.1) = kas.map (·.1)
  | _, _, .nil => rfl
  | _, _, .cons _ r => congrArg (_ :: ·) (IsP.keys r)
theorem nt_ins {C dx : Addr} {fs : List (Str × V)} : nt (.ins C dx fs) := fun _ q => nomatch q
theorem nt_frz {o : Obj} {u : HO} : nt (.frz o u) := fun _ q => nomatch q
theorem CellOk.mono {p : Addr} {c : Cell} (h : CellOk K mg al B G H p c) (q : al <+: al') (e : Same B B') (hp : H p = H' p) : CellOk K mg al' B' G H' p c := by
  cases h with
  | lst h r n => exact .lst (hp ▸ h) (r.mono q e) n
  | dct h r n => exact .dct (hp ▸ h) (r.mono q e) n
  | lk h r => exact .lk h (r.mono q e)
  | obj m h r n => exact .obj m (hp ▸ h) (r.mono q e) n
theorem CellOk.there {p : Addr} {c : Cell} (h : CellOk K mg al B G H p c) (s : Same G H) : ∃ o, H p = some o ∧ nt o := by
  cases h with
  | lst h r n => exact ⟨_, h, nt_lst⟩
  | dct h r n => exact ⟨_, h, nt_dK⟩
  | lk h r => exact ⟨_, s _ _ h, nt_frz⟩
  | obj m h r n => exact ⟨_, h, nt_ins⟩
theorem StOk.at {n : Nat} {s : Sto} {t : Nat} {p : Addr} (S : StOk K mg al B G n s H) (e : al[t]? = some p) : ∃ c, s[t]? = some c ∧ B p = none ∧ CellOk K mg al B G H p c := by
  have hl : t < s.length := by rw [← S.len]; exact (List.getElem?_eq_some_iff.mp e).1
  obtain ⟨q, h1, h2⟩ := S.cell t s[t] (List.getElem?_eq_getElem hl)
  rw [e] at h1
  cases h1
  exact ⟨_, List.getElem?_eq_getElem hl, h2⟩
theorem StOk.mem {n : Nat} {s : Sto} {p : Addr} (S : StOk K mg al B G n s H) (e : p ∈ al) : ∃ (t : Nat) (c : Cell), al[t]? = some p ∧ s[t]? = some c ∧ B p = none ∧ CellOk K mg al B G H p c := by
  obtain ⟨t, ht⟩ := List.getElem?_of_mem e
  obtain ⟨c, h⟩ := S.at ht
  exact ⟨t, c, ht, h⟩
theorem StOk.there {n : Nat} {s : Sto} {p : Addr} (S : StOk K mg al B G n s H) (g : Same G H) (e : p ∈ al) : B p = none ∧ ∃ o, H p = some o ∧ nt o := by
  obtain ⟨t, c, _, _, h, q⟩ := S.mem e
  exact ⟨h, q.there g⟩
theorem StOk.grow {n : Nat} {s : Sto} (S : StOk K mg al B G n s H) (gh : Same G H) (g : Grow B H B' H') : StOk K mg al B' G n s H' := by
  refine ⟨S.len, S.nd, fun t c e => ?_, S.new⟩
  obtain ⟨p, h1, h2, h3⟩ := S.cell t c e
  obtain ⟨o, h4, h5⟩ := h3.there gh
  exact ⟨p, h1, g.sep p o h4 h5 h2, h3.mono (List.prefix_refl _) g.bb (by rw [h4, g.hh p o h4])⟩
end
structure SOk (K : PySem.W.Frag) (mg : Str → Option Value) (W : Wd) (al : List Addr) (s : Sto) (B H : Hp) (σ : L2.St) (ρ : En) : Prop where
  env : EnvOk K mg ⟨W.B, W.H, al⟩ B H σ ρ
  st : StOk K mg al B W.H W.al.length s H
  pre : W.al <+: al
  off : ∀ (i : Nat) (ds : List D) (p : Addr), ρ[i]? = some (.l ds) → σ[i]? = some (some (.ref p)) → p ∉ al
structure EndOk (K : PySem.W.Frag) (mg : Str → Option Value) (W : Wd) (al : List Addr) (s : Sto) (B H : Hp) : Prop where
  gr : Grow W.B W.H B H
  st : StOk K mg al B W.H W.al.length s H
  pre : W.al <+: al
structure Stp (K : PySem.W.Frag) (mg : Str → Option Value) (W : Wd) (al : List Addr) (B H : Hp) (al' : List Addr) (s' : Sto) (B' H' : Hp) : Prop where
  ap : al <+: al'
  bb : Same B B'
  hh : ∀ p o, p ∉ al → H p = some o → H' p = some o ∧ p ∉ al'
  sep : ∀ p o, p ∉ al → H p = some o → nt o → B p = none → B' p = none
  wh : Same W.H H'
  bh : Same B' H'
  st : StOk K mg al' B' W.H W.al.length s' H'
section
variable {X : Cx} {W : Wd} {al al1 al2 : List Addr} {s s1 s2 : Sto} {B H B1 H1 B2 H2 : Hp} {σ : L2.St} {ρ : En}
theorem SOk.wh (S : SOk X.K X.mg W al s B H σ ρ) : Same W.H H := S.env.gr.hh
theorem SOk.refl (S : SOk X.K X.mg W al s B H σ ρ) : Stp X.K X.mg W al B H al s B H :=
  ⟨List.prefix_refl _, Same.refl _, fun _ _ n e => ⟨e, n⟩, fun _ _ _ _ _ n => n, S.wh, S.env.bh, S.st⟩
theorem Stp.refl' (st : StOk X.K X.mg al B W.H W.al.length s H) (wh : Same W.H H) (bh : Same B H) : Stp X.K X.mg W al B H al s B H :=
  ⟨List.prefix_refl _, Same.refl _, fun _ _ n e => ⟨e, n⟩, fun _ _ _ _ _ n => n, wh, bh, st⟩
theorem Stp.trans (a : Stp X.K X.mg W al B H al1 s1 B1 H1) (b : Stp X.K X.mg W al1 B1 H1 al2 s2 B2 H2) : Stp X.K X.mg W al B H al2 s2 B2 H2 :=
  ⟨a.ap.trans b.ap, a.bb.trans b.bb, fun p o n e => let ⟨h1, h2⟩ := a.hh p o n e; b.hh p o h2 h1, fun p o n e t z => let ⟨h1, h2⟩ := a.hh p o n e; b.sep p o h2 h1 t (a.sep p o n e t z), b.wh, b.bh, b.st⟩
theorem Stp.refl (a : Stp X.K X.mg W al B H al1 s1 B1 H1) : Stp X.K X.mg W al1 B1 H1 al1 s1 B1 H1 := Stp.refl' a.st a.wh a.bh
theorem Stp.grow (a : Stp X.K X.mg W al B H al1 s1 B1 H1) (g : Grow B1 H1 B2 H2) : Stp X.K X.mg W al B H al1 s1 B2 H2 :=
  ⟨a.ap, a.bb.trans g.bb, fun p o n e => let ⟨h1, h2⟩ := a.hh p o n e; ⟨g.hh p o h1, h2⟩, fun p o n e t z => g.sep p o (a.hh p o n e).1 t (a.sep p o n e t z), a.wh.trans g.hh, g.bh, a.st.grow a.wh g⟩
theorem SOk.step (S : SOk X.K X.mg W al s B H σ ρ) (g : Stp X.K X.mg W al B H al1 s1 B1 H1) : SOk X.K X.mg W al1 s1 B1 H1 σ ρ := by
  refine ⟨⟨⟨S.env.gr.bb.trans g.bb, g.wh, g.bh, fun p o e t n => ?_⟩, S.env.len, fun i d e => ?_, fun i ds e => ?_, S.env.dis, fun i t e => ?_⟩, g.st, S.pre.trans g.ap, fun i ds p e1 e2 => ?_⟩
  · by_cases hp : p ∈ al
    · obtain ⟨k, hk⟩ := List.getElem?_of_mem hp
      obtain ⟨c, _, h, _⟩ := g.st.at (pre_get g.ap hk)
      exact h
    · exact g.sep p o hp (S.wh p o e) t (S.env.gr.sep p o e t n)
  · obtain ⟨v, h1, h2⟩ := S.env.val i d e
    exact ⟨v, h1, h2.mono g.bb⟩
  · obtain ⟨p, xs, h1, h2, h3, h4, h5⟩ := S.env.own i ds e
    have hn := S.off i ds p e h1
    exact ⟨p, xs, h1, (g.hh p _ hn h2).1, g.sep p _ hn h2 nt_lst h3, h4, h5.mono g.bb⟩
  · obtain ⟨p, h1, h2⟩ := S.env.ref i t e
    exact ⟨p, pre_get g.ap h1, h2⟩
  · obtain ⟨p', xs, h1, h2, _⟩ := S.env.own i ds e1
    rw [h1] at e2
    cases e2
    exact (g.hh p _ (S.off i ds p e1 h1) h2).2
theorem SOk.grow (S : SOk X.K X.mg W al s B H σ ρ) (g : Grow B H B1 H1) : SOk X.K X.mg W al s B1 H1 σ ρ := S.step (S.refl.grow g)
theorem SOk.fin (S : SOk X.K X.mg W al s B H σ ρ) : EndOk X.K X.mg W al s B H := ⟨S.env.gr, S.st, S.pre⟩
end
inductive RS (α : Type) where
  | ok (a : α) (s : Sto)
  | er (x : Str) (s : Sto)
  | st
def RS.bind {α β : Type} (r : RS α) (f : α → Sto → RS β) : RS β := match r with
  | .ok a s => f a s
  | .er x s => .er x s
  | .st => .st
def RS.of {α : Type} (r : R α) (s : Sto) : RS α := match r with
  | .ok a => .ok a s
  | .er x => .er x s
  | .st => .st
def PostR {α : Type} (r : RS α) (P : α → Sto → Prop) (E : Str → Sto → Prop) : Prop := match r with
  | .ok a s => P a s
  | .er x s => E x s
  | .st => False
section
variable {α β : Type} {P : α → Sto → Prop} {Q : β → Sto → Prop} {E E' : Str → Sto → Prop}
theorem PostR.bind {r : RS α} {f : α → Sto → RS β} (h : PostR (r.bind f) Q E) : PostR r (fun a s => PostR (f a s) Q E) E := by
  cases r <;> exact h
theorem PostR.mono {P' : α → Sto → Prop} {r : RS α} (h : PostR r P E) (hp : ∀ a s, r = .ok a s → P a s → P' a s) (he : ∀ x s, E x s → E' x s) : PostR r P' E' := by
  cases r with
  | ok a s => exact hp a s rfl h
  | er x s => exact he x s h
  | st => exact h
theorem PostR.of {r : R α} {s : Sto} (h : PostR (RS.of r s) P E) : Post r (fun a => P a s) (fun x => E x s) := by
  cases r <;> exact h
theorem PostR.ofO {o : Option α} {s : Sto} (h : PostR (RS.of (R.ofO o) s) P E) : ∃ a, o = some a ∧ P a s := h.of.ofO
end
inductive OX where
  | nx (ρ : En) (s : Sto)
  | rt (a : AV) (s : Sto)
  | rf (ds : List D) (s : Sto)
  | bk (ρ : En) (s : Sto)
  | ct (ρ : En) (s : Sto)
  | er (x : Str) (ρ : En) (s : Sto)
  | st
abbrev XM := En → Sto → RS AV
abbrev XT := En → Sto → RS Bool
abbrev XA := En → Sto → RS (List AV)
abbrev XF := En → Sto → RS (List D)
abbrev XS := En → Sto → OX
def okX (X : Cx) (W : Wd) (al : List Addr) (B H : Hp) (Q : VK) (a : AV) (s' : Sto) : Prop := ∀ v al' B' H', Stp X.K X.mg W al B H al' s' B' H' → IsA X.K X.mg al' B' v a → Q v H'
def okXT (X : Cx) (W : Wd) (al : List Addr) (B H : Hp) (Q : Bool → Hp → Prop) (b : Bool) (s' : Sto) : Prop := ∀ al' B' H', Stp X.K X.mg W al B H al' s' B' H' → Q b H'
def okXF (X : Cx) (W : Wd) (al : List Addr) (B H : Hp) (Q : VK) (ds : List D) (s' : Sto) : Prop := ∀ p xs al' B' H', Stp X.K X.mg W al B H al' s' B' H' → H p = none → H' p = some (.lst xs) → B' p = none → p ∉ al' → IsL X.K X.mg B' xs ds → Q (.ref p) H'
def erX (X : Cx) (W : Wd) (Wx : WX) (σ : L2.St) (al : List Addr) (B H : Hp) (x : Str) (s' : Sto) : Prop := ∀ cls al' B' H', X.mg x = some cls → Stp X.K X.mg W al B H al' s' B' H' → Wx cls none σ H'
def PEX (X : Cx) (Wx : WX) (e : Expr) (m : XM) : Prop := ∀ W σ H B ρ al s, SOk X.K X.mg W al s B H σ ρ → ∀ Q, PostR (m ρ s) (okX X W al B H Q) (erX X W Wx σ al B H) → wpE X e σ H Q
def PostX (X : Cx) (W : Wd) (Wx : WX) (o : OX) (D : Ends) : Prop := match o with
  | .nx ρ s => ∀ σ al B H, SOk X.K X.mg W al s B H σ ρ → D.nx σ H
  | .rt a s => ∀ v al B H, EndOk X.K X.mg W al s B H → IsA X.K X.mg al B v a → D.rt v H
  | .rf ds s => ∀ p xs al B H, EndOk X.K X.mg W al s B H → W.H p = none → H p = some (.lst xs) → B p = none → p ∉ al → IsL X.K X.mg B xs ds → D.rt (.ref p) H
  | .bk ρ s => ∀ σ al B H, SOk X.K X.mg W al s B H σ ρ → D.bk σ H
  | .ct ρ s => ∀ σ al B H, SOk X.K X.mg W al s B H σ ρ → D.ct σ H
  | .er x ρ s => ∀ cls σ al B H, X.mg x = some cls → SOk X.K X.mg W al s B H σ ρ → Wx cls none σ H
  | .st => False
section
variable {X : Cx} {Wx : WX} {W : Wd} {σ : L2.St} {al al1 : List Addr} {B H B1 H1 : Hp} {s1 : Sto}
end
theorem Stp.fresh {X : Cx} {W : Wd} {al al1 : List Addr} {B H B1 H1 : Hp} {s s1 : Sto} (st : StOk X.K X.mg al B W.H W.al.length s H) (wh : Same W.H H) (g : Stp X.K X.mg W al B H al1 s1 B1 H1) {p : Addr} (n : H1 p = none) : H p = none := by
  cases e : H p with
  | none => rfl
  | some o =>
    by_cases hp : p ∈ al
    · obtain ⟨t, ht⟩ := List.getElem?_of_mem hp
      obtain ⟨c, _, _, hc⟩ := g.st.at (pre_get g.ap ht)
      obtain ⟨o', h, _⟩ := hc.there g.wh
      rw [n] at h
      cases h
    · rw [(g.hh p o hp e).1] at n
      cases n
section
variable {X : Cx} {Wx : WX} {e : Expr} {es : List Expr} {m : EM} {t : TM} {mr mf : AM}
theorem erX.pure {W : Wd} {σ : L2.St} {al : List Addr} {s : Sto} {B H : Hp} {ρ : En} (S : SOk X.K X.mg W al s B H σ ρ) {x : Str} (h : erX X W Wx σ al B H x s) : erD X Wx σ B H x := fun cls B' H' e g => h cls al B' H' e (S.refl.grow g)
theorem SOk.noal {W : Wd} {σ : L2.St} {al : List Addr} {s : Sto} {B H : Hp} {ρ : En} (S : SOk X.K X.mg W al s B H σ ρ) {p : Addr} (n : H p = none) : p ∉ al := fun hp => by
  obtain ⟨_, o, h, _⟩ := S.st.there S.wh hp
  rw [n] at h
  cases h
end
def sD (m : SM) : XS := fun ρ s => match m ρ with
  | .nx ρ' => .nx ρ' s
  | .rt d => .rt (.d d) s
  | .bk ρ' => .bk ρ' s
  | .ct ρ' => .ct ρ' s
  | .er x ρ' => .er x ρ' s
  | .st => .st
section
variable {X : Cx} {Wx : WX} {st : Stmt} {ss : List Stmt} {m : SM} {W : Wd} {al : List Addr} {s : Sto} {B H : Hp} {σ : L2.St} {ρ : En}
def withAl (al : List Addr) (G H : Hp) : Hp := fun p => if p ∈ al then H p else G p
theorem SOk.kept (S : SOk X.K X.mg W al s B H σ ρ) : EnvOk X.K X.mg ⟨B, withAl al W.H H, al⟩ B H σ ρ := by
  refine ⟨⟨Same.refl _, fun p o e => ?_, S.env.bh, fun _ _ _ _ n => n⟩, S.env.len, S.env.val, fun i ds e => ?_, S.env.dis, S.env.ref⟩
  · have e' : (if p ∈ al then H p else W.H p) = some o := e
    split at e'
    · exact e'
    · exact S.wh p o e'
  · obtain ⟨p, xs, h1, h2, h3, h4, h5⟩ := S.env.own i ds e
    refine ⟨p, xs, h1, h2, h3, ?_, h5⟩
    show withAl al W.H H p = none
    unfold withAl
    rw [if_neg (S.off i ds p e h1)]
    exact h4
theorem wal_in {al : List Addr} {G H : Hp} {p : Addr} (h : p ∈ al) : withAl al G H p = H p := if_pos h
theorem wal_out {al : List Addr} {G H : Hp} {p : Addr} (h : p ∉ al) : withAl al G H p = G p := if_neg h
theorem SOk.walH (S : SOk X.K X.mg W al s B H σ ρ) {p : Addr} {o : HO} (h : W.H p = some o) : withAl al W.H H p = some o := by
  by_cases hp : p ∈ al
  · rw [wal_in hp]; exact S.wh p o h
  · rw [wal_out hp]; exact h
theorem SOk.growK (S : SOk X.K X.mg W al s B H σ ρ) {B' H' : Hp} (g : Grow B (withAl al W.H H) B' H') : EndOk X.K X.mg W al s B' H' := by
  refine ⟨⟨S.env.gr.bb.trans g.bb, fun p o e => g.hh p o (S.walH e), g.bh, fun p o e t n => g.sep p o (S.walH e) t (S.env.gr.sep p o e t n)⟩, ⟨S.st.len, S.st.nd, fun t c e => ?_, S.st.new⟩, S.pre⟩
  obtain ⟨p, h1, h2, h3⟩ := S.st.cell t c e
  obtain ⟨o, h4, h5⟩ := h3.there S.wh
  have hp : p ∈ al := List.mem_of_getElem? h1
  have hw : withAl al W.H H p = some o := by rw [wal_in hp]; exact h4
  exact ⟨p, h1, g.sep p o hw h5 h2, h3.mono (List.prefix_refl _) g.bb (by rw [h4, g.hh p o hw])⟩
theorem SOk.back {B' H' : Hp} {σ' : L2.St} {ρ' : En} (S : SOk X.K X.mg W al s B H σ ρ) (E : EnvOk X.K X.mg ⟨B, withAl al W.H H, al⟩ B' H' σ' ρ') : SOk X.K X.mg W al s B' H' σ' ρ' := by
  have F := S.growK E.gr
  have out : ∀ {p : Addr}, withAl al W.H H p = none → p ∉ al := fun {p} h hp => by
    rw [wal_in hp] at h
    obtain ⟨_, o, h2, _⟩ := S.st.there S.wh hp
    rw [h] at h2
    cases h2
  refine ⟨⟨F.gr, E.len, E.val, fun i ds e => ?_, E.dis, E.ref⟩, F.st, F.pre, fun i ds p e1 e2 => ?_⟩
  · obtain ⟨p, xs, h1, h2, h3, h4, h5⟩ := E.own i ds e
    have h4' : withAl al W.H H p = none := h4
    rw [wal_out (out h4')] at h4'
    exact ⟨p, xs, h1, h2, h3, h4', h5⟩
  · obtain ⟨p', xs, h1, h2, h3, h4, h5⟩ := E.own i ds e1
    rw [h1] at e2
    cases e2
    exact out h4
theorem PostX.d {Wx : WX} {D : Ends} {o : Out} {m : SM} (S : SOk X.K X.mg W al s B H σ ρ) (h : PostX X W Wx (sD m ρ s) D) : PostS X ⟨B, withAl al W.H H, al⟩ Wx (m ρ) D := by
  unfold sD at h
  cases e : m ρ with
  | nx ρ' => rw [e] at h; exact fun σ' B' H' E => h σ' al B' H' (S.back E)
  | rt d => rw [e] at h; exact fun v B' H' g r => h v al B' H' (S.growK g) (.d r)
  | bk ρ' => rw [e] at h; exact fun σ' B' H' E => h σ' al B' H' (S.back E)
  | ct ρ' => rw [e] at h; exact fun σ' B' H' E => h σ' al B' H' (S.back E)
  | er x ρ' => rw [e] at h; exact fun cls σ' B' H' ec E => h cls σ' al B' H' ec (S.back E)
  | st => rw [e] at h; exact h.elim
end
end GD
namespace GD
open PySem PySem.Spec PyProof.Rows L2
section
variable {κ : Type} [DecidableEq κ]
def valP (kas : List (κ × AV)) (k : κ) : Option AV := (kas.find? fun kv => decide (kv.1 = k)).map (·.2)
def dropP (kas : List (κ × AV)) (k : κ) : List (κ × AV) := kas.filter fun kv => decide (kv.1 ≠ k)
variable {K : PySem.W.Frag} {mg : Str → Option Value} {al : List Addr} {B : Hp}
theorem IsP.val {k : κ} : ∀ {kvs : List (κ × V)} {kas : List (κ × AV)}, IsP K mg al B kvs kas → (valV kvs k = none ∧ valP kas k = none) ∨ ∃ v a, valV kvs k = some v ∧ valP kas k = some a ∧ IsA K mg al B v a
  | _, _, .nil => .inl ⟨rfl, rfl⟩
  | _, _, .cons (k := j) (v := v) (a := a) (kvs := kvs) (kas := kas) h r => by
    by_cases e : j = k
    · exact .inr ⟨v, a, by simp [valV, List.find?_cons, e], by simp [valP, List.find?_cons, e], h⟩
    · have h1 : valV ((j, v) :: kvs) k = valV kvs k := by simp [valV, List.find?_cons, e]
      have h2 : valP ((j, a) :: kas) k = valP kas k := by simp [valP, List.find?_cons, e]
      rw [h1, h2]
      exact IsP.val r
theorem IsP.any {k : κ} : ∀ {kvs : List (κ × V)} {kas : List (κ × AV)}, IsP K mg al B kvs kas → (kvs.any fun kv => decide (kv.1 = k)) = (kas.any fun kv => decide (kv.1 = k))
  | _, _, .nil => rfl
  | _, _, .cons h r => by rw [List.any_cons, List.any_cons, IsP.any r]
theorem IsP.snoc {k : κ} {v : V} {a : AV} (h : IsA K mg al B v a) : ∀ {kvs : List (κ × V)} {kas : List (κ × AV)}, IsP K mg al B kvs kas → IsP K mg al B (kvs ++ [(k, v)]) (kas ++ [(k, a)])
  | _, _, .nil => .cons h .nil
  | _, _, .cons g r => .cons g (IsP.snoc h r)
theorem IsP.drop {k : κ} : ∀ {kvs : List (κ × V)} {kas : List (κ × AV)}, IsP K mg al B kvs kas → IsP K mg al B (dropK kvs k) (dropP kas k)
  | _, _, .nil => .nil
  | _, _, .cons (k := j) g r => by
    unfold dropK dropP
    rw [List.filter_cons, List.filter_cons]
    by_cases e : j = k
    · have h1 : ¬ decide (j ≠ k) = true := by simp [e]
      rw [if_neg h1, if_neg h1]
      exact IsP.drop r
    · have h1 : decide (j ≠ k) = true := by simp [e]
      rw [if_pos h1, if_pos h1]
      exact .cons g (IsP.drop r)
end
section
variable {K : PySem.W.Frag} {mg : Str → Option Value} {al : List Addr} {B : Hp}
theorem IsP.lookup {f : Str} : ∀ {kvs : List (Str × V)} {kas : List (Str × AV)}, IsP K mg al B kvs kas → (kvs.lookup f = none ∧ kas.lookup f = none) ∨ ∃ v a, kvs.lookup f = some v ∧ kas.lookup f = some a ∧ IsA K mg al B v a
  | _, _, .nil => .inl ⟨rfl, rfl⟩
  | _, _, .cons (k := g) (v := x) (a := y) (kvs := kvs) (kas := kas) q r => by
    show ((match f == g with | true => some x | false => kvs.lookup f) = none ∧ (match f == g with | true => some y | false => kas.lookup f) = none) ∨ ∃ v a, (match f == g with | true => some x | false => kvs.lookup f) = some v ∧ (match f == g with | true => some y | false => kas.lookup f) = some a ∧ IsA K mg al B v a
    cases e : f == g with
    | true => exact .inr ⟨x, y, rfl, rfl, q⟩
    | false => exact IsP.lookup r
end
section
variable {X : Cx} {W : Wd} {al al1 : List Addr} {s s1 : Sto} {B H B1 H1 : Hp} {σ : L2.St} {ρ : En}
theorem Stp.noal (a : Stp X.K X.mg W al B H al1 s1 B1 H1) {p : Addr} (n : H1 p = none) : p ∉ al1 := fun hp => by
  obtain ⟨_, o, h, _⟩ := a.st.there a.wh hp
  rw [n] at h
  cases h
theorem Stp.last (a : Stp X.K X.mg W al B H al1 s1 B1 H1) {p : Addr} : (al1 ++ [p])[s1.length]? = some p := by
  rw [List.getElem?_append_right (by rw [a.st.len]; exact Nat.le_refl _), a.st.len, Nat.sub_self]
  rfl
theorem Stp.frz {p : Addr} {xs : List V} {ds : List D} (S : SOk X.K X.mg W al s B H σ ρ) (a : Stp X.K X.mg W al B H al1 s1 B1 H1) (n : H p = none) (e1 : H1 p = some (.lst xs)) (nb : B1 p = none) (na : p ∉ al1) (r : IsL X.K X.mg B1 xs ds) :
    Stp X.K X.mg W al B H al1 s1 (upd B1 p (.lst xs)) H1 ∧ Is X.K X.mg (upd B1 p (.lst xs)) (.ref p) (.lst ds) := by
  have nb' : ∀ q u, B1 q = some u → q ≠ p := fun q u e z => by rw [z, nb] at e; cases e
  have s1' : Same B1 (upd B1 p (.lst xs)) := fun q u e => by rw [upd_ne (nb' q u e)]; exact e
  refine ⟨⟨a.ap, a.bb.trans s1', a.hh, fun q u hq e t z => ?_, a.wh, fun q u e => ?_, ⟨a.st.len, a.st.nd, fun t c e => ?_, a.st.new⟩⟩, .lst upd_same (r.mono s1')⟩
  · rw [upd_ne (ne_of_none e n)]
    exact a.sep q u hq e t z
  · by_cases hq : q = p
    · subst hq; rw [upd_same] at e; rw [e1, e]
    · rw [upd_ne hq] at e; exact a.bh q u e
  · obtain ⟨q, h1, h2, h3⟩ := a.st.cell t c e
    have hq : q ≠ p := fun z => na (z ▸ List.mem_of_getElem? h1)
    exact ⟨q, h1, by rw [upd_ne hq]; exact h2, h3.mono (List.prefix_refl _) s1' rfl⟩
theorem okX.d {Q : VK} {d : D} {s' : Sto} (h : okX X W al B H Q (.d d) s') (g : Stp X.K X.mg W al B H al1 s' B1 H1) : okD X B1 H1 Q d := fun v B' H' gr r => h v al1 B' H' (g.grow gr) (.d r)
theorem okX.at {Q : VK} {a : AV} {s' : Sto} {v : V} (h : okX X W al B H Q a s') (g : Stp X.K X.mg W al B H al1 s' B1 H1) (r : IsA X.K X.mg al1 B1 v a) : Q v H1 := h v al1 B1 H1 g r
theorem okXF.d {Q : VK} {ds : List D} {s' : Sto} (S : SOk X.K X.mg W al s B H σ ρ) (h : okXF X W al B H Q ds s') (g : Stp X.K X.mg W al B H al1 s' B1 H1) : okF X B1 H1 Q ds := fun p xs B' H' gr n e1 nb r =>
  h p xs al1 B' H' (g.grow gr) (Stp.fresh S.st S.wh g n) e1 nb (g.noal n) r
theorem erX.d {Wx : WX} {x : Str} {s' : Sto} (h : erX X W Wx σ al B H x s') (g : Stp X.K X.mg W al B H al1 s' B1 H1) : erD X Wx σ B1 H1 x := fun cls B' H' e gr => h cls al1 B' H' e (g.grow gr)
end
section
variable {X : Cx} {Wx : WX} {a b c e : Expr} {es : List Expr} {pos p p2 : Pos} {ma mb mc m : XM} {mr : XA} {mf : XF} {t u : XT}
end
end GD
namespace GD
open PySem PySem.Spec PyProof.Rows L2
section
variable {K : PySem.W.Frag} {mg : Str → Option Value} {al : List Addr} {B G H : Hp} {n : Nat} {s : Sto}
theorem IsP.get {κ : Type} [DecidableEq κ] {kvs : List (κ × V)} {kas : List (κ × AV)} {k : κ} {a : AV} (r : IsP K mg al B kvs kas) (e : valP kas k = some a) : ∃ v, valV kvs k = some v ∧ IsA K mg al B v a := by
  rcases r.val (k := k) with ⟨_, h⟩ | ⟨v, a', h1, h2, h3⟩
  · rw [e] at h; cases h
  · rw [e] at h2
    cases h2
    exact ⟨v, h1, h3⟩
end
section
variable {X : Cx} {Wx : WX} {a b c e o i : Expr} {es : List Expr} {pos p p2 apos : Pos} {ma mb mc m md mk : XM} {mr : XA} {mf : XF} {t u : XT}
end
abbrev sl (x y : Str) : Prop := x.cps.toList < y.cps.toList
end GD
namespace GD
open PySem PySem.Spec PyProof.Rows L2
section
variable {X : Cx} {Wx : WX} {a b c e o i : Expr} {es : List Expr} {pos p p2 apos : Pos} {ma mb mc m md mk mo : XM} {mr : XA} {mf : XF} {t u : XT}
theorem IsAL.atI {K : PySem.W.Frag} {mg : Str → Option Value} {al : List Addr} {B : Hp} {xs : List V} {as : List AV} {k : Int} {a : AV} (r : IsAL K mg al B xs as) (h : L2.atI as k = some a) : ∃ v, L2.atI xs k = some v ∧ IsA K mg al B v a := by
  unfold L2.atI at h ⊢
  rw [r.length]
  cases e : ixN as.length k with
  | none => rw [e] at h; cases h
  | some j =>
    rw [e] at h
    exact r.get h
end
section
variable {X : Cx} {W : Wd} {al al1 : List Addr} {s s1 : Sto} {B H B1 H1 : Hp} {σ : L2.St} {ρ : En}
end
end GD
namespace GD
open PySem PySem.Spec PyProof.Rows L2
section
variable {X : Cx} {Wx : WX} {a b c e o i : Expr} {es : List Expr} {pos p p2 apos : Pos} {ma mb mc m md mk mo : XM} {mr : XA} {mf : XF} {t u : XT}
end
end GD
namespace GD
open PySem PySem.Spec PyProof.Rows L2
def asSl : AV → Sl
  | .d d => .v d
  | .r t => .r t
section
variable {X : Cx} {W : Wd} {al al1 : List Addr} {s s1 : Sto} {B H B1 H1 : Hp} {σ : L2.St} {ρ : En}
theorem SOk.offSet (S : SOk X.K X.mg W al s B H σ ρ) {i : Nat} {o : Option V} {sl : Sl} (hs : ∀ ds, sl ≠ .l ds) : ∀ (j : Nat) (ds : List D) (p : Addr), (ρ.set i sl)[j]? = some (.l ds) → (σ.set i o)[j]? = some (some (.ref p)) → p ∉ al := by
  intro j ds p h1 h2
  rcases get_set h1 with ⟨_, e1, _⟩ | ⟨hne, e1⟩
  · exact absurd e1.symm (hs ds)
  · rw [List.getElem?_set_ne (Ne.symm hne)] at h2
    exact S.off j ds p e1 h2
theorem SOk.set (S : SOk X.K X.mg W al s B H σ ρ) {i : Nat} {v : V} {a : AV} (h : IsA X.K X.mg al B v a) : SOk X.K X.mg W al s B H (σ.set i (some v)) (ρ.set i (asSl a)) := by
  cases h with
  | d h => exact ⟨S.env.set h, S.st, S.pre, S.offSet fun _ z => nomatch z⟩
  | @r t p h =>
    refine ⟨?_, S.st, S.pre, S.offSet fun _ z => nomatch z⟩
    have E := S.env.drop i (o := some (.ref p))
    refine ⟨E.gr, by simp [S.env.len], fun j d hj => ?_, fun j ds hj => ?_, fun j k ds es q hj hk h1 h2 => ?_, fun j t' hj => ?_⟩
    · rcases get_set hj with ⟨_, e1, _⟩ | ⟨hne, e1⟩
      · cases e1
      · obtain ⟨u, h1, h2⟩ := S.env.val j d e1
        exact ⟨u, by rw [List.getElem?_set_ne (Ne.symm hne)]; exact h1, h2⟩
    · rcases get_set hj with ⟨_, e1, _⟩ | ⟨hne, e1⟩
      · cases e1
      · obtain ⟨u, xs, h1, h2⟩ := S.env.own j ds e1
        exact ⟨u, xs, by rw [List.getElem?_set_ne (Ne.symm hne)]; exact h1, h2⟩
    · rcases get_set hj with ⟨_, e1, _⟩ | ⟨n1, e1⟩
      · cases e1
      · rcases get_set hk with ⟨_, e2, _⟩ | ⟨n2, e2⟩
        · cases e2
        · rw [List.getElem?_set_ne (Ne.symm n1)] at h1
          rw [List.getElem?_set_ne (Ne.symm n2)] at h2
          exact S.env.dis j k ds es q e1 e2 h1 h2
    · rcases get_set hj with ⟨rfl, e1, hl⟩ | ⟨hne, e1⟩
      · cases e1
        exact ⟨p, h, by rw [List.getElem?_set_self (by rw [S.env.len]; exact hl)]⟩
      · obtain ⟨q, h1, h2⟩ := S.env.ref j t' e1
        exact ⟨q, h1, by rw [List.getElem?_set_ne (Ne.symm hne)]; exact h2⟩
end
section
variable {X : Cx} {Wx : WX} {W : Wd} {al : List Addr} {s : Sto} {a b c e o i' : Expr} {es : List Expr} {st : Stmt} {ss ts : List Stmt} {pos p pos' : Pos} {ma mb m mo md mk mv : XM} {mr : XA} {mf : XF} {t : XT} {sa sb sc : XS} {σ : L2.St} {B H : Hp} {ρ : En} {D : Ends}
theorem SOk.frz (S : SOk X.K X.mg W al s B H σ ρ) (i : Nat) : ∃ B', SOk X.K X.mg W al s B' H σ (GD.frz i ρ) := by
  obtain ⟨B', E⟩ := S.kept.frz i
  exact ⟨B', S.back E⟩
end
end GD
namespace GD
open PySem PySem.Spec PyProof.Rows L2
section
variable {K : PySem.W.Frag} {mg : Str → Option Value} {W : Wd} {al al' : List Addr} {s s' : Sto} {B H B' H' : Hp} {σ σ' : L2.St} {ρ ρ' : En} {t : Nat} {p : Addr} {od : Obj} {kvs : List (Key × V)} {kas : List (Key × AV)}
end
section
variable {X : Cx} {Wx : WX} {W : Wd} {al : List Addr} {s : Sto} {a b c e o i' : Expr} {es : List Expr} {st : Stmt} {ss ts : List Stmt} {pos p pos' px : Pos} {ma mb m mo md mk mv : XM} {mr : XA} {mf : XF} {t : XT} {sa sb sc : XS} {σ : L2.St} {B H : Hp} {ρ : En} {D : Ends}
end
end GD
namespace GD
open PySem PySem.Spec PyProof.Rows L2
section
variable {P : Program} {w : World} {K : PySem.W.Frag} {mg : Str → Option Value} {base : Heap}
end
section
variable {X : Cx} {Wx : WX}
end
section
variable {X : Cx} {Wx : WX} {a b c e : Expr} {es : List Expr} {pos p : Pos} {ma mb m mi : XM} {mr : XA} {mf : XF} {elt tg iter : Expr} {ifs : List Expr} {scope : Scope} {own : List (Str × Nat)} {g : D → En → Option En} {t : XT}
def PTSX (X : Cx) (ifs : List Expr) (t : XT) : Prop := ∀ W σ H B ρ al s, SOk X.K X.mg W al s B H σ ρ → ∀ Q, PostR (t ρ s) (okXT X W al B H Q) (erX X W W0 σ al B H) → wpTs X ifs σ H Q
structure BlkX (X : Cx) (scope : Scope) (own : List (Str × Nat)) (tg : Expr) (ifs : List Expr) (elt : Expr) (g : D → En → Option En) (t : XT) (m : XM) : Prop where
  g : ∀ (s : Shared) (H : Hp) (C : Addr) (cl : List (Str × Addr)) (fp : List Addr), PGV (X.blk s H scope (compEnvC scope cl C X.env) fp) tg (own.map (·.2)) g
  t : ∀ (s : Shared) (H : Hp) (C : Addr) (cl : List (Str × Addr)) (fp : List Addr), PTSX (X.blk s H scope (compEnvC scope cl C X.env) fp) ifs t
  e : ∀ (s : Shared) (H : Hp) (C : Addr) (cl : List (Str × Addr)) (fp : List Addr), PEX (X.blk s H scope (compEnvC scope cl C X.env) fp) W0 elt m
theorem SOk.wipe {W : Wd} {al : List Addr} {s : Sto} {B H : Hp} {σ : L2.St} {ρ : En} (S : SOk X.K X.mg W al s B H σ ρ) (vs : List Nat) : SOk X.K X.mg W al s B H (L2.wipe σ vs) (wipeE vs ρ) := S.back (S.kept.wipe vs)
end
end GD
namespace GD
open PySem PySem.Spec PyProof.Rows L2
abbrev SP := Str × Str
abbrev slp (p q : SP) : Prop := sl p.1 q.1 ∨ (p.1 = q.1 ∧ sl p.2 q.2)
instance (p q : SP) : Decidable (slp p q) := by unfold slp; infer_instance
def IsPairS (h : Heap) (v : Value) (x y : Str) : Prop := ∃ a o t u n, v = .ref a ∧ h.get? a = some o ∧ o.cls = .type "tuple" ∧ o.data = .seq #[.str x t, .str y u] n
theorem IsPairS.keeps {h h' : Heap} {v : Value} {x y : Str} (p : IsPairS h v x y) (k : ∀ b o, h.get? b = some o → o.cls = .type "tuple" → h'.get? b = some o) : IsPairS h' v x y := by
  obtain ⟨a, o, t, u, n, e, ho, hc, hd⟩ := p
  exact ⟨a, o, t, u, n, e, k _ _ ho hc, hc, hd⟩
section
variable {prog : Program} {w : World} {A : Around} {E : Value → Shared → Prop} {s : Shared}
end
section
variable {X : Cx}
end
section
variable {K : PySem.W.Frag} {mg : Str → Option Value} {B H : Hp}
end
section
variable {X : Cx} {Wx : WX} {e a b : Expr} {pos p : Pos} {m ma mb : EM}
end
end GD
namespace GD
open PySem PySem.Spec PyProof.Rows L2
section
variable {X : Cx} {Wx : WX} {a b c e o : Expr} {es : List Expr} {pos p p2 apos : Pos} {ma mb mo me m : XM} {mr : XA} {mf : XF} {t : XT}
end
section
variable {P : Program} {w : World} {K : PySem.W.Frag} {mg : Str → Option Value} {base : Heap}
end
end GD
namespace GD
open PySem PySem.Spec PyProof.Rows L2
section
variable {X : Cx}
end
section
variable {X : Cx} {B H : Hp} {a : Addr} {y : V} {ds : List GD.D} {d z : GD.D} {Q : VK}
end
section
variable {X : Cx} {Wx : WX} {o e : Expr} {pos apos : Pos} {mo me : EM}
end
end GD
namespace GD
open PySem PySem.Spec PyProof.Rows L2
section
variable {X : Cx} {Wx : WX} {e : Expr} {m : XM} {sb : XS} {pos : Pos}
end
section
variable {X : Cx} {Wx : WX} {pos p : Pos} {m : XM} {elt tg iter : Expr} {ifs : List Expr} {scope : Scope} {own : List (Str × Nat)} {g : D → En → Option En} {t : XT}
structure LCKD (X : Cx) (own : List (Str × Nat)) (elt tg : Expr) (ifs : List Expr) (scope : Scope) (j : Nat) (x : Str) (g : D → En → Option En) (t : XT) (m : XM) : Prop where
  hi : X.N[j]? = some x
  hv : Vis X.env.scope x
  ok : BlkOk X.N X.env.scope scope own
  blk : BlkX X scope own tg ifs elt g t m
  hd : (x == ("__debug__" : Str)) = false
  hcd : (x == ("__classdict__" : Str)) = false
end
end GD
namespace GD
open PySem PySem.Spec PyProof.Rows L2
theorem note_frame {e : Value} {a b : PySem.Env} (h : a.frame = b.frame) : noteFrame e a = noteFrame e b := by
  unfold noteFrame PySem.frameOf
  rw [h]
section
variable {M : Model} {A : Around} {E : Value → Shared → Prop} {s : Shared} {base : Heap} {env : PySem.Env} {outer : List PySem.Env} {L a : Addr} {Z : Obj → Prop}
theorem looks_fl {fl : Value} {Q : Unit → Shared → Prop} (hZ : HandSPX.Steady Z) (hfr : A.frames = some (env :: outer)) (hf : env.frame = some L) (hkb : base.StaysIn s.heap) (hen : base.get? a = none) (hl : s.heap.FunFrames base (env :: outer)) (ht : HandSPX.TracedZ s.heap base a Z fl) (hfl : (fl == rawInt L) = false)
    (hQ : ∀ h', HandSPX.HeldZ base (env :: outer) a Z L h' → s.heap.UpToSlots h' → Q () { s with heap := h' }) : wpAny M A (noteFrame (.ref a) env) Q E s := by
  obtain ⟨oe, vs, T, oT, ts, he, hz, hd, h1, hnT, hTe, hT, hdT, h3⟩ := ht
  unfold noteFrame
  simp only [hf]
  refine wpAny_bind (wpAny_field he hd h1 ?_)
  rw [if_pos (show (Value.ref T != Value.none) = true from by simp)]
  refine wpAny_bind (wpAny_field hT hdT h3 ?_)
  rw [if_neg (by rw [hfl]; exact Bool.false_ne_true)]
  refine wpAny_bind (wpAny_setField hT hdT (Array.getElem?_eq_some_iff.mp h3).1 ?_)
  have oth : ∀ b, b ≠ T → (s.heap.update T (Obj.mapFields (·.setIfInBounds 3 Value.none))).get? b = s.heap.get? b := fun b hb => Heap.get?_update_other _ _ (Ne.symm hb)
  have nor : ∀ b o, s.heap.get? b = some o → (∀ vs, o.data ≠ .fields vs) → b ≠ T := fun b o hb hnf q => by
    rw [q, hT] at hb; injection hb with hb; subst hb; exact hnf ts hdT
  refine HandSPX.wpAny_entryZ hZ hfr (hl.of_keeps fun b o hb hnf => ⟨o, (oth b (nor b o hb hnf)).trans hb, rfl⟩) hf ((oth a (Ne.symm hTe)).trans he)
    (fun b o hbo => (oth b fun q => by rw [q, hnT] at hbo; cases hbo).trans (hkb b o hbo)) hen hd (Array.getElem?_eq_some_iff.mp h1).1 hz fun h' hN => ?_
  obtain ⟨x1, x2, x3, x4⟩ := hN
  exact hQ h' ⟨x1, hen, x2, x3⟩ fun b o hb hnf => x4 b o ((oth b (nor b o hb hnf)).trans hb) hnf
theorem sky_noted {C : Addr} {Q : Unit → Shared → Prop} (hZ : HandSPX.Steady Z) (hfr : A.frames = some (env :: outer)) (hf : env.frame = some L) (hC : C ≠ L) (x : Sky base (env :: outer) a Z C s.heap)
    (hQ : ∀ h', HandSPX.HeldZ base (env :: outer) a Z L h' → s.heap.UpToSlots h' → Q () { s with heap := h' }) : wpAny M A (noteFrame (.ref a) env) Q E s := by
  rcases x with ⟨hB, hn, hl, oe, vs, he, hz, hd, h1⟩ | fl | hh
  · exact HandSPX.look_newZ hZ hfr hl hf he hB hn hd h1 hz hQ
  · exact HandSPX.looks_onZ hZ hfr hf fl hQ
  · obtain ⟨h1, h2, h3, h4⟩ := hh
    refine looks_fl hZ hfr hf h1 h2 h3 h4 ?_ hQ
    have : ¬ ((rawInt (C : Int) == rawInt (L : Int)) = true) := fun e => hC (by
      have e := eq_of_beq e
      unfold rawInt at e
      injection e with e1 _
      exact Int.ofNat_inj.mp e1)
    simpa using this
end
theorem frames_kept {h h' base base' : Heap} (hb : ∀ b, base.get? b = none → base'.get? b = none) : ∀ {l : List PySem.Env}, (∀ b ∈ frs l, ∀ o, h.get? b = some o → h'.get? b = some o) → h.FunFrames base l → h'.FunFrames base' l
  | [], _, _ => trivial
  | env :: l, k, hh => by
    obtain ⟨hk, ⟨L, o, hf, hn, ho, hd⟩, hr⟩ := hh
    exact ⟨hk, ⟨L, o, hf, hb L hn, k L (List.mem_filterMap.mpr ⟨env, List.mem_cons_self, hf⟩) o ho, hd⟩, frames_kept hb (fun b hb' => by
      obtain ⟨e, he, q⟩ := List.mem_filterMap.mp hb'
      exact k b (List.mem_filterMap.mpr ⟨e, List.mem_cons_of_mem _ he, q⟩)) hr⟩
theorem held_but {B h h' : Heap} {l : List PySem.Env} {a C L : Addr} {Z : Obj → Prop} {m : Str → Option Value} (x : HandSPX.HeldZ B l a Z L h) (nC : h.Ns C m) (sb : Heap.SameBut C h h') (fr : ∀ b ∈ frs l, b ≠ C) : HandSPX.HeldZ (PySem.W.hideAll B [C]) l a Z L h' := by
  obtain ⟨h1, h2, h3, oe, vs, T, oT, ts, he, hz, hd, e1, hnT, hTe, hT, hdT, e3⟩ := x
  obtain ⟨oC, es, ep, gC, dC, _⟩ := nC
  have na : a ≠ C := fun z => by rw [z, gC] at he; cases he; rw [dC] at hd; cases hd
  have nT : T ≠ C := fun z => by rw [z, gC] at hT; cases hT; rw [dC] at hdT; cases hdT
  have sub : ∀ b, B.get? b = none → (PySem.W.hideAll B [C]).get? b = none := fun b e => by
    cases q : (PySem.W.hideAll B [C]).get? b with
    | none => rfl
    | some o => rw [PySem.W.of_hideAll _ q] at e; cases e
  refine ⟨fun b o e => ?_, sub a h2, frames_kept sub (fun b hb o e => (sb.2 b (fr b hb)).trans e) h3, oe, vs, T, oT, ts, (sb.2 a na).trans he, hz, hd, e1, sub T hnT, hTe, (sb.2 T nT).trans hT, hdT, e3⟩
  have nb : b ≠ C := fun z => by
    rw [z, PySem.W.hideAll_none [C] (List.mem_singleton.mpr rfl)] at e
    cases e
  exact (sb.2 b nb).trans (h1 b o (PySem.W.of_hideAll _ e))
def CompEnd (M : Model) (A : Around) (E : Value → Shared → Prop) (Q : Value → Shared → Prop) (acc : Value) (ce : PySem.Env) (r : Result) (s' : Shared) : Prop :=
  match r with
  | .ok _ => ∃ m, s'.heap.Ns ce.locals m ∧ ∀ h', Heap.SameBut ce.locals s'.heap h' → Q acc { s' with heap := h' }
  | .error x => ∃ m, s'.heap.Ns ce.locals m ∧ ∀ h', Heap.SameBut ce.locals s'.heap h' → wpAny M A (PySem.passOn "comprehension.variables-let-go" x ce : Sem Value) (fun _ _ => False) E { s' with heap := h' }
theorem comp_er {M : Model} {A : Around} {E : Value → Shared → Prop} {s : Shared} {env : PySem.Env} {e : Expr} {scope : Scope} {pos : Pos} {newAcc first : Sem Value} {g : Comprehension} {gs : List Comprehension} {cl : List (Str × Addr)} {Q : Value → Shared → Prop}
    (hcl : clausesOf e = g :: gs) (hs : ∀ x, foldedSetIterable g.iter env x = pure x) (hclos : closureFor scope env = pure cl) (hkind : scope.kind = .function) (hnames : ∀ x ∈ scope.names, x.2 = .local → scope.names.lookup x.1 = some .local)
    (h : wpAny M A first (fun x s₁ => wpAny M A (pyIter x) (fun it s₂ => wpAny M A newAcc (fun acc s₃ => wpAny M A (newFunctionEnv scope env.globals cl [] env.qual none .none (some env)) (fun ce s₄ =>
        codeAny M A (.compStart e 0 it acc { ce with scope := relabel scope env }) (CompEnd M A E Q acc { ce with scope := relabel scope env }) s₄) E s₃) E s₂) E s₁) E s) :
    wpAny M A (comprehension e scope env pos newAcc false first none) Q E s := by
  unfold comprehension
  rw [hclos, hcl]
  refine wpAny_bind (wpAny_mono h (fun x s₁ h₁ => wpAny_bind (wpAny_standAt (wpAny_bind (wpAny_of_eq (hs x) (wpAny_bind (wpAny_holding (wpAny_mono h₁ (fun it s₂ h₂ =>
    wpAny_standIf (wpAny_bind (wpAny_mono h₂ (fun acc s₃ h₃ => wpAny_bind (wpAny_pure (wpAny_bind (wpAny_mono h₃ (fun ce s₄ h₄ => ?_) fun _ _ h' => h')))) fun _ _ h' => h'))) fun _ _ h' => h'))))))) fun _ _ h' => h')
  dsimp only
  have hv : ∀ x ∈ (scope.names.filter fun x => (x.2 == .local || x.2 == .cell) && x.1 != (".0" : Str)).reverse, x.2 = .local → PySem.Env.kindOf { ce with scope := relabel scope env } x.1 = some .local := fun x hx hl =>
    lookup_relabel_local (hnames x (List.mem_filter.mp (List.mem_reverse.mp hx)).1 hl)
  refine wpAny_holding (wpAny_bind (wpAny_attempt (wpAny_holding (wpAny_run (codeAny_mono h₄ fun r s' hr => ?_)))))
  cases r with
  | ok f =>
    obtain ⟨m, hn, hr⟩ := hr
    exact wpAny_bind (wpAny_holding (wpAny_comp_letGo (cenv := { ce with scope := relabel scope env }) hkind _ s' m hv hn fun h' m' _ hs' => wpAny_pure (hr h' hs')))
  | error x =>
    obtain ⟨m, hn, hr⟩ := hr
    exact wpAny_bind (wpAny_holding (wpAny_comp_letGo (cenv := { ce with scope := relabel scope env }) hkind _ s' m hv hn fun h' m' _ hs' => wpAny_mono (hr h' hs') (fun _ _ f => f.elim) fun _ _ y => y))
abbrev blkR (X : Cx) (Wn : XK) (s : Shared) (H : Hp) (scope : Scope) (ce : PySem.Env) (fp : List Addr) : Cx := (X.blk s H scope ce fp).wish (XE (X.blk s H scope ce fp) fun cls d _ H => Wn cls d H)
theorem takes_blk {X : Cx} {Wn : XK} {s : Shared} {H : Hp} {scope : Scope} {ce : PySem.Env} {fp : List Addr} : Takes (blkR X Wn s H scope ce fp) (fun cls d _ H => Wn cls d H) :=
  fun u s' ⟨a, B, sI, pins, σ, H, cls, d, e, I, nb, up, sky, na, os, ag, w⟩ => ⟨a, B, sI, pins, σ, H, cls, d, e, I.unwish, nb, up, sky, na, os, ag, w⟩
theorem blk_out {X : Cx} {Wn : XK} {pins : List (Addr × Obj)} {σ : L2.St} {H3 : Hp} {s3 s' : Shared} {scope : Scope} {ce : PySem.Env} {fp : List Addr} {u : Value} {Q : Value → Shared → Prop} {acc : Value}
    (hst : X.stack = X.env :: X.outer) (hf : X.env.frame = some X.env.locals) (hcf : ce.frame = X.env.frame) (tk : Takes X (fun cls d _ H => Wn cls d H)) (I3 : Inv X pins σ H3 s3) (hC : s3.heap.objs.size ≤ ce.locals)
    (f3 : ∀ b ∈ fp, FpOk X pins H3 b) (x : XE (X.blk s3 H3 scope ce fp) (fun cls d _ H => Wn cls d H) u s') :
    notedBy (model X.prog X.w) X.A ce (fun e s'' => CompEnd (model X.prog X.w) X.A X.xe Q acc ce (.error e) s'') u s' := by
  obtain ⟨a, B, sI, pn, σ', H, cls, d, rfl, I, nb, up, sky, na, os, ag, w⟩ := x
  have hfr : X.A.frames = some (X.env :: X.outer) := by rw [I3.ok.frames, hst]
  have frC : ∀ b ∈ frs X.stack, b ≠ ce.locals := fun b hb z => by
    obtain ⟨_, o, e, _⟩ := I3.stack.mem hb
    have := Heap.lt_size e
    rw [z] at this
    exact absurd (Nat.lt_of_lt_of_le this hC) (Nat.lt_irrefl _)
  have LC : ce.locals ≠ X.env.locals := fun z => frC X.env.locals (by rw [hst]; exact List.mem_filterMap.mpr ⟨X.env, List.mem_cons_self, hf⟩) z.symm
  have sky : Sky B (X.env :: X.outer) a (Zc cls d) ce.locals s'.heap := by rw [← hst]; exact sky
  unfold notedBy
  rw [note_frame hcf]
  refine sky_noted Zc.steady hfr hf LC sky fun h1 held up1 => ?_
  -- the block's names
  obtain ⟨m, nI, _⟩ := I.loc
  have nsup : ∀ {h h' : Heap}, h.Ns ce.locals m → h.UpToSlots h' → h'.Ns ce.locals m := fun {h h'} n up => by
    obtain ⟨o, es, ep, e, dd, r⟩ := n
    obtain ⟨sl, e'⟩ := up _ o e (fun vs z => by rw [dd] at z; cases z)
    exact ⟨_, es, ep, e', dd, r⟩
  have n1 := nsup (nsup nI up) up1
  refine ⟨m, n1, fun h2 sb => ?_⟩
  -- the def's own state without the exception
  have I7 : Inv X pins σ H sI := I3.call' (ch := fp) I.os I.base I.hok I.bare fun b hb => ⟨(f3 b hb).2.2.2.1, (f3 b hb).2.1, (f3 b hb).2.2.2.2.1, (f3 b hb).2.2.2.2.2⟩
  have hCn : H ce.locals = none := I.free
  obtain ⟨f0, f1, f2, f4, f5, f6⟩ := I3.fpOk (H' := H) hC hCn
  have I8 : Inv X pins σ H { sI with heap := PySem.W.hideAll sI.heap [ce.locals], toks := sI.toks } := I7.turned (fun b o hb e => PySem.W.hideAll_get [ce.locals] e (fun z => hb (List.mem_singleton.mp z))) f0 f1 f4 f5 f6
  have held2 := held_but held n1 sb (fun b hb => frC b (by rw [hst]; exact hb))
  obtain ⟨k1, k2, k3, oe, vs, T, oT, ts, he, hz, hd, e1, hnT, hTe, hT, hdT, e3⟩ := id held2
  unfold PySem.passOn
  refine wpAny_bind (wpAny_field he hd e1 ?_)
  rw [if_neg (by simp)]
  refine wpAny_bind ?_
  rw [hcf, hf]
  refine HandSPX.setFlight_onZ held2 fun h3 held3 up3 => wpAny_throw (tk _ _ ?_)
  refine ⟨a, PySem.W.hideAll B [ce.locals], _, pins, σ, H, cls, d, rfl, I8, fun b o e hb => ?_, fun b o e hnf => ?_, .inr (.inr (by rw [hst]; exact held3)), na, os, ag, w⟩
  · have nb' : b ≠ ce.locals := fun z => by
      rw [z] at e
      have e : (PySem.W.hideAll sI.heap [ce.locals]).get? ce.locals = some o := e
      rw [PySem.W.hideAll_none [ce.locals] (List.mem_singleton.mpr rfl)] at e
      cases e
    exact PySem.W.hideAll_get [ce.locals] (nb b o (PySem.W.of_hideAll _ e) hb) (fun z => nb' (List.mem_singleton.mp z))
  · have nb' : b ≠ ce.locals := fun z => by
      rw [z] at e
      have e : (PySem.W.hideAll sI.heap [ce.locals]).get? ce.locals = some o := e
      rw [PySem.W.hideAll_none [ce.locals] (List.mem_singleton.mpr rfl)] at e
      cases e
    obtain ⟨sl, q1⟩ := up b o (PySem.W.of_hideAll _ e) hnf
    obtain ⟨sl1, q2⟩ := up1 b _ q1 hnf
    obtain ⟨sl2, q3⟩ := up3 b _ ((sb.2 b nb').trans q2) hnf
    exact ⟨sl2, q3⟩
theorem pe_lcE {X : Cx} {Wn : XK} {elt tg iter : Expr} {scope : Scope} {own : List (Str × Nat)} {pos : Pos} {wi : TI} {g : TG} {te : TE} (hst : X.stack = X.env :: X.outer) (hf : X.env.frame = some X.env.locals) (tk : Takes X (fun cls d _ H => Wn cls d H))
    (hc : X.calm = true) (hN : X.N.Nodup) (hi : PI X tg iter wi) (ok : BlkOk X.N X.env.scope scope own)
    (hg : ∀ (s : Shared) (H : Hp) (C : Addr) (cl : List (Str × Addr)) (fp : List Addr), PG (X.blk s H scope (compEnvC scope cl C X.env) fp) tg g)
    (he : ∀ (s : Shared) (H : Hp) (C : Addr) (cl : List (Str × Addr)) (fp : List Addr), PE (blkR X Wn s H scope (compEnvC scope cl C X.env) fp) elt te) (hs : ∀ x, foldedSetIterable iter X.env x = pure x) :
    PE X (.ListComp elt [⟨tg, iter, [], 0⟩] scope pos) (tLc wi g tYes te (own.map (·.2))) := by
  refine ⟨fun pins s σ H Q I h => ?_⟩
  rw [eval_ListComp]
  have hfree : ∀ y ∈ scope.names, y.2 = .free → ∃ c, X.env.cells.lookup y.1 = some c := fun y hy e => by
    rcases ok.free y hy e with k | k
    · exact I.ok.has _ (.inl k)
    · exact I.ok.has _ (.inr k)
  refine comp_er rfl hs (closure_ok hfree) ok.kind (fun y hy e => by rw [ok.uniq y hy, e]) (thn (hi.run pins s σ H _ I h) fun xv s1 hx => thn hx fun itv s2 h2 => ?_)
  obtain ⟨it, fp, tn, J, H2, e, I2, T, st2, f2, q⟩ := h2
  subst e
  refine wpAny_newObj_type (newEnv_comp ?_) (by show 0 ≤ sizeLine; decide)
  generalize hD : s2.heap.objs.size = D
  have hDn : H2 D = none := I2.hok.fresh (Nat.le_of_eq hD)
  obtain ⟨W, ⟨m0, w0⟩, turn⟩ := q D hDn
  generalize hs3 : ({ s2 with heap := s2.heap.push { cls := .type "list", data := .seq ([] : List Value).toArray } } : Shared) = s3
  have I3 : Inv X pins σ (upd H2 D (.lst [])) s3 := by
    rw [← hs3]
    refine I2.laid (t' := s2.toks) (fun b o e => Heap.get?_push_of_some _ e) (Nat.le_of_eq hD) ⟨Nat.zero_le _, [], 0, .nil, ?_⟩
    rw [← hD]
    exact Heap.get?_push_size _ rfl
  have h3 : s3.heap = s2.heap.push { cls := .type "list", data := .seq ([] : List Value).toArray } := by rw [← hs3]
  have f3 : ∀ b ∈ fp, FpOk X pins (upd H2 D (.lst [])) b ∧ b < s3.heap.objs.size := fun b hb => by
    obtain ⟨o, e, _⟩ := T.obj _ _ st2 b hb
    have hlt := Heap.lt_size e
    refine ⟨⟨?_, (f2 b hb).2⟩, by rw [h3, Heap.size_push]; exact Nat.lt_succ_of_lt hlt⟩
    rw [upd_ne (by rw [← hD]; exact Nat.ne_of_lt hlt)]
    exact (f2 b hb).1
  have st3 : tn 0 s3.heap := T.keep _ _ _ st2 fun b _ o e => by rw [h3]; exact Heap.get?_push_of_some _ e
  have I4 := block_start I3 ok hN f3
  have pg := hg s3 (upd H2 D (.lst [])) s3.heap.objs.size (cellsFrom (s3.heap.objs.size + 1) scope.names (cloFrom X.env.cells scope.names [])) fp
  have pe := he s3 (upd H2 D (.lst [])) s3.heap.objs.size (cellsFrom (s3.heap.objs.size + 1) scope.names (cloFrom X.env.cells scope.names [])) fp
  show codeAny _ _ (.compStart (.ListComp elt [⟨tg, iter, [], 0⟩] scope pos) 0 (.ref it) (.ref D) (compEnvC scope (cellsFrom (s3.heap.objs.size + 1) scope.names (cloFrom X.env.cells scope.names [])) s3.heap.objs.size X.env))
    (CompEnd (model X.prog X.w) X.A X.xe (EP X pins σ Q) (.ref D) (compEnvC scope (cellsFrom (s3.heap.objs.size + 1) scope.names (cloFrom X.env.cells scope.names [])) s3.heap.objs.size X.env)) { s3 with heap := pushCells (s3.heap.push { cls := .type "dict", data := .dict #[] }) scope.names }
  have nfp : ∀ b ∈ fp, (upd H2 D (.lst [])) b = none := fun b hb => (f3 b hb).1.1
  generalize hce : compEnvC scope (cellsFrom (s3.heap.objs.size + 1) scope.names (cloFrom X.env.cells scope.names [])) s3.heap.objs.size X.env = ce at I4 pg pe ⊢
  have cL : ce.locals = s3.heap.objs.size := by subst hce; rfl
  have cF : ce.frame = X.env.frame := by subst hce; rfl
  generalize hH3 : upd H2 D (.lst []) = H3 at I3 I4 pg pe w0 nfp f3
  generalize hs4 : ({ s3 with heap := pushCells (s3.heap.push { cls := .type "dict", data := .dict #[] }) scope.names } : Shared) = s4 at I4 ⊢
  have st4 : tn 0 s4.heap := T.keep _ _ _ st3 fun b _ o e => by rw [← hs4]; exact pushCells_keeps _ _ _ _ (Heap.get?_push_of_some _ e)
  have stat : ∀ {σ' : L2.St} {H' : Hp} {s' : Shared}, Inv (X.blk s3 H3 scope ce fp) [] σ' H' s' → (∀ b ∈ fp, H' b = none) → ∀ b ∈ fp, FpOk (X.blk s3 H3 scope ce fp) [] H' b := fun {σ' H' s'} I' hn b hb =>
    ⟨hn b hb, (I'.ok.exf b hb).1, I'.ok.exfs b hb, .inl hb, fun x c e => (I'.ok.exf b hb).2 x c e, fun p hp => absurd (show p ∈ ([] : List (Addr × Obj)) ++ [] from hp) (by simp)⟩
  have loop : codeAny (model X.prog X.w) X.A (.compLoop (.ListComp elt [⟨tg, iter, [], 0⟩] scope pos) 0 (.ref it) (.ref D) ce) (CompEnd (model X.prog X.w) X.A X.xe (EP X pins σ Q) (.ref D) ce) s4 := by
    refine compLoop_any (fun n s' => ∃ i H', Inv (X.blk s3 H3 scope ce fp) [] (L2.wipe σ (own.map (·.2))) H' s' ∧ tn i s'.heap ∧ (∀ b ∈ fp, H' b = none) ∧ W i n H') ?_ m0 ⟨0, H3, I4, st4, nfp, w0⟩
    rintro n s5 ⟨i, H5, I5, st5, n5, w5⟩
    rcases turn i n H5 w5 with ⟨stop, qq⟩ | ⟨go, Nx, hNx, step⟩
    · refine thnF (T.done (X.blk s3 H3 scope ce fp) rfl rfl rfl hc i [] s5 _ H5 (fun _ _ => False) I5 (stat I5 n5) st5 stop) fun r s6 ⟨hr, I6⟩ => ?_
      subst hr
      have I7 : Inv X pins σ H5 s6 := I3.call' (ch := fp) I6.os I6.base I6.hok I6.bare fun b hb => ⟨(f3 b hb).1.2.2.2.1, (f3 b hb).1.2.1, (f3 b hb).1.2.2.2.2.1, (f3 b hb).1.2.2.2.2.2⟩
      have nC : H5 s3.heap.objs.size = none := by
        have z : H5 ce.locals = none := I6.free
        rw [cL] at z
        exact z
      obtain ⟨m, hn, _⟩ := I6.loc
      obtain ⟨g0, g1, g2, g3, g4, g5⟩ := I3.fpOk (Nat.le_refl _) nC
      refine ⟨m, hn, fun h'' sb => ?_⟩
      rw [cL] at sb
      exact ⟨.ref D, H5, I7.turned (t' := s6.toks) (fun b o hb e => (sb.2 b hb).trans e) g0 g1 g3 g4 g5, rfl, qq⟩
    · refine thnF (T.item (X.blk s3 H3 scope ce fp) rfl rfl rfl hc i [] s5 _ H5 (fun _ _ => False) I5 (stat I5 n5) st5 go) fun r s6 ⟨u, hr, h6⟩ => ?_
      subst hr
      refine thnF h6 fun _ s7 ⟨x, H7, I7, r7, y7, st7, n7⟩ => ?_
      have I7' := I7.pinned (stat I7 n7) (T.obj _ _ st7)
      refine thnF (pg.run _ s7 _ H7 x u _ I7' r7 (step x H7 y7)) fun _ s8 ⟨σ8, H8, I8, hw8, q8⟩ => ?_
      refine wpAny_tests_nil ?_
      have q9 : te σ8 H8 _ := q8
      rw [if_pos rfl]
      refine wpAny_mono (pe.run _ s8 σ8 H8 _ (I8.wish _) q9) (fun z s10 ⟨yv, H10, I10, r10, acc, hD10, hz10, nx⟩ => ?_) (fun u' s' hx => blk_out hst hf cF tk I3 (Nat.le_of_eq cL.symm) (fun b hb => (f3 b hb).1) hx)
      refine app_ok (X := X.blk s3 H3 scope ce fp) I10.unwish hD10 hz10 r10 fun s11 I11 => ?_
      obtain ⟨m', hm, w'⟩ := hNx _ nx
      have pin' : ∀ b ∈ fp, ∀ o, s7.heap.get? b = some o → s11.heap.get? b = some o ∧ (upd H10 D (.lst (acc ++ [yv]))) b = none := fun b hb o e =>
        let z := I11.pin (b, o) (List.mem_append_right _ (List.mem_append_right _ (mem_pinsAt hb e)))
        ⟨z.1, z.2.1⟩
      have hl : (L2.wipe σ (own.map (·.2))).length = σ8.length := by rw [← hw8, wipe_length]
      refine ⟨m', hm, i + 1, _, (I11.unpinned (pins := [])).weak hl (fun j v e => ?_), T.keep _ _ _ st7 fun b hb o e => (pin' b hb o e).1, fun b hb => ?_, w'⟩
      · rw [← hw8] at e
        exact (wipe_some e).1
      · obtain ⟨o, e, _⟩ := T.obj _ _ st7 b hb
        exact (pin' b hb o e).2
  exact codeAny_compStart_list loop (T.self X.A 0 _ _ _ st4 loop)
def lcGoE (g : D → En → Option En) (m : EM) : List D → En → R (List D)
  | [], _ => .ok []
  | d :: r, ρ => match g d ρ with
    | none => .st
    | some ρ1 => (m ρ1).bind fun x => (lcGoE g m r ρ).bind fun xs => .ok (x :: xs)
def aLcE (vs : List Nat) (g : D → En → Option En) (mi m : EM) : AM := fun ρ => (mi ρ).bind fun d => (R.ofO (asL d)).bind fun ds => if ds.length ≤ sizeLine then lcGoE g m ds (wipeE vs ρ) else .st
section
variable {X : Cx} {Wx : WX} {Wn : XK} {elt tg iter : Expr} {scope : Scope} {own : List (Str × Nat)} {g : D → En → Option En} {m : EM} {pos : Pos}
def blkEr (X : Cx) (Wn : XK) (scope : Scope) (e : Expr) : TE := fun σ H Q => ∀ (s : Shared) (H0 : Hp) (C : Addr) (cl : List (Str × Addr)) (fp : List Addr), wpE (blkR X Wn s H0 scope (compEnvC scope cl C X.env) fp) e σ H Q
def erN (X : Cx) (Wn : XK) (B H : Hp) (x : Str) : Prop := ∀ cls B' H', X.mg x = some cls → Grow B H B' H' → Wn cls none H'
def LcE (X : Cx) (Wn : XK) (g : D → En → Option En) (m : EM) (vs : List Nat) (B1 H1 : Hp) (ρ : En) (P : List D → Prop) (ds : List D) (D' : Addr) (i : Nat) (H : Hp) : Prop :=
  ∃ B' acc es, Grow B1 H1 B' H ∧ H D' = some (.lst acc) ∧ B' D' = none ∧ IsL X.K X.mg B' acc es ∧ acc.length ≤ i ∧ Post (lcGoE g m (ds.drop i) (wipeE vs ρ)) (fun r => P (es ++ r)) (erN X Wn B1 H1)
theorem lcE_turn {W : Wd} {σ : L2.St} {B1 H1 H : Hp} {ρ : En} {P : List D → Prop} {ds : List D} {D' : Addr} {i : Nat} {d : D} {v : V}
    (hg : ∀ (s : Shared) (H : Hp) (C : Addr) (cl : List (Str × Addr)) (fp : List Addr), PGV (X.blk s H scope (compEnvC scope cl C X.env) fp) tg (own.map (·.2)) g)
    (he : ∀ (s : Shared) (H : Hp) (C : Addr) (cl : List (Str × Addr)) (fp : List Addr), PED (blkR X Wn s H scope (compEnvC scope cl C X.env) fp) (fun cls d _ H => Wn cls d H) elt m)
    (E : EnvOk X.K X.mg W B1 H1 σ ρ) (hD : H1 D' = none) (hd : ds[i]? = some d) (hl : ds.length ≤ sizeLine)
    (h : LcE X Wn g m (own.map (·.2)) B1 H1 ρ P ds D' i H) (hv : ∀ B', Same B1 B' → Is X.K X.mg B' v d) :
    blkG X scope tg v (L2.wipe σ (own.map (·.2))) H fun σ2 H2 => L2.wipe σ2 (own.map (·.2)) = L2.wipe σ (own.map (·.2)) ∧ tYes σ2 H2 fun b H3 =>
      if b = true then blkEr X Wn scope elt σ2 H3 fun y H4 => ∃ acc, H4 D' = some (.lst acc) ∧ acc.length < sizeLine ∧ LcE X Wn g m (own.map (·.2)) B1 H1 ρ P ds D' (i + 1) (upd H4 D' (.lst (acc ++ [y]))) else LcE X Wn g m (own.map (·.2)) B1 H1 ρ P ds D' (i + 1) H3 := by
  obtain ⟨B', acc, es, g1, hacc, nb, ra, la, q⟩ := h
  have hi : i < ds.length := (List.getElem?_eq_some_iff.mp hd).1
  rw [drop_get hd] at q
  unfold lcGoE at q
  intro s H0 C cl fp
  cases eg : g d (wipeE (own.map (·.2)) ρ) with
  | none => rw [eg] at q; exact q.elim
  | some ρ1 =>
    rw [eg] at q
    dsimp only at q
    have E1 := (E.grow g1).wipe (own.map (·.2))
    refine hg s H0 C cl fp W _ H B' _ ρ1 d v E1 (hv B' g1.bb) eg _ fun σ2 E2 l2 a2 => ⟨wipe_agree (l2.trans (wipe_length _ _)) a2, ?_⟩
    unfold tYes
    dsimp only
    rw [if_pos rfl]
    intro s4 H40 C4 cl4 fp4
    refine he s4 H40 C4 cl4 fp4 W σ2 H B' ρ1 E2 _ (q.bind.mono (fun x _ hx y B4 H4 g4 ry => ?_) fun x hx cls B4 H4 ec g4 => hx cls B4 H4 ec (g1.trans g4))
    have e4 : H4 D' = some (.lst acc) := g4.hh _ _ hacc
    have n4 : B4 D' = none := g4.sep _ _ hacc nt_lst nb
    have G := g1.trans g4
    refine ⟨acc, e4, Nat.lt_of_lt_of_le (Nat.lt_of_le_of_lt la hi) hl, B4, acc ++ [y], es ++ [x], ⟨G.bb, fun q u e => ?_, fun q u e => ?_, G.sep⟩, upd_same, n4, (ra.mono g4.bb).snoc ry, by rw [List.length_append, List.length_singleton]; omega, hx.bind.mono (fun r _ hr => ?_) fun _ z => z⟩
    · rw [upd_ne (ne_of_none e hD)]; exact G.hh q u e
    · rw [upd_ne (fun z => by rw [z, n4] at e; cases e)]; exact G.bh q u e
    · rw [List.append_assoc]
      exact hr
theorem lcE_start {B1 H1 : Hp} {ρ : En} {P : List D → Prop} {ds : List D} {D' : Addr} {vs : List Nat} (b : Same B1 H1) (hD : H1 D' = none) (q : Post (lcGoE g m ds (wipeE vs ρ)) P (erN X Wn B1 H1)) :
    LcE X Wn g m vs B1 H1 ρ P ds D' 0 (upd H1 D' (.lst [])) := by
  refine ⟨B1, [], [], Grow.own b hD, upd_same, ?_, .nil, Nat.le_refl _, q.mono (fun r _ h => h) fun _ z => z⟩
  cases e : B1 D' with
  | none => rfl
  | some o => rw [b _ o e] at hD; cases hD
theorem lcE_end {B H B1 H1 H' : Hp} {Q : VK} {ρ : En} {ds : List D} {D' : Addr} {vs : List Nat} {n : Nat} (g1 : Grow B H B1 H1) (hD : H1 D' = none) (hn : n = ds.length) (h : LcE X Wn g m vs B1 H1 ρ (okF X B H Q) ds D' n H') : Q (.ref D') H' := by
  subst hn
  obtain ⟨B', acc, es, g2, hacc, nb, ra, _, q⟩ := h
  rw [List.drop_length] at q
  have q' : okF X B H Q (es ++ []) := q
  rw [List.append_nil] at q'
  exact q' D' acc B' H' (g1.trans g2) (by
    cases e : H D' with
    | none => rfl
    | some o => rw [g1.hh _ o e] at hD; cases hD) hacc nb ra
theorem pfd_lcE {mi : EM} (hst : X.stack = X.env :: X.outer) (hf : X.env.frame = some X.env.locals) (tk : Takes X (fun cls d _ H => Wn cls d H)) (hc : X.calm = true) (hN : X.N.Nodup) (hi : PED X (fun cls d _ H => Wn cls d H) iter mi) (ok : BlkOk X.N X.env.scope scope own)
    (hg : ∀ (s : Shared) (H : Hp) (C : Addr) (cl : List (Str × Addr)) (fp : List Addr), PGV (X.blk s H scope (compEnvC scope cl C X.env) fp) tg (own.map (·.2)) g)
    (he : ∀ (s : Shared) (H : Hp) (C : Addr) (cl : List (Str × Addr)) (fp : List Addr), PED (blkR X Wn s H scope (compEnvC scope cl C X.env) fp) (fun cls d _ H => Wn cls d H) elt m)
    (hs : ∀ x, foldedSetIterable iter X.env x = pure x := by intro _; rfl) : PFD X (fun cls d _ H => Wn cls d H) (.ListComp elt [⟨tg, iter, [], 0⟩] scope pos) (aLcE (own.map (·.2)) g mi m) := by
  intro W σ H B ρ E Q h
  refine ⟨_, pe_lcE (wi := iList X.K (wpE X iter)) (g := blkG X scope tg) (te := blkEr X Wn scope elt) hst hf tk hc hN (pi_list pe_wp) ok (fun s H C cl fp => ⟨fun pins s' σ' H' v u Q I r q => pg_wp.run pins s' σ' H' v u Q I r (q s H C cl fp)⟩) (fun s H C cl fp => ⟨fun pins s' σ' H' Q I q => pe_wp.run pins s' σ' H' Q I (q s H C cl fp)⟩) hs, ?_⟩
  refine hi W σ H B ρ E _ ((show Post ((mi ρ).bind fun d => (R.ofO (asL d)).bind fun ds => if ds.length ≤ sizeLine then lcGoE g m ds (wipeE (own.map (·.2)) ρ) else .st) _ _ from h).bind.mono (fun d _ hd v B1 H1 g1 rv => ?_) fun _ z => z)
  obtain ⟨ds, ed, q1⟩ := hd.bind.ofO
  by_cases hl : ds.length ≤ sizeLine
  · rw [if_pos hl] at q1
    have q2 : Post (lcGoE g m ds (wipeE (own.map (·.2)) ρ)) (okF X B H Q) (erN X Wn B1 H1) := q1.mono (fun _ _ z => z) fun x hx cls B' H' ec g' => hx cls B' H' ec (g1.trans g')
    obtain ⟨a, xs, ev, hsq, r⟩ : ∃ a xs, v = V.ref a ∧ SqL X.K B1 a xs ∧ IsL X.K X.mg B1 xs ds := by
      cases d with
      | lst ds' =>
        cases ed
        obtain ⟨a, xs, ev, h1, r⟩ := rv.lst_inv
        exact ⟨a, xs, ev, SqL.of h1, r⟩
      | scr ns =>
        cases ed
        obtain ⟨a, ev, h1⟩ := rv.scr_inv
        exact ⟨a, _, ev, h1, IsL.ints ns⟩
      | _ => cases ed
    refine ⟨a, ev, ⟨xs, g1.bh.seq hsq⟩, fun D' hD => ?_⟩
    exact lc_list (K := X.K) (a := a) (xs := xs) (LcE X Wn g m (own.map (·.2)) B1 H1 ρ (okF X B H Q) ds D') (lcE_start g1.bh hD q2) (fun i H' _ ⟨B', _, _, g2, _⟩ => (g2.bb.trans g2.bh).seq hsq)
      (fun i x H' hx p => by
        obtain ⟨d', hd', r'⟩ := r.at hx
        exact lcE_turn hg he (E.grow g1) hD hd' hl p fun B' s => r'.mono s)
      (fun H' p => lcE_end g1 hD r.length p)
  · rw [if_neg hl] at q1
    exact q1.elim
end
end GD
namespace Law
open PySem PySem.Spec PyProof.Rows L2 GD
def l1_divisor : SM := sPar 0 1 (eVar 1) (e2 dMod (eVar 0) (eVar 1))
def b_divisor : SM := sSeq (sAsg 0 (eB dAbs (aCons (eVar 0) (aNil)))) (sSeq (sAsg 1 (eB dAbs (aCons (eVar 1) (aNil)))) (sSeq (sWhile (fuelI 1) (mB (e2 dGt (eVar 1) (eC (.int 0)))) (l1_divisor)) (sRet (eVar 0))))
def F_divisor : List D → R D := runF 2 b_divisor
def l1__law_cell : SM := sAsg 2 (e2 dAdd (e2 dMul (eVar 2) (eC (.int 1009))) (e2 dMod (eVar 3) (eC (.int 1000003))))
def b__law_cell : SM := sSeq (sIf (mB (e2 dLt (eVar 1) (eB dLen (aCons (eVar 0) (aNil))))) (sRet (e2 dMod (e2 dAt (eVar 0) (eVar 1)) (eC (.int 1000000000000000000000000000000000000000000000000000000000000)))) (sNil)) (sSeq (sAsg 2 (e2 dAdd (e2 dMul (eVar 1) (eC (.int 7907))) (eC (.int 3571)))) (sSeq (sFor (gNm 3) asL (eL (aCut (eVar 0) (oNone) (oSome (eC (.int 3))))) (l1__law_cell)) (sSeq (sAsg 2 (e2 dMod (eVar 2) (eC (.int 2147483647)))) (sRet (e2 dMod (e2 dMul (eVar 2) (eVar 2)) (eC (.int 2147483629)))))))
def F__law_cell : List D → R D := runF 4 b__law_cell
def b__law_whole : SM := sRet (eAnd (eB dIsi (aCons (eVar 0) (aCons (eC (.ty "int")) (aNil)))) (eNot (eB dIsi (aCons (eVar 0) (aCons (eC (.ty "bool")) (aNil))))))
def F__law_whole : List D → R D := runF 1 b__law_whole
def l1__law_common : SM := sPar 0 1 (e2 dMod (eVar 1) (eVar 0)) (eVar 0)
def b__law_common : SM := sSeq (sAsg 0 (eB dAbs (aCons (eVar 0) (aNil)))) (sSeq (sAsg 1 (eB dAbs (aCons (eVar 1) (aNil)))) (sSeq (sWhile (fuelI 0) (mB (e2 dGt (eVar 0) (eC (.int 0)))) (l1__law_common)) (sRet (eVar 1))))
def F__law_common : List D → R D := runF 2 b__law_common
end Law
namespace Law
open PySem PySem.Spec PyProof.Rows L2 GD
end Law
namespace Law
open PySem PySem.Spec PyProof.Rows L2 GD
end Law
namespace Law
open PySem PySem.Spec PyProof.Rows L2 GD
end Law
namespace Law
open PySem PySem.Spec PyProof.Rows L2 GD
def xCt14 : Str → Bool := fun y => (["NoText"] : List Str).contains y
def xLy14 : List Str := ["NoText"]
def xLc14 : List (Str × Str × Bool) := [("NoText", "Crowded", false), ("NoText", "Flat", false), ("NoText", "NoName", false), ("NoText", "NoNumber", false), ("NoText", "NoRow", false), ("NoText", "NoText", true), ("NoText", "Past", false), ("NoText", "Twice", false)]
def xLt14 : List (Str × String × Bool) := [("NoText", "ValueError", true)]
def b_read_number : SM := sSeq (sIf (mNot (mB (eB dIsi (aCons (eVar 0) (aCons (eC (.ty "str")) (aNil)))))) (sRaise "NoText") (sNil)) (sSeq (sAsg 1 (eVar 0)) (sSeq (sIf (mB (e2 dEq (eCut (eVar 0) (oNone) (oSome (eC (.int 1)))) (eC (.str "-")))) (sAsg 1 (eCut (eVar 0) (oSome (eC (.int 1))) (oNone))) (sNil)) (sSeq (sIf (mOr (mB (e2 dLt (eB dLen (aCons (eVar 1) (aNil))) (eC (.int 1)))) (mB (e2 dGt (eB dLen (aCons (eVar 1) (aNil))) (eC (.int 60))))) (sRaise "NoText") (sNil)) (sSeq (sIf (mNot (mB (eB dAll (aCons (eL (aLc asS [2] (gNm 2) (mYes) (eVar 1) (e2 dIn (eVar 2) (eC (.str "0123456789"))))) (aNil))))) (sRaise "NoText") (sNil)) (sSeq (sIf (mAnd (mB (e2 dEq (e2 dAt (eVar 1) (eC (.int 0))) (eC (.str "0")))) (mB (e2 dNe (eVar 0) (eC (.str "0"))))) (sRaise "NoText") (sNil)) (sRet (eB dIntS (aCons (eVar 0) (aNil)))))))))
def F_read_number : List D → R D := runF 3 b_read_number
def l1__law_number_due : SM := sSeq (sIf (mOr (mB (e2 dLt (eB dOrd (aCons (eVar 3) (aNil))) (eC (.int 48)))) (mB (e2 dGt (eB dOrd (aCons (eVar 3) (aNil))) (eC (.int 57))))) (sRet (eC .non)) (sNil)) (sAsg 2 (e2 dSub (e2 dAdd (e2 dMul (eC (.int 10)) (eVar 2)) (eB dOrd (aCons (eVar 3) (aNil)))) (eC (.int 48))))
def b__law_number_due : SM := sSeq (sAsg 1 (eVar 0)) (sSeq (sIf (mB (e2 dEq (eCut (eVar 0) (oNone) (oSome (eC (.int 1)))) (eC (.str "-")))) (sAsg 1 (eCut (eVar 0) (oSome (eC (.int 1))) (oNone))) (sNil)) (sSeq (sIf (mOr (mB (e2 dEq (eVar 1) (eC (.str "")))) (mOr (mB (e2 dGt (eB dLen (aCons (eVar 1) (aNil))) (eC (.int 60)))) (mAnd (mB (e2 dEq (e2 dAt (eVar 1) (eC (.int 0))) (eC (.str "0")))) (mB (e2 dNe (eVar 0) (eC (.str "0"))))))) (sRet (eC .non)) (sNil)) (sSeq (sAsg 2 (eC (.int 0))) (sSeq (sFor (gNm 3) asS (eVar 1) (l1__law_number_due)) (sSeq (sIf (mB (e2 dEq (eCut (eVar 0) (oNone) (oSome (eC (.int 1)))) (eC (.str "-")))) (sRet (e2 dSub (eC (.int 0)) (eVar 2))) (sNil)) (sRet (eVar 2)))))))
def F__law_number_due : List D → R D := runF 4 b__law_number_due
def l1__law_cut_at : SM := sIf (mB (e2 dEq (eVar 3) (eVar 1))) (sApp 2 (eC (.str ""))) (sPut 2 (eC (.int (-1))) (e2 dAdd (eOwnAt 2 (eC (.int (-1)))) (eVar 3)))
def b__law_cut_at : SM := sSeq (sOwn 2 (aLst (aCons (eC (.str "")) (aNil)))) (sSeq (sFor (gNm 3) asS (eVar 0) (l1__law_cut_at)) (sFrz 2 (sRet (eVar 2))))
def F__law_cut_at : List D → R D := runF 4 b__law_cut_at
def b__law_kind : SM := sSeq (sIf (mOr (mNot (mB (eB (dIsX xLy14 xLc14 xLt14) (aCons (eVar 0) (aCons (eC (.ty "ValueError")) (aNil)))))) (mNot (mB (eB (dIsX xLy14 xLc14 xLt14) (aCons (eVar 0) (aCons (eC (.cls "NoText")) (aNil))))))) (sRet (eC (.str "another"))) (sNil)) (sSeq (sIf (mB (eB (dIsX xLy14 xLc14 xLt14) (aCons (eVar 0) (aCons (eTup (aCons (eC (.cls "NoNumber")) (aCons (eC (.cls "Flat")) (aCons (eC (.cls "Crowded")) (aCons (eC (.cls "NoName")) (aCons (eC (.cls "Twice")) (aCons (eC (.cls "Past")) (aCons (eC (.cls "NoRow")) (aNil))))))))) (aNil))))) (sRet (eC (.str "another"))) (sNil)) (sRet (eC (.str "text"))))
def F__law_kind : List D → R D := runF 1 b__law_kind
end Law
namespace Law
open PySem PySem.Spec PyProof.Rows L2 GD
end Law
namespace Law
open PySem PySem.Spec PyProof.Rows L2 GD
def b_read_point : SM := sSeq (sIf (mNot (mB (eB dIsi (aCons (eVar 0) (aCons (eC (.ty "str")) (aNil)))))) (sRaise "NoText") (sNil)) (sSeq (sAsg 1 (eL (aSplit (eVar 0) (eC (.str ","))))) (sSeq (sIf (mB (e2 dNe (eB dLen (aCons (eVar 1) (aNil))) (eC (.int 2)))) (sRaise "NoText") (sNil)) (sRet (eTup (aCons (eF F_read_number (aCons (e2 dAt (eVar 1) (eC (.int 0))) (aNil))) (aCons (eF F_read_number (aCons (e2 dAt (eVar 1) (eC (.int 1))) (aNil))) (aNil)))))))
def F_read_point : List D → R D := runF 2 b_read_point
def b_read_points : SM := sSeq (sIf (mNot (mB (eB dIsi (aCons (eVar 0) (aCons (eC (.ty "str")) (aNil)))))) (sRaise "NoText") (sNil)) (sRet (eL (aLcE [1] (gNm 1) (eL (aSplit (eVar 0) (eC (.str ";")))) (eF F_read_point (aCons (eVar 1) (aNil))))))
def F_read_points : List D → R D := runF 2 b_read_points
def b__law_side : SM := sSeq (sIf (mB (e2 dGt (e2 dMod (eVar 0) (eC (.int 3))) (eC (.int 0)))) (sRet (e2 dSub (e2 dMod (e2 dDiv (eVar 0) (eC (.int 3))) (eC (.int 81))) (eC (.int 40)))) (sNil)) (sRet (e2 dSub (e2 dMod (e2 dDiv (eVar 0) (eC (.int 3))) (eC (.int 10000000000000000000000000000000000000000000000000000000000))) (eC (.int 5000000000000000000000000000000000000000000000000000000000))))
def F__law_side : List D → R D := runF 1 b__law_side
def b__law_point_text : SM := sRet (e2 dAdd (e2 dAdd (eB dStr (aCons (eF F__law_side (aCons (eVar 0) (aNil))) (aNil))) (eC (.str ","))) (eB dStr (aCons (eF F__law_side (aCons (e2 dDiv (eVar 0) (eC (.int 243))) (aNil))) (aNil))))
def F__law_point_text : List D → R D := runF 1 b__law_point_text
def b__law_point_due : SM := sSeq (sAsg 1 (eF F__law_cut_at (aCons (eVar 0) (aCons (eC (.str ",")) (aNil))))) (sSeq (sIf (mB (e2 dNe (eB dLen (aCons (eVar 1) (aNil))) (eC (.int 2)))) (sRet (eC .non)) (sNil)) (sSeq (sAsg 2 (eF F__law_number_due (aCons (e2 dAt (eVar 1) (eC (.int 0))) (aNil)))) (sSeq (sAsg 3 (eF F__law_number_due (aCons (e2 dAt (eVar 1) (eC (.int 1))) (aNil)))) (sSeq (sIf (mOr (mB (e2 dIs (eVar 2) (eC .non))) (mB (e2 dIs (eVar 3) (eC .non)))) (sRet (eC .non)) (sNil)) (sRet (eTup (aCons (eVar 2) (aCons (eVar 3) (aNil)))))))))
def F__law_point_due : List D → R D := runF 4 b__law_point_due
def b__law_points_due : SM := sSeq (sAsgL 1 (aLc asL [2] (gNm 2) (mYes) (eF F__law_cut_at (aCons (eVar 0) (aCons (eC (.str ";")) (aNil)))) (eF F__law_point_due (aCons (eVar 2) (aNil))))) (sSeq (sIf (mB (e2 dIn (eC .non) (eVar 1))) (sRet (eC .non)) (sNil)) (sRet (eVar 1)))
def F__law_points_due : List D → R D := runF 3 b__law_points_due
def b__law_spoiled : SM := sSeq (sAsg 2 (e2 dMod (eVar 1) (eC (.int 7)))) (sSeq (sAsg 3 (e2 dAt (eC (.str "0123456789-+, \n\t_a.;")) (e2 dMod (e2 dDiv (eVar 1) (eC (.int 7))) (eC (.int 20))))) (sSeq (sAsg 4 (e2 dMod (e2 dDiv (eVar 1) (eC (.int 140))) (eB dLen (aCons (eVar 0) (aNil))))) (sSeq (sIf (mB (e2 dEq (eVar 2) (eC (.int 1)))) (sSeq (sAsg 4 (e2 dMod (e2 dDiv (eVar 1) (eC (.int 140))) (e2 dAdd (eB dLen (aCons (eVar 0) (aNil))) (eC (.int 1))))) (sRet (e2 dAdd (e2 dAdd (eCut (eVar 0) (oNone) (oSome (eVar 4))) (eVar 3)) (eCut (eVar 0) (oSome (eVar 4)) (oNone))))) (sNil)) (sSeq (sIf (mB (e2 dEq (eVar 2) (eC (.int 2)))) (sRet (e2 dAdd (eCut (eVar 0) (oNone) (oSome (eVar 4))) (eCut (eVar 0) (oSome (e2 dAdd (eVar 4) (eC (.int 1)))) (oNone)))) (sNil)) (sSeq (sIf (mB (e2 dEq (eVar 2) (eC (.int 3)))) (sRet (e2 dAdd (e2 dAdd (eCut (eVar 0) (oNone) (oSome (eVar 4))) (e2 dAt (eVar 0) (eVar 4))) (eCut (eVar 0) (oSome (eVar 4)) (oNone)))) (sNil)) (sSeq (sIf (mB (e2 dEq (eVar 2) (eC (.int 4)))) (sRet (e2 dAdd (e2 dAdd (eCut (eVar 0) (oNone) (oSome (eVar 4))) (eVar 3)) (eCut (eVar 0) (oSome (e2 dAdd (eVar 4) (eC (.int 1)))) (oNone)))) (sNil)) (sSeq (sIf (mAnd (mB (e2 dEq (eVar 2) (eC (.int 5)))) (mB (e2 dEq (e2 dMod (e2 dDiv (eVar 1) (eC (.int 7))) (eC (.int 3))) (eC (.int 1))))) (sRet (e2 dAt (eL (aLst (aCons (eC .non) (aCons (eC (.int 7)) (aCons (eL (aLst (aCons (eVar 0) (aNil)))) (aCons (eTup (aCons (eVar 0) (aNil))) (aCons (eC (.bl true)) (aCons (eC (.dct [] [])) (aCons (eTup (aCons (eC (.int 1)) (aCons (eC (.int 2)) (aNil)))) (aNil)))))))))) (e2 dMod (e2 dDiv (eVar 1) (eC (.int 140))) (eC (.int 7))))) (sNil)) (sRet (eVar 0)))))))))
def F__law_spoiled : List D → R D := runF 5 b__law_spoiled
def b__law_point_word : SM := sSeq (sAsg 1 (eC .non)) (sSeq (sAsg 2 (eC .non)) (sSeq (sTry xCt14 3 1 (sAsg 2 (eF F_read_point (aCons (eVar 0) (aNil))))) (sSeq (sIf (mB (e2 dIsNot (eVar 1) (eC .non))) (sRet (eF F__law_kind (aCons (eVar 1) (aNil)))) (sNil)) (sRet (eL (aLst (aCons (eC (.str "told")) (aCons (eVar 2) (aNil)))))))))
def F__law_point_word : List D → R D := runF 4 b__law_point_word
def b__law_points_word : SM := sSeq (sAsg 1 (eC .non)) (sSeq (sAsg 2 (eC .non)) (sSeq (sTry xCt14 3 1 (sAsg 2 (eF F_read_points (aCons (eVar 0) (aNil))))) (sSeq (sIf (mB (e2 dIsNot (eVar 1) (eC .non))) (sRet (eF F__law_kind (aCons (eVar 1) (aNil)))) (sNil)) (sRet (eL (aLst (aCons (eC (.str "told")) (aCons (eVar 2) (aNil)))))))))
def F__law_points_word : List D → R D := runF 4 b__law_points_word
end Law
namespace Law
open PySem PySem.Spec PyProof.Rows L2 GD
local macro_rules | `(tactic| walk_at "gd") => `(tactic| simp (config := {failIfUnchanged := false}) only [runF, sSeq, sIf, sAsg, sRet, sRetN, sExpr, sNil, sRaise, sPar, sTgt, sFor, sForR, sWhile, eVar, eC, e1, e2, mB, aNil, aCons, eF, eB, eTup, aLst, eL, mNot, mAnd, mOr, eNot, eAnd, eOr, gNm, gTp, gsNil, gsCons, asL, asT,
  bind_ok, bind_er, bind_st, ofO_some, asB_bl, ofR_ok, ofR_er, dAdd_int, dSub_int, dNeg_int, dLt_int, dLe_int, dGt_int, dGe_int, dEq_int, dNe_int, dEq_bl, dMod_int, dDiv_lit, dMul_int, Int.reduceLT, Int.reduceEq, Int.cast_ofNat_Int, eq_self, line_le, Nat.reduceLeDiff,  dIs_non, dIsNot_non, dAt_t0, dAt_t1, dAt_t2, dAt_l0, dAt_l1, dAt_l2, dAt_l3, dAt_l4, dAt_l5, dAt_l6, dAt_l7, dAbs, dMax2, dMin2, dLen,
  List.getElem?_cons_zero, List.getElem?_cons_succ, List.set_cons_zero, List.set_cons_succ, List.map_cons, List.map_nil, List.length_cons, List.length_nil, List.cons_append, List.nil_append, List.replicate_succ, List.replicate_zero, Nat.reduceSub, Nat.reduceAdd,
  decide_eq_true_eq, Bool.not_eq_true', if_true, if_false, ite_true, ite_false, Option.bind_some, Option.map_some, Bool.not_true, Bool.not_false, reduceIte, Bool.false_eq_true, Bool.true_eq_false, decide_true, decide_false])
local macro_rules | `(tactic| walk_at "gdh") => `(tactic| simp (config := {failIfUnchanged := false}) only [runF, sSeq, sIf, sAsg, sRet, sRetN, sExpr, sNil, sRaise, sPar, sTgt, sFor, sForR, sWhile, eVar, eC, e1, e2, mB, aNil, aCons, eF, eB, eTup, aLst, eL, mNot, mAnd, mOr, eNot, eAnd, eOr, gNm, gTp, gsNil, gsCons, asL, asT,
  bind_ok, bind_er, bind_st, ofO_some, asB_bl, ofR_ok, ofR_er, dAdd_int, dSub_int, dNeg_int, dLt_int, dLe_int, dGt_int, dGe_int, dEq_int, dNe_int, dEq_bl, dMod_int, dDiv_lit, dMul_int, Int.reduceLT, Int.reduceEq, Int.cast_ofNat_Int, eq_self, line_le, Nat.reduceLeDiff,  dIs_non, dIsNot_non, dAt_t0, dAt_t1, dAt_t2, dAt_l0, dAt_l1, dAt_l2, dAt_l3, dAt_l4, dAt_l5, dAt_l6, dAt_l7, dAbs, dMax2, dMin2, dLen,
  List.getElem?_cons_zero, List.getElem?_cons_succ, List.set_cons_zero, List.set_cons_succ, List.map_cons, List.map_nil, List.length_cons, List.length_nil, List.cons_append, List.nil_append, List.replicate_succ, List.replicate_zero, Nat.reduceSub, Nat.reduceAdd,
  decide_eq_true_eq, Bool.not_eq_true', if_true, if_false, ite_true, ite_false, Option.bind_some, Option.map_some, Bool.not_true, Bool.not_false, reduceIte, Bool.false_eq_true, Bool.true_eq_false, decide_true, decide_false, *])
theorem while_divisor : ∀ (n : Nat) (a b : Nat), b < n → whileN (mB (e2 dGt (eVar 1) (eC (.int 0)))) l1_divisor n [.v (.int a), .v (.int b)] = .nx [.v (.int (Nat.gcd a b)), .v (.int 0)]
  | 0, a, b, h => absurd h (by omega)
  | n + 1, a, b, h => by
    unfold whileN
    walk_at "gd"
    by_cases hb : (0 : Int) < (b : Int)
    · rw [if_pos hb]
      unfold l1_divisor
      walk_at "gd"
      rw [dMod_int hb]
      walk_at "gd"
      have e : ((a : Int) % (b : Int)) = ((a % b : Nat) : Int) := by simp
      have w := while_divisor n b (a % b) (by have := Nat.mod_lt a (show 0 < b by omega); omega)
      unfold l1_divisor at w
      rw [e, w, Nat.gcd_comm b (a % b), ← Nat.gcd_rec b a, Nat.gcd_comm b a]
    · rw [if_neg hb]
      have : b = 0 := by omega
      subst this
      simp
theorem divisor_eq (a b : Int) : F_divisor [.int a, .int b] = .ok (.int (Int.gcd a b)) := by
  unfold F_divisor b_divisor
  walk_at "gd"
  unfold fuelI
  walk_at "gd"
  rw [while_divisor _ _ _ (by simp)]
  walk_at "gd"
  rfl
theorem while_common : ∀ (n : Nat) (a b : Nat), a < n → whileN (mB (e2 dGt (eVar 0) (eC (.int 0)))) l1__law_common n [.v (.int a), .v (.int b)] = .nx [.v (.int 0), .v (.int (Nat.gcd a b))]
  | 0, a, b, h => absurd h (by omega)
  | n + 1, a, b, h => by
    unfold whileN
    walk_at "gd"
    by_cases hb : (0 : Int) < (a : Int)
    · rw [if_pos hb]
      unfold l1__law_common
      walk_at "gd"
      rw [dMod_int hb]
      walk_at "gd"
      have e : ((b : Int) % (a : Int)) = ((b % a : Nat) : Int) := by simp
      have w := while_common n (b % a) a (by have := Nat.mod_lt b (show 0 < a by omega); omega)
      unfold l1__law_common at w
      rw [e, w, Nat.gcd_rec a b]
    · rw [if_neg hb]
      have : a = 0 := by omega
      subst this
      simp
theorem common_eq (a b : Int) : F__law_common [.int a, .int b] = .ok (.int (Int.gcd a b)) := by
  unfold F__law_common b__law_common
  walk_at "gd"
  unfold fuelI
  walk_at "gd"
  rw [while_common _ _ _ (by simp)]
  walk_at "gd"
  rfl
theorem whole_int (i : Int) : F__law_whole [.int i] = .ok (.bl true) := by
  unfold F__law_whole b__law_whole
  walk_at "gd"
  rw [isi_int _ _ _ _ rfl kb_int_int, isi_int _ _ _ _ rfl kb_int_bool]
  walk_at "gd"
theorem cell_loop (ns : List Int) (k : D) : ∀ (l : List Int) (n : Nat) (x : Int) (y : Sl), n + 12 * l.length < 900000 → Bd n x → 32 ≤ n →
    ∃ x' y', loop (gNm 3) l1__law_cell (l.map D.int) [.v (.scr ns), .v k, .v (.int x), y] = .nx [.v (.scr ns), .v k, .v (.int x'), y'] ∧ Bd (n + 12 * l.length) x'
  | [], n, x, y, _, h, _ => ⟨x, y, rfl, h⟩
  | z :: l, n, x, y, hn, h, h32 => by
    have b1 : Bd 10 1009 := by decide
    have b2 : Bd 20 (z % 1000003) := Bd.of_range (Int.emod_nonneg _ (by decide)) (Int.lt_trans (Int.emod_lt_of_pos z (by decide)) (by decide))
    have b3 : Bd (n + 11) (x * 1009 + z % 1000003) := ((h.mul b1).add b2).mono (by omega)
    obtain ⟨x', y', e, hb⟩ := cell_loop ns k l (n + 12) (x * 1009 + z % 1000003) (.v (.int z)) (by rw [List.length_cons] at hn; omega) (b3.mono (by omega)) (by omega)
    refine ⟨x', y', ?_, hb.mono (by rw [List.length_cons]; omega)⟩
    rw [List.map_cons, loop_cons (ρ1 := [.v (.scr ns), .v k, .v (.int x), .v (.int z)]) (ρ2 := [.v (.scr ns), .v k, .v (.int (x * 1009 + z % 1000003)), .v (.int z)]) rfl ?_]
    · exact e
    · unfold l1__law_cell
      walk_at "gd"
      rw [dMul_int (mok h b1 (by omega))]
      walk_at "gd"
theorem cell_spec (ns : List Int) (k : Int) (h0 : 0 ≤ k) (hk : k < 1000) : ∃ c : Int, 0 ≤ c ∧ c < 10 ^ 60 ∧ F__law_cell [.scr ns, .int k] = .ok (.int c) := by
  obtain ⟨j, rfl⟩ := Int.eq_ofNat_of_zero_le h0
  unfold F__law_cell b__law_cell
  by_cases hl : (j : Int) < ns.length
  · have hj : j < ns.length := by omega
    refine ⟨ns[j] % 10 ^ 60, Int.emod_nonneg _ (by decide), Int.emod_lt_of_pos _ (by decide), ?_⟩
    walk_at "gd"
    rw [if_pos hl, dAt_scr (List.getElem?_eq_getElem hj)]
    walk_at "gd"
    rfl
  · walk_at "gd"
    rw [if_neg hl]
    walk_at "gd"
    rw [dMul_int (mok (Bd.of_range (n := 10) h0 (by omega)) (show Bd 13 7907 by decide) (by decide))]
    walk_at "gd"
    simp only [aCut, oNone, oSome, eVar, eC]
    walk_at "gd"
    rw [cutL_ints]
    have b0 : Bd 32 ((j : Int) * 7907 + 3571) := Bd.of_range (by omega) (by omega)
    have hl3 := cutL_len ns 3
    obtain ⟨x', y', e, hb⟩ := cell_loop ns (.int j) (cutL ns none (some 3)) 32 _ .un (by have : (cutL ns none (some 3)).length ≤ 3 := hl3; omega) b0 (by decide)
    rw [e]
    walk_at "gd"
    have b1 : Bd 31 (x' % 2147483647) := Bd.of_range (Int.emod_nonneg _ (by decide)) (Int.lt_trans (Int.emod_lt_of_pos x' (by decide)) (by decide))
    rw [dMul_int (mok b1 b1 (by decide))]
    walk_at "gd"
    exact ⟨_, Int.emod_nonneg _ (by decide), Int.lt_trans (Int.emod_lt_of_pos _ (by decide)) (by decide), rfl⟩
end Law
namespace Law
open PySem PySem.Spec PyProof.Rows L2 GD
local macro_rules | `(tactic| walk_at "gd") => `(tactic| simp (config := {failIfUnchanged := false}) only [runF, sSeq, sIf, sAsg, sRet, sRetN, sExpr, sNil, sRaise, sPar, sTgt, sFor, sForR, sWhile, eVar, eC, e1, e2, mB, aNil, aCons, eF, eB, eTup, aLst, eL, mNot, mAnd, mOr, eNot, eAnd, eOr, gNm, gTp, gsNil, gsCons, asL, asT,
  bind_ok, bind_er, bind_st, ofO_some, asB_bl, ofR_ok, ofR_er, dAdd_int, dSub_int, dNeg_int, dLt_int, dLe_int, dGt_int, dGe_int, dEq_int, dNe_int, dEq_bl, dMod_int, dDiv_lit, dMul_int, Int.reduceLT, Int.reduceEq, Int.cast_ofNat_Int, eq_self, line_le, Nat.reduceLeDiff,  dIs_non, dIsNot_non, dAt_t0, dAt_t1, dAt_t2, dAt_l0, dAt_l1, dAt_l2, dAt_l3, dAt_l4, dAt_l5, dAt_l6, dAt_l7, dAbs, dMax2, dMin2, dLen,
  List.getElem?_cons_zero, List.getElem?_cons_succ, List.set_cons_zero, List.set_cons_succ, List.map_cons, List.map_nil, List.length_cons, List.length_nil, List.cons_append, List.nil_append, List.replicate_succ, List.replicate_zero, Nat.reduceSub, Nat.reduceAdd,
  decide_eq_true_eq, Bool.not_eq_true', if_true, if_false, ite_true, ite_false, Option.bind_some, Option.map_some, Bool.not_true, Bool.not_false, reduceIte, Bool.false_eq_true, Bool.true_eq_false, decide_true, decide_false])
local macro_rules | `(tactic| walk_at "gdh") => `(tactic| simp (config := {failIfUnchanged := false}) only [runF, sSeq, sIf, sAsg, sRet, sRetN, sExpr, sNil, sRaise, sPar, sTgt, sFor, sForR, sWhile, eVar, eC, e1, e2, mB, aNil, aCons, eF, eB, eTup, aLst, eL, mNot, mAnd, mOr, eNot, eAnd, eOr, gNm, gTp, gsNil, gsCons, asL, asT,
  bind_ok, bind_er, bind_st, ofO_some, asB_bl, ofR_ok, ofR_er, dAdd_int, dSub_int, dNeg_int, dLt_int, dLe_int, dGt_int, dGe_int, dEq_int, dNe_int, dEq_bl, dMod_int, dDiv_lit, dMul_int, Int.reduceLT, Int.reduceEq, Int.cast_ofNat_Int, eq_self, line_le, Nat.reduceLeDiff,  dIs_non, dIsNot_non, dAt_t0, dAt_t1, dAt_t2, dAt_l0, dAt_l1, dAt_l2, dAt_l3, dAt_l4, dAt_l5, dAt_l6, dAt_l7, dAbs, dMax2, dMin2, dLen,
  List.getElem?_cons_zero, List.getElem?_cons_succ, List.set_cons_zero, List.set_cons_succ, List.map_cons, List.map_nil, List.length_cons, List.length_nil, List.cons_append, List.nil_append, List.replicate_succ, List.replicate_zero, Nat.reduceSub, Nat.reduceAdd,
  decide_eq_true_eq, Bool.not_eq_true', if_true, if_false, ite_true, ite_false, Option.bind_some, Option.map_some, Bool.not_true, Bool.not_false, reduceIte, Bool.false_eq_true, Bool.true_eq_false, decide_true, decide_false, *])
def fT (t b : Int) : Int := (if b < 0 then -t else t) / (Int.gcd t b : Int)
def fB (t b : Int) : Int := (b.natAbs : Int) / (Int.gcd t b : Int)
theorem fT_le (t b : Int) : (fT t b).natAbs ≤ t.natAbs := by
  unfold fT
  have := Int.natAbs_ediv_le_natAbs (if b < 0 then -t else t) (Int.gcd t b)
  split at this <;> split <;> omega
theorem fB_le (t b : Int) : (fB t b).natAbs ≤ b.natAbs := by
  unfold fB
  have := Int.natAbs_ediv_le_natAbs (b.natAbs : Int) (Int.gcd t b)
  omega
theorem bd_fT {n : Nat} {t b : Int} (h : Bd n t) : Bd n (fT t b) := h.of_le (fT_le t b)
theorem bd_fB {n : Nat} {t b : Int} (h : Bd n b) : Bd n (fB t b) := h.of_le (fB_le t b)
def fr (t b : Int) : D := .tup [.int (fT t b), .int (fB t b)]
def D2 (x y : Int) : D := .tup [.int x, .int y]
def D3 (x y z : Int) : D := .tup [.int x, .int y, .int z]
end Law
namespace Law
open PySem PySem.Spec PyProof.Rows L2 GD
local macro_rules | `(tactic| walk_at "gd") => `(tactic| simp (config := {failIfUnchanged := false}) only [runF, sSeq, sIf, sAsg, sRet, sRetN, sExpr, sNil, sRaise, sPar, sTgt, sFor, sForR, sWhile, eVar, eC, e1, e2, mB, aNil, aCons, eF, eB, eTup, aLst, eL, mNot, mAnd, mOr, eNot, eAnd, eOr, gNm, gTp, gsNil, gsCons, asL, asT,
  bind_ok, bind_er, bind_st, ofO_some, asB_bl, ofR_ok, ofR_er, dAdd_int, dSub_int, dNeg_int, dLt_int, dLe_int, dGt_int, dGe_int, dEq_int, dNe_int, dEq_bl, dMod_int, dDiv_lit, dMul_int, Int.reduceLT, Int.reduceEq, Int.cast_ofNat_Int, eq_self, line_le, Nat.reduceLeDiff,  dIs_non, dIsNot_non, dAt_t0, dAt_t1, dAt_t2, dAt_l0, dAt_l1, dAt_l2, dAt_l3, dAt_l4, dAt_l5, dAt_l6, dAt_l7, dAbs, dMax2, dMin2, dLen,
  List.getElem?_cons_zero, List.getElem?_cons_succ, List.set_cons_zero, List.set_cons_succ, List.map_cons, List.map_nil, List.length_cons, List.length_nil, List.cons_append, List.nil_append, List.replicate_succ, List.replicate_zero, Nat.reduceSub, Nat.reduceAdd,
  decide_eq_true_eq, Bool.not_eq_true', if_true, if_false, ite_true, ite_false, Option.bind_some, Option.map_some, Bool.not_true, Bool.not_false, reduceIte, Bool.false_eq_true, Bool.true_eq_false, decide_true, decide_false])
local macro_rules | `(tactic| walk_at "gdh") => `(tactic| simp (config := {failIfUnchanged := false}) only [runF, sSeq, sIf, sAsg, sRet, sRetN, sExpr, sNil, sRaise, sPar, sTgt, sFor, sForR, sWhile, eVar, eC, e1, e2, mB, aNil, aCons, eF, eB, eTup, aLst, eL, mNot, mAnd, mOr, eNot, eAnd, eOr, gNm, gTp, gsNil, gsCons, asL, asT,
  bind_ok, bind_er, bind_st, ofO_some, asB_bl, ofR_ok, ofR_er, dAdd_int, dSub_int, dNeg_int, dLt_int, dLe_int, dGt_int, dGe_int, dEq_int, dNe_int, dEq_bl, dMod_int, dDiv_lit, dMul_int, Int.reduceLT, Int.reduceEq, Int.cast_ofNat_Int, eq_self, line_le, Nat.reduceLeDiff,  dIs_non, dIsNot_non, dAt_t0, dAt_t1, dAt_t2, dAt_l0, dAt_l1, dAt_l2, dAt_l3, dAt_l4, dAt_l5, dAt_l6, dAt_l7, dAbs, dMax2, dMin2, dLen,
  List.getElem?_cons_zero, List.getElem?_cons_succ, List.set_cons_zero, List.set_cons_succ, List.map_cons, List.map_nil, List.length_cons, List.length_nil, List.cons_append, List.nil_append, List.replicate_succ, List.replicate_zero, Nat.reduceSub, Nat.reduceAdd,
  decide_eq_true_eq, Bool.not_eq_true', if_true, if_false, ite_true, ite_false, Option.bind_some, Option.map_some, Bool.not_true, Bool.not_false, reduceIte, Bool.false_eq_true, Bool.true_eq_false, decide_true, decide_false, *])
def g3 (x y w : Int) : Nat := Int.gcd (Int.gcd x y : Int) w
def sg (w t : Int) : Int := if w < 0 then -t else t
def sX (x y w : Int) : Int := sg w x / (g3 x y w : Int)
def sY (x y w : Int) : Int := sg w y / (g3 x y w : Int)
def sW (x y w : Int) : Int := (w.natAbs : Int) / (g3 x y w : Int)
theorem sg_abs (w t : Int) : (sg w t).natAbs = t.natAbs := by
  unfold sg
  split <;> omega
theorem bd_sX {n : Nat} {x y w : Int} (h : Bd n x) : Bd n (sX x y w) := h.of_le (by have := Int.natAbs_ediv_le_natAbs (sg w x) (g3 x y w); rw [sg_abs] at this; exact this)
theorem bd_sY {n : Nat} {x y w : Int} (h : Bd n y) : Bd n (sY x y w) := h.of_le (by have := Int.natAbs_ediv_le_natAbs (sg w y) (g3 x y w); rw [sg_abs] at this; exact this)
theorem bd_sW {n : Nat} {x y w : Int} (h : Bd n w) : Bd n (sW x y w) := h.of_le (by have := Int.natAbs_ediv_le_natAbs (w.natAbs : Int) (g3 x y w); exact this)
def sp (x y w : Int) : D := D3 (sX x y w) (sY x y w) (sW x y w)
end Law
namespace Hl
open GD
abbrev lp (x y : Int) : Prop := 0 < x ∨ (x = 0 ∧ 0 < y)
def bnd (a b c : Pt) : Int := (b.1 - a.1) * (c.2 - a.2) - (b.2 - a.2) * (c.1 - a.1)
def Cv : List Pt → Prop
  | a :: b :: c :: r => 0 < bnd c b a ∧ Cv (b :: c :: r)
  | _ => True
def Lf (q : Pt) : List Pt → Prop
  | a :: b :: r => 0 ≤ bnd b a q ∧ Lf q (b :: r)
  | _ => True
abbrev Dc (st : List Pt) : Prop := st.Pairwise fun a b => lx b a
end Hl
namespace Hl
open GD
structure Chn (done st : List Pt) : Prop where
  dc : Dc st
  cv : Cv st
  lf : ∀ q ∈ done, Lf q st
  mem : ∀ x ∈ st, x ∈ done
  top : st.head? = done.getLast?
  bot : st.getLast? = done.head?
theorem Chn.nil : Chn [] [] := ⟨.nil, trivial, fun q h => absurd h (by simp), fun x h => absurd h (by simp), rfl, rfl⟩
structure Chr (ps st : List Pt) : Prop where
  dc : st.Pairwise lx
  cv : Cv st
  lf : ∀ q ∈ ps, Lf q st
  mem : ∀ x ∈ st, x ∈ ps
  top : st.head? = ps.head?
  bot : st.getLast? = ps.getLast?
  mid : ∀ (p z : Pt) (m : List Pt), st = p :: m ++ [z] → ∀ x ∈ m, 0 < bnd z x p
end Hl
namespace Hl
open GD
def Col (ps : List Pt) : Prop := ∀ a ∈ ps, ∀ b ∈ ps, ∀ c ∈ ps, bnd a b c = 0
structure Poly (ps C : List Pt) : Prop where
  len : 3 ≤ C.length
  sub : ∀ x ∈ C, x ∈ ps
  nd : C.Nodup
  fst : C.head? = ps.head?
  edge : ∀ q ∈ ps, Lf q (C ++ C.take 1).reverse
  turn : Cv (C ++ C.take 2).reverse
theorem shapes (ps : List Pt) : ps = [] ∨ (∃ a, ps = [a]) ∨ ∃ F L r, ps = F :: (r ++ [L]) := by
  cases ps with
  | nil => exact .inl rfl
  | cons a r =>
    rcases List.eq_nil_or_concat r with h | ⟨r', b, h⟩
    · subst h; exact .inr (.inl ⟨a, rfl⟩)
    · subst h
      refine .inr (.inr ⟨a, b, r', ?_⟩)
      simp
end Hl
namespace Law
open PySem PySem.Spec PyProof.Rows L2 GD Hl
local macro_rules | `(tactic| walk_at "gd") => `(tactic| simp (config := {failIfUnchanged := false}) only [runF, sSeq, sIf, sAsg, sRet, sRetN, sExpr, sNil, sRaise, sPar, sTgt, sFor, sForR, sWhile, eVar, eC, e1, e2, mB, aNil, aCons, eF, eB, eTup, aLst, eL, mNot, mAnd, mOr, eNot, eAnd, eOr, gNm, gTp, gsNil, gsCons, asL, asT,
  bind_ok, bind_er, bind_st, ofO_some, asB_bl, ofR_ok, ofR_er, dAdd_int, dSub_int, dNeg_int, dLt_int, dLe_int, dGt_int, dGe_int, dEq_int, dNe_int, dEq_bl, dMod_int, dDiv_lit, dMul_int, Int.reduceLT, Int.reduceEq, Int.cast_ofNat_Int, eq_self, line_le, Nat.reduceLeDiff,  dIs_non, dIsNot_non, dAt_t0, dAt_t1, dAt_t2, dAt_l0, dAt_l1, dAt_l2, dAt_l3, dAt_l4, dAt_l5, dAt_l6, dAt_l7, dAbs, dMax2, dMin2, dLen,
  List.getElem?_cons_zero, List.getElem?_cons_succ, List.set_cons_zero, List.set_cons_succ, List.map_cons, List.map_nil, List.length_cons, List.length_nil, List.cons_append, List.nil_append, List.replicate_succ, List.replicate_zero, Nat.reduceSub, Nat.reduceAdd,
  decide_eq_true_eq, Bool.not_eq_true', if_true, if_false, ite_true, ite_false, Option.bind_some, Option.map_some, Bool.not_true, Bool.not_false, reduceIte, Bool.false_eq_true, Bool.true_eq_false, decide_true, decide_false])
local macro_rules | `(tactic| walk_at "gdh") => `(tactic| simp (config := {failIfUnchanged := false}) only [runF, sSeq, sIf, sAsg, sRet, sRetN, sExpr, sNil, sRaise, sPar, sTgt, sFor, sForR, sWhile, eVar, eC, e1, e2, mB, aNil, aCons, eF, eB, eTup, aLst, eL, mNot, mAnd, mOr, eNot, eAnd, eOr, gNm, gTp, gsNil, gsCons, asL, asT,
  bind_ok, bind_er, bind_st, ofO_some, asB_bl, ofR_ok, ofR_er, dAdd_int, dSub_int, dNeg_int, dLt_int, dLe_int, dGt_int, dGe_int, dEq_int, dNe_int, dEq_bl, dMod_int, dDiv_lit, dMul_int, Int.reduceLT, Int.reduceEq, Int.cast_ofNat_Int, eq_self, line_le, Nat.reduceLeDiff,  dIs_non, dIsNot_non, dAt_t0, dAt_t1, dAt_t2, dAt_l0, dAt_l1, dAt_l2, dAt_l3, dAt_l4, dAt_l5, dAt_l6, dAt_l7, dAbs, dMax2, dMin2, dLen,
  List.getElem?_cons_zero, List.getElem?_cons_succ, List.set_cons_zero, List.set_cons_succ, List.map_cons, List.map_nil, List.length_cons, List.length_nil, List.cons_append, List.nil_append, List.replicate_succ, List.replicate_zero, Nat.reduceSub, Nat.reduceAdd,
  decide_eq_true_eq, Bool.not_eq_true', if_true, if_false, ite_true, ite_false, Option.bind_some, Option.map_some, Bool.not_true, Bool.not_false, reduceIte, Bool.false_eq_true, Bool.true_eq_false, decide_true, decide_false, *])
def BdP (n : Nat) (p : Pt) : Prop := Bd n p.1 ∧ Bd n p.2
theorem dAt_p0 (p : Pt) : dAt (D2p p) (.int 0) = some (.int p.1) := rfl
theorem dAt_p1 (p : Pt) : dAt (D2p p) (.int 1) = some (.int p.2) := rfl
end Law
namespace Law
open PySem PySem.Spec PyProof.Rows L2 GD Hl
local macro_rules | `(tactic| walk_at "gd") => `(tactic| simp (config := {failIfUnchanged := false}) only [runF, sSeq, sIf, sAsg, sRet, sRetN, sExpr, sNil, sRaise, sPar, sTgt, sFor, sForR, sWhile, eVar, eC, e1, e2, mB, aNil, aCons, eF, eB, eTup, aLst, eL, mNot, mAnd, mOr, eNot, eAnd, eOr, gNm, gTp, gsNil, gsCons, asL, asT,
  bind_ok, bind_er, bind_st, ofO_some, asB_bl, ofR_ok, ofR_er, dAdd_int, dSub_int, dNeg_int, dLt_int, dLe_int, dGt_int, dGe_int, dEq_int, dNe_int, dEq_bl, dMod_int, dDiv_lit, dMul_int, Int.reduceLT, Int.reduceEq, Int.cast_ofNat_Int, eq_self, line_le, Nat.reduceLeDiff,  dIs_non, dIsNot_non, dAt_t0, dAt_t1, dAt_t2, dAt_l0, dAt_l1, dAt_l2, dAt_l3, dAt_l4, dAt_l5, dAt_l6, dAt_l7, dAbs, dMax2, dMin2, dLen,
  List.getElem?_cons_zero, List.getElem?_cons_succ, List.set_cons_zero, List.set_cons_succ, List.map_cons, List.map_nil, List.length_cons, List.length_nil, List.cons_append, List.nil_append, List.replicate_succ, List.replicate_zero, Nat.reduceSub, Nat.reduceAdd,
  decide_eq_true_eq, Bool.not_eq_true', if_true, if_false, ite_true, ite_false, Option.bind_some, Option.map_some, Bool.not_true, Bool.not_false, reduceIte, Bool.false_eq_true, Bool.true_eq_false, decide_true, decide_false])
local macro_rules | `(tactic| walk_at "gdh") => `(tactic| simp (config := {failIfUnchanged := false}) only [runF, sSeq, sIf, sAsg, sRet, sRetN, sExpr, sNil, sRaise, sPar, sTgt, sFor, sForR, sWhile, eVar, eC, e1, e2, mB, aNil, aCons, eF, eB, eTup, aLst, eL, mNot, mAnd, mOr, eNot, eAnd, eOr, gNm, gTp, gsNil, gsCons, asL, asT,
  bind_ok, bind_er, bind_st, ofO_some, asB_bl, ofR_ok, ofR_er, dAdd_int, dSub_int, dNeg_int, dLt_int, dLe_int, dGt_int, dGe_int, dEq_int, dNe_int, dEq_bl, dMod_int, dDiv_lit, dMul_int, Int.reduceLT, Int.reduceEq, Int.cast_ofNat_Int, eq_self, line_le, Nat.reduceLeDiff,  dIs_non, dIsNot_non, dAt_t0, dAt_t1, dAt_t2, dAt_l0, dAt_l1, dAt_l2, dAt_l3, dAt_l4, dAt_l5, dAt_l6, dAt_l7, dAbs, dMax2, dMin2, dLen,
  List.getElem?_cons_zero, List.getElem?_cons_succ, List.set_cons_zero, List.set_cons_succ, List.map_cons, List.map_nil, List.length_cons, List.length_nil, List.cons_append, List.nil_append, List.replicate_succ, List.replicate_zero, Nat.reduceSub, Nat.reduceAdd,
  decide_eq_true_eq, Bool.not_eq_true', if_true, if_false, ite_true, ite_false, Option.bind_some, Option.map_some, Bool.not_true, Bool.not_false, reduceIte, Bool.false_eq_true, Bool.true_eq_false, decide_true, decide_false, *])
theorem lcc {g : D → En → Option En} {m : EM} {ρ ρ1 : En} {d x : D} {r xs : List D} (h1 : g d ρ = some ρ1) (h2 : m ρ1 = .ok x) (h3 : lcGo g mYes m r ρ = .ok xs) : lcGo g mYes m (d :: r) ρ = .ok (x :: xs) := by
  unfold lcGo
  rw [h1]
  show (noEr (R.ok true)).bind (fun b => if b = true then (noEr (m ρ1)).bind fun x => (lcGo g mYes m r ρ).bind fun xs => .ok (x :: xs) else lcGo g mYes m r ρ) = _
  rw [h2, h3]
  rfl
def NC (ps : List Pt) : Prop := ∃ a ∈ ps, ∃ b ∈ ps, ∃ c ∈ ps, bnd a b c ≠ 0
theorem NC.not {ps : List Pt} (h : NC ps) : ¬ Col ps := fun k => by
  obtain ⟨a, ha, b, hb, c, hc, e⟩ := h
  exact e (k a ha b hb c hc)
theorem NC.map {ps : List Pt} {f : Pt → Pt} {k : Int} (h : NC ps) (hk : k ≠ 0) (hf : ∀ a b c, bnd (f a) (f b) (f c) = k * bnd a b c) : NC (ps.map f) := by
  obtain ⟨a, ha, b, hb, c, hc, e⟩ := h
  exact ⟨_, List.mem_map_of_mem ha, _, List.mem_map_of_mem hb, _, List.mem_map_of_mem hc, by rw [hf]; exact Int.mul_ne_zero hk e⟩
theorem NC.app {ps qs : List Pt} (h : NC ps) : NC (ps ++ qs) := by
  obtain ⟨a, ha, b, hb, c, hc, e⟩ := h
  exact ⟨a, List.mem_append_left _ ha, b, List.mem_append_left _ hb, c, List.mem_append_left _ hc, e⟩
end Law
namespace Law
open PySem PySem.Spec PyProof.Rows L2 GD Hl
local macro_rules | `(tactic| walk_at "gd") => `(tactic| simp (config := {failIfUnchanged := false}) only [runF, sSeq, sIf, sAsg, sRet, sRetN, sExpr, sNil, sRaise, sPar, sTgt, sFor, sForR, sWhile, eVar, eC, e1, e2, mB, aNil, aCons, eF, eB, eTup, aLst, eL, mNot, mAnd, mOr, eNot, eAnd, eOr, gNm, gTp, gsNil, gsCons, asL, asT,
  bind_ok, bind_er, bind_st, ofO_some, asB_bl, ofR_ok, ofR_er, dAdd_int, dSub_int, dNeg_int, dLt_int, dLe_int, dGt_int, dGe_int, dEq_int, dNe_int, dEq_bl, dMod_int, dDiv_lit, dMul_int, Int.reduceLT, Int.reduceEq, Int.cast_ofNat_Int, eq_self, line_le, Nat.reduceLeDiff,  dIs_non, dIsNot_non, dAt_t0, dAt_t1, dAt_t2, dAt_l0, dAt_l1, dAt_l2, dAt_l3, dAt_l4, dAt_l5, dAt_l6, dAt_l7, dAbs, dMax2, dMin2, dLen,
  List.getElem?_cons_zero, List.getElem?_cons_succ, List.set_cons_zero, List.set_cons_succ, List.map_cons, List.map_nil, List.length_cons, List.length_nil, List.cons_append, List.nil_append, List.replicate_succ, List.replicate_zero, Nat.reduceSub, Nat.reduceAdd,
  decide_eq_true_eq, Bool.not_eq_true', if_true, if_false, ite_true, ite_false, Option.bind_some, Option.map_some, Bool.not_true, Bool.not_false, reduceIte, Bool.false_eq_true, Bool.true_eq_false, decide_true, decide_false])
local macro_rules | `(tactic| walk_at "gdh") => `(tactic| simp (config := {failIfUnchanged := false}) only [runF, sSeq, sIf, sAsg, sRet, sRetN, sExpr, sNil, sRaise, sPar, sTgt, sFor, sForR, sWhile, eVar, eC, e1, e2, mB, aNil, aCons, eF, eB, eTup, aLst, eL, mNot, mAnd, mOr, eNot, eAnd, eOr, gNm, gTp, gsNil, gsCons, asL, asT,
  bind_ok, bind_er, bind_st, ofO_some, asB_bl, ofR_ok, ofR_er, dAdd_int, dSub_int, dNeg_int, dLt_int, dLe_int, dGt_int, dGe_int, dEq_int, dNe_int, dEq_bl, dMod_int, dDiv_lit, dMul_int, Int.reduceLT, Int.reduceEq, Int.cast_ofNat_Int, eq_self, line_le, Nat.reduceLeDiff,  dIs_non, dIsNot_non, dAt_t0, dAt_t1, dAt_t2, dAt_l0, dAt_l1, dAt_l2, dAt_l3, dAt_l4, dAt_l5, dAt_l6, dAt_l7, dAbs, dMax2, dMin2, dLen,
  List.getElem?_cons_zero, List.getElem?_cons_succ, List.set_cons_zero, List.set_cons_succ, List.map_cons, List.map_nil, List.length_cons, List.length_nil, List.cons_append, List.nil_append, List.replicate_succ, List.replicate_zero, Nat.reduceSub, Nat.reduceAdd,
  decide_eq_true_eq, Bool.not_eq_true', if_true, if_false, ite_true, ite_false, Option.bind_some, Option.map_some, Bool.not_true, Bool.not_false, reduceIte, Bool.false_eq_true, Bool.true_eq_false, decide_true, decide_false, *])
theorem pt_shape (p : Pt) : (toP (D2p p)).canLay0 = true ∧ (toP (D2p p)).depth = 1 := ⟨rfl, rfl⟩
theorem pts_shape : ∀ ps : List Pt, PyData.canLayAll0 (toPs (ps.map D2p)) = true ∧ PyData.depthAll (toPs (ps.map D2p)) ≤ 1
  | [] => ⟨rfl, by decide⟩
  | p :: ps => by
    obtain ⟨h1, h2⟩ := pts_shape ps
    obtain ⟨g1, g2⟩ := pt_shape p
    constructor
    · show ((toP (D2p p)).canLay0 && PyData.canLayAll0 (toPs (ps.map D2p))) = true
      rw [g1, h1]
      rfl
    · show max (toP (D2p p)).depth (PyData.depthAll (toPs (ps.map D2p))) ≤ 1
      rw [g2]
      omega
theorem lst_shape (ps : List Pt) : SeqAt.shaped (toP (.lst (ps.map D2p))) = true := by
  obtain ⟨h1, h2⟩ := pts_shape ps
  unfold SeqAt.shaped
  rw [Bool.and_eq_true]
  constructor
  · show PyData.canLayAll0 (toPs (ps.map D2p)) = true
    exact h1
  · refine decide_eq_true ?_
    show PyData.depthAll (toPs (ps.map D2p)) + 1 ≤ 64
    omega
theorem eqv_pt (p q : Pt) : PyData.eqv (toP (D2p p)) (toP (D2p q)) = decide (p = q) := by
  show ((p.1 == q.1) && ((p.2 == q.2) && true)) = _
  rw [Bool.and_true, Bool.beq_eq_decide_eq, Bool.beq_eq_decide_eq, ← Bool.decide_and]
  exact decide_eq_decide.mpr ⟨fun h => Prod.ext h.1 h.2, fun h => by rw [h]; exact ⟨rfl, rfl⟩⟩
theorem eqv_pts : ∀ ps qs : List Pt, PyData.eqvAll (toPs (ps.map D2p)) (toPs (qs.map D2p)) = decide (ps = qs)
  | [], [] => rfl
  | [], _ :: _ => rfl
  | _ :: _, [] => rfl
  | p :: ps, q :: qs => by
    show (PyData.eqv (toP (D2p p)) (toP (D2p q)) && PyData.eqvAll (toPs (ps.map D2p)) (toPs (qs.map D2p))) = _
    rw [eqv_pt, eqv_pts ps qs, ← Bool.decide_and]
    exact decide_eq_decide.mpr ⟨fun h => by rw [h.1, h.2], fun h => List.cons.inj h⟩
theorem dNe_pts (ps qs : List Pt) : dNe (.lst (ps.map D2p)) (.lst (qs.map D2p)) = some (.bl (!decide (ps = qs))) := by
  unfold dNe
  rw [if_pos ⟨lst_shape ps, lst_shape qs⟩]
  show some (D.bl (!PyData.eqvAll (toPs (ps.map D2p)) (toPs (qs.map D2p)))) = _
  rw [eqv_pts]
theorem dEq_pts (ps qs : List Pt) : dEq (.lst (ps.map D2p)) (.lst (qs.map D2p)) = some (.bl (decide (ps = qs))) := by
  unfold dEq
  rw [if_pos ⟨lst_shape ps, lst_shape qs⟩]
  show some (D.bl (PyData.eqvAll (toPs (ps.map D2p)) (toPs (qs.map D2p)))) = _
  rw [eqv_pts]
theorem dNe_pt (p q : Pt) : dNe (D2p p) (D2p q) = some (.bl (!decide (p = q))) := by
  unfold dNe
  rw [if_pos ⟨rfl, rfl⟩, eqv_pt]
theorem dEq_pt (p q : Pt) : dEq (D2p p) (D2p q) = some (.bl (decide (p = q))) := by
  unfold dEq
  rw [if_pos ⟨rfl, rfl⟩, eqv_pt]
end Law
namespace Hl
open GD
end Hl
namespace Hl
open GD
def cy (C : List Pt) (k : Nat) : Pt := C.getD (k % C.length) (0, 0)
theorem cy_at {C : List Pt} {k : Nat} (h : k < C.length) : C[k]? = some (cy C k) := by
  unfold cy
  rw [Nat.mod_eq_of_lt h, List.getD_eq_getElem?_getD, List.getElem?_eq_getElem h]
  rfl
theorem cy_mod (C : List Pt) (k : Nat) : cy C (k % C.length) = cy C k := by
  unfold cy
  rw [Nat.mod_mod]
theorem cy_mem {C : List Pt} (hn : C ≠ []) (k : Nat) : cy C k ∈ C := by
  have hl : 0 < C.length := List.length_pos_iff.mpr hn
  rw [← cy_mod]
  exact List.mem_of_getElem? (cy_at (Nat.mod_lt k hl))
end Hl
namespace Law
open PySem PySem.Spec PyProof.Rows L2 GD Hl
local macro_rules | `(tactic| walk_at "gd") => `(tactic| simp (config := {failIfUnchanged := false}) only [runF, sSeq, sIf, sAsg, sRet, sRetN, sExpr, sNil, sRaise, sPar, sTgt, sFor, sForR, sWhile, eVar, eC, e1, e2, mB, aNil, aCons, eF, eB, eTup, aLst, eL, mNot, mAnd, mOr, eNot, eAnd, eOr, gNm, gTp, gsNil, gsCons, asL, asT,
  bind_ok, bind_er, bind_st, ofO_some, asB_bl, ofR_ok, ofR_er, dAdd_int, dSub_int, dNeg_int, dLt_int, dLe_int, dGt_int, dGe_int, dEq_int, dNe_int, dEq_bl, dMod_int, dDiv_lit, dMul_int, Int.reduceLT, Int.reduceEq, Int.cast_ofNat_Int, eq_self, line_le, Nat.reduceLeDiff,  dIs_non, dIsNot_non, dAt_t0, dAt_t1, dAt_t2, dAt_l0, dAt_l1, dAt_l2, dAt_l3, dAt_l4, dAt_l5, dAt_l6, dAt_l7, dAbs, dMax2, dMin2, dLen,
  List.getElem?_cons_zero, List.getElem?_cons_succ, List.set_cons_zero, List.set_cons_succ, List.map_cons, List.map_nil, List.length_cons, List.length_nil, List.cons_append, List.nil_append, List.replicate_succ, List.replicate_zero, Nat.reduceSub, Nat.reduceAdd,
  decide_eq_true_eq, Bool.not_eq_true', if_true, if_false, ite_true, ite_false, Option.bind_some, Option.map_some, Bool.not_true, Bool.not_false, reduceIte, Bool.false_eq_true, Bool.true_eq_false, decide_true, decide_false])
local macro_rules | `(tactic| walk_at "gdh") => `(tactic| simp (config := {failIfUnchanged := false}) only [runF, sSeq, sIf, sAsg, sRet, sRetN, sExpr, sNil, sRaise, sPar, sTgt, sFor, sForR, sWhile, eVar, eC, e1, e2, mB, aNil, aCons, eF, eB, eTup, aLst, eL, mNot, mAnd, mOr, eNot, eAnd, eOr, gNm, gTp, gsNil, gsCons, asL, asT,
  bind_ok, bind_er, bind_st, ofO_some, asB_bl, ofR_ok, ofR_er, dAdd_int, dSub_int, dNeg_int, dLt_int, dLe_int, dGt_int, dGe_int, dEq_int, dNe_int, dEq_bl, dMod_int, dDiv_lit, dMul_int, Int.reduceLT, Int.reduceEq, Int.cast_ofNat_Int, eq_self, line_le, Nat.reduceLeDiff,  dIs_non, dIsNot_non, dAt_t0, dAt_t1, dAt_t2, dAt_l0, dAt_l1, dAt_l2, dAt_l3, dAt_l4, dAt_l5, dAt_l6, dAt_l7, dAbs, dMax2, dMin2, dLen,
  List.getElem?_cons_zero, List.getElem?_cons_succ, List.set_cons_zero, List.set_cons_succ, List.map_cons, List.map_nil, List.length_cons, List.length_nil, List.cons_append, List.nil_append, List.replicate_succ, List.replicate_zero, Nat.reduceSub, Nat.reduceAdd,
  decide_eq_true_eq, Bool.not_eq_true', if_true, if_false, ite_true, ite_false, Option.bind_some, Option.map_some, Bool.not_true, Bool.not_false, reduceIte, Bool.false_eq_true, Bool.true_eq_false, decide_true, decide_false, *])
def D22 (s : Pt × Pt) : D := .tup [D2p s.1, D2p s.2]
def sidesP (C : List Pt) : List (Pt × Pt) := (List.range C.length).map fun k => (cy C k, cy C (k + 1))
def nrm (a b : Pt) : Pt := (b.2 - a.2, a.1 - b.1)
def normalsP (C : List Pt) : List Pt := (List.range C.length).map fun k => nrm (cy C k) (cy C (k + 1))
theorem lc_gen {α : Type} {g : D → En → Option En} {m : EM} {ρ : En} {h f : α → D} : ∀ is : List α, (∀ i ∈ is, ∃ ρ1, g (h i) ρ = some ρ1 ∧ m ρ1 = .ok (f i)) → lcGo g mYes m (is.map h) ρ = .ok (is.map f)
  | [], _ => rfl
  | i :: is, hh => by
    obtain ⟨ρ1, h1, h2⟩ := hh i List.mem_cons_self
    exact lcc h1 h2 (lc_gen is fun q hq => hh q (List.mem_cons_of_mem _ hq))
theorem at_cy {C : List Pt} {k : Nat} (h : k < C.length) : dAt (.lst (C.map D2p)) (.int (k : Int)) = some (D2p (cy C k)) := dAt_lst (by rw [List.getElem?_map, cy_at h]; rfl)
theorem at_last {C : List Pt} (h : 0 < C.length) : dAt (.lst (C.map D2p)) (.int (-1)) = some (D2p (cy C (C.length - 1))) := by
  show L2.atI (C.map D2p) (-1) = _
  unfold L2.atI
  have e : L2.ixN (C.map D2p).length (-1) = some (C.length - 1) := by
    rw [List.length_map]
    unfold L2.ixN
    rw [if_neg (by decide), if_pos (by omega)]
    congr 1
    omega
  rw [e, Option.bind_some, List.getElem?_map, cy_at (by omega)]
  rfl
end Law
namespace Law
open PySem PySem.Spec PyProof.Rows L2 GD Hl
def WO (o : Out) (N : En → Prop) (T : D → Prop) (X : Str → Prop) : Prop := match o with
  | .nx ρ => N ρ
  | .rt d => T d
  | .er x _ => X x
  | _ => False
section
variable {N : En → Prop} {T : D → Prop} {X : Str → Prop} {ρ : En} {a b body m : SM} {n : Nat} {ds : List D} {d e : D} {me ma mb mc : EM} {mr : AM} {t u : TM}
theorem fn_ok (h : WO (m (ds.map Sl.v ++ List.replicate (n - ds.length) Sl.un)) (fun _ => D.non = d) (fun e => e = d) (fun _ => False)) : runF n m ds = .ok d := by
  unfold runF
  cases h' : m (ds.map Sl.v ++ List.replicate (n - ds.length) Sl.un) with
  | nx ρ => rw [h'] at h; exact congrArg R.ok h
  | rt d => rw [h'] at h; exact congrArg R.ok h
  | er x ρ => rw [h'] at h; exact h.elim
  | bk ρ => rw [h'] at h; exact h.elim
  | ct ρ => rw [h'] at h; exact h.elim
  | st => rw [h'] at h; exact h.elim
theorem fn_ex {P : D → Prop} (h : WO (m (ds.map Sl.v ++ List.replicate (n - ds.length) Sl.un)) (fun _ => P .non) P (fun _ => False)) : ∃ d, runF n m ds = .ok d ∧ P d := by
  unfold runF
  cases h' : m (ds.map Sl.v ++ List.replicate (n - ds.length) Sl.un) with
  | nx ρ => rw [h'] at h; exact ⟨_, rfl, h⟩
  | rt d => rw [h'] at h; exact ⟨_, rfl, h⟩
  | er x ρ => rw [h'] at h; exact h.elim
  | bk ρ => rw [h'] at h; exact h.elim
  | ct ρ => rw [h'] at h; exact h.elim
  | st => rw [h'] at h; exact h.elim
theorem fn_er {x : Str} (h : WO (m (ds.map Sl.v ++ List.replicate (n - ds.length) Sl.un)) (fun _ => False) (fun _ => False) (fun y => y = x)) : runF n m ds = .er x := by
  unfold runF
  cases h' : m (ds.map Sl.v ++ List.replicate (n - ds.length) Sl.un) with
  | nx ρ => rw [h'] at h; exact h.elim
  | rt d => rw [h'] at h; exact h.elim
  | er y ρ => rw [h'] at h; exact congrArg R.er h
  | bk ρ => rw [h'] at h; exact h.elim
  | ct ρ => rw [h'] at h; exact h.elim
  | st => rw [h'] at h; exact h.elim
theorem WO.mono {o : Out} {N' : En → Prop} {T' : D → Prop} {X' : Str → Prop} (h : WO o N T X) (hn : ∀ ρ, N ρ → N' ρ) (ht : ∀ d, T d → T' d) (hx : ∀ x, X x → X' x) : WO o N' T' X' := by
  cases o with
  | nx ρ => exact hn _ h
  | rt d => exact ht _ h
  | er x ρ => exact hx _ h
  | bk ρ => exact h.elim
  | ct ρ => exact h.elim
  | st => exact h.elim
theorem wo_seq (h : WO (a ρ) (fun ρ' => WO (b ρ') N T X) T X) : WO (sSeq a b ρ) N T X := by
  unfold sSeq
  cases h' : a ρ with
  | nx ρ' => rw [h'] at h; exact h
  | rt d => rw [h'] at h; exact h
  | er y ρ => rw [h'] at h; exact h
  | bk ρ => rw [h'] at h; exact h.elim
  | ct ρ => rw [h'] at h; exact h.elim
  | st => rw [h'] at h; exact h.elim
theorem wo_cut (I : En → Prop) {o : Out} (h : WO o I T X) (k : ∀ ρ', I ρ' → N ρ') : WO o N T X := h.mono k (fun _ h => h) (fun _ h => h)
theorem wo_asg {i : Nat} (h : me ρ = .ok d) (k : N (ρ.set i (.v d))) : WO (sAsg i me ρ) N T X := by
  unfold sAsg; rw [h]; exact k
theorem wo_asgL {i : Nat} (h : mr ρ = .ok ds) (k : N (ρ.set i (.v (.lst ds)))) : WO (sAsgL i mr ρ) N T X := by
  unfold sAsgL; rw [h]; exact k
theorem wo_own {i : Nat} (h : mr ρ = .ok ds) (k : N (ρ.set i (.l ds))) : WO (sOwn i mr ρ) N T X := by
  unfold sOwn; rw [h]; exact k
theorem wo_tgt {g : D → En → Option En} {ρ' : En} (h : me ρ = .ok d) (hg : g d ρ = some ρ') (k : N ρ') : WO (sTgt g me ρ) N T X := by
  unfold sTgt; rw [h, ofR_ok, hg]; exact k
theorem wo_par {i j : Nat} (h1 : ma ρ = .ok d) (h2 : mb ρ = .ok e) (k : N ((ρ.set i (.v d)).set j (.v e))) : WO (sPar i j ma mb ρ) N T X := by
  unfold sPar; rw [h1, bind_ok, h2, bind_ok, ofR_ok]; exact k
theorem wo_nil (k : N ρ) : WO (sNil ρ) N T X := k
theorem wo_ret (h : me ρ = .ok d) (k : T d) : WO (sRet me ρ) N T X := by
  unfold sRet; rw [h]; exact k
theorem wo_raise {x : Str} (k : X x) : WO (sRaise x ρ) N T X := k
theorem wo_frz {i : Nat} (k : WO (a (frz i ρ)) N T X) : WO (sFrz i a ρ) N T X := k
theorem wo_if {c : Bool} (h : t ρ = .ok c) (k1 : c = true → WO (a ρ) N T X) (k2 : c = false → WO (b ρ) N T X) : WO (sIf t a b ρ) N T X := by
  unfold sIf
  rw [h, ofR_ok]
  cases c with
  | true => exact k1 rfl
  | false => exact k2 rfl
theorem wo_ifx {c : Bool} {P1 P2 : Prop} (h : t ρ = .ok c) (e1 : (c = true) = P1) (e2 : (c = false) = P2) (k1 : P1 → WO (a ρ) N T X) (k2 : P2 → WO (b ρ) N T X) : WO (sIf t a b ρ) N T X :=
  wo_if h (fun z => k1 (e1 ▸ z)) (fun z => k2 (e2 ▸ z))
theorem wo_ift {c : Bool} (h : t ρ = .ok c) (e : c = true) (k : WO (a ρ) N T X) : WO (sIf t a b ρ) N T X := wo_if h (fun _ => k) (fun z => by rw [e] at z; cases z)
theorem wo_iff {c : Bool} (h : t ρ = .ok c) (e : c = false) (k : WO (b ρ) N T X) : WO (sIf t a b ρ) N T X := wo_if h (fun z => by rw [e] at z; cases z) (fun _ => k)
theorem wo_app {i : Nat} (h0 : ρ[i]? = some (.l ds)) (h : me ρ = .ok d) (hl : ds.length < 16777216) (k : N (ρ.set i (.l (ds ++ [d])))) : WO (sApp i me ρ) N T X := by
  unfold sApp
  rw [h0]
  show WO (ofR (me ρ) ρ fun d => if ds.length < sizeLine then Out.nx (ρ.set i (.l (ds ++ [d]))) else .st) N T X
  rw [h, ofR_ok, if_pos (by rw [sizeLine_eq]; exact hl)]
  exact k
theorem wo_loop {α : Type} {h : α → D} (l : List α) {g : D → En → Option En} (I : List α → En → Prop)
    (step : ∀ x r ρ, x ∈ l → I (x :: r) ρ → ∃ ρ1, g (h x) ρ = some ρ1 ∧ WO (body ρ1) (I r) T X) : ∀ r ρ, (∀ x ∈ r, x ∈ l) → I r ρ → WO (loop g body (r.map h) ρ) (I []) T X
  | [], ρ, _, i => i
  | x :: r, ρ, sub, i => by
    obtain ⟨ρ1, h1, h2⟩ := step x r ρ (sub x List.mem_cons_self) i
    show WO (match g (h x) ρ with
      | none => Out.st
      | some ρ' => match body ρ' with
        | .nx ρ2 => loop g body (r.map h) ρ2
        | .ct ρ2 => loop g body (r.map h) ρ2
        | .bk ρ2 => .nx ρ2
        | o => o) _ _ _
    rw [h1]
    show WO (match body ρ1 with
        | .nx ρ2 => loop g body (r.map h) ρ2
        | .ct ρ2 => loop g body (r.map h) ρ2
        | .bk ρ2 => .nx ρ2
        | o => o) _ _ _
    cases h' : body ρ1 with
    | nx ρ2 => rw [h'] at h2; exact wo_loop l I step r ρ2 (fun y hy => sub y (List.mem_cons_of_mem _ hy)) h2
    | rt d => rw [h'] at h2; exact h2
    | er y ρ => rw [h'] at h2; exact h2
    | bk ρ => rw [h'] at h2; exact h2.elim
    | ct ρ => rw [h'] at h2; exact h2.elim
    | st => rw [h'] at h2; exact h2.elim
theorem wo_for {α : Type} {h : α → D} {l : List α} {g : D → En → Option En} {f : D → Option (List D)} (I : List α → En → Prop) (hm : me ρ = .ok d) (hf : f d = some (l.map h)) (i0 : I l ρ)
    (step : ∀ x r ρ, x ∈ l → I (x :: r) ρ → ∃ ρ1, g (h x) ρ = some ρ1 ∧ WO (body ρ1) (I r) T X) (fin : ∀ ρ, I [] ρ → N ρ) : WO (sFor g f me body ρ) N T X := by
  unfold sFor
  rw [hm, bind_ok, hf, ofO_some, ofR_ok]
  exact (wo_loop l I step l ρ (fun _ h => h) i0).mono fin (fun _ h => h) (fun _ h => h)
theorem ev_c (d : D) : eC d ρ = .ok d := rfl
theorem ev_var {i : Nat} (h : ρ[i]? = some (.v d)) : eVar i ρ = .ok d := by unfold eVar; rw [h]
theorem ev_e1 {g : D → Option D} (h1 : ma ρ = .ok d) (h2 : g d = some e) : e1 g ma ρ = .ok e := by unfold e1; rw [h1, bind_ok, h2]; rfl
theorem ev_e2 {g : D → D → Option D} {x y z : D} (h1 : ma ρ = .ok x) (h2 : mb ρ = .ok y) (h3 : g x y = some z) : e2 g ma mb ρ = .ok z := by unfold e2; rw [h1, bind_ok, h2, bind_ok, h3]; rfl
theorem ev_nil : aNil ρ = .ok [] := rfl
theorem ev_cons {x : D} {xs : List D} (h1 : ma ρ = .ok x) (h2 : mr ρ = .ok xs) : aCons ma mr ρ = .ok (x :: xs) := by unfold aCons; rw [h1, bind_ok, h2]; rfl
theorem ev_F {F : List D → R D} (h1 : mr ρ = .ok ds) (h2 : F ds = .ok d) : eF F mr ρ = .ok d := by unfold eF; rw [h1, bind_ok, h2]
theorem ev_B {g : List D → Option D} (h1 : mr ρ = .ok ds) (h2 : g ds = some d) : eB g mr ρ = .ok d := by unfold eB; rw [h1, bind_ok, h2]; rfl
theorem ev_mB {c : Bool} (h : ma ρ = .ok (.bl c)) : mB ma ρ = .ok c := by unfold mB; rw [h]; rfl
theorem ev_tup (h : mr ρ = .ok ds) (hl : ds.length ≤ 16777216) : eTup mr ρ = .ok (.tup ds) := by unfold eTup; rw [h, bind_ok, if_pos (by rw [sizeLine_eq]; exact hl)]
theorem ev_tup2 {x y : Int} (h1 : ma ρ = .ok (.int x)) (h2 : mb ρ = .ok (.int y)) : eTup (aCons ma (aCons mb aNil)) ρ = .ok (D2p (x, y)) := ev_tup (ev_cons h1 (ev_cons h2 ev_nil)) (by decide : 2 ≤ 16777216)
theorem ev_tup3 {x y z : Int} (h1 : ma ρ = .ok (.int x)) (h2 : mb ρ = .ok (.int y)) (h3 : mc ρ = .ok (.int z)) : eTup (aCons ma (aCons mb (aCons mc aNil))) ρ = .ok (D3 x y z) := ev_tup (ev_cons h1 (ev_cons h2 (ev_cons h3 ev_nil))) (by decide : 3 ≤ 16777216)
theorem ev_lst (h : mr ρ = .ok ds) (hl : ds.length ≤ 16777216) : aLst mr ρ = .ok ds := by unfold aLst; rw [h, bind_ok, if_pos (by rw [sizeLine_eq]; exact hl)]
theorem ev_L (h : mr ρ = .ok ds) : eL mr ρ = .ok (.lst ds) := by unfold eL; rw [h]; rfl
theorem ev_copy {g : List D → Option (List D)} {es : List D} (h : mr ρ = .ok ds) (h2 : g ds = some es) : aB g mr ρ = .ok es := by unfold aB; rw [h, bind_ok, h2]; rfl
theorem ev_not {c : Bool} (h : t ρ = .ok c) : mNot t ρ = .ok (!c) := by unfold mNot; rw [h]; rfl
theorem ev_and0 (h : t ρ = .ok false) : mAnd t u ρ = .ok false := by unfold mAnd; rw [h]; rfl
theorem ev_or1 (h : t ρ = .ok true) : mOr t u ρ = .ok true := by unfold mOr; rw [h]; rfl
theorem ev_and {b c : Bool} (h : t ρ = .ok b) (k : b = true → u ρ = .ok c) : mAnd t u ρ = .ok (b && c) := by
  unfold mAnd; rw [h, bind_ok]
  cases b with
  | true => exact k rfl
  | false => rfl
theorem ev_or {b c : Bool} (h : t ρ = .ok b) (k : b = false → u ρ = .ok c) : mOr t u ρ = .ok (b || c) := by
  unfold mOr; rw [h, bind_ok]
  cases b with
  | true => rfl
  | false => exact k rfl
theorem ev_eNot {c : Bool} (h : ma ρ = .ok (.bl c)) : eNot ma ρ = .ok (.bl (!c)) := by unfold eNot; rw [ev_mB h]; rfl
theorem ev_eAnd0 (h : ma ρ = .ok (.bl false)) : eAnd ma mb ρ = .ok (.bl false) := by unfold eAnd; rw [ev_mB h, bind_ok]; rfl
theorem ev_eOr1 (h : ma ρ = .ok (.bl true)) : eOr ma mb ρ = .ok (.bl true) := by unfold eOr; rw [ev_mB h, bind_ok]; rfl
theorem ev_eAnd {b c : Bool} (h : ma ρ = .ok (.bl b)) (k : b = true → mb ρ = .ok (.bl c)) : eAnd ma mb ρ = .ok (.bl (b && c)) := by
  unfold eAnd; rw [ev_mB h, bind_ok]
  cases b with
  | true => exact k rfl
  | false => rfl
theorem ev_eOr {b c : Bool} (h : ma ρ = .ok (.bl b)) (k : b = false → mb ρ = .ok (.bl c)) : eOr ma mb ρ = .ok (.bl (b || c)) := by
  unfold eOr; rw [ev_mB h, bind_ok]
  cases b with
  | true => rfl
  | false => exact k rfl
theorem ev_ch {g g' : D → D → Option D} {x y w : D} {b c : Bool} (h1 : ma ρ = .ok x) (h2 : mb ρ = .ok y) (h3 : g x y = some (.bl b)) (h4 : b = true → mc ρ = .ok w) (h5 : b = true → g' y w = some (.bl c)) : eCh g g' ma mb mc ρ = .ok (.bl (b && c)) := by
  unfold eCh; rw [h1, bind_ok, h2, bind_ok, h3, ofO_some, bind_ok, asB_bl, ofO_some, bind_ok]
  cases b with
  | true => rw [if_pos rfl, h4 rfl, bind_ok, h5 rfl]; rfl
  | false => rfl
theorem ev_lc {α : Type} {h : α → D} {f' : α → D} {l : List α} {f : D → Option (List D)} {vs : List Nat} {g : D → En → Option En} (h1 : ma ρ = .ok d) (h2 : f d = some (l.map h)) (hl : l.length ≤ 16777216)
    (h3 : ∀ x, x ∈ l → ∃ ρ1, g (h x) (wipeE vs ρ) = some ρ1 ∧ mb ρ1 = .ok (f' x)) : aLc f vs g mYes ma mb ρ = .ok (l.map f') := by
  unfold aLc
  rw [h1, bind_ok, h2, ofO_some, bind_ok, if_pos (by rw [List.length_map, sizeLine_eq]; exact hl)]
  exact lc_gen l h3
theorem ev_lcR {as : List D} {a0 c : Int} {k : Nat} {f' : Nat → D} {vs : List Nat} {g : D → En → Option En} (h1 : mr ρ = .ok as) (h2 : dRange as = some (rg a0 c k)) (hl : k ≤ 16777216)
    (h3 : ∀ x, x < k → ∃ ρ1, g (.int (a0 + (x : Nat) * c)) (wipeE vs ρ) = some ρ1 ∧ mb ρ1 = .ok (f' x)) : aLcR vs g mYes mr mb ρ = .ok ((List.range k).map f') := by
  unfold aLcR
  rw [h1, bind_ok, h2, ofO_some, bind_ok, if_pos (by unfold rg; rw [List.length_map, List.length_range, sizeLine_eq]; exact hl)]
  unfold rg
  exact lc_gen _ fun x hx => h3 x (List.mem_range.mp hx)
theorem ev_cat {xs ys : List D} (h1 : ma ρ = .ok (.lst xs)) (h2 : mb ρ = .ok (.lst ys)) (hl : xs.length + ys.length ≤ 16777216) : aCat ma mb ρ = .ok (xs ++ ys) := by
  unfold aCat
  rw [h1, bind_ok, h2, bind_ok, show catL (.lst xs) (.lst ys) = some (xs ++ ys) from if_pos (by rw [sizeLine_eq]; exact hl)]
  rfl
theorem ev_ownLen {i : Nat} (h : ρ[i]? = some (.l ds)) : eOwnLen i ρ = .ok (.int ds.length) := by unfold eOwnLen; rw [h]
theorem ev_ownAt {i : Nat} {ds : List D} {k : Int} {m : EM} (h : ρ[i]? = some (.l ds)) (h2 : m ρ = .ok (.int k)) (h3 : dAt (.lst ds) (.int k) = some d) : eOwnAt i m ρ = .ok d := by
  unfold eOwnAt
  rw [h]
  show (m ρ).bind _ = _
  rw [h2, bind_ok]
  show R.ofO (L2.atI ds k) = _
  rw [show L2.atI ds k = some d from h3]
  rfl
theorem its_map {α : Type} {h : α → D} {l : List α} : asL (.lst (l.map h)) = some (l.map h) := rfl
theorem its_map2 {α : Type} {h : α → D} {l : List α} : asT (.tup (l.map h)) = some (l.map h) := rfl
theorem rng1 {k : Int} (h1 : -(2 ^ 62) ≤ k) (h2 : k < 2 ^ 62) : dRange [.int k] = some (rg 0 1 k.toNat) := if_pos ⟨h1, h2⟩
theorem rng2 {i j : Int} (h1 : -(2 ^ 62) ≤ i) (h2 : i < 2 ^ 62) (h3 : -(2 ^ 62) ≤ j) (h4 : j < 2 ^ 62) : dRange [.int i, .int j] = some (rg i 1 (j - i).toNat) := if_pos ⟨h1, h2, h3, h4⟩
end
theorem dAt_q0 (x y z : Int) : dAt (D3 x y z) (.int 0) = some (.int x) := rfl
theorem dAt_q1 (x y z : Int) : dAt (D3 x y z) (.int 1) = some (.int y) := rfl
theorem dAt_q2 (x y z : Int) : dAt (D3 x y z) (.int 2) = some (.int z) := rfl
theorem dAt_pp0 (x y : Int) : dAt (D2p (x, y)) (.int 0) = some (.int x) := rfl
theorem dAt_pp1 (x y : Int) : dAt (D2p (x, y)) (.int 1) = some (.int y) := rfl
theorem dAt_f0 (x y : Int) : dAt (D2 x y) (.int 0) = some (.int x) := rfl
theorem dAt_f1 (x y : Int) : dAt (D2 x y) (.int 1) = some (.int y) := rfl
theorem dAbs_int (x : Int) : dAbs [.int x] = some (.int (x.natAbs : Int)) := rfl
theorem dMax2_int (x y : Int) : dMax2 [.int x, .int y] = some (.int (max x y)) := by rfl
theorem dMin2_int (x y : Int) : dMin2 [.int x, .int y] = some (.int (min x y)) := by rfl
theorem dInt_bl (b : Bool) : dInt [.bl b] = some (.int (if b then 1 else 0)) := rfl
theorem dNe_bl (a b : Bool) : dNe (.bl a) (.bl b) = some (.bl (!(a == b))) := rfl
theorem dLen_pts {α : Type} {f : α → D} (l : List α) : dLen [.lst (l.map f)] = some (.int (l.length : Int)) := by
  show some (D.int (((l.map f).length : Nat) : Int)) = _
  rw [List.length_map]
theorem eqv_D3 (a b c x y z : Int) : PyData.eqv (toP (D3 a b c)) (toP (D3 x y z)) = decide (a = x ∧ b = y ∧ c = z) := by
  show ((a == x) && ((b == y) && ((c == z) && true))) = _
  rw [Bool.and_true, Bool.beq_eq_decide_eq, Bool.beq_eq_decide_eq, Bool.beq_eq_decide_eq, ← Bool.decide_and, ← Bool.decide_and]
theorem dNe_D3 (a b c x y z : Int) : dNe (D3 a b c) (D3 x y z) = some (.bl (!decide (a = x ∧ b = y ∧ c = z))) := by
  unfold dNe
  rw [if_pos ⟨rfl, rfl⟩, eqv_D3]
theorem dEq_D3 (a b c x y z : Int) : dEq (D3 a b c) (D3 x y z) = some (.bl (decide (a = x ∧ b = y ∧ c = z))) := by
  unfold dEq
  rw [if_pos ⟨rfl, rfl⟩, eqv_D3]
theorem dEq_np (p : Pt) : dEq .non (D2p p) = some (.bl false) := rfl
theorem dNe_np (p : Pt) : dNe .non (D2p p) = some (.bl true) := rfl
theorem Bd.litO (k : Nat) : Bd (k.log2 + 1) (OfNat.ofNat k : Int) := by
  unfold Bd
  show (k : Int).natAbs < _
  rw [Int.natAbs_natCast]
  exact Nat.lt_log2_self
theorem Bd.emod {x k : Int} (h : 0 < k) : Bd (k.natAbs.log2 + 1) (x % k) := by
  have h1 := Int.emod_nonneg x (by omega : k ≠ 0)
  have h2 := Int.emod_lt_of_pos x h
  have h3 : k.natAbs < 2 ^ (k.natAbs.log2 + 1) := Nat.lt_log2_self
  unfold Bd
  omega
theorem Bd.ediv {n : Nat} {x k : Int} (h : Bd n x) : Bd n (x / k) := h.of_le (Int.natAbs_ediv_le_natAbs x k)
theorem bd_abs {n : Nat} {x : Int} (h : Bd n x) : Bd n (x.natAbs : Int) := h.of_le (by omega)
theorem bd_ite1 {c : Prop} [Decidable c] : Bd 1 (if c then (1 : Int) else 0) := by
  unfold Bd
  split <;> decide
theorem bd_ite {c : Prop} [Decidable c] {m n : Nat} {x y : Int} (h : Bd m x) (g : Bd n y) : Bd (max m n) (if c then x else y) := by
  split
  · exact h.mono (Nat.le_max_left ..)
  · exact g.mono (Nat.le_max_right ..)
theorem BdP.a {n : Nat} {p : Pt} (h : BdP n p) : Bd n p.1 := h.1
theorem BdP.b {n : Nat} {p : Pt} (h : BdP n p) : Bd n p.2 := h.2
theorem BdP.mk {m n : Nat} {x y : Int} (h : Bd m x) (g : Bd n y) : BdP (max m n) (x, y) := ⟨h.mono (Nat.le_max_left ..), g.mono (Nat.le_max_right ..)⟩
theorem BdP.mono {m n : Nat} {p : Pt} (h : BdP m p) (l : m ≤ n) : BdP n p := ⟨h.1.mono l, h.2.mono l⟩
theorem bd_mem {n : Nat} {C : List Pt} {p : Pt} (h : ∀ q ∈ C, BdP n q) (hp : p ∈ C) : BdP n p := h p hp
theorem bd_get {n : Nat} {C : List Pt} {i : Nat} {hi : i < C.length} (h : ∀ q ∈ C, BdP n q) : BdP n C[i] := h _ (List.getElem_mem hi)
theorem bd_cy {n : Nat} {C : List Pt} (h : ∀ q ∈ C, BdP n q) (hc : 0 < C.length) (k : Nat) : BdP n (cy C k) := h _ (cy_mem (by intro z; rw [z] at hc; simp at hc) k)
def Shp (n : Nat) (d : D) : Prop := (toP d).canLay0 = true ∧ (toP d).depth ≤ n
theorem Shp.shaped {n : Nat} {d : D} (h : Shp n d) (hn : n ≤ 64) : SeqAt.shaped (toP d) = true := by
  unfold SeqAt.shaped
  rw [h.1, Bool.true_and]
  exact decide_eq_true (Nat.le_trans h.2 hn)
theorem shp_int (i : Int) : Shp 0 (.int i) := ⟨rfl, Nat.le_refl 0⟩
theorem shp_bl (i : Bool) : Shp 0 (.bl i) := ⟨rfl, Nat.le_refl 0⟩
theorem shp_non : Shp 0 .non := ⟨rfl, by decide⟩
theorem shp_pt (p : Pt) : Shp 1 (D2p p) := ⟨(pt_shape p).1, by rw [(pt_shape p).2]; decide⟩
theorem shp_D2 (x y : Int) : Shp 1 (D2 x y) := ⟨rfl, Nat.le_refl 1⟩
theorem shp_fr (x y : Int) : Shp 1 (fr x y) := ⟨rfl, Nat.le_refl 1⟩
theorem shp_D3 (x y z : Int) : Shp 1 (D3 x y z) := ⟨rfl, Nat.le_refl 1⟩
theorem shp_sp (x y z : Int) : Shp 1 (sp x y z) := ⟨rfl, Nat.le_refl 1⟩
theorem shp_pts (ps : List Pt) : Shp 2 (.lst (ps.map D2p)) := by
  obtain ⟨h1, h2⟩ := pts_shape ps
  exact ⟨h1, by show PyData.depthAll (toPs (ps.map D2p)) + 1 ≤ 2; omega⟩
theorem shp_nilL : Shp 1 (.lst []) := ⟨rfl, by decide⟩
theorem shp_nilT : Shp 1 (.tup []) := ⟨rfl, by decide⟩
theorem shp_consL {m n : Nat} {d : D} {ds : List D} (h : Shp m d) (g : Shp n (.lst ds)) : Shp (max (m + 1) n) (.lst (d :: ds)) := by
  constructor
  · show ((toP d).canLay0 && PyData.canLayAll0 (toPs ds)) = true
    rw [h.1]
    exact g.1
  · have h2 := h.2
    have g2 : PyData.depthAll (toPs ds) + 1 ≤ n := g.2
    show max (toP d).depth (PyData.depthAll (toPs ds)) + 1 ≤ _
    omega
theorem shp_consT {m n : Nat} {d : D} {ds : List D} (h : Shp m d) (g : Shp n (.tup ds)) : Shp (max (m + 1) n) (.tup (d :: ds)) := by
  constructor
  · show ((toP d).canLay0 && PyData.canLayAll0 (toPs ds)) = true
    rw [h.1]
    exact g.1
  · have h2 := h.2
    have g2 : PyData.depthAll (toPs ds) + 1 ≤ n := g.2
    show max (toP d).depth (PyData.depthAll (toPs ds)) + 1 ≤ _
    omega
theorem eqv_ints : ∀ ns : List Int, PyData.eqvAll (ns.map PyData.int) (ns.map PyData.int) = true
  | [] => rfl
  | n :: ns => by
    show ((n == n) && PyData.eqvAll (ns.map PyData.int) (ns.map PyData.int)) = true
    rw [eqv_ints ns]; simp
mutual
theorem eqv_refl : ∀ d : D, (toP d).canLay0 = true → PyData.eqv (toP d) (toP d) = true
  | .non, _ => rfl
  | .bl b, _ => by show (b == b) = true; simp
  | .int i, _ => by show (i == i) = true; simp
  | .str x, _ => by show PyData.eqv (.str x) (.str x) = true; simp [PyData.eqv]
  | .tup ds, h => eqv_reflL ds h
  | .lst ds, h => eqv_reflL ds h
  | .scr ns, _ => eqv_ints ns
  | .dct _ _, h => by simp [toP, PyData.canLay0] at h
  | .exc _, h => by simp [toP, PyData.canLay0] at h
  | .ty _, h => by simp [toP, PyData.canLay0] at h
  | .cls _, h => by simp [toP, PyData.canLay0] at h
  | .obj _ _ _, h => by simp [toP, PyData.canLay0] at h
theorem eqv_reflL : ∀ ds : List D, PyData.canLayAll0 (toPs ds) = true → PyData.eqvAll (toPs ds) (toPs ds) = true
  | [], _ => rfl
  | d :: ds, h => by
    have h' : ((toP d).canLay0 && PyData.canLayAll0 (toPs ds)) = true := h
    rw [Bool.and_eq_true] at h'
    show (PyData.eqv (toP d) (toP d) && PyData.eqvAll (toPs ds) (toPs ds)) = true
    rw [eqv_refl d h'.1, eqv_reflL ds h'.2]
    rfl
end
theorem dNe_self {n : Nat} {d : D} (h : Shp n d) (hn : n ≤ 64) : dNe d d = some (.bl false) := by
  unfold dNe
  rw [if_pos ⟨h.shaped hn, h.shaped hn⟩, eqv_refl d h.1]
  rfl
theorem dEq_self {n : Nat} {d : D} (h : Shp n d) (hn : n ≤ 64) : dEq d d = some (.bl true) := by
  unfold dEq
  rw [if_pos ⟨h.shaped hn, h.shaped hn⟩, eqv_refl d h.1]
end Law
namespace Law
open PySem PySem.Spec PyProof.Rows L2 GD Hl
local macro_rules | `(tactic| walk_at "bd") => `(tactic| first
  | with_reducible assumption
  | with_reducible exact Bd.litO _
  | ((with_reducible refine' Bd.mul ?h ?g); (case h => walk_at "bd"); (case g => walk_at "bd"))
  | ((with_reducible refine' Bd.add ?h ?g); (case h => walk_at "bd"); (case g => walk_at "bd"))
  | ((with_reducible refine' Bd.sub ?h ?g); (case h => walk_at "bd"); (case g => walk_at "bd"))
  | ((with_reducible refine' Bd.neg ?h); (case h => walk_at "bd"))
  | ((with_reducible refine' Bd.emod ?h); (case h => walk_at "pos"))
  | ((with_reducible refine' Bd.ediv ?h); (case h => walk_at "bd"))
  | ((with_reducible refine' bd_fT ?h); (case h => walk_at "bd"))
  | ((with_reducible refine' bd_fB ?h); (case h => walk_at "bd"))
  | ((with_reducible refine' bd_sX ?h); (case h => walk_at "bd"))
  | ((with_reducible refine' bd_sY ?h); (case h => walk_at "bd"))
  | ((with_reducible refine' bd_sW ?h); (case h => walk_at "bd"))
  | ((with_reducible refine' bd_abs ?h); (case h => walk_at "bd"))
  | ((with_reducible refine' BdP.a ?h); (case h => walk_at "bdq"))
  | ((with_reducible refine' BdP.b ?h); (case h => walk_at "bdq"))
  | with_reducible exact bd_ite1
  | ((with_reducible refine' bd_ite ?h ?g); (case h => walk_at "bd"); (case g => walk_at "bd")))
local macro_rules | `(tactic| walk_at "pos") => `(tactic| first
  | with_reducible assumption
  | decide
  | omega)
local macro_rules | `(tactic| walk_at "bdq") => `(tactic| first
  | with_reducible assumption
  | ((with_reducible refine' bd_cy ?h ?g _); (case h => with_reducible assumption); (case g => first | with_reducible assumption | omega))
  | ((with_reducible refine' bd_mem ?h ?g); (case g => with_reducible assumption); (case h => with_reducible assumption))
  | ((with_reducible refine' bd_get ?h); (case h => with_reducible assumption)))
local macro_rules | `(tactic| walk_at "bdp") => `(tactic| first
  | walk_at "bdq"
  | ((with_reducible refine' BdP.mk ?h ?g); (case h => walk_at "bd"); (case g => walk_at "bd")))
local macro_rules | `(tactic| walk_at "num") => `(tactic| first
  | with_reducible assumption
  | omega
  | decide +kernel
  | (simp only [Nat.reduceLog2]; omega))
local macro_rules | `(tactic| walk_at "dis") => `(tactic| first
  | with_reducible assumption
  | ((with_reducible refine' mok ?h ?g ?l); (case h => walk_at "bd"); (case g => walk_at "bd"); (case l => walk_at "num"))
  | ((with_reducible refine' Bd.mono ?h ?l); (case h => walk_at "bd"); (case l => walk_at "num"))
  | ((with_reducible refine' BdP.mono ?h ?l); (case h => walk_at "bdp"); (case l => walk_at "num"))
  | ((with_reducible show divOk _); first | with_reducible assumption | decide +kernel | (refine' dok ?p ?h ?l; (case p => first | with_reducible assumption | omega); (case h => walk_at "bd"); (case l => walk_at "num")))
  | omega)
local macro_rules | `(tactic| walk_at "op") => `(tactic| first
  | with_reducible exact dAdd_int _ _
  | with_reducible exact dSub_int _ _
  | ((with_reducible refine dMul_int ?_); walk_at "dis")
  | with_reducible exact dAt_pp0 _ _
  | with_reducible exact dAt_pp1 _ _
  | with_reducible exact dAt_p0 _
  | with_reducible exact dAt_p1 _
  | with_reducible exact dAt_t0
  | with_reducible exact dAt_t1
  | with_reducible exact dAt_t2
  | with_reducible exact dAt_q0 _ _ _
  | with_reducible exact dAt_q1 _ _ _
  | with_reducible exact dAt_q2 _ _ _
  | with_reducible exact dAt_f0 _ _
  | with_reducible exact dAt_f1 _ _
  | with_reducible exact dLt_int _ _
  | with_reducible exact dLe_int _ _
  | with_reducible exact dGt_int _ _
  | with_reducible exact dGe_int _ _
  | with_reducible exact dEq_int _ _
  | with_reducible exact dNe_int _ _
  | ((with_reducible refine dMod_int ?_); walk_at "dis")
  | ((with_reducible refine dDiv_int ?_); walk_at "dis")
  | with_reducible exact dNeg_int _
  | with_reducible exact dIs_non _
  | with_reducible exact dIsNot_non _
  | with_reducible exact dAbs_int _
  | with_reducible exact dMax2_int _ _
  | with_reducible exact dMin2_int _ _
  | with_reducible exact dInt_bl _
  | with_reducible exact dLen_pts _
  | with_reducible exact dEq_pt _ _
  | with_reducible exact dNe_pt _ _
  | with_reducible exact dEq_pts _ _
  | with_reducible exact dNe_pts _ _
  | with_reducible exact dNe_bl _ _
  | with_reducible exact dEq_bl _ _
  | with_reducible exact dEq_D3 _ _ _ _ _ _
  | with_reducible exact dNe_D3 _ _ _ _ _ _
  | with_reducible exact dEq_np _
  | with_reducible exact dNe_np _
  | ((with_reducible refine at_last ?_); walk_at "dis")
  | with_reducible exact dAt_l0
  | with_reducible exact dAt_l1
  | with_reducible exact dAt_l2
  | with_reducible exact dAt_l3
  | with_reducible exact dAt_l4
  | with_reducible exact dAt_l5
  | with_reducible exact dAt_l6
  | with_reducible exact dAt_l7
  | ((with_reducible refine' dNe_self ?h ?l); (case h => walk_at "shp"); (case l => decide))
  | ((with_reducible refine' dEq_self ?h ?l); (case h => walk_at "shp"); (case l => decide))
  | with_reducible assumption
  | exact isi_int _ _ _ _ rfl kb_tuple_tuple
  | exact isi_int _ _ _ _ rfl kb_list_list
  | exact isi_int _ _ _ _ rfl kb_int_int
  | exact isi_int _ _ _ _ rfl kb_bool_bool
  | exact isi_int _ _ _ _ rfl kb_int_bool
  | exact isi_int _ _ _ _ rfl kb_list_tuple
  | exact isi_int _ _ _ _ rfl kb_tuple_list
  | with_reducible rfl)
local macro_rules | `(tactic| walk_at "shp") => `(tactic| first
  | with_reducible exact shp_int _
  | with_reducible exact shp_bl _
  | with_reducible exact shp_non
  | with_reducible exact shp_pt _
  | with_reducible exact shp_pts _
  | with_reducible exact shp_D2 _ _
  | with_reducible exact shp_fr _ _
  | with_reducible exact shp_D3 _ _ _
  | with_reducible exact shp_sp _ _ _
  | with_reducible exact shp_nilL
  | with_reducible exact shp_nilT
  | ((with_reducible refine' shp_consL ?h ?g); (case h => walk_at "shp"); (case g => walk_at "shp"))
  | ((with_reducible refine' shp_consT ?h ?g); (case h => walk_at "shp"); (case g => walk_at "shp"))
  | with_reducible assumption)
local macro_rules | `(tactic| walk_at "fn") => `(tactic| first
  | with_reducible assumption
  | with_reducible exact whole_int _
  | with_reducible exact divisor_eq _ _
  | with_reducible exact common_eq _ _)
local macro_rules | `(tactic| walk_at "ev") => `(tactic| first
  | with_reducible exact ev_c _
  | ((with_reducible refine' ev_var ?h1); (case h1 => exact rfl))
  | ((with_reducible refine' ev_e2 ?h1 ?h2 ?h3); (case h1 => walk_at "ev"); (case h2 => walk_at "ev"); (case h3 => walk_at "op"))
  | with_reducible exact ev_nil
  | ((with_reducible refine' ev_cons ?h1 ?h2); (case h1 => walk_at "ev"); (case h2 => walk_at "ev"))
  | ((with_reducible refine' ev_F ?h1 ?h2); (case h1 => walk_at "ev"); (case h2 => walk_at "fn"))
  | ((with_reducible refine' ev_mB ?h1); (case h1 => walk_at "ev"))
  | ((with_reducible refine' ev_B ?h1 ?h2); (case h1 => walk_at "ev"); (case h2 => walk_at "op"))
  | ((with_reducible refine' ev_tup2 ?h1 ?h2); (case h1 => walk_at "ev"); (case h2 => walk_at "ev"))
  | ((with_reducible refine' ev_tup3 ?h1 ?h2 ?h3); (case h1 => walk_at "ev"); (case h2 => walk_at "ev"); (case h3 => walk_at "ev"))
  | ((with_reducible refine' ev_tup ?h1 ?h2); (case h1 => walk_at "ev"); (case h2 => walk_at "len"))
  | ((with_reducible refine' ev_L ?h1); (case h1 => walk_at "ev"))
  | ((with_reducible refine' ev_lst ?h1 ?h2); (case h1 => walk_at "ev"); (case h2 => walk_at "len"))
  | ((with_reducible refine' ev_not ?h1); (case h1 => walk_at "ev"))
  | ((with_reducible refine' ev_and0 ?h1); (case h1 => walk_at "ev"))
  | ((with_reducible refine' ev_and ?h1 ?h2); (case h1 => walk_at "ev"); (case h2 => (intro hq; (try simp only [decide_eq_true_eq, decide_eq_false_iff_not, Bool.not_eq_true', Bool.not_eq_false'] at hq); walk_at "ev")))
  | ((with_reducible refine' ev_or1 ?h1); (case h1 => walk_at "ev"))
  | ((with_reducible refine' ev_or ?h1 ?h2); (case h1 => walk_at "ev"); (case h2 => (intro hq; (try simp only [decide_eq_true_eq, decide_eq_false_iff_not, Bool.not_eq_true', Bool.not_eq_false'] at hq); walk_at "ev")))
  | ((with_reducible refine' ev_eNot ?h1); (case h1 => walk_at "ev"))
  | ((with_reducible refine' ev_eAnd0 ?h1); (case h1 => walk_at "ev"))
  | ((with_reducible refine' ev_eAnd ?h1 ?h2); (case h1 => walk_at "ev"); (case h2 => (intro hq; (try simp only [decide_eq_true_eq, decide_eq_false_iff_not, Bool.not_eq_true', Bool.not_eq_false'] at hq); walk_at "ev")))
  | ((with_reducible refine' ev_eOr1 ?h1); (case h1 => walk_at "ev"))
  | ((with_reducible refine' ev_eOr ?h1 ?h2); (case h1 => walk_at "ev"); (case h2 => (intro hq; (try simp only [decide_eq_true_eq, decide_eq_false_iff_not, Bool.not_eq_true', Bool.not_eq_false'] at hq); walk_at "ev")))
  | ((with_reducible refine' ev_e1 ?h1 ?h2); (case h1 => walk_at "ev"); (case h2 => walk_at "op"))
  | ((with_reducible refine' ev_copy ?h1 ?h2); (case h1 => walk_at "ev"); (case h2 => exact rfl))
  | ((with_reducible refine' ev_ch ?h1 ?h2 ?h3 ?h4 ?h5); (case h1 => walk_at "ev"); (case h2 => walk_at "ev"); (case h3 => walk_at "op"); (case h4 => (intro hq; (try simp only [decide_eq_true_eq, decide_eq_false_iff_not, Bool.not_eq_true', Bool.not_eq_false'] at hq); walk_at "ev")); (case h5 => (intro _; walk_at "op")))
  | ((with_reducible refine' ev_lc ?h1 ?h2 ?h3 ?h4); (case h1 => walk_at "ev"); (case h2 => walk_at "its"); (case h3 => walk_at "len"); (case h4 => (intro _ _; exact ⟨_, rfl, by walk_at "ev"⟩)))
  | ((with_reducible refine' ev_lcR ?h1 ?h2 ?h3 ?h4); (case h1 => walk_at "ev"); (case h2 => walk_at "rng"); (case h3 => walk_at "len"); (case h4 => (intro _ _; exact ⟨_, rfl, by walk_at "ev"⟩)))
  | ((with_reducible refine' ev_cat ?h1 ?h2 ?h3); (case h1 => walk_at "ev"); (case h2 => walk_at "ev"); (case h3 => walk_at "len"))
  | ((with_reducible refine' ev_ownLen ?h1); (case h1 => exact rfl))
  | ((with_reducible refine' ev_ownAt ?h1 ?h2 ?h3); (case h1 => exact rfl); (case h2 => walk_at "ev"); (case h3 => walk_at "op"))
  | with_reducible assumption)
local macro_rules | `(tactic| walk_at "len") => `(tactic| first
  | ((simp only [List.length_map, List.length_cons, List.length_nil, List.length_append, List.length_range]) <;> walk_at "num")
  | walk_at "num")
local macro_rules | `(tactic| walk_at "its") => `(tactic| first
  | with_reducible exact its_map
  | with_reducible exact its_map2
  | exact rfl)
local macro_rules | `(tactic| walk_at "rng") => `(tactic| first
  | ((with_reducible refine rng1 ?_ ?_) <;> walk_at "num")
  | ((with_reducible refine rng2 ?_ ?_ ?_ ?_) <;> walk_at "num"))
local macro_rules | `(tactic| walk_at "es") => `(tactic| simp (config := {failIfUnchanged := false}) only [List.set_cons_zero, List.set_cons_succ])
local macro_rules | `(tactic| walk_at "start") => `(tactic| (simp only [List.map_cons, List.map_nil, List.cons_append, List.nil_append, List.length_cons, List.length_nil, Nat.reduceAdd, Nat.reduceSub, List.replicate_succ, List.replicate_zero]))
local macro_rules | `(tactic| walk_at "st1") => `(tactic| first
  | ((with_reducible refine' wo_seq ?k))
  | ((with_reducible refine' wo_ift ?h ?e ?k); (case h => walk_at "ev"); (case e => simp only [beq_self_eq_true, Bool.true_beq, Bool.false_beq, decide_eq_true_eq, decide_eq_false_iff_not, Bool.not_eq_true', Bool.not_eq_false', Bool.or_eq_true, Bool.and_eq_true, Bool.or_eq_false_iff, Bool.and_eq_false_imp, Bool.not_true, Bool.not_false, Bool.false_or, Bool.or_false, Bool.true_or, Bool.or_true, Bool.true_and, Bool.and_true, Bool.false_and, Bool.and_false, Bool.true_eq_false, Bool.false_eq_true, decide_true, decide_false, reduceCtorEq, D.isNone, Int.not_lt, Int.not_le, ne_eq, Decidable.not_not, not_true_eq_false, not_false_eq_true, false_implies, true_implies, implies_true, and_true, true_and, and_false, false_and, or_true, true_or, or_false, false_or, reduceIte, eq_self]))
  | ((with_reducible refine' wo_iff ?h ?e ?k); (case h => walk_at "ev"); (case e => simp only [beq_self_eq_true, Bool.true_beq, Bool.false_beq, decide_eq_true_eq, decide_eq_false_iff_not, Bool.not_eq_true', Bool.not_eq_false', Bool.or_eq_true, Bool.and_eq_true, Bool.or_eq_false_iff, Bool.and_eq_false_imp, Bool.not_true, Bool.not_false, Bool.false_or, Bool.or_false, Bool.true_or, Bool.or_true, Bool.true_and, Bool.and_true, Bool.false_and, Bool.and_false, Bool.true_eq_false, Bool.false_eq_true, decide_true, decide_false, reduceCtorEq, D.isNone, Int.not_lt, Int.not_le, ne_eq, Decidable.not_not, not_true_eq_false, not_false_eq_true, false_implies, true_implies, implies_true, and_true, true_and, and_false, false_and, or_true, true_or, or_false, false_or, reduceIte, eq_self]))
  | (((with_reducible refine' wo_asg ?h1 ?k); (case h1 => walk_at "ev")); walk_at "es")
  | ((with_reducible refine' wo_ret ?h1 ?k); (case h1 => walk_at "ev"))
  | (((with_reducible refine' wo_tgt ?h1 ?h2 ?k); (case h1 => walk_at "ev"); (case h2 => exact rfl)); walk_at "es")
  | ((with_reducible refine' wo_nil ?k))
  | ((with_reducible refine' wo_raise ?k))
  | (((with_reducible refine' wo_own ?h1 ?k); (case h1 => walk_at "ev")); walk_at "es")
  | (((with_reducible refine' wo_asgL ?h1 ?k); (case h1 => walk_at "ev")); walk_at "es")
  | (((with_reducible refine' wo_app ?h1 ?h2 ?h3 ?k); (case h1 => exact rfl); (case h2 => walk_at "ev"); (case h3 => walk_at "len")); walk_at "es")
  | (((with_reducible refine' wo_par ?h1 ?h2 ?k); (case h1 => walk_at "ev"); (case h2 => walk_at "ev")); walk_at "es")
  | ((with_reducible refine wo_frz ?_); simp only [frz, List.getElem?_cons_zero, List.getElem?_cons_succ, List.set_cons_zero, List.set_cons_succ]))
local macro_rules | `(tactic| walk_at "st") => `(tactic| (walk_at "st1"; try dsimp only))
local macro_rules | `(tactic| walk_at "hs") => `(tactic| ((try simp only [beq_self_eq_true, Bool.true_beq, Bool.false_beq, decide_eq_true_eq, decide_eq_false_iff_not, Bool.not_eq_true', Bool.not_eq_false', Bool.or_eq_true, Bool.and_eq_true, Bool.or_eq_false_iff, Bool.and_eq_false_imp, Bool.not_true, Bool.not_false, Bool.false_or, Bool.or_false, Bool.true_or, Bool.or_true, Bool.true_and, Bool.and_true, Bool.false_and, Bool.and_false, Bool.true_eq_false, Bool.false_eq_true, decide_true, decide_false, reduceCtorEq, D.isNone, Int.not_lt, Int.not_le, ne_eq, Decidable.not_not, not_true_eq_false, not_false_eq_true, false_implies, true_implies, implies_true, and_true, true_and, and_false, false_and, or_true, true_or, or_false, false_or, reduceIte, eq_self]); exact rfl))
local macro_rules | `(tactic| walk_at "fls") => `(tactic| first | (with_reducible exact False.elim) | (with_reducible refine fun (_ : True) => ?_) | skip)
local macro_rules | `(tactic| walk_at "if") => `(tactic| ((with_reducible refine' wo_ifx ?h ?e1 ?e2 ?k1 ?k2); (case h => walk_at "ev"); (case e1 => walk_at "hs"); (case e2 => walk_at "hs"); (case' k1 => walk_at "fls"); (case' k2 => walk_at "fls")))
local macro_rules | `(tactic| walk_at "tt") => `(tactic| (try simp only [beq_self_eq_true, Bool.true_beq, Bool.false_beq, decide_eq_true_eq, decide_eq_false_iff_not, Bool.not_eq_true', Bool.not_eq_false', Bool.or_eq_true, Bool.and_eq_true, Bool.or_eq_false_iff, Bool.and_eq_false_imp, Bool.not_true, Bool.not_false, Bool.false_or, Bool.or_false, Bool.true_or, Bool.or_true, Bool.true_and, Bool.and_true, Bool.false_and, Bool.and_false, Bool.true_eq_false, Bool.false_eq_true, decide_true, decide_false, reduceCtorEq, D.isNone, Int.not_lt, Int.not_le, ne_eq, Decidable.not_not, not_true_eq_false, not_false_eq_true, false_implies, true_implies, implies_true, and_true, true_and, and_false, false_and, or_true, true_or, or_false, false_or, reduceIte, eq_self]))
local macro_rules | `(tactic| walk_at "hc") => `(tactic| simp only [beq_self_eq_true, Bool.true_beq, Bool.false_beq, decide_eq_true_eq, decide_eq_false_iff_not, Bool.not_eq_true', Bool.not_eq_false', Bool.or_eq_true, Bool.and_eq_true, Bool.or_eq_false_iff, Bool.and_eq_false_imp, Bool.not_true, Bool.not_false, Bool.false_or, Bool.or_false, Bool.true_or, Bool.or_true, Bool.true_and, Bool.and_true, Bool.false_and, Bool.and_false, Bool.true_eq_false, Bool.false_eq_true, decide_true, decide_false, reduceCtorEq, D.isNone, Int.not_lt, Int.not_le, ne_eq, Decidable.not_not, not_true_eq_false, not_false_eq_true, false_implies, true_implies, implies_true, and_true, true_and, and_false, false_and, or_true, true_or, or_false, false_or, reduceIte, eq_self] at *)
local macro_rules | `(tactic| walk_at "sts") => `(tactic| (walk_at "st"; try (walk_at "st"; try (walk_at "st"; try (walk_at "st"; try (walk_at "st"; try (walk_at "st"; try (walk_at "st"; try (walk_at "st"; try (walk_at "st"; try (walk_at "st"; try (walk_at "st"; try (walk_at "st"; try (walk_at "st"; try (walk_at "st"; try (walk_at "st"; try (walk_at "st"; try (walk_at "st"; try (walk_at "st"; try (walk_at "st"; try (walk_at "st"; try (walk_at "st"; try (walk_at "st"; try (walk_at "st"; try (walk_at "st"; try (walk_at "st"; try (walk_at "st"; try (walk_at "st"; try (walk_at "st"; try (walk_at "st"; try (walk_at "st"; try (walk_at "st"; try (walk_at "st"; try (walk_at "st"; try (walk_at "st"; try (walk_at "st"; try (walk_at "st"; try (walk_at "st"; try (walk_at "st"; try (walk_at "st"; try (walk_at "st"; try (walk_at "st"))))))))))))))))))))))))))))))))))))))))))
def cz (C : List Pt) (i : Int) : Pt := cy C (i % (C.length : Int)).toNat
theorem cz_nat (C : List Pt) (k : Nat) : cz C (k : Int) = cy C k := by
  unfold cz
  rw [show ((k : Int) % (C.length : Int)).toNat = k % C.length by rw [← Int.natCast_emod]; rfl, cy_mod]
theorem cz_mod (C : List Pt) (i : Int) : cz C (i % (C.length : Int)) = cz C i := by
  unfold cz
  rw [Int.emod_emod]
theorem cz_add (C : List Pt) (i : Int) : cz C (i + (C.length : Int)) = cz C i := by
  unfold cz
  rw [Int.add_emod_right]
theorem cz_congr {C : List Pt} {i j : Int} (h : i % (C.length : Int) = j % (C.length : Int)) : cz C i = cz C j := by
  unfold cz
  rw [h]
theorem cz_sub1 (C : List Pt) (i : Int) : cz C (i % (C.length : Int) - 1) = cz C (i - 1) := cz_congr (by rw [Int.emod_sub_emod])
theorem at_cz {C : List Pt} {i : Int} (h1 : -(C.length : Int) ≤ i) (h2 : i < (C.length : Int)) : dAt (.lst (C.map D2p)) (.int i) = some (D2p (cz C i)) := by
  by_cases h : 0 ≤ i
  · obtain ⟨k, rfl⟩ := Int.eq_ofNat_of_zero_le h
    rw [cz_nat]
    exact at_cy (by omega)
  · have e : i + (C.length : Int) = ((i + (C.length : Int)).toNat : Int) := by omega
    rw [← cz_add, e, cz_nat]
    show L2.atI (C.map D2p) i = _
    unfold L2.atI
    have e2 : L2.ixN (C.map D2p).length i = some (i + (C.length : Int)).toNat := by
      rw [List.length_map]
      unfold L2.ixN
      rw [if_neg (by omega), if_pos (by omega)]
    rw [e2, Option.bind_some, List.getElem?_map, cy_at (by omega)]
    rfl
theorem at_czm {C : List Pt} {x : Int} (h : 0 < C.length) : dAt (.lst (C.map D2p)) (.int (x % (C.length : Int))) = some (D2p (cz C x)) := by
  have h1 := Int.emod_nonneg x (by omega : (C.length : Int) ≠ 0)
  have h2 := Int.emod_lt_of_pos x (by omega : 0 < (C.length : Int))
  rw [at_cz (by omega) h2, cz_mod]
theorem at_czm1 {C : List Pt} {x : Int} (h : 0 < C.length) : dAt (.lst (C.map D2p)) (.int (x % (C.length : Int) - 1)) = some (D2p (cz C (x - 1))) := by
  have h1 := Int.emod_nonneg x (by omega : (C.length : Int) ≠ 0)
  have h2 := Int.emod_lt_of_pos x (by omega : 0 < (C.length : Int))
  rw [at_cz (by omega) (by omega), cz_sub1]
theorem bd_cz {n : Nat} {C : List Pt} (h : ∀ q ∈ C, BdP n q) (hc : 0 < C.length) (i : Int) : BdP n (cz C i) := bd_cy h hc _
theorem sides_get {C : List Pt} {k : Nat} (h : k < C.length) : (sidesP C)[k]? = some (cy C k, cy C (k + 1)) := by
  unfold sidesP
  rw [List.getElem?_map, List.getElem?_range h]
  rfl
theorem at_sides {C : List Pt} {k : Nat} (h : k < C.length) : dAt (.lst ((sidesP C).map D22)) (.int (k : Int)) = some (.tup [D2p (cz C k), D2p (cz C (k + 1))]) := by
  refine dAt_lst ?_
  rw [List.getElem?_map, sides_get h]
  show some (D22 (cy C k, cy C (k + 1))) = _
  rw [← cz_nat, ← cz_nat]
  rfl
theorem at_normals {C : List Pt} {k : Nat} (h : k < C.length) : dAt (.lst ((normalsP C).map D2p)) (.int (k : Int)) = some (D2p (nrm (cz C k) (cz C (k + 1)))) := by
  refine dAt_lst ?_
  unfold normalsP
  rw [List.getElem?_map, List.getElem?_map, List.getElem?_range h]
  show some (D2p (nrm (cy C k) (cy C (k + 1)))) = _
  rw [← cz_nat, ← cz_nat]
  rfl
section
variable {N : En → Prop} {T : D → Prop} {X : Str → Prop} {ρ : En} {a b body m : SM} {n : Nat} {ds : List D} {d e : D} {me ma mb mc : EM} {mr : AM} {t u : TM}
theorem wo_ins {i : Nat} {k : Int} {mk : EM} (h0 : ρ[i]? = some (.l ds)) (hk : mk ρ = .ok (.int k)) (h : me ρ = .ok d) (h1 : 0 ≤ k) (h2 : k < 2 ^ 62) (hl : ds.length < 16777216) (kk : N (ρ.set i (.l (ds.take k.toNat ++ [d] ++ ds.drop k.toNat)))) : WO (sIns i mk me ρ) N T X := by
  unfold sIns
  rw [h0]
  show WO (ofR ((mk ρ).bind fun k => (me ρ).bind fun d => R.ofO (insD ds k d)) ρ fun es => .nx (ρ.set i (.l es))) N T X
  rw [hk, bind_ok, h, bind_ok, show insD ds (.int k) d = some (ds.take k.toNat ++ [d] ++ ds.drop k.toNat) from if_pos ⟨h1, by omega, by rw [sizeLine_eq]; exact hl⟩]
  exact kk
theorem ev_cutS {ns : List Int} {i j : Int} (h1 : ma ρ = .ok (.scr ns)) (h2 : mb ρ = .ok (.int i)) (h3 : mc ρ = .ok (.int j)) : aCut ma (oSome mb) (oSome mc) ρ = .ok ((cutL ns (some i) (some j)).map D.int) := by
  unfold aCut oSome
  rw [h1, bind_ok, h2, bind_ok, h3]
  show R.ok (cutL (ns.map D.int) (some i) (some j)) = _
  rw [cutL_ints]
theorem ev_home (x y z : Int) : eC (.tup [.int x, .int y, .int z]) ρ = .ok (D3 x y z) := rfl
theorem ev_ownLenM {α : Type} {f : α → D} {l : List α} {i : Nat} (h : ρ[i]? = some (.l (l.map f))) : eOwnLen i ρ = .ok (.int (l.length : Int)) := by
  unfold eOwnLen
  rw [h]
  show R.ok (D.int (((l.map f).length : Nat) : Int)) = _
  rw [List.length_map]
theorem ev_revm {α : Type} {f : α → D} {l : List α} (h : ma ρ = .ok (.lst (l.map f))) : aLRev ma ρ = .ok (l.reverse.map f) := by
  unfold aLRev
  rw [h, bind_ok, List.map_reverse]
  rfl
theorem ev_rev {l : List D} (h : ma ρ = .ok (.lst l)) : aLRev ma ρ = .ok l.reverse := by
  unfold aLRev
  rw [h, bind_ok]
  rfl
theorem dLen_scr (ns : List Int) : dLen [.scr ns] = some (.int (ns.length : Int)) := rfl
theorem dLen_t2 (p : Pt) : dLen [D2p p] = some (.int 2) := rfl
theorem dLen_t3 (x y z : Int) : dLen [D3 x y z] = some (.int 3) := rfl
theorem dIs_nn : dIs .non .non = some (.bl true) := rfl
theorem dIs_pt (p : Pt) : dIs (D2p p) .non = some (.bl false) := rfl
theorem dIs_D3 (x y z : Int) : dIs (D3 x y z) .non = some (.bl false) := rfl
theorem dIs_lst (l : List D) : dIs (.lst l) .non = some (.bl false) := rfl
theorem dIsN_nn : dIsNot .non .non = some (.bl false) := rfl
theorem dIsN_pt (p : Pt) : dIsNot (D2p p) .non = some (.bl true) := rfl
theorem dIsN_D3 (x y z : Int) : dIsNot (D3 x y z) .non = some (.bl true) := rfl
theorem dLen_tup (ds : List D) : dLen [.tup ds] = some (.int (ds.length : Int)) := rfl
theorem rngN {k : Nat} (h : k < 2 ^ 62) : dRange [.int (k : Int)] = some (rg 0 1 k) := by
  rw [rng1 (by omega) (by omega)]
  exact congrArg (fun n => some (rg 0 1 n)) (Int.toNat_natCast k)
theorem lcc1 {d x : D} {xs r : List D} {g : D → En → Option En} (h : ∃ ρ1, g d ρ = some ρ1 ∧ mb ρ1 = .ok x) (h2 : lcGo g mYes mb r ρ = .ok xs) : lcGo g mYes mb (d :: r) ρ = .ok (x :: xs) := by
  obtain ⟨ρ1, h3, h4⟩ := h
  exact lcc h3 h4 h2
theorem ev_lc3 {d0 d1 d2 : D} {vs : List Nat} {g : D → En → Option En} (h1 : mr ρ = .ok [.int 3]) (k0 : ∃ ρ1, g (.int 0) (wipeE vs ρ) = some ρ1 ∧ mb ρ1 = .ok d0) (k1 : ∃ ρ1, g (.int 1) (wipeE vs ρ) = some ρ1 ∧ mb ρ1 = .ok d1) (k2 : ∃ ρ1, g (.int 2) (wipeE vs ρ) = some ρ1 ∧ mb ρ1 = .ok d2) : aLcR vs g mYes mr mb ρ = .ok [d0, d1, d2] := by
  unfold aLcR
  rw [h1, bind_ok, show dRange [.int 3] = some [.int 0, .int 1, .int 2] from rfl, ofO_some, bind_ok, if_pos (by rw [sizeLine_eq]; exact (by decide : 3 ≤ 16777216))]
  exact (lcc1 k0 (lcc1 k1 (lcc1 k2 (show lcGo g mYes mb [] (wipeE vs ρ) = .ok [] from rfl))))
theorem ev_lc6 {d0 d1 d2 d3 d4 d5 : D} {vs : List Nat} {g : D → En → Option En} (h1 : mr ρ = .ok [.int 6]) (k0 : ∃ ρ1, g (.int 0) (wipeE vs ρ) = some ρ1 ∧ mb ρ1 = .ok d0) (k1 : ∃ ρ1, g (.int 1) (wipeE vs ρ) = some ρ1 ∧ mb ρ1 = .ok d1) (k2 : ∃ ρ1, g (.int 2) (wipeE vs ρ) = some ρ1 ∧ mb ρ1 = .ok d2) (k3 : ∃ ρ1, g (.int 3) (wipeE vs ρ) = some ρ1 ∧ mb ρ1 = .ok d3) (k4 : ∃ ρ1, g (.int 4) (wipeE vs ρ) = some ρ1 ∧ mb ρ1 = .ok d4) (k5 : ∃ ρ1, g (.int 5) (wipeE vs ρ) = some ρ1 ∧ mb ρ1 = .ok d5) : aLcR vs g mYes mr mb ρ = .ok [d0, d1, d2, d3, d4, d5] := by
  unfold aLcR
  rw [h1, bind_ok, show dRange [.int 6] = some [.int 0, .int 1, .int 2, .int 3, .int 4, .int 5] from rfl, ofO_some, bind_ok, if_pos (by rw [sizeLine_eq]; exact (by decide : 6 ≤ 16777216))]
  exact (lcc1 k0 (lcc1 k1 (lcc1 k2 (lcc1 k3 (lcc1 k4 (lcc1 k5 (show lcGo g mYes mb [] (wipeE vs ρ) = .ok [] from rfl)))))))
theorem ev_lc8 {d0 d1 d2 d3 d4 d5 d6 d7 : D} {vs : List Nat} {g : D → En → Option En} (h1 : mr ρ = .ok [.int 8]) (k0 : ∃ ρ1, g (.int 0) (wipeE vs ρ) = some ρ1 ∧ mb ρ1 = .ok d0) (k1 : ∃ ρ1, g (.int 1) (wipeE vs ρ) = some ρ1 ∧ mb ρ1 = .ok d1) (k2 : ∃ ρ1, g (.int 2) (wipeE vs ρ) = some ρ1 ∧ mb ρ1 = .ok d2) (k3 : ∃ ρ1, g (.int 3) (wipeE vs ρ) = some ρ1 ∧ mb ρ1 = .ok d3) (k4 : ∃ ρ1, g (.int 4) (wipeE vs ρ) = some ρ1 ∧ mb ρ1 = .ok d4) (k5 : ∃ ρ1, g (.int 5) (wipeE vs ρ) = some ρ1 ∧ mb ρ1 = .ok d5) (k6 : ∃ ρ1, g (.int 6) (wipeE vs ρ) = some ρ1 ∧ mb ρ1 = .ok d6) (k7 : ∃ ρ1, g (.int 7) (wipeE vs ρ) = some ρ1 ∧ mb ρ1 = .ok d7) : aLcR vs g mYes mr mb ρ = .ok [d0, d1, d2, d3, d4, d5, d6, d7] := by
  unfold aLcR
  rw [h1, bind_ok, show dRange [.int 8] = some [.int 0, .int 1, .int 2, .int 3, .int 4, .int 5, .int 6, .int 7] from rfl, ofO_some, bind_ok, if_pos (by rw [sizeLine_eq]; exact (by decide : 8 ≤ 16777216))]
  exact (lcc1 k0 (lcc1 k1 (lcc1 k2 (lcc1 k3 (lcc1 k4 (lcc1 k5 (lcc1 k6 (lcc1 k7 (show lcGo g mYes mb [] (wipeE vs ρ) = .ok [] from rfl)))))))))
theorem ev_lcN {as : List D} {k : Nat} {f' : Nat → D} {vs : List Nat} {g : D → En → Option En} (h1 : mr ρ = .ok as) (h2 : dRange as = some (rg 0 1 k)) (hl : k ≤ 16777216)
    (h3 : ∀ x, x < k → ∃ ρ1, g (.int (x : Nat)) (wipeE vs ρ) = some ρ1 ∧ mb ρ1 = .ok (f' x)) : aLcR vs g mYes mr mb ρ = .ok ((List.range k).map f') :=
  ev_lcR h1 h2 hl fun x hx => by rw [show (0 : Int) + (x : Nat) * 1 = (x : Nat) by omega]; exact h3 x hx
end
theorem shp_mapL {α : Type} {f : α → D} {n : Nat} (h : ∀ a, Shp n (f a)) : ∀ l : List α, Shp (n + 1) (.lst (l.map f))
  | [] => ⟨rfl, by show 0 + 1 ≤ n + 1; omega⟩
  | a :: l => by
    have h1 := h a
    have h2 := shp_mapL h l
    constructor
    · show ((toP (f a)).canLay0 && PyData.canLayAll0 (toPs (l.map f))) = true
      rw [h1.1]
      exact h2.1
    · have g1 := h1.2
      have g2 : PyData.depthAll (toPs (l.map f)) + 1 ≤ n + 1 := h2.2
      show max (toP (f a)).depth (PyData.depthAll (toPs (l.map f))) + 1 ≤ n + 1
      omega
structure Body (n : Nat) (C : List Pt) : Prop where
  poly : ∃ ps : List Pt, ps.Pairwise lx ∧ Poly ps C
  len : C.length ≤ 100
  bd : ∀ q ∈ C, BdP n q
theorem Body.three {n : Nat} {C : List Pt} (h : Body n C) : 3 ≤ C.length := let ⟨_, _, P⟩ := h.poly; P.len
theorem Body.pos {n : Nat} {C : List Pt} (h : Body n C) : 0 < C.length := by have := h.three; omega
theorem Body.lt {n : Nat} {C : List Pt} (h : Body n C) : C.length < 10000 := by have := h.len; omega
theorem Body.mono {m n : Nat} {C : List Pt} (h : Body m C) (l : m ≤ n) : Body n C := ⟨h.poly, h.len, fun q hq => (h.bd q hq).mono l⟩
end Law
namespace Law
open PySem PySem.Spec PyProof.Rows L2 GD Hl TL
def tS (l : List Nat) : Str := ⟨l.toArray⟩
def T (l : List Nat) : D := .str (tS l)
theorem tl_tS (l : List Nat) : (tS l).cps.toList = l := rfl
theorem len_tS (l : List Nat) : (tS l).length = l.length := by simp [tS, Str.length]
theorem tS_inj {a b : List Nat} (h : tS a = tS b) : a = b := by
  have := congrArg (fun s : Str => s.cps.toList) h
  exact this
theorem lit_e : D.str "" = T [] := congrArg D.str (by decide +kernel)
theorem lit_m : D.str "-" = T [45] := congrArg D.str (by decide +kernel)
theorem lit_0 : D.str "0" = T [48] := congrArg D.str (by decide +kernel)
theorem lit_s : D.str "/" = T [47] := congrArg D.str (by decide +kernel)
theorem lit_f : D.str "0123456789" = T [48, 49, 50, 51, 52, 53, 54, 55, 56, 57] := congrArg D.str (by decide +kernel)
theorem dAdd_T {a b : List Nat} (h : a.length + b.length ≤ 16777216) : dAdd (T a) (T b) = some (T (a ++ b)) := by
  show (if catOk (tS a).length (tS b).length then _ else _) = _
  rw [if_pos (by unfold catOk; rw [len_tS, len_tS, sizeLine_eq]; exact h)]
  show some (D.str (tS a ++ tS b)) = _
  rw [show tS a ++ tS b = tS (a ++ b) from ext_tl (by rw [tl_append]; rfl)]
  rfl
theorem dLen_T {a : List Nat} (h : a.length ≤ 16777216) : dLen [T a] = some (.int (a.length : Int)) := by
  show (if (tS a).length ≤ sizeLine then _ else _) = _
  rw [if_pos (by rw [len_tS, sizeLine_eq]; exact h), len_tS]
abbrev okT (l : List Nat) : Prop := ∀ c ∈ l, c < 1114112
theorem shp_T {a : List Nat} (h : okT a) : Shp 0 (T a) := ⟨by
  show PyData.canLay0 (.str (tS a)) = true
  show (tS a).cps.all (· < 0x110000) = true
  rw [Array.all_eq_true_iff_forall_mem]
  intro c hc
  exact decide_eq_true (h c (by simpa [tS] using hc)), Nat.le_refl 0⟩
theorem okT.take {l : List Nat} (h : okT l) (k : Nat) : okT (l.take k) := fun c hc => h c (List.mem_of_mem_take hc)
theorem okT.drop {l : List Nat} (h : okT l) (k : Nat) : okT (l.drop k) := fun c hc => h c (List.mem_of_mem_drop hc)
theorem okT.app {l m : List Nat} (h : okT l) (g : okT m) : okT (l ++ m) := fun c hc => (List.mem_append.mp hc).elim (h c) (g c)
theorem okT.get {l : List Nat} (h : okT l) {k : Nat} (hk : k < l.length) : okT [l[k]] := fun c hc => by rw [List.mem_singleton.mp hc]; exact h _ (List.getElem_mem hk)
theorem okT.one {l : List Nat} (h : okT l) {c : Nat} (hc : c ∈ l) : okT [c] := fun d hd => by rw [List.mem_singleton.mp hd]; exact h c hc
theorem okT_dig {l : List Nat} (h : NumText.AllDigits l) : okT l := fun c hc => by have := h c hc; omega
theorem eqv_T (a b : List Nat) : PyData.eqv (toP (T a)) (toP (T b)) = decide (a = b) := by
  show (tS a == tS b) = _
  by_cases h : a = b
  · subst h
    rw [decide_eq_true rfl]
    exact beq_self_eq_true _
  · rw [decide_eq_false h]
    exact beq_false_of_ne fun e => h (tS_inj e)
theorem dEq_T {a b : List Nat} (ha : okT a) (hb : okT b) : dEq (T a) (T b) = some (.bl (decide (a = b))) := by
  unfold dEq
  rw [if_pos ⟨(shp_T ha).shaped (by decide), (shp_T hb).shaped (by decide)⟩, eqv_T]
theorem dNe_T {a b : List Nat} (ha : okT a) (hb : okT b) : dNe (T a) (T b) = some (.bl (!decide (a = b))) := by
  unfold dNe
  rw [if_pos ⟨(shp_T ha).shaped (by decide), (shp_T hb).shaped (by decide)⟩, eqv_T]
theorem dAt_T {a : List Nat} {k : Nat} (h : k < a.length) (hl : a.length ≤ 16777216) : dAt (T a) (.int (k : Int)) = some (T [a[k]]) := by
  show (if (tS a).length ≤ sizeLine then (atI (tS a).cps.toList (k : Int)).map _ else none) = _
  rw [if_pos (by rw [len_tS, sizeLine_eq]; exact hl), tl_tS]
  have e : atI a (k : Int) = some a[k] := by
    unfold atI ixN
    rw [if_pos (by omega), if_pos (by omega)]
    show a[((k : Int)).toNat]? = _
    rw [Int.toNat_natCast, List.getElem?_eq_getElem h]
  rw [e]
  rfl
theorem dIn_T (c : Nat) (z : List Nat) : dIn (T [c]) (T z) = some (.bl (decide (c ∈ z))) := by
  show some (D.bl (!(Builtin.Str.occurrences (tS z) (tS [c]) 0 (tS z).length 1).isEmpty)) = _
  have e := PySem.StrLaws.found_one (tS z) c
  rw [show (!(Builtin.Str.occurrences (tS z) (tS [c]) 0 (tS z).length 1).isEmpty) = decide (c ∈ z) from e]
theorem dOrd_T (c : Nat) : dOrd [T [c]] = some (.int (c : Int)) := rfl
theorem dCut_to {a : List Nat} {k : Nat} (hl : a.length ≤ 16777216) : dCut (T a) none (some (k : Int)) = some (T (a.take k)) := by
  show (if (tS a).length ≤ sizeLine then some (D.str (cutS (tS a) none (some (k : Int)))) else none) = _
  rw [if_pos (by rw [len_tS, sizeLine_eq]; exact hl)]
  unfold cutS
  rw [HT.sIx_none, HT.sIx_nat, len_tS, tl_tS]
  show some (T _) = _
  rw [List.drop_zero, Nat.sub_zero]
  congr 2
  by_cases h : k ≤ a.length
  · rw [Nat.min_eq_left h]
  · rw [Nat.min_eq_right (by omega), List.take_of_length_le (by omega), List.take_of_length_le (by omega)]
theorem dCut_from {a : List Nat} {k : Nat} (hl : a.length ≤ 16777216) : dCut (T a) (some (k : Int)) none = some (T (a.drop k)) := by
  show (if (tS a).length ≤ sizeLine then some (D.str (cutS (tS a) (some (k : Int)) none)) else none) = _
  rw [if_pos (by rw [len_tS, sizeLine_eq]; exact hl)]
  unfold cutS
  rw [HT.sIx_none, HT.sIx_nat, len_tS, tl_tS]
  show some (T _) = _
  congr 2
  by_cases h : k ≤ a.length
  · rw [Nat.min_eq_left h, List.take_of_length_le (by rw [List.length_drop]; omega)]
  · rw [Nat.min_eq_right (by omega), List.drop_of_length_le (by omega), List.drop_of_length_le (by omega), List.take_nil]
def numI (i : Int) : List Nat := if i < 0 then 45 :: numL i.natAbs else numL i.natAbs
theorem dStr_T {i : Int} (h : i.natAbs.log2 < 1920) : dStr [.int i] = some (T (numI i)) := by
  show (if i.natAbs.log2 < 1920 then some (D.str _) else none) = _
  rw [if_pos h]
  show some (T (Str.ofString (toString i)).cps.toList) = _
  congr 2
  unfold numI
  by_cases h0 : i < 0
  · rw [if_pos h0]
    obtain ⟨n, rfl⟩ := Int.eq_negSucc_of_lt_zero h0
    have e : toString (Int.negSucc n) = "-" ++ toString ((n + 1 : Nat) : Int) := rfl
    have e2 := tl_num (n + 1)
    have e3 := tl_ofString ("-" ++ toString ((n + 1 : Nat) : Int))
    have e4 := tl_ofString (toString ((n + 1 : Nat) : Int))
    rw [e]
    show tl _ = _
    rw [e3, String.toList_append, List.map_append, ← e4, e2]
    rfl
  · rw [if_neg h0]
    obtain ⟨n, rfl⟩ := Int.eq_ofNat_of_zero_le (show 0 ≤ i by omega)
    exact tl_num n
theorem ev_lit {ρ : En} {x : Str} {l : List Nat} (h : D.str x = T l) : eC (.str x) ρ = .ok (T l) := by rw [h]; rfl
theorem okT_numI (i : Int) : okT (numI i) := by
  unfold numI
  split
  · intro c hc
    rcases List.mem_cons.mp hc with rfl | hc
    · decide
    · exact okT_dig (numL_digits _) c hc
  · exact okT_dig (numL_digits _)
theorem ev_cutTo {ρ : En} {ma mk : EM} {a : List Nat} {k : Nat} (h1 : ma ρ = .ok (T a)) (h2 : mk ρ = .ok (.int (k : Int))) (h3 : a.length ≤ 16777216) : eCut ma oNone (oSome mk) ρ = .ok (T (a.take k)) := by
  unfold eCut oNone oSome
  rw [h1, bind_ok, bind_ok, h2]
  show R.ofO (dCut (T a) none (some (k : Int))) = _
  rw [dCut_to h3]
  rfl
theorem ev_cutFrom {ρ : En} {ma mk : EM} {a : List Nat} {k : Nat} (h1 : ma ρ = .ok (T a)) (h2 : mk ρ = .ok (.int (k : Int))) (h3 : a.length ≤ 16777216) : eCut ma (oSome mk) oNone ρ = .ok (T (a.drop k)) := by
  unfold eCut oNone oSome
  rw [h1, bind_ok, h2]
  show R.ofO (dCut (T a) (some (k : Int)) none) = _
  rw [dCut_from h3]
  rfl
theorem ev_cutTo1 {ρ : En} {ma : EM} {a : List Nat} (h1 : ma ρ = .ok (T a)) (h3 : a.length ≤ 16777216) : eCut ma oNone (oSome (eC (.int 1))) ρ = .ok (T (a.take 1)) := ev_cutTo (k := 1) h1 rfl h3
theorem ev_cutFrom1 {ρ : En} {ma : EM} {a : List Nat} (h1 : ma ρ = .ok (T a)) (h3 : a.length ≤ 16777216) : eCut ma (oSome (eC (.int 1))) oNone ρ = .ok (T (a.drop 1)) := ev_cutFrom (k := 1) h1 rfl h3
theorem dAt_Tn {a : List Nat} {k : Nat} (h : k < a.length) (hl : a.length ≤ 16777216) : dAt (T a) (.int (k : Int)) = some (T [a[k]]) := dAt_T h hl
theorem dAt_T0 {a : List Nat} (h : ¬ a = []) (hl : a.length ≤ 16777216) : dAt (T a) (.int 0) = some (T (a.take 1)) := by
  cases a with
  | nil => exact absurd rfl h
  | cons c r => exact dAt_T (a := c :: r) (k := 0) (by simp) hl
theorem isi_T (a : List Nat) : dIsi [T a, .ty "str"] = some (.bl true) := by
  show (kitB "str" "str").map D.bl = _
  rw [kb_str_str]
  rfl
theorem dIs_T (a : List Nat) : dIs (T a) .non = some (.bl false) := rfl
theorem dIsN_T (a : List Nat) : dIsNot (T a) .non = some (.bl true) := rfl
theorem its_S {a : List Nat} : asS (T a) = some (a.map sgn) := rfl
theorem sgn_T (c : Nat) : sgn c = T [c] := rfl
theorem log_bd {i : Int} (h : Bd 1900 i) : i.natAbs.log2 < 1920 := by
  have h' : i.natAbs < 2 ^ 1900 := h
  by_cases z : i.natAbs = 0
  · rw [z]; decide
  · have := (Nat.log2_lt z).mpr h'
    omega
theorem dIs_nnT : dIs .non .non = some (.bl true) := rfl
theorem dIsN_nnT : dIsNot .non .non = some (.bl false) := rfl
theorem dIs_iT (i : Int) : dIs (.int i) .non = some (.bl false) := rfl
theorem dIsN_iT (i : Int) : dIsNot (.int i) .non = some (.bl true) := rfl
theorem dIs_D2T (i j : Int) : dIs (D2 i j) .non = some (.bl false) := rfl
theorem dIsN_D2T (i j : Int) : dIsNot (D2 i j) .non = some (.bl true) := rfl
end Law
namespace Law
open PySem PySem.Spec PyProof.Rows L2 GD Hl TL
local macro_rules | `(tactic| walk_at "bd") => `(tactic| first
  | with_reducible assumption
  | with_reducible exact Bd.litO _
  | ((with_reducible refine' Bd.mul ?h ?g); (case h => walk_at "bd"); (case g => walk_at "bd"))
  | ((with_reducible refine' Bd.add ?h ?g); (case h => walk_at "bd"); (case g => walk_at "bd"))
  | ((with_reducible refine' Bd.sub ?h ?g); (case h => walk_at "bd"); (case g => walk_at "bd"))
  | ((with_reducible refine' Bd.neg ?h); (case h => walk_at "bd"))
  | ((with_reducible refine' Bd.emod ?h); (case h => walk_at "pos"))
  | ((with_reducible refine' Bd.ediv ?h); (case h => walk_at "bd"))
  | ((with_reducible refine' bd_fT ?h); (case h => walk_at "bd"))
  | ((with_reducible refine' bd_fB ?h); (case h => walk_at "bd"))
  | ((with_reducible refine' bd_sX ?h); (case h => walk_at "bd"))
  | ((with_reducible refine' bd_sY ?h); (case h => walk_at "bd"))
  | ((with_reducible refine' bd_sW ?h); (case h => walk_at "bd"))
  | ((with_reducible refine' bd_abs ?h); (case h => walk_at "bd"))
  | ((with_reducible refine' BdP.a ?h); (case h => walk_at "bdq"))
  | ((with_reducible refine' BdP.b ?h); (case h => walk_at "bdq"))
  | with_reducible exact bd_ite1
  | ((with_reducible refine' bd_ite ?h ?g); (case h => walk_at "bd"); (case g => walk_at "bd")))
local macro_rules | `(tactic| walk_at "pos") => `(tactic| first
  | with_reducible assumption
  | decide
  | omega)
local macro_rules | `(tactic| walk_at "bdq") => `(tactic| first
  | with_reducible assumption
  | ((with_reducible refine' bd_cy ?h ?g _); (case h => with_reducible assumption); (case g => first | with_reducible assumption | omega))
  | ((with_reducible refine' bd_mem ?h ?g); (case g => with_reducible assumption); (case h => with_reducible assumption))
  | ((with_reducible refine' bd_get ?h); (case h => with_reducible assumption)))
local macro_rules | `(tactic| walk_at "bdp") => `(tactic| first
  | walk_at "bdq"
  | ((with_reducible refine' BdP.mk ?h ?g); (case h => walk_at "bd"); (case g => walk_at "bd")))
local macro_rules | `(tactic| walk_at "num") => `(tactic| first
  | with_reducible assumption
  | omega
  | decide +kernel
  | (simp only [Nat.reduceLog2]; omega))
local macro_rules | `(tactic| walk_at "dis") => `(tactic| first
  | with_reducible assumption
  | ((with_reducible refine' mok ?h ?g ?l); (case h => walk_at "bd"); (case g => walk_at "bd"); (case l => walk_at "num"))
  | ((with_reducible refine' Bd.mono ?h ?l); (case h => walk_at "bd"); (case l => walk_at "num"))
  | ((with_reducible refine' BdP.mono ?h ?l); (case h => walk_at "bdp"); (case l => walk_at "num"))
  | ((with_reducible show divOk _); first | with_reducible assumption | decide +kernel | (refine' dok ?p ?h ?l; (case p => first | with_reducible assumption | omega); (case h => walk_at "bd"); (case l => walk_at "num")))
  | omega)
local macro_rules | `(tactic| walk_at "op") => `(tactic| first
  | with_reducible exact dAdd_int _ _
  | with_reducible exact dSub_int _ _
  | ((with_reducible refine dMul_int ?_); walk_at "dis")
  | with_reducible exact dAt_pp0 _ _
  | with_reducible exact dAt_pp1 _ _
  | with_reducible exact dAt_p0 _
  | with_reducible exact dAt_p1 _
  | with_reducible exact dAt_t0
  | with_reducible exact dAt_t1
  | with_reducible exact dAt_t2
  | with_reducible exact dAt_q0 _ _ _
  | with_reducible exact dAt_q1 _ _ _
  | with_reducible exact dAt_q2 _ _ _
  | with_reducible exact dAt_f0 _ _
  | with_reducible exact dAt_f1 _ _
  | with_reducible exact dLt_int _ _
  | with_reducible exact dLe_int _ _
  | with_reducible exact dGt_int _ _
  | with_reducible exact dGe_int _ _
  | with_reducible exact dEq_int _ _
  | with_reducible exact dNe_int _ _
  | ((with_reducible refine dMod_int ?_); walk_at "dis")
  | ((with_reducible refine dDiv_int ?_); walk_at "dis")
  | with_reducible exact dNeg_int _
  | with_reducible exact dIs_non _
  | with_reducible exact dIsNot_non _
  | with_reducible exact dAbs_int _
  | with_reducible exact dMax2_int _ _
  | with_reducible exact dMin2_int _ _
  | with_reducible exact dInt_bl _
  | with_reducible exact dLen_pts _
  | with_reducible exact dEq_pt _ _
  | with_reducible exact dNe_pt _ _
  | with_reducible exact dEq_pts _ _
  | with_reducible exact dNe_pts _ _
  | with_reducible exact dNe_bl _ _
  | with_reducible exact dEq_bl _ _
  | with_reducible exact dEq_D3 _ _ _ _ _ _
  | with_reducible exact dNe_D3 _ _ _ _ _ _
  | with_reducible exact dEq_np _
  | with_reducible exact dNe_np _
  | ((with_reducible refine at_last ?_); walk_at "dis")
  | with_reducible exact dAt_l0
  | with_reducible exact dAt_l1
  | with_reducible exact dAt_l2
  | with_reducible exact dAt_l3
  | with_reducible exact dAt_l4
  | with_reducible exact dAt_l5
  | with_reducible exact dAt_l6
  | with_reducible exact dAt_l7
  | ((with_reducible refine' dNe_self ?h ?l); (case h => walk_at "shp"); (case l => decide))
  | ((with_reducible refine' dEq_self ?h ?l); (case h => walk_at "shp"); (case l => decide))
  | with_reducible assumption
  | exact isi_int _ _ _ _ rfl kb_tuple_tuple
  | exact isi_int _ _ _ _ rfl kb_list_list
  | exact isi_int _ _ _ _ rfl kb_int_int
  | exact isi_int _ _ _ _ rfl kb_bool_bool
  | exact isi_int _ _ _ _ rfl kb_int_bool
  | exact isi_int _ _ _ _ rfl kb_list_tuple
  | exact isi_int _ _ _ _ rfl kb_tuple_list
  | with_reducible rfl)
local macro_rules | `(tactic| walk_at "shp") => `(tactic| first
  | with_reducible exact shp_int _
  | with_reducible exact shp_bl _
  | with_reducible exact shp_non
  | with_reducible exact shp_pt _
  | with_reducible exact shp_pts _
  | with_reducible exact shp_D2 _ _
  | with_reducible exact shp_fr _ _
  | with_reducible exact shp_D3 _ _ _
  | with_reducible exact shp_sp _ _ _
  | with_reducible exact shp_nilL
  | with_reducible exact shp_nilT
  | ((with_reducible refine' shp_consL ?h ?g); (case h => walk_at "shp"); (case g => walk_at "shp"))
  | ((with_reducible refine' shp_consT ?h ?g); (case h => walk_at "shp"); (case g => walk_at "shp"))
  | with_reducible assumption)
local macro_rules | `(tactic| walk_at "fn") => `(tactic| first
  | with_reducible assumption
  | with_reducible exact whole_int _
  | with_reducible exact divisor_eq _ _
  | with_reducible exact common_eq _ _)
local macro_rules | `(tactic| walk_at "ev") => `(tactic| first
  | with_reducible exact ev_c _
  | ((with_reducible refine' ev_var ?h1); (case h1 => exact rfl))
  | ((with_reducible refine' ev_e2 ?h1 ?h2 ?h3); (case h1 => walk_at "ev"); (case h2 => walk_at "ev"); (case h3 => walk_at "op"))
  | with_reducible exact ev_nil
  | ((with_reducible refine' ev_cons ?h1 ?h2); (case h1 => walk_at "ev"); (case h2 => walk_at "ev"))
  | ((with_reducible refine' ev_F ?h1 ?h2); (case h1 => walk_at "ev"); (case h2 => walk_at "fn"))
  | ((with_reducible refine' ev_mB ?h1); (case h1 => walk_at "ev"))
  | ((with_reducible refine' ev_B ?h1 ?h2); (case h1 => walk_at "ev"); (case h2 => walk_at "op"))
  | ((with_reducible refine' ev_tup2 ?h1 ?h2); (case h1 => walk_at "ev"); (case h2 => walk_at "ev"))
  | ((with_reducible refine' ev_tup3 ?h1 ?h2 ?h3); (case h1 => walk_at "ev"); (case h2 => walk_at "ev"); (case h3 => walk_at "ev"))
  | ((with_reducible refine' ev_tup ?h1 ?h2); (case h1 => walk_at "ev"); (case h2 => walk_at "len"))
  | ((with_reducible refine' ev_L ?h1); (case h1 => walk_at "ev"))
  | ((with_reducible refine' ev_lst ?h1 ?h2); (case h1 => walk_at "ev"); (case h2 => walk_at "len"))
  | ((with_reducible refine' ev_not ?h1); (case h1 => walk_at "ev"))
  | ((with_reducible refine' ev_and0 ?h1); (case h1 => walk_at "ev"))
  | ((with_reducible refine' ev_and ?h1 ?h2); (case h1 => walk_at "ev"); (case h2 => (intro hq; (try simp only [decide_eq_true_eq, decide_eq_false_iff_not, Bool.not_eq_true', Bool.not_eq_false'] at hq); walk_at "ev")))
  | ((with_reducible refine' ev_or1 ?h1); (case h1 => walk_at "ev"))
  | ((with_reducible refine' ev_or ?h1 ?h2); (case h1 => walk_at "ev"); (case h2 => (intro hq; (try simp only [decide_eq_true_eq, decide_eq_false_iff_not, Bool.not_eq_true', Bool.not_eq_false'] at hq); walk_at "ev")))
  | ((with_reducible refine' ev_eNot ?h1); (case h1 => walk_at "ev"))
  | ((with_reducible refine' ev_eAnd0 ?h1); (case h1 => walk_at "ev"))
  | ((with_reducible refine' ev_eAnd ?h1 ?h2); (case h1 => walk_at "ev"); (case h2 => (intro hq; (try simp only [decide_eq_true_eq, decide_eq_false_iff_not, Bool.not_eq_true', Bool.not_eq_false'] at hq); walk_at "ev")))
  | ((with_reducible refine' ev_eOr1 ?h1); (case h1 => walk_at "ev"))
  | ((with_reducible refine' ev_eOr ?h1 ?h2); (case h1 => walk_at "ev"); (case h2 => (intro hq; (try simp only [decide_eq_true_eq, decide_eq_false_iff_not, Bool.not_eq_true', Bool.not_eq_false'] at hq); walk_at "ev")))
  | ((with_reducible refine' ev_e1 ?h1 ?h2); (case h1 => walk_at "ev"); (case h2 => walk_at "op"))
  | ((with_reducible refine' ev_copy ?h1 ?h2); (case h1 => walk_at "ev"); (case h2 => exact rfl))
  | ((with_reducible refine' ev_ch ?h1 ?h2 ?h3 ?h4 ?h5); (case h1 => walk_at "ev"); (case h2 => walk_at "ev"); (case h3 => walk_at "op"); (case h4 => (intro hq; (try simp only [decide_eq_true_eq, decide_eq_false_iff_not, Bool.not_eq_true', Bool.not_eq_false'] at hq); walk_at "ev")); (case h5 => (intro _; walk_at "op")))
  | ((with_reducible refine' ev_lc ?h1 ?h2 ?h3 ?h4); (case h1 => walk_at "ev"); (case h2 => walk_at "its"); (case h3 => walk_at "len"); (case h4 => (intro _ _; exact ⟨_, rfl, by walk_at "ev"⟩)))
  | ((with_reducible refine' ev_lcR ?h1 ?h2 ?h3 ?h4); (case h1 => walk_at "ev"); (case h2 => walk_at "rng"); (case h3 => walk_at "len"); (case h4 => (intro _ _; exact ⟨_, rfl, by walk_at "ev"⟩)))
  | ((with_reducible refine' ev_cat ?h1 ?h2 ?h3); (case h1 => walk_at "ev"); (case h2 => walk_at "ev"); (case h3 => walk_at "len"))
  | ((with_reducible refine' ev_ownLen ?h1); (case h1 => exact rfl))
  | ((with_reducible refine' ev_ownAt ?h1 ?h2 ?h3); (case h1 => exact rfl); (case h2 => walk_at "ev"); (case h3 => walk_at "op"))
  | with_reducible assumption)
local macro_rules | `(tactic| walk_at "len") => `(tactic| first
  | ((simp only [List.length_map, List.length_cons, List.length_nil, List.length_append, List.length_range]) <;> walk_at "num")
  | walk_at "num")
local macro_rules | `(tactic| walk_at "its") => `(tactic| first
  | with_reducible exact its_map
  | with_reducible exact its_map2
  | exact rfl)
local macro_rules | `(tactic| walk_at "rng") => `(tactic| first
  | ((with_reducible refine rng1 ?_ ?_) <;> walk_at "num")
  | ((with_reducible refine rng2 ?_ ?_ ?_ ?_) <;> walk_at "num"))
local macro_rules | `(tactic| walk_at "es") => `(tactic| simp (config := {failIfUnchanged := false}) only [List.set_cons_zero, List.set_cons_succ])
local macro_rules | `(tactic| walk_at "start") => `(tactic| (simp only [List.map_cons, List.map_nil, List.cons_append, List.nil_append, List.length_cons, List.length_nil, Nat.reduceAdd, Nat.reduceSub, List.replicate_succ, List.replicate_zero]))
local macro_rules | `(tactic| walk_at "st1") => `(tactic| first
  | ((with_reducible refine' wo_seq ?k))
  | ((with_reducible refine' wo_ift ?h ?e ?k); (case h => walk_at "ev"); (case e => simp only [beq_self_eq_true, Bool.true_beq, Bool.false_beq, decide_eq_true_eq, decide_eq_false_iff_not, Bool.not_eq_true', Bool.not_eq_false', Bool.or_eq_true, Bool.and_eq_true, Bool.or_eq_false_iff, Bool.and_eq_false_imp, Bool.not_true, Bool.not_false, Bool.false_or, Bool.or_false, Bool.true_or, Bool.or_true, Bool.true_and, Bool.and_true, Bool.false_and, Bool.and_false, Bool.true_eq_false, Bool.false_eq_true, decide_true, decide_false, reduceCtorEq, D.isNone, Int.not_lt, Int.not_le, ne_eq, Decidable.not_not, not_true_eq_false, not_false_eq_true, false_implies, true_implies, implies_true, and_true, true_and, and_false, false_and, or_true, true_or, or_false, false_or, reduceIte, eq_self]))
  | ((with_reducible refine' wo_iff ?h ?e ?k); (case h => walk_at "ev"); (case e => simp only [beq_self_eq_true, Bool.true_beq, Bool.false_beq, decide_eq_true_eq, decide_eq_false_iff_not, Bool.not_eq_true', Bool.not_eq_false', Bool.or_eq_true, Bool.and_eq_true, Bool.or_eq_false_iff, Bool.and_eq_false_imp, Bool.not_true, Bool.not_false, Bool.false_or, Bool.or_false, Bool.true_or, Bool.or_true, Bool.true_and, Bool.and_true, Bool.false_and, Bool.and_false, Bool.true_eq_false, Bool.false_eq_true, decide_true, decide_false, reduceCtorEq, D.isNone, Int.not_lt, Int.not_le, ne_eq, Decidable.not_not, not_true_eq_false, not_false_eq_true, false_implies, true_implies, implies_true, and_true, true_and, and_false, false_and, or_true, true_or, or_false, false_or, reduceIte, eq_self]))
  | (((with_reducible refine' wo_asg ?h1 ?k); (case h1 => walk_at "ev")); walk_at "es")
  | ((with_reducible refine' wo_ret ?h1 ?k); (case h1 => walk_at "ev"))
  | (((with_reducible refine' wo_tgt ?h1 ?h2 ?k); (case h1 => walk_at "ev"); (case h2 => exact rfl)); walk_at "es")
  | ((with_reducible refine' wo_nil ?k))
  | ((with_reducible refine' wo_raise ?k))
  | (((with_reducible refine' wo_own ?h1 ?k); (case h1 => walk_at "ev")); walk_at "es")
  | (((with_reducible refine' wo_asgL ?h1 ?k); (case h1 => walk_at "ev")); walk_at "es")
  | (((with_reducible refine' wo_app ?h1 ?h2 ?h3 ?k); (case h1 => exact rfl); (case h2 => walk_at "ev"); (case h3 => walk_at "len")); walk_at "es")
  | (((with_reducible refine' wo_par ?h1 ?h2 ?k); (case h1 => walk_at "ev"); (case h2 => walk_at "ev")); walk_at "es")
  | ((with_reducible refine wo_frz ?_); simp only [frz, List.getElem?_cons_zero, List.getElem?_cons_succ, List.set_cons_zero, List.set_cons_succ]))
local macro_rules | `(tactic| walk_at "st") => `(tactic| (walk_at "st1"; try dsimp only))
local macro_rules | `(tactic| walk_at "hs") => `(tactic| ((try simp only [beq_self_eq_true, Bool.true_beq, Bool.false_beq, decide_eq_true_eq, decide_eq_false_iff_not, Bool.not_eq_true', Bool.not_eq_false', Bool.or_eq_true, Bool.and_eq_true, Bool.or_eq_false_iff, Bool.and_eq_false_imp, Bool.not_true, Bool.not_false, Bool.false_or, Bool.or_false, Bool.true_or, Bool.or_true, Bool.true_and, Bool.and_true, Bool.false_and, Bool.and_false, Bool.true_eq_false, Bool.false_eq_true, decide_true, decide_false, reduceCtorEq, D.isNone, Int.not_lt, Int.not_le, ne_eq, Decidable.not_not, not_true_eq_false, not_false_eq_true, false_implies, true_implies, implies_true, and_true, true_and, and_false, false_and, or_true, true_or, or_false, false_or, reduceIte, eq_self]); exact rfl))
local macro_rules | `(tactic| walk_at "fls") => `(tactic| first | (with_reducible exact False.elim) | (with_reducible refine fun (_ : True) => ?_) | skip)
local macro_rules | `(tactic| walk_at "if") => `(tactic| ((with_reducible refine' wo_ifx ?h ?e1 ?e2 ?k1 ?k2); (case h => walk_at "ev"); (case e1 => walk_at "hs"); (case e2 => walk_at "hs"); (case' k1 => walk_at "fls"); (case' k2 => walk_at "fls")))
local macro_rules | `(tactic| walk_at "tt") => `(tactic| (try simp only [beq_self_eq_true, Bool.true_beq, Bool.false_beq, decide_eq_true_eq, decide_eq_false_iff_not, Bool.not_eq_true', Bool.not_eq_false', Bool.or_eq_true, Bool.and_eq_true, Bool.or_eq_false_iff, Bool.and_eq_false_imp, Bool.not_true, Bool.not_false, Bool.false_or, Bool.or_false, Bool.true_or, Bool.or_true, Bool.true_and, Bool.and_true, Bool.false_and, Bool.and_false, Bool.true_eq_false, Bool.false_eq_true, decide_true, decide_false, reduceCtorEq, D.isNone, Int.not_lt, Int.not_le, ne_eq, Decidable.not_not, not_true_eq_false, not_false_eq_true, false_implies, true_implies, implies_true, and_true, true_and, and_false, false_and, or_true, true_or, or_false, false_or, reduceIte, eq_self]))
local macro_rules | `(tactic| walk_at "hc") => `(tactic| simp only [beq_self_eq_true, Bool.true_beq, Bool.false_beq, decide_eq_true_eq, decide_eq_false_iff_not, Bool.not_eq_true', Bool.not_eq_false', Bool.or_eq_true, Bool.and_eq_true, Bool.or_eq_false_iff, Bool.and_eq_false_imp, Bool.not_true, Bool.not_false, Bool.false_or, Bool.or_false, Bool.true_or, Bool.or_true, Bool.true_and, Bool.and_true, Bool.false_and, Bool.and_false, Bool.true_eq_false, Bool.false_eq_true, decide_true, decide_false, reduceCtorEq, D.isNone, Int.not_lt, Int.not_le, ne_eq, Decidable.not_not, not_true_eq_false, not_false_eq_true, false_implies, true_implies, implies_true, and_true, true_and, and_false, false_and, or_true, true_or, or_false, false_or, reduceIte, eq_self] at *)
local macro_rules | `(tactic| walk_at "sts") => `(tactic| (walk_at "st"; try (walk_at "st"; try (walk_at "st"; try (walk_at "st"; try (walk_at "st"; try (walk_at "st"; try (walk_at "st"; try (walk_at "st"; try (walk_at "st"; try (walk_at "st"; try (walk_at "st"; try (walk_at "st"; try (walk_at "st"; try (walk_at "st"; try (walk_at "st"; try (walk_at "st"; try (walk_at "st"; try (walk_at "st"; try (walk_at "st"; try (walk_at "st"; try (walk_at "st"; try (walk_at "st"; try (walk_at "st"; try (walk_at "st"; try (walk_at "st"; try (walk_at "st"; try (walk_at "st"; try (walk_at "st"; try (walk_at "st"; try (walk_at "st"; try (walk_at "st"; try (walk_at "st"; try (walk_at "st"; try (walk_at "st"; try (walk_at "st"; try (walk_at "st"; try (walk_at "st"; try (walk_at "st"; try (walk_at "st"; try (walk_at "st"; try (walk_at "st"))))))))))))))))))))))))))))))))))))))))))
local macro_rules | `(tactic| walk_at "op") => `(tactic| first
  | with_reducible assumption
  | with_reducible exact dIs_nn
  | with_reducible exact dIs_pt _
  | with_reducible exact dIs_D3 _ _ _
  | with_reducible exact dIsN_nn
  | with_reducible exact dIsN_pt _
  | with_reducible exact dIsN_D3 _ _ _
  | ((with_reducible refine at_czm ?_); first | with_reducible assumption | omega)
  | ((with_reducible refine at_czm1 ?_); first | with_reducible assumption | omega)
  | ((with_reducible refine at_sides ?_); first | with_reducible assumption | omega)
  | ((with_reducible refine at_normals ?_); first | with_reducible assumption | omega)
  | ((with_reducible refine at_cz ?_ ?_) <;> first | with_reducible assumption | omega)
  | with_reducible exact dLen_scr _
  | with_reducible exact dLen_tup _
  | walk_at "opx")
local macro_rules | `(tactic| walk_at "opx") => `(tactic| first
  | with_reducible exact isi_bb _
  | with_reducible exact dIs_i _
  | with_reducible exact isi_u _
  | with_reducible exact dLen_u _
  | with_reducible exact dEqN_D3t _ _
  | with_reducible exact dEqE_D3t _ _
  | ((with_reducible refine at_lstI ?_ ?_) <;> first | with_reducible assumption | omega)
  | with_reducible exact dIs_D3t _
  | with_reducible exact dIsN_D3t _
  | with_reducible exact dAt_u0 _
  | with_reducible exact dAt_u1 _
  | with_reducible exact dAt_u2 _
  | with_reducible exact dIs_nn
  | with_reducible exact dIs_pt _
  | with_reducible exact dIs_D3 _ _ _
  | with_reducible exact dIs_lst _
  | with_reducible exact dIsN_nn
  | with_reducible exact dIsN_pt _
  | with_reducible exact dIsN_D3 _ _ _
  | with_reducible exact dLen_t2 _
  | with_reducible exact dLen_t3 _ _ _
  | with_reducible assumption)
local macro_rules | `(tactic| walk_at "bdq") => `(tactic| first
  | ((with_reducible refine' bd_cz ?h ?g _); (case h => first | with_reducible assumption | exact Body.bd (by with_reducible assumption)); (case g => first | with_reducible assumption | exact Body.pos (by with_reducible assumption) | omega)))
local macro_rules | `(tactic| walk_at "shp") => `(tactic| first
  | ((with_reducible refine' shp_mapL ?h _); (case h => (intro _; walk_at "shp"))))
local macro_rules | `(tactic| walk_at "rng") => `(tactic| first
  | ((with_reducible refine rngN ?_); walk_at "num"))
local macro_rules | `(tactic| walk_at "st1") => `(tactic| first
  | (((with_reducible refine' wo_ins ?h1 ?h2 ?h3 ?h4 ?h5 ?h6 ?k); (case h1 => exact rfl); (case h2 => walk_at "ev"); (case h3 => walk_at "ev"); (case h4 => walk_at "num"); (case h5 => walk_at "num"); (case h6 => walk_at "len")); walk_at "es"))
local macro_rules | `(tactic| walk_at "ev") => `(tactic| first
  | with_reducible exact ev_home _ _ _
  | ((with_reducible refine' ev_cutS ?h1 ?h2 ?h3); (case h1 => walk_at "ev"); (case h2 => walk_at "ev"); (case h3 => walk_at "ev"))
  | ((with_reducible refine' ev_ownLenM ?h1); (case h1 => exact rfl))
  | ((with_reducible refine' ev_revm ?h1); (case h1 => walk_at "ev"))
  | ((with_reducible refine' ev_rev ?h1); (case h1 => walk_at "ev"))
  | ((with_reducible refine' ev_lc6 ?h1 ?h2 ?h3 ?h4 ?h5 ?h6 ?h7); (case h1 => walk_at "ev"); (case h2 => exact ⟨_, rfl, by walk_at "ev"⟩); (case h3 => exact ⟨_, rfl, by walk_at "ev"⟩); (case h4 => exact ⟨_, rfl, by walk_at "ev"⟩); (case h5 => exact ⟨_, rfl, by walk_at "ev"⟩); (case h6 => exact ⟨_, rfl, by walk_at "ev"⟩); (case h7 => exact ⟨_, rfl, by walk_at "ev"⟩))
  | ((with_reducible refine' ev_lc8 ?h1 ?h2 ?h3 ?h4 ?h5 ?h6 ?h7 ?h8 ?h9); (case h1 => walk_at "ev"); (case h2 => exact ⟨_, rfl, by walk_at "ev"⟩); (case h3 => exact ⟨_, rfl, by walk_at "ev"⟩); (case h4 => exact ⟨_, rfl, by walk_at "ev"⟩); (case h5 => exact ⟨_, rfl, by walk_at "ev"⟩); (case h6 => exact ⟨_, rfl, by walk_at "ev"⟩); (case h7 => exact ⟨_, rfl, by walk_at "ev"⟩); (case h8 => exact ⟨_, rfl, by walk_at "ev"⟩); (case h9 => exact ⟨_, rfl, by walk_at "ev"⟩))
  | ((with_reducible refine' ev_lc3 ?h1 ?h2 ?h3 ?h4); (case h1 => walk_at "ev"); (case h2 => exact ⟨_, rfl, by walk_at "ev"⟩); (case h3 => exact ⟨_, rfl, by walk_at "ev"⟩); (case h4 => exact ⟨_, rfl, by walk_at "ev"⟩))
  | ((with_reducible refine' ev_lcN ?h1 ?h2 ?h3 ?h4); (case h1 => walk_at "ev"); (case h2 => walk_at "rng"); (case h3 => walk_at "len"); (case h4 => (intro _ _; exact ⟨_, rfl, by walk_at "ev"⟩))))
local macro_rules | `(tactic| walk_at "okt") => `(tactic| first
  | with_reducible assumption
  | ((with_reducible refine okT.take ?_ _); walk_at "okt")
  | ((with_reducible refine okT.drop ?_ _); walk_at "okt")
  | ((with_reducible refine okT.app ?_ ?_) <;> walk_at "okt")
  | ((with_reducible refine okT_numI _))
  | decide)
local macro_rules | `(tactic| walk_at "lenT") => `(tactic| first
  | with_reducible assumption
  | omega
  | ((simp only [List.length_append, List.length_cons, List.length_nil, List.length_take, List.length_drop]) <;> omega)
  | decide)
local macro_rules | `(tactic| walk_at "op") => `(tactic| first
  | ((with_reducible refine dEq_T ?_ ?_) <;> walk_at "okt")
  | ((with_reducible refine dNe_T ?_ ?_) <;> walk_at "okt")
  | ((with_reducible refine dLen_T ?_); walk_at "lenT")
  | ((with_reducible refine dAdd_T ?_); walk_at "lenT")
  | with_reducible exact dIn_T _ _
  | with_reducible exact dOrd_T _
  | ((with_reducible refine dAt_T0 ?_ ?_); (first | with_reducible assumption | decide); walk_at "lenT")
  | ((with_reducible refine dAt_Tn ?_ ?_) <;> walk_at "lenT")
  | ((with_reducible refine dStr_T ?_); walk_at "log")
  | with_reducible exact isi_T _
  | with_reducible exact dIs_T _
  | with_reducible exact dIsN_T _
  | with_reducible exact dIs_nnT
  | with_reducible exact dIsN_nnT
  | with_reducible exact dIs_iT _
  | with_reducible exact dIsN_iT _
  | with_reducible exact dIs_D2T _ _
  | with_reducible exact dIsN_D2T _ _)
local macro_rules | `(tactic| walk_at "ev") => `(tactic| first
  | with_reducible exact ev_lit lit_e
  | with_reducible exact ev_lit lit_m
  | with_reducible exact ev_lit lit_0
  | with_reducible exact ev_lit lit_s
  | with_reducible exact ev_lit lit_f
  | ((with_reducible refine' ev_cutTo1 ?h1 ?h2); (case h1 => walk_at "ev"); (case h2 => walk_at "lenT"))
  | ((with_reducible refine' ev_cutFrom1 ?h1 ?h2); (case h1 => walk_at "ev"); (case h2 => walk_at "lenT"))
  | ((with_reducible refine' ev_cutTo ?h1 ?h2 ?h3); (case h1 => walk_at "ev"); (case h2 => walk_at "ev"); (case h3 => walk_at "lenT"))
  | ((with_reducible refine' ev_cutFrom ?h1 ?h2 ?h3); (case h1 => walk_at "ev"); (case h2 => walk_at "ev"); (case h3 => walk_at "lenT")))
local macro_rules | `(tactic| walk_at "st1") => `(tactic| first
  | ((with_reducible refine' wo_ift ?h ?e ?k); (case h => walk_at "ev"); (case e => first | decide | (simp [D.isNone]; done)))
  | ((with_reducible refine' wo_iff ?h ?e ?k); (case h => walk_at "ev"); (case e => first | decide | (simp [D.isNone]; done))))
local macro_rules | `(tactic| walk_at "log") => `(tactic| ((with_reducible refine log_bd ?_); walk_at "dis"))
def figs (l : List Nat) : List Nat := if l.take 1 = [45] then l.drop 1 else l
def digB (l : List Nat) : Bool := l.all fun c => decide (48 ≤ c) && decide (c ≤ 57)
theorem digB_iff {l : List Nat} : digB l = true ↔ NumText.AllDigits l := by
  unfold digB NumText.AllDigits
  rw [List.all_eq_true]
  constructor
  · intro h c hc
    have := h c hc
    simp at this
    exact this
  · intro h c hc
    have := h c hc
    simp [this]
def numOf (l : List Nat) : Option Int :=
  if figs l = [] ∨ 60 < (figs l).length ∨ ((figs l).take 1 = [48] ∧ ¬ l = [48]) then none
  else if digB (figs l) = true then some (if l.take 1 = [45] then -(NumText.digitsVal (figs l) : Int) else (NumText.digitsVal (figs l) : Int)) else none
def optI : Option Int → D
  | none => .non
  | some n => .int n
theorem figs_ok {l : List Nat} (h : okT l) : okT (figs l) := by
  unfold figs
  split
  · exact h.drop _
  · exact h
theorem figs_len (l : List Nat) : (figs l).length ≤ l.length := by
  unfold figs
  split
  · rw [List.length_drop]; omega
  · omega
theorem dv_lt : ∀ {l : List Nat}, NumText.AllDigits l → NumText.digitsVal l < 10 ^ l.length := by
  intro l
  induction h : l.length generalizing l with
  | zero =>
    intro _
    rw [List.length_eq_zero_iff.mp h]
    decide
  | succ n ih =>
    intro hd
    obtain ⟨m, c, rfl⟩ : ∃ m c, l = m ++ [c] := by
      rcases List.eq_nil_or_concat l with e | ⟨m, c, e⟩
      · rw [e] at h; simp at h
      · exact ⟨m, c, by rw [e]; simp⟩
    have hm : m.length = n := by rw [List.length_append] at h; simpa using h
    have i := ih hm fun d hd' => hd d (List.mem_append_left _ hd')
    have hc := hd c (List.mem_append_right _ (List.mem_singleton.mpr rfl))
    rw [NumText.digitsVal_snoc, Nat.pow_succ]
    omega
theorem num_due_L {l : List Nat} (ok : okT l) (hl : l.length ≤ 100000) : F__law_number_due [T l] = .ok (optI (numOf l)) := by
  have fo := figs_ok ok
  have fl := figs_len l
  unfold F__law_number_due b__law_number_due
  refine fn_ok ?_
  walk_at "start"
  walk_at "st"
  walk_at "st"
  walk_at "st"
  refine wo_cut (fun ρ => ρ = [.v (T l), .v (T (figs l)), .un, .un]) ?_ ?_
  · unfold figs
    walk_at "if"
    case k1 =>
      intro hc
      walk_at "st"
      rw [if_pos hc]
    case k2 =>
      intro hc
      walk_at "st"
      rw [if_neg hc]
  · rintro ρ rfl
    walk_at "st"
    walk_at "if"
    case k1 =>
      intro hc
      walk_at "st"
      unfold numOf
      rw [if_pos (by
        rcases hc with h | h | h
        · exact .inl h
        · exact .inr (.inl (by omega))
        · exact .inr (.inr h))]
      rfl
    case k2 =>
      intro hc
      have n1 : ¬ (figs l = [] ∨ 60 < (figs l).length ∨ ((figs l).take 1 = [48] ∧ ¬ l = [48])) := by
        rintro (z | z | z)
        · exact hc.1 z
        · omega
        · exact z.2 (hc.2.2 z.1)
      walk_at "st"
      walk_at "st"
      walk_at "st"
      walk_at "st"
      have bd : NumText.digitsVal [] = 0 := rfl
      with_reducible refine' wo_for (h := sgn) (l := figs l) (fun r ρ => ∃ (done : List Nat) (s3 : Sl), ρ = [.v (T l), .v (T (figs l)), .v (.int (NumText.digitsVal done : Nat)), s3] ∧ figs l = done ++ r ∧ NumText.AllDigits done) ?h1 ?h2 ?i0 ?step ?fin
      case h1 => walk_at "ev"
      case h2 => exact its_S
      case i0 => exact ⟨[], _, rfl, rfl, fun c h => absurd h List.not_mem_nil⟩
      case step =>
        rintro c r ρ hc' ⟨done, s3, rfl, hd, had⟩
        refine ⟨_, rfl, ?_⟩
        have dl : done.length ≤ 60 := by
          have := congrArg List.length hd
          rw [List.length_append] at this
          omega
        have dv := dv_lt had
        have dv2 : NumText.digitsVal done < 10 ^ 60 := Nat.lt_of_lt_of_le dv (Nat.pow_le_pow_right (by decide) dl)
        have bb : Bd 200 (NumText.digitsVal done : Int) := Bd.of_range (by omega) (by
          have : (10 : Int) ^ 60 < 2 ^ 200 := by decide
          have h2 : ((NumText.digitsVal done : Nat) : Int) < ((10 ^ 60 : Nat) : Int) := by exact_mod_cast dv2
          simpa using (by omega : ((NumText.digitsVal done : Nat) : Int) < 2 ^ 200))
        have bc : Bd 30 (c : Int) := Bd.of_range (by omega) (by have := fo c (by rw [hd]; simp); omega)
        change WO _ _ _ _
        rw [sgn_T]
        unfold l1__law_number_due
        walk_at "es"
        walk_at "st"
        walk_at "if"
        case k1 =>
          intro hz
          walk_at "st"
          unfold numOf
          rw [if_neg n1, if_neg (fun q => by
            have := digB_iff.mp q c (by rw [hd]; simp)
            omega)]
          rfl
        case k2 =>
          intro hz
          walk_at "st"
          walk_at "st"
          refine ⟨done ++ [c], .v (T [c]), ?_, by rw [hd]; simp, fun d hd' => ?_⟩
          · rw [NumText.digitsVal_snoc, show (10 : Int) * (NumText.digitsVal done : Int) + (c : Int) - 48 = ((NumText.digitsVal done * 10 + (c - 48) : Nat) : Int) by omega]
          · rcases List.mem_append.mp hd' with h | h
            · exact had d h
            · rw [List.mem_singleton.mp h]; omega
      case fin =>
        rintro ρ ⟨done, s3, rfl, hd, had⟩
        rw [List.append_nil] at hd
        have db : digB (figs l) = true := digB_iff.mpr (by rw [hd]; exact had)
        walk_at "st"
        walk_at "if"
        case k1 =>
          intro hc
          walk_at "st"
          unfold numOf
          rw [if_neg n1, if_pos db, if_pos hc, hd]
          simp [optI]
        case k2 =>
          intro hc
          walk_at "st"
          unfold numOf
          rw [if_neg n1, if_pos db, if_neg hc, hd]
          rfl
theorem fd_all {l : List Nat} : (l.all fun c => decide (c ∈ [48, 49, 50, 51, 52, 53, 54, 55, 56, 57])) = digB l := by
  unfold digB
  congr 1
  funext c
  rw [← Bool.decide_and]
  apply decide_eq_decide.mpr
  simp only [List.mem_cons, List.not_mem_nil, or_false]
  omega
theorem bools_map {α : Type} (f : α → Bool) : ∀ l : List α, boolsOf (l.map fun a => D.bl (f a)) = some (l.map f)
  | [] => rfl
  | a :: l => by
    rw [List.map_cons, List.map_cons]
    unfold boolsOf
    rw [bools_map f l]
    rfl
theorem dAll_map {α : Type} (f : α → Bool) (l : List α) : dAll [.lst (l.map fun a => D.bl (f a))] = some (.bl (l.all f)) := by
  show ((boolsOf (l.map fun a => D.bl (f a))).map fun bs => D.bl (bs.all id)) = _
  rw [bools_map]
  show some (D.bl ((l.map f).all id)) = _
  rw [List.all_map]
  rfl
theorem figs_neg {l : List Nat} (h : l.take 1 = [45]) : l = 45 :: figs l := by
  unfold figs
  rw [if_pos h]
  cases l with
  | nil => cases h
  | cons c r =>
    cases h
    rfl
theorem num_val {l : List Nat} (h : ¬ (figs l = [] ∨ 60 < (figs l).length ∨ ((figs l).take 1 = [48] ∧ ¬ l = [48]))) (g : digB (figs l) = true) : dIntS [T l] = some (.int (if l.take 1 = [45] then -(NumText.digitsVal (figs l) : Int) else (NumText.digitsVal (figs l) : Int))) := by
  have ad := digB_iff.mp g
  have n0 : figs l ≠ [] := fun z => h (.inl z)
  have n1 : (figs l).length ≤ 60 := by
    apply Classical.byContradiction
    intro z
    exact h (.inr (.inl (by omega)))
  by_cases hm : l.take 1 = [45]
  · have e := figs_neg hm
    have hl : l.length = (figs l).length + 1 := by
      have := congrArg List.length e
      simpa using this
    show (if (tS l).length ≤ 640 then _ else _) = _
    rw [if_pos (by rw [len_tS]; omega), if_pos hm, PySem.intText_neg (x := tS l) (cs := figs l) e ad n0 (by rw [len_tS]; omega)]
    rfl
  · have e : figs l = l := by unfold figs; rw [if_neg hm]
    rw [e] at ad n0 n1
    show (if (tS l).length ≤ 640 then _ else _) = _
    rw [if_pos (by rw [len_tS]; omega), if_neg hm, e, PySem.intText_digits (x := tS l) ad n0 (by rw [len_tS]; omega)]
    rfl
def orEr (x : Str) : Option D → R D
  | none => .er x
  | some d => .ok d
theorem fn_opt {n : Nat} {m : SM} {ds : List D} {o : Option D} {x : Str} (h : WO (m (ds.map Sl.v ++ List.replicate (n - ds.length) Sl.un)) (fun _ => False) (fun d => o = some d) (fun y => y = x ∧ o = none)) : runF n m ds = orEr x o := by
  unfold runF
  cases e : m (ds.map Sl.v ++ List.replicate (n - ds.length) Sl.un) with
  | rt d => rw [e] at h; rw [show o = some d from h]; rfl
  | er y ρ =>
    rw [e] at h
    obtain ⟨rfl, h2⟩ := h
    rw [h2]
    rfl
  | nx ρ => rw [e] at h; exact h.elim
  | bk ρ => rw [e] at h; exact h.elim
  | ct ρ => rw [e] at h; exact h.elim
  | st => rw [e] at h; exact h.elim
theorem read_L {l : List Nat} (ok : okT l) (hl : l.length ≤ 100000) : F_read_number [T l] = orEr "NoText" ((numOf l).map D.int) := by
  have fo := figs_ok ok
  have fl := figs_len l
  have al : dAll [.lst ((figs l).map fun c => D.bl (decide (c ∈ [48, 49, 50, 51, 52, 53, 54, 55, 56, 57])))] = some (.bl (digB (figs l))) := by rw [dAll_map, fd_all]
  unfold F_read_number b_read_number
  refine fn_opt ?_
  walk_at "start"
  walk_at "st"
  walk_at "st"
  walk_at "st"
  walk_at "st"
  walk_at "st"
  walk_at "st"
  refine wo_cut (fun ρ => ρ = [.v (T l), .v (T (figs l)), .un]) ?_ ?_
  · unfold figs
    walk_at "if"
    case k1 =>
      intro hc
      walk_at "st"
      rw [if_pos hc]
    case k2 =>
      intro hc
      walk_at "st"
      rw [if_neg hc]
  · rintro ρ rfl
    walk_at "st"
    walk_at "if"
    case k1 =>
      intro hc
      walk_at "st"
      refine ⟨rfl, ?_⟩
      unfold numOf
      rw [if_pos (by
        rcases hc with h | h
        · exact .inl (List.length_eq_zero_iff.mp (by omega))
        · exact .inr (.inl (by omega)))]
      rfl
    case k2 =>
      intro hc
      have n0 : ¬ figs l = [] := fun z => by rw [z] at hc; simp at hc
      walk_at "st"
      walk_at "st"
      have ht : mNot (mB (eB dAll (aCons (eL (aLc asS [2] (gNm 2) (mYes) (eVar 1) (e2 dIn (eVar 2) (eC (.str "0123456789"))))) (aNil)))) [.v (T l), .v (T (figs l)), .un] = .ok (!digB (figs l)) := by
        refine ev_not (ev_mB (ev_B (ev_cons (ev_L (ev_lc (h := sgn) (f' := fun c => D.bl (decide (c ∈ [48, 49, 50, 51, 52, 53, 54, 55, 56, 57]))) (ev_var rfl) its_S (by omega) fun c hc => ⟨_, rfl, ?_⟩)) ev_nil) al))
        rw [sgn_T]
        walk_at "ev"
      have hno : ∀ {o : Option Int}, numOf l = none → Option.map D.int (numOf l) = none := fun h => by rw [h]; rfl
      cases hg : digB (figs l) with
      | false =>
        rw [hg] at ht
        with_reducible refine' wo_ift ht rfl ?k1
        case k1 =>
        walk_at "st"
        refine ⟨rfl, ?_⟩
        unfold numOf
        rw [hg]
        split <;> rfl
      | true =>
        rw [hg] at ht
        with_reducible refine' wo_iff ht rfl ?k2
        case k2 =>
        walk_at "st"
        walk_at "st"
        walk_at "if"
        case k1 =>
          intro hz
          walk_at "st"
          refine ⟨rfl, ?_⟩
          unfold numOf
          rw [if_pos (.inr (.inr hz))]
          rfl
        case k2 =>
          intro hz
          have n1 : ¬ (figs l = [] ∨ 60 < (figs l).length ∨ ((figs l).take 1 = [48] ∧ ¬ l = [48])) := by
            rintro (z | z | z)
            · exact n0 z
            · omega
            · exact z.2 (hz z.1)
          have nv := num_val n1 hg
          walk_at "st"
          walk_at "st"
          unfold numOf
          rw [if_neg n1, if_pos hg]
          rfl
end Law
namespace Law
open PySem PySem.Spec PyProof.Rows L2 GD Hl TL
local macro_rules | `(tactic| walk_at "bd") => `(tactic| first
  | with_reducible assumption
  | with_reducible exact Bd.litO _
  | ((with_reducible refine' Bd.mul ?h ?g); (case h => walk_at "bd"); (case g => walk_at "bd"))
  | ((with_reducible refine' Bd.add ?h ?g); (case h => walk_at "bd"); (case g => walk_at "bd"))
  | ((with_reducible refine' Bd.sub ?h ?g); (case h => walk_at "bd"); (case g => walk_at "bd"))
  | ((with_reducible refine' Bd.neg ?h); (case h => walk_at "bd"))
  | ((with_reducible refine' Bd.emod ?h); (case h => walk_at "pos"))
  | ((with_reducible refine' Bd.ediv ?h); (case h => walk_at "bd"))
  | ((with_reducible refine' bd_fT ?h); (case h => walk_at "bd"))
  | ((with_reducible refine' bd_fB ?h); (case h => walk_at "bd"))
  | ((with_reducible refine' bd_sX ?h); (case h => walk_at "bd"))
  | ((with_reducible refine' bd_sY ?h); (case h => walk_at "bd"))
  | ((with_reducible refine' bd_sW ?h); (case h => walk_at "bd"))
  | ((with_reducible refine' bd_abs ?h); (case h => walk_at "bd"))
  | ((with_reducible refine' BdP.a ?h); (case h => walk_at "bdq"))
  | ((with_reducible refine' BdP.b ?h); (case h => walk_at "bdq"))
  | with_reducible exact bd_ite1
  | ((with_reducible refine' bd_ite ?h ?g); (case h => walk_at "bd"); (case g => walk_at "bd")))
local macro_rules | `(tactic| walk_at "pos") => `(tactic| first
  | with_reducible assumption
  | decide
  | omega)
local macro_rules | `(tactic| walk_at "bdq") => `(tactic| first
  | with_reducible assumption
  | ((with_reducible refine' bd_cy ?h ?g _); (case h => with_reducible assumption); (case g => first | with_reducible assumption | omega))
  | ((with_reducible refine' bd_mem ?h ?g); (case g => with_reducible assumption); (case h => with_reducible assumption))
  | ((with_reducible refine' bd_get ?h); (case h => with_reducible assumption)))
local macro_rules | `(tactic| walk_at "bdp") => `(tactic| first
  | walk_at "bdq"
  | ((with_reducible refine' BdP.mk ?h ?g); (case h => walk_at "bd"); (case g => walk_at "bd")))
local macro_rules | `(tactic| walk_at "num") => `(tactic| first
  | with_reducible assumption
  | omega
  | decide +kernel
  | (simp only [Nat.reduceLog2]; omega))
local macro_rules | `(tactic| walk_at "dis") => `(tactic| first
  | with_reducible assumption
  | ((with_reducible refine' mok ?h ?g ?l); (case h => walk_at "bd"); (case g => walk_at "bd"); (case l => walk_at "num"))
  | ((with_reducible refine' Bd.mono ?h ?l); (case h => walk_at "bd"); (case l => walk_at "num"))
  | ((with_reducible refine' BdP.mono ?h ?l); (case h => walk_at "bdp"); (case l => walk_at "num"))
  | ((with_reducible show divOk _); first | with_reducible assumption | decide +kernel | (refine' dok ?p ?h ?l; (case p => first | with_reducible assumption | omega); (case h => walk_at "bd"); (case l => walk_at "num")))
  | omega)
local macro_rules | `(tactic| walk_at "op") => `(tactic| first
  | with_reducible exact dAdd_int _ _
  | with_reducible exact dSub_int _ _
  | ((with_reducible refine dMul_int ?_); walk_at "dis")
  | with_reducible exact dAt_pp0 _ _
  | with_reducible exact dAt_pp1 _ _
  | with_reducible exact dAt_p0 _
  | with_reducible exact dAt_p1 _
  | with_reducible exact dAt_t0
  | with_reducible exact dAt_t1
  | with_reducible exact dAt_t2
  | with_reducible exact dAt_q0 _ _ _
  | with_reducible exact dAt_q1 _ _ _
  | with_reducible exact dAt_q2 _ _ _
  | with_reducible exact dAt_f0 _ _
  | with_reducible exact dAt_f1 _ _
  | with_reducible exact dLt_int _ _
  | with_reducible exact dLe_int _ _
  | with_reducible exact dGt_int _ _
  | with_reducible exact dGe_int _ _
  | with_reducible exact dEq_int _ _
  | with_reducible exact dNe_int _ _
  | ((with_reducible refine dMod_int ?_); walk_at "dis")
  | ((with_reducible refine dDiv_int ?_); walk_at "dis")
  | with_reducible exact dNeg_int _
  | with_reducible exact dIs_non _
  | with_reducible exact dIsNot_non _
  | with_reducible exact dAbs_int _
  | with_reducible exact dMax2_int _ _
  | with_reducible exact dMin2_int _ _
  | with_reducible exact dInt_bl _
  | with_reducible exact dLen_pts _
  | with_reducible exact dEq_pt _ _
  | with_reducible exact dNe_pt _ _
  | with_reducible exact dEq_pts _ _
  | with_reducible exact dNe_pts _ _
  | with_reducible exact dNe_bl _ _
  | with_reducible exact dEq_bl _ _
  | with_reducible exact dEq_D3 _ _ _ _ _ _
  | with_reducible exact dNe_D3 _ _ _ _ _ _
  | with_reducible exact dEq_np _
  | with_reducible exact dNe_np _
  | ((with_reducible refine at_last ?_); walk_at "dis")
  | with_reducible exact dAt_l0
  | with_reducible exact dAt_l1
  | with_reducible exact dAt_l2
  | with_reducible exact dAt_l3
  | with_reducible exact dAt_l4
  | with_reducible exact dAt_l5
  | with_reducible exact dAt_l6
  | with_reducible exact dAt_l7
  | ((with_reducible refine' dNe_self ?h ?l); (case h => walk_at "shp"); (case l => decide))
  | ((with_reducible refine' dEq_self ?h ?l); (case h => walk_at "shp"); (case l => decide))
  | with_reducible assumption
  | exact isi_int _ _ _ _ rfl kb_tuple_tuple
  | exact isi_int _ _ _ _ rfl kb_list_list
  | exact isi_int _ _ _ _ rfl kb_int_int
  | exact isi_int _ _ _ _ rfl kb_bool_bool
  | exact isi_int _ _ _ _ rfl kb_int_bool
  | exact isi_int _ _ _ _ rfl kb_list_tuple
  | exact isi_int _ _ _ _ rfl kb_tuple_list
  | with_reducible rfl)
local macro_rules | `(tactic| walk_at "shp") => `(tactic| first
  | with_reducible exact shp_int _
  | with_reducible exact shp_bl _
  | with_reducible exact shp_non
  | with_reducible exact shp_pt _
  | with_reducible exact shp_pts _
  | with_reducible exact shp_D2 _ _
  | with_reducible exact shp_fr _ _
  | with_reducible exact shp_D3 _ _ _
  | with_reducible exact shp_sp _ _ _
  | with_reducible exact shp_nilL
  | with_reducible exact shp_nilT
  | ((with_reducible refine' shp_consL ?h ?g); (case h => walk_at "shp"); (case g => walk_at "shp"))
  | ((with_reducible refine' shp_consT ?h ?g); (case h => walk_at "shp"); (case g => walk_at "shp"))
  | with_reducible assumption)
local macro_rules | `(tactic| walk_at "fn") => `(tactic| first
  | with_reducible assumption
  | with_reducible exact whole_int _
  | with_reducible exact divisor_eq _ _
  | with_reducible exact common_eq _ _)
local macro_rules | `(tactic| walk_at "ev") => `(tactic| first
  | with_reducible exact ev_c _
  | ((with_reducible refine' ev_var ?h1); (case h1 => exact rfl))
  | ((with_reducible refine' ev_e2 ?h1 ?h2 ?h3); (case h1 => walk_at "ev"); (case h2 => walk_at "ev"); (case h3 => walk_at "op"))
  | with_reducible exact ev_nil
  | ((with_reducible refine' ev_cons ?h1 ?h2); (case h1 => walk_at "ev"); (case h2 => walk_at "ev"))
  | ((with_reducible refine' ev_F ?h1 ?h2); (case h1 => walk_at "ev"); (case h2 => walk_at "fn"))
  | ((with_reducible refine' ev_mB ?h1); (case h1 => walk_at "ev"))
  | ((with_reducible refine' ev_B ?h1 ?h2); (case h1 => walk_at "ev"); (case h2 => walk_at "op"))
  | ((with_reducible refine' ev_tup2 ?h1 ?h2); (case h1 => walk_at "ev"); (case h2 => walk_at "ev"))
  | ((with_reducible refine' ev_tup3 ?h1 ?h2 ?h3); (case h1 => walk_at "ev"); (case h2 => walk_at "ev"); (case h3 => walk_at "ev"))
  | ((with_reducible refine' ev_tup ?h1 ?h2); (case h1 => walk_at "ev"); (case h2 => walk_at "len"))
  | ((with_reducible refine' ev_L ?h1); (case h1 => walk_at "ev"))
  | ((with_reducible refine' ev_lst ?h1 ?h2); (case h1 => walk_at "ev"); (case h2 => walk_at "len"))
  | ((with_reducible refine' ev_not ?h1); (case h1 => walk_at "ev"))
  | ((with_reducible refine' ev_and0 ?h1); (case h1 => walk_at "ev"))
  | ((with_reducible refine' ev_and ?h1 ?h2); (case h1 => walk_at "ev"); (case h2 => (intro hq; (try simp only [decide_eq_true_eq, decide_eq_false_iff_not, Bool.not_eq_true', Bool.not_eq_false'] at hq); walk_at "ev")))
  | ((with_reducible refine' ev_or1 ?h1); (case h1 => walk_at "ev"))
  | ((with_reducible refine' ev_or ?h1 ?h2); (case h1 => walk_at "ev"); (case h2 => (intro hq; (try simp only [decide_eq_true_eq, decide_eq_false_iff_not, Bool.not_eq_true', Bool.not_eq_false'] at hq); walk_at "ev")))
  | ((with_reducible refine' ev_eNot ?h1); (case h1 => walk_at "ev"))
  | ((with_reducible refine' ev_eAnd0 ?h1); (case h1 => walk_at "ev"))
  | ((with_reducible refine' ev_eAnd ?h1 ?h2); (case h1 => walk_at "ev"); (case h2 => (intro hq; (try simp only [decide_eq_true_eq, decide_eq_false_iff_not, Bool.not_eq_true', Bool.not_eq_false'] at hq); walk_at "ev")))
  | ((with_reducible refine' ev_eOr1 ?h1); (case h1 => walk_at "ev"))
  | ((with_reducible refine' ev_eOr ?h1 ?h2); (case h1 => walk_at "ev"); (case h2 => (intro hq; (try simp only [decide_eq_true_eq, decide_eq_false_iff_not, Bool.not_eq_true', Bool.not_eq_false'] at hq); walk_at "ev")))
  | ((with_reducible refine' ev_e1 ?h1 ?h2); (case h1 => walk_at "ev"); (case h2 => walk_at "op"))
  | ((with_reducible refine' ev_copy ?h1 ?h2); (case h1 => walk_at "ev"); (case h2 => exact rfl))
  | ((with_reducible refine' ev_ch ?h1 ?h2 ?h3 ?h4 ?h5); (case h1 => walk_at "ev"); (case h2 => walk_at "ev"); (case h3 => walk_at "op"); (case h4 => (intro hq; (try simp only [decide_eq_true_eq, decide_eq_false_iff_not, Bool.not_eq_true', Bool.not_eq_false'] at hq); walk_at "ev")); (case h5 => (intro _; walk_at "op")))
  | ((with_reducible refine' ev_lc ?h1 ?h2 ?h3 ?h4); (case h1 => walk_at "ev"); (case h2 => walk_at "its"); (case h3 => walk_at "len"); (case h4 => (intro _ _; exact ⟨_, rfl, by walk_at "ev"⟩)))
  | ((with_reducible refine' ev_lcR ?h1 ?h2 ?h3 ?h4); (case h1 => walk_at "ev"); (case h2 => walk_at "rng"); (case h3 => walk_at "len"); (case h4 => (intro _ _; exact ⟨_, rfl, by walk_at "ev"⟩)))
  | ((with_reducible refine' ev_cat ?h1 ?h2 ?h3); (case h1 => walk_at "ev"); (case h2 => walk_at "ev"); (case h3 => walk_at "len"))
  | ((with_reducible refine' ev_ownLen ?h1); (case h1 => exact rfl))
  | ((with_reducible refine' ev_ownAt ?h1 ?h2 ?h3); (case h1 => exact rfl); (case h2 => walk_at "ev"); (case h3 => walk_at "op"))
  | with_reducible assumption)
local macro_rules | `(tactic| walk_at "len") => `(tactic| first
  | ((simp only [List.length_map, List.length_cons, List.length_nil, List.length_append, List.length_range]) <;> walk_at "num")
  | walk_at "num")
local macro_rules | `(tactic| walk_at "its") => `(tactic| first
  | with_reducible exact its_map
  | with_reducible exact its_map2
  | exact rfl)
local macro_rules | `(tactic| walk_at "rng") => `(tactic| first
  | ((with_reducible refine rng1 ?_ ?_) <;> walk_at "num")
  | ((with_reducible refine rng2 ?_ ?_ ?_ ?_) <;> walk_at "num"))
local macro_rules | `(tactic| walk_at "es") => `(tactic| simp (config := {failIfUnchanged := false}) only [List.set_cons_zero, List.set_cons_succ])
local macro_rules | `(tactic| walk_at "start") => `(tactic| (simp only [List.map_cons, List.map_nil, List.cons_append, List.nil_append, List.length_cons, List.length_nil, Nat.reduceAdd, Nat.reduceSub, List.replicate_succ, List.replicate_zero]))
local macro_rules | `(tactic| walk_at "st1") => `(tactic| first
  | ((with_reducible refine' wo_seq ?k))
  | ((with_reducible refine' wo_ift ?h ?e ?k); (case h => walk_at "ev"); (case e => simp only [beq_self_eq_true, Bool.true_beq, Bool.false_beq, decide_eq_true_eq, decide_eq_false_iff_not, Bool.not_eq_true', Bool.not_eq_false', Bool.or_eq_true, Bool.and_eq_true, Bool.or_eq_false_iff, Bool.and_eq_false_imp, Bool.not_true, Bool.not_false, Bool.false_or, Bool.or_false, Bool.true_or, Bool.or_true, Bool.true_and, Bool.and_true, Bool.false_and, Bool.and_false, Bool.true_eq_false, Bool.false_eq_true, decide_true, decide_false, reduceCtorEq, D.isNone, Int.not_lt, Int.not_le, ne_eq, Decidable.not_not, not_true_eq_false, not_false_eq_true, false_implies, true_implies, implies_true, and_true, true_and, and_false, false_and, or_true, true_or, or_false, false_or, reduceIte, eq_self]))
  | ((with_reducible refine' wo_iff ?h ?e ?k); (case h => walk_at "ev"); (case e => simp only [beq_self_eq_true, Bool.true_beq, Bool.false_beq, decide_eq_true_eq, decide_eq_false_iff_not, Bool.not_eq_true', Bool.not_eq_false', Bool.or_eq_true, Bool.and_eq_true, Bool.or_eq_false_iff, Bool.and_eq_false_imp, Bool.not_true, Bool.not_false, Bool.false_or, Bool.or_false, Bool.true_or, Bool.or_true, Bool.true_and, Bool.and_true, Bool.false_and, Bool.and_false, Bool.true_eq_false, Bool.false_eq_true, decide_true, decide_false, reduceCtorEq, D.isNone, Int.not_lt, Int.not_le, ne_eq, Decidable.not_not, not_true_eq_false, not_false_eq_true, false_implies, true_implies, implies_true, and_true, true_and, and_false, false_and, or_true, true_or, or_false, false_or, reduceIte, eq_self]))
  | (((with_reducible refine' wo_asg ?h1 ?k); (case h1 => walk_at "ev")); walk_at "es")
  | ((with_reducible refine' wo_ret ?h1 ?k); (case h1 => walk_at "ev"))
  | (((with_reducible refine' wo_tgt ?h1 ?h2 ?k); (case h1 => walk_at "ev"); (case h2 => exact rfl)); walk_at "es")
  | ((with_reducible refine' wo_nil ?k))
  | ((with_reducible refine' wo_raise ?k))
  | (((with_reducible refine' wo_own ?h1 ?k); (case h1 => walk_at "ev")); walk_at "es")
  | (((with_reducible refine' wo_asgL ?h1 ?k); (case h1 => walk_at "ev")); walk_at "es")
  | (((with_reducible refine' wo_app ?h1 ?h2 ?h3 ?k); (case h1 => exact rfl); (case h2 => walk_at "ev"); (case h3 => walk_at "len")); walk_at "es")
  | (((with_reducible refine' wo_par ?h1 ?h2 ?k); (case h1 => walk_at "ev"); (case h2 => walk_at "ev")); walk_at "es")
  | ((with_reducible refine wo_frz ?_); simp only [frz, List.getElem?_cons_zero, List.getElem?_cons_succ, List.set_cons_zero, List.set_cons_succ]))
local macro_rules | `(tactic| walk_at "st") => `(tactic| (walk_at "st1"; try dsimp only))
local macro_rules | `(tactic| walk_at "hs") => `(tactic| ((try simp only [beq_self_eq_true, Bool.true_beq, Bool.false_beq, decide_eq_true_eq, decide_eq_false_iff_not, Bool.not_eq_true', Bool.not_eq_false', Bool.or_eq_true, Bool.and_eq_true, Bool.or_eq_false_iff, Bool.and_eq_false_imp, Bool.not_true, Bool.not_false, Bool.false_or, Bool.or_false, Bool.true_or, Bool.or_true, Bool.true_and, Bool.and_true, Bool.false_and, Bool.and_false, Bool.true_eq_false, Bool.false_eq_true, decide_true, decide_false, reduceCtorEq, D.isNone, Int.not_lt, Int.not_le, ne_eq, Decidable.not_not, not_true_eq_false, not_false_eq_true, false_implies, true_implies, implies_true, and_true, true_and, and_false, false_and, or_true, true_or, or_false, false_or, reduceIte, eq_self]); exact rfl))
local macro_rules | `(tactic| walk_at "fls") => `(tactic| first | (with_reducible exact False.elim) | (with_reducible refine fun (_ : True) => ?_) | skip)
local macro_rules | `(tactic| walk_at "if") => `(tactic| ((with_reducible refine' wo_ifx ?h ?e1 ?e2 ?k1 ?k2); (case h => walk_at "ev"); (case e1 => walk_at "hs"); (case e2 => walk_at "hs"); (case' k1 => walk_at "fls"); (case' k2 => walk_at "fls")))
local macro_rules | `(tactic| walk_at "tt") => `(tactic| (try simp only [beq_self_eq_true, Bool.true_beq, Bool.false_beq, decide_eq_true_eq, decide_eq_false_iff_not, Bool.not_eq_true', Bool.not_eq_false', Bool.or_eq_true, Bool.and_eq_true, Bool.or_eq_false_iff, Bool.and_eq_false_imp, Bool.not_true, Bool.not_false, Bool.false_or, Bool.or_false, Bool.true_or, Bool.or_true, Bool.true_and, Bool.and_true, Bool.false_and, Bool.and_false, Bool.true_eq_false, Bool.false_eq_true, decide_true, decide_false, reduceCtorEq, D.isNone, Int.not_lt, Int.not_le, ne_eq, Decidable.not_not, not_true_eq_false, not_false_eq_true, false_implies, true_implies, implies_true, and_true, true_and, and_false, false_and, or_true, true_or, or_false, false_or, reduceIte, eq_self]))
local macro_rules | `(tactic| walk_at "hc") => `(tactic| simp only [beq_self_eq_true, Bool.true_beq, Bool.false_beq, decide_eq_true_eq, decide_eq_false_iff_not, Bool.not_eq_true', Bool.not_eq_false', Bool.or_eq_true, Bool.and_eq_true, Bool.or_eq_false_iff, Bool.and_eq_false_imp, Bool.not_true, Bool.not_false, Bool.false_or, Bool.or_false, Bool.true_or, Bool.or_true, Bool.true_and, Bool.and_true, Bool.false_and, Bool.and_false, Bool.true_eq_false, Bool.false_eq_true, decide_true, decide_false, reduceCtorEq, D.isNone, Int.not_lt, Int.not_le, ne_eq, Decidable.not_not, not_true_eq_false, not_false_eq_true, false_implies, true_implies, implies_true, and_true, true_and, and_false, false_and, or_true, true_or, or_false, false_or, reduceIte, eq_self] at *)
local macro_rules | `(tactic| walk_at "sts") => `(tactic| (walk_at "st"; try (walk_at "st"; try (walk_at "st"; try (walk_at "st"; try (walk_at "st"; try (walk_at "st"; try (walk_at "st"; try (walk_at "st"; try (walk_at "st"; try (walk_at "st"; try (walk_at "st"; try (walk_at "st"; try (walk_at "st"; try (walk_at "st"; try (walk_at "st"; try (walk_at "st"; try (walk_at "st"; try (walk_at "st"; try (walk_at "st"; try (walk_at "st"; try (walk_at "st"; try (walk_at "st"; try (walk_at "st"; try (walk_at "st"; try (walk_at "st"; try (walk_at "st"; try (walk_at "st"; try (walk_at "st"; try (walk_at "st"; try (walk_at "st"; try (walk_at "st"; try (walk_at "st"; try (walk_at "st"; try (walk_at "st"; try (walk_at "st"; try (walk_at "st"; try (walk_at "st"; try (walk_at "st"; try (walk_at "st"; try (walk_at "st"; try (walk_at "st"))))))))))))))))))))))))))))))))))))))))))
local macro_rules | `(tactic| walk_at "op") => `(tactic| first
  | with_reducible assumption
  | with_reducible exact dIs_nn
  | with_reducible exact dIs_pt _
  | with_reducible exact dIs_D3 _ _ _
  | with_reducible exact dIsN_nn
  | with_reducible exact dIsN_pt _
  | with_reducible exact dIsN_D3 _ _ _
  | ((with_reducible refine at_czm ?_); first | with_reducible assumption | omega)
  | ((with_reducible refine at_czm1 ?_); first | with_reducible assumption | omega)
  | ((with_reducible refine at_sides ?_); first | with_reducible assumption | omega)
  | ((with_reducible refine at_normals ?_); first | with_reducible assumption | omega)
  | ((with_reducible refine at_cz ?_ ?_) <;> first | with_reducible assumption | omega)
  | with_reducible exact dLen_scr _
  | with_reducible exact dLen_tup _
  | walk_at "opx")
local macro_rules | `(tactic| walk_at "opx") => `(tactic| first
  | with_reducible exact isi_bb _
  | with_reducible exact dIs_i _
  | with_reducible exact isi_u _
  | with_reducible exact dLen_u _
  | with_reducible exact dEqN_D3t _ _
  | with_reducible exact dEqE_D3t _ _
  | ((with_reducible refine at_lstI ?_ ?_) <;> first | with_reducible assumption | omega)
  | with_reducible exact dIs_D3t _
  | with_reducible exact dIsN_D3t _
  | with_reducible exact dAt_u0 _
  | with_reducible exact dAt_u1 _
  | with_reducible exact dAt_u2 _
  | with_reducible exact dIs_nn
  | with_reducible exact dIs_pt _
  | with_reducible exact dIs_D3 _ _ _
  | with_reducible exact dIs_lst _
  | with_reducible exact dIsN_nn
  | with_reducible exact dIsN_pt _
  | with_reducible exact dIsN_D3 _ _ _
  | with_reducible exact dLen_t2 _
  | with_reducible exact dLen_t3 _ _ _
  | with_reducible assumption)
local macro_rules | `(tactic| walk_at "bdq") => `(tactic| first
  | ((with_reducible refine' bd_cz ?h ?g _); (case h => first | with_reducible assumption | exact Body.bd (by with_reducible assumption)); (case g => first | with_reducible assumption | exact Body.pos (by with_reducible assumption) | omega)))
local macro_rules | `(tactic| walk_at "shp") => `(tactic| first
  | ((with_reducible refine' shp_mapL ?h _); (case h => (intro _; walk_at "shp"))))
local macro_rules | `(tactic| walk_at "rng") => `(tactic| first
  | ((with_reducible refine rngN ?_); walk_at "num"))
local macro_rules | `(tactic| walk_at "st1") => `(tactic| first
  | (((with_reducible refine' wo_ins ?h1 ?h2 ?h3 ?h4 ?h5 ?h6 ?k); (case h1 => exact rfl); (case h2 => walk_at "ev"); (case h3 => walk_at "ev"); (case h4 => walk_at "num"); (case h5 => walk_at "num"); (case h6 => walk_at "len")); walk_at "es"))
local macro_rules | `(tactic| walk_at "ev") => `(tactic| first
  | with_reducible exact ev_home _ _ _
  | ((with_reducible refine' ev_cutS ?h1 ?h2 ?h3); (case h1 => walk_at "ev"); (case h2 => walk_at "ev"); (case h3 => walk_at "ev"))
  | ((with_reducible refine' ev_ownLenM ?h1); (case h1 => exact rfl))
  | ((with_reducible refine' ev_revm ?h1); (case h1 => walk_at "ev"))
  | ((with_reducible refine' ev_rev ?h1); (case h1 => walk_at "ev"))
  | ((with_reducible refine' ev_lc6 ?h1 ?h2 ?h3 ?h4 ?h5 ?h6 ?h7); (case h1 => walk_at "ev"); (case h2 => exact ⟨_, rfl, by walk_at "ev"⟩); (case h3 => exact ⟨_, rfl, by walk_at "ev"⟩); (case h4 => exact ⟨_, rfl, by walk_at "ev"⟩); (case h5 => exact ⟨_, rfl, by walk_at "ev"⟩); (case h6 => exact ⟨_, rfl, by walk_at "ev"⟩); (case h7 => exact ⟨_, rfl, by walk_at "ev"⟩))
  | ((with_reducible refine' ev_lc8 ?h1 ?h2 ?h3 ?h4 ?h5 ?h6 ?h7 ?h8 ?h9); (case h1 => walk_at "ev"); (case h2 => exact ⟨_, rfl, by walk_at "ev"⟩); (case h3 => exact ⟨_, rfl, by walk_at "ev"⟩); (case h4 => exact ⟨_, rfl, by walk_at "ev"⟩); (case h5 => exact ⟨_, rfl, by walk_at "ev"⟩); (case h6 => exact ⟨_, rfl, by walk_at "ev"⟩); (case h7 => exact ⟨_, rfl, by walk_at "ev"⟩); (case h8 => exact ⟨_, rfl, by walk_at "ev"⟩); (case h9 => exact ⟨_, rfl, by walk_at "ev"⟩))
  | ((with_reducible refine' ev_lc3 ?h1 ?h2 ?h3 ?h4); (case h1 => walk_at "ev"); (case h2 => exact ⟨_, rfl, by walk_at "ev"⟩); (case h3 => exact ⟨_, rfl, by walk_at "ev"⟩); (case h4 => exact ⟨_, rfl, by walk_at "ev"⟩))
  | ((with_reducible refine' ev_lcN ?h1 ?h2 ?h3 ?h4); (case h1 => walk_at "ev"); (case h2 => walk_at "rng"); (case h3 => walk_at "len"); (case h4 => (intro _ _; exact ⟨_, rfl, by walk_at "ev"⟩))))
local macro_rules | `(tactic| walk_at "okt") => `(tactic| first
  | with_reducible assumption
  | ((with_reducible refine okT.take ?_ _); walk_at "okt")
  | ((with_reducible refine okT.drop ?_ _); walk_at "okt")
  | ((with_reducible refine okT.app ?_ ?_) <;> walk_at "okt")
  | ((with_reducible refine okT_numI _))
  | decide)
local macro_rules | `(tactic| walk_at "lenT") => `(tactic| first
  | with_reducible assumption
  | omega
  | ((simp only [List.length_append, List.length_cons, List.length_nil, List.length_take, List.length_drop]) <;> omega)
  | decide)
local macro_rules | `(tactic| walk_at "op") => `(tactic| first
  | ((with_reducible refine dEq_T ?_ ?_) <;> walk_at "okt")
  | ((with_reducible refine dNe_T ?_ ?_) <;> walk_at "okt")
  | ((with_reducible refine dLen_T ?_); walk_at "lenT")
  | ((with_reducible refine dAdd_T ?_); walk_at "lenT")
  | with_reducible exact dIn_T _ _
  | with_reducible exact dOrd_T _
  | ((with_reducible refine dAt_T0 ?_ ?_); (first | with_reducible assumption | decide); walk_at "lenT")
  | ((with_reducible refine dAt_Tn ?_ ?_) <;> walk_at "lenT")
  | ((with_reducible refine dStr_T ?_); walk_at "log")
  | with_reducible exact isi_T _
  | with_reducible exact dIs_T _
  | with_reducible exact dIsN_T _
  | with_reducible exact dIs_nnT
  | with_reducible exact dIsN_nnT
  | with_reducible exact dIs_iT _
  | with_reducible exact dIsN_iT _
  | with_reducible exact dIs_D2T _ _
  | with_reducible exact dIsN_D2T _ _)
local macro_rules | `(tactic| walk_at "ev") => `(tactic| first
  | with_reducible exact ev_lit lit_e
  | with_reducible exact ev_lit lit_m
  | with_reducible exact ev_lit lit_0
  | with_reducible exact ev_lit lit_s
  | with_reducible exact ev_lit lit_f
  | ((with_reducible refine' ev_cutTo1 ?h1 ?h2); (case h1 => walk_at "ev"); (case h2 => walk_at "lenT"))
  | ((with_reducible refine' ev_cutFrom1 ?h1 ?h2); (case h1 => walk_at "ev"); (case h2 => walk_at "lenT"))
  | ((with_reducible refine' ev_cutTo ?h1 ?h2 ?h3); (case h1 => walk_at "ev"); (case h2 => walk_at "ev"); (case h3 => walk_at "lenT"))
  | ((with_reducible refine' ev_cutFrom ?h1 ?h2 ?h3); (case h1 => walk_at "ev"); (case h2 => walk_at "ev"); (case h3 => walk_at "lenT")))
local macro_rules | `(tactic| walk_at "st1") => `(tactic| first
  | ((with_reducible refine' wo_ift ?h ?e ?k); (case h => walk_at "ev"); (case e => first | decide | (simp [D.isNone]; done)))
  | ((with_reducible refine' wo_iff ?h ?e ?k); (case h => walk_at "ev"); (case e => first | decide | (simp [D.isNone]; done))))
local macro_rules | `(tactic| walk_at "log") => `(tactic| ((with_reducible refine log_bd ?_); walk_at "dis"))
def cuts (m : Nat) (l : List Nat) : List (List Nat) := spl [m] 0 [] l
theorem pre1 {m c : Nat} {r : List Nat} : pre [m] (c :: r) = decide (c = m) := by
  show ([c] == [m]) = _
  by_cases h : c = m
  · subst h
    simp
  · simp [h]
theorem spl1_hit {m : Nat} {acc r : List Nat} : spl [m] 0 acc (m :: r) = acc :: spl [m] 0 [] r := by
  rw [spl_hit (by rw [pre1]; simp)]
  rfl
theorem spl1_miss {m c : Nat} {acc r : List Nat} (h : ¬ c = m) : spl [m] 0 acc (c :: r) = spl [m] 0 (acc ++ [c]) r := spl_miss (by rw [pre1]; simp [h])
def joinL (m : Nat) : List (List Nat) → List Nat
  | [] => []
  | [w] => w
  | w :: v :: r => w ++ m :: joinL m (v :: r)
theorem join_spl (m : Nat) : ∀ (l acc : List Nat), spl [m] 0 acc l ≠ [] ∧ joinL m (spl [m] 0 acc l) = acc ++ l
  | [], acc => by
    rw [spl_nil]
    exact ⟨by simp, by show acc = acc ++ []; rw [List.append_nil]⟩
  | c :: r, acc => by
    by_cases h : c = m
    · subst h
      rw [spl1_hit]
      obtain ⟨h1, h2⟩ := join_spl c r []
      refine ⟨by simp, ?_⟩
      cases e : spl [c] 0 [] r with
      | nil => exact absurd e h1
      | cons v s =>
        rw [e] at h2
        show acc ++ c :: joinL c (v :: s) = _
        rw [h2]
        rfl
    · rw [spl1_miss h]
      obtain ⟨h1, h2⟩ := join_spl m r (acc ++ [c])
      exact ⟨h1, by rw [h2, List.append_assoc]; rfl⟩
theorem cuts_join (m : Nat) (l : List Nat) : joinL m (cuts m l) = l := (join_spl m l []).2
theorem cuts_ne (m : Nat) (l : List Nat) : cuts m l ≠ [] := (join_spl m l []).1
theorem cuts_mem {m : Nat} {w : List Nat} : ∀ {l acc : List Nat}, w ∈ spl [m] 0 acc l → ∀ c ∈ w, c ∈ acc ∨ c ∈ l
  | [], acc, h => by
    rw [spl_nil] at h
    rw [List.mem_singleton.mp h]
    exact fun c hc => .inl hc
  | d :: r, acc, h => by
    intro c hc
    by_cases e : d = m
    · subst e
      rw [spl1_hit] at h
      rcases List.mem_cons.mp h with h | h
      · rw [h] at hc; exact .inl hc
      · rcases cuts_mem h c hc with q | q
        · simp at q
        · exact .inr (List.mem_cons_of_mem _ q)
    · rw [spl1_miss e] at h
      rcases cuts_mem h c hc with q | q
      · rcases List.mem_append.mp q with q | q
        · exact .inl q
        · rw [List.mem_singleton.mp q]; exact .inr List.mem_cons_self
      · exact .inr (List.mem_cons_of_mem _ q)
theorem cuts_ok {m : Nat} {l w : List Nat} (h : okT l) (hw : w ∈ cuts m l) : okT w := fun c hc => by
  rcases cuts_mem hw c hc with q | q
  · simp at q
  · exact h c q
theorem spl_len (m : Nat) : ∀ (l acc : List Nat), (spl [m] 0 acc l).length ≤ l.length + 1
  | [], acc => by rw [spl_nil]; simp
  | d :: r, acc => by
    by_cases e : d = m
    · subst e
      rw [spl1_hit, List.length_cons, List.length_cons]
      have := spl_len d r []
      omega
    · rw [spl1_miss e, List.length_cons]
      have := spl_len m r (acc ++ [d])
      omega
theorem join_part {m : Nat} : ∀ {ws : List (List Nat)} {w : List Nat}, w ∈ ws → w.length ≤ (joinL m ws).length
  | [], _, h => absurd h List.not_mem_nil
  | [v], w, h => by rw [List.mem_singleton.mp h]; exact Nat.le_refl _
  | v :: u :: r, w, h => by
    show _ ≤ (v ++ m :: joinL m (u :: r)).length
    rw [List.length_append, List.length_cons]
    rcases List.mem_cons.mp h with h | h
    · rw [h]; omega
    · have := join_part (m := m) h
      omega
theorem cuts_len {m : Nat} {l w : List Nat} (hw : w ∈ cuts m l) : w.length ≤ l.length := by
  have := join_part (m := m) hw
  rwa [cuts_join] at this
theorem split_T {l : List Nat} {m : Nat} (hm : m < 256) : (Txt.split (tS l) (tS [m])).map D.str = (cuts m l).map T := by
  have e := split_spl (tS l) (tS [m]) (by show ([m] : List Nat) ≠ []; simp) (kind_ok (by
    show (tS [m]).cps.all (· < 256) = true
    simp [tS, hm]))
  have e2 : Txt.split (tS l) (tS [m]) = (cuts m l).map tS := map_tl_inj (by
    rw [e, List.map_map]
    show cuts m l = _
    rw [show tl ∘ tS = id from funext fun x => rfl, List.map_id])
  rw [e2, List.map_map]
  rfl
theorem ev_split {ρ : En} {mo me : EM} {l : List Nat} {m : Nat} (h1 : mo ρ = .ok (T l)) (h2 : me ρ = .ok (T [m])) (hm : m < 256) (hl : l.length ≤ 1000000) : aSplit mo me ρ = .ok ((cuts m l).map T) := by
  unfold aSplit
  rw [h1, bind_ok]
  show (me ρ).bind _ = _
  rw [h2, bind_ok]
  show (if ((tS [m]).length == 0) = false ∧ (tS l).length + 2 ≤ sizeLine then R.ok ((Txt.split (tS l) (tS [m])).map D.str) else .st) = _
  rw [if_pos ⟨rfl, by rw [len_tS, sizeLine_eq]; omega⟩, split_T hm]
theorem wo_put {ρ : En} {N : En → Prop} {T : D → Prop} {X : Str → Prop} {mk m : EM} {i : Nat} {ds es : List D} {k d : D} (h0 : ρ[i]? = some (.l ds)) (h1 : m ρ = .ok d) (h2 : mk ρ = .ok k) (h3 : putD ds k d = some es) (k1 : N (ρ.set i (.l es))) : WO (sPut i mk m ρ) N T X := by
  unfold sPut
  rw [h0]
  show WO (ofR ((m ρ).bind _) _ _) _ _ _
  rw [h1, bind_ok, h2, bind_ok, h3]
  exact k1
theorem ixN_last (n : Nat) (h : 0 < n) : ixN n (-1) = some (n - 1) := by
  unfold ixN
  rw [if_neg (by omega), if_pos (by omega)]
  congr 1
  omega
theorem put_last (ds : List D) (x d : D) : putD (ds ++ [x]) (.int (-1)) d = some (ds ++ [d]) := by
  show (ixN (ds ++ [x]).length (-1)).map (fun j => (ds ++ [x]).set j d) = _
  rw [List.length_append, List.length_singleton, ixN_last _ (by omega)]
  show some ((ds ++ [x]).set (ds.length + 1 - 1) d) = _
  rw [Nat.add_sub_cancel, List.set_append_right _ _ (Nat.le_refl _), Nat.sub_self]
  rfl
theorem at_last1 (ds : List D) (x : D) : dAt (.lst (ds ++ [x])) (.int (-1)) = some x := by
  show atI (ds ++ [x]) (-1) = _
  unfold atI
  rw [List.length_append, List.length_singleton, ixN_last _ (by omega)]
  show (ds ++ [x])[ds.length + 1 - 1]? = _
  rw [Nat.add_sub_cancel, List.getElem?_append_right (Nat.le_refl _), Nat.sub_self]
  rfl
theorem cut_q {l : List Nat} {m : Nat} (ok : okT l) (om : okT [m]) (hl : l.length ≤ 1000000) : F__law_cut_at [T l, T [m]] = .ok (.lst ((cuts m l).map T)) := by
  unfold F__law_cut_at b__law_cut_at
  refine fn_ok ?_
  walk_at "start"
  walk_at "st"
  walk_at "st"
  walk_at "st"
  with_reducible refine' wo_for (h := sgn) (l := l) (fun r ρ => ∃ (done : List (List Nat)) (cur : List Nat) (s3 : Sl), ρ = [.v (T l), .v (T [m]), .l (done.map T ++ [T cur]), s3] ∧ cuts m l = done ++ spl [m] 0 cur r ∧ done.length + r.length ≤ l.length ∧ cur.length + r.length ≤ l.length ∧ okT cur) ?h1 ?h2 ?i0 ?step ?fin
  case h1 => walk_at "ev"
  case h2 => exact its_S
  case i0 => exact ⟨[], [], _, rfl, rfl, by simp, by simp, fun c h => absurd h List.not_mem_nil⟩
  case step =>
    rintro c r ρ hc ⟨done, cur, s3, rfl, hd, h1, h2, h3⟩
    refine ⟨_, rfl, ?_⟩
    have oc := ok.one hc
    rw [List.length_cons] at h1 h2
    rw [sgn_T]
    unfold l1__law_cut_at
    walk_at "es"
    walk_at "if"
    case k1 =>
      intro hz
      obtain rfl : c = m := by simpa using hz
      with_reducible refine' wo_app (d := T []) rfl ?g1 ?g2 ?g3
      case g1 => walk_at "ev"
      case g2 => rw [List.length_append, List.length_map, List.length_singleton]; omega
      case g3 =>
        walk_at "es"
        refine ⟨done ++ [cur], [], .v (T [c]), by simp, ?_, by simp; omega, by simp; omega, fun c h => absurd h List.not_mem_nil⟩
        rw [hd, spl1_hit, List.append_assoc]
        rfl
    case k2 =>
      intro hz
      have hz' : ¬ c = m := fun e => hz (by rw [e])
      with_reducible refine' wo_put (ds := done.map T ++ [T cur]) (d := T (cur ++ [c])) rfl ?g1 (ev_c _) (put_last _ _ _) ?g3
      case g1 => exact ev_e2 (ev_ownAt rfl (ev_c _) (at_last1 _ _)) (ev_var rfl) (dAdd_T (by rw [List.length_singleton]; omega))
      case g3 =>
        walk_at "es"
        refine ⟨done, cur ++ [c], .v (T [c]), rfl, ?_, by omega, by simp; omega, h3.app oc⟩
        rw [hd, spl1_miss hz']
  case fin =>
    rintro ρ ⟨done, cur, s3, rfl, hd, h1, h2, h3⟩
    rw [spl_nil] at hd
    walk_at "sts"
    rw [hd, List.map_append]
    rfl
end Law
namespace Law
open PySem PySem.Spec PyProof.Rows L2 GD Hl TL
local macro_rules | `(tactic| walk_at "bd") => `(tactic| first
  | with_reducible assumption
  | with_reducible exact Bd.litO _
  | ((with_reducible refine' Bd.mul ?h ?g); (case h => walk_at "bd"); (case g => walk_at "bd"))
  | ((with_reducible refine' Bd.add ?h ?g); (case h => walk_at "bd"); (case g => walk_at "bd"))
  | ((with_reducible refine' Bd.sub ?h ?g); (case h => walk_at "bd"); (case g => walk_at "bd"))
  | ((with_reducible refine' Bd.neg ?h); (case h => walk_at "bd"))
  | ((with_reducible refine' Bd.emod ?h); (case h => walk_at "pos"))
  | ((with_reducible refine' Bd.ediv ?h); (case h => walk_at "bd"))
  | ((with_reducible refine' bd_fT ?h); (case h => walk_at "bd"))
  | ((with_reducible refine' bd_fB ?h); (case h => walk_at "bd"))
  | ((with_reducible refine' bd_sX ?h); (case h => walk_at "bd"))
  | ((with_reducible refine' bd_sY ?h); (case h => walk_at "bd"))
  | ((with_reducible refine' bd_sW ?h); (case h => walk_at "bd"))
  | ((with_reducible refine' bd_abs ?h); (case h => walk_at "bd"))
  | ((with_reducible refine' BdP.a ?h); (case h => walk_at "bdq"))
  | ((with_reducible refine' BdP.b ?h); (case h => walk_at "bdq"))
  | with_reducible exact bd_ite1
  | ((with_reducible refine' bd_ite ?h ?g); (case h => walk_at "bd"); (case g => walk_at "bd")))
local macro_rules | `(tactic| walk_at "pos") => `(tactic| first
  | with_reducible assumption
  | decide
  | omega)
local macro_rules | `(tactic| walk_at "bdq") => `(tactic| first
  | with_reducible assumption
  | ((with_reducible refine' bd_cy ?h ?g _); (case h => with_reducible assumption); (case g => first | with_reducible assumption | omega))
  | ((with_reducible refine' bd_mem ?h ?g); (case g => with_reducible assumption); (case h => with_reducible assumption))
  | ((with_reducible refine' bd_get ?h); (case h => with_reducible assumption)))
local macro_rules | `(tactic| walk_at "bdp") => `(tactic| first
  | walk_at "bdq"
  | ((with_reducible refine' BdP.mk ?h ?g); (case h => walk_at "bd"); (case g => walk_at "bd")))
local macro_rules | `(tactic| walk_at "num") => `(tactic| first
  | with_reducible assumption
  | omega
  | decide +kernel
  | (simp only [Nat.reduceLog2]; omega))
local macro_rules | `(tactic| walk_at "dis") => `(tactic| first
  | with_reducible assumption
  | ((with_reducible refine' mok ?h ?g ?l); (case h => walk_at "bd"); (case g => walk_at "bd"); (case l => walk_at "num"))
  | ((with_reducible refine' Bd.mono ?h ?l); (case h => walk_at "bd"); (case l => walk_at "num"))
  | ((with_reducible refine' BdP.mono ?h ?l); (case h => walk_at "bdp"); (case l => walk_at "num"))
  | ((with_reducible show divOk _); first | with_reducible assumption | decide +kernel | (refine' dok ?p ?h ?l; (case p => first | with_reducible assumption | omega); (case h => walk_at "bd"); (case l => walk_at "num")))
  | omega)
local macro_rules | `(tactic| walk_at "op") => `(tactic| first
  | with_reducible exact dAdd_int _ _
  | with_reducible exact dSub_int _ _
  | ((with_reducible refine dMul_int ?_); walk_at "dis")
  | with_reducible exact dAt_pp0 _ _
  | with_reducible exact dAt_pp1 _ _
  | with_reducible exact dAt_p0 _
  | with_reducible exact dAt_p1 _
  | with_reducible exact dAt_t0
  | with_reducible exact dAt_t1
  | with_reducible exact dAt_t2
  | with_reducible exact dAt_q0 _ _ _
  | with_reducible exact dAt_q1 _ _ _
  | with_reducible exact dAt_q2 _ _ _
  | with_reducible exact dAt_f0 _ _
  | with_reducible exact dAt_f1 _ _
  | with_reducible exact dLt_int _ _
  | with_reducible exact dLe_int _ _
  | with_reducible exact dGt_int _ _
  | with_reducible exact dGe_int _ _
  | with_reducible exact dEq_int _ _
  | with_reducible exact dNe_int _ _
  | ((with_reducible refine dMod_int ?_); walk_at "dis")
  | ((with_reducible refine dDiv_int ?_); walk_at "dis")
  | with_reducible exact dNeg_int _
  | with_reducible exact dIs_non _
  | with_reducible exact dIsNot_non _
  | with_reducible exact dAbs_int _
  | with_reducible exact dMax2_int _ _
  | with_reducible exact dMin2_int _ _
  | with_reducible exact dInt_bl _
  | with_reducible exact dLen_pts _
  | with_reducible exact dEq_pt _ _
  | with_reducible exact dNe_pt _ _
  | with_reducible exact dEq_pts _ _
  | with_reducible exact dNe_pts _ _
  | with_reducible exact dNe_bl _ _
  | with_reducible exact dEq_bl _ _
  | with_reducible exact dEq_D3 _ _ _ _ _ _
  | with_reducible exact dNe_D3 _ _ _ _ _ _
  | with_reducible exact dEq_np _
  | with_reducible exact dNe_np _
  | ((with_reducible refine at_last ?_); walk_at "dis")
  | with_reducible exact dAt_l0
  | with_reducible exact dAt_l1
  | with_reducible exact dAt_l2
  | with_reducible exact dAt_l3
  | with_reducible exact dAt_l4
  | with_reducible exact dAt_l5
  | with_reducible exact dAt_l6
  | with_reducible exact dAt_l7
  | ((with_reducible refine' dNe_self ?h ?l); (case h => walk_at "shp"); (case l => decide))
  | ((with_reducible refine' dEq_self ?h ?l); (case h => walk_at "shp"); (case l => decide))
  | with_reducible assumption
  | exact isi_int _ _ _ _ rfl kb_tuple_tuple
  | exact isi_int _ _ _ _ rfl kb_list_list
  | exact isi_int _ _ _ _ rfl kb_int_int
  | exact isi_int _ _ _ _ rfl kb_bool_bool
  | exact isi_int _ _ _ _ rfl kb_int_bool
  | exact isi_int _ _ _ _ rfl kb_list_tuple
  | exact isi_int _ _ _ _ rfl kb_tuple_list
  | with_reducible rfl)
local macro_rules | `(tactic| walk_at "shp") => `(tactic| first
  | with_reducible exact shp_int _
  | with_reducible exact shp_bl _
  | with_reducible exact shp_non
  | with_reducible exact shp_pt _
  | with_reducible exact shp_pts _
  | with_reducible exact shp_D2 _ _
  | with_reducible exact shp_fr _ _
  | with_reducible exact shp_D3 _ _ _
  | with_reducible exact shp_sp _ _ _
  | with_reducible exact shp_nilL
  | with_reducible exact shp_nilT
  | ((with_reducible refine' shp_consL ?h ?g); (case h => walk_at "shp"); (case g => walk_at "shp"))
  | ((with_reducible refine' shp_consT ?h ?g); (case h => walk_at "shp"); (case g => walk_at "shp"))
  | with_reducible assumption)
local macro_rules | `(tactic| walk_at "fn") => `(tactic| first
  | with_reducible assumption
  | with_reducible exact whole_int _
  | with_reducible exact divisor_eq _ _
  | with_reducible exact common_eq _ _)
local macro_rules | `(tactic| walk_at "ev") => `(tactic| first
  | with_reducible exact ev_c _
  | ((with_reducible refine' ev_var ?h1); (case h1 => exact rfl))
  | ((with_reducible refine' ev_e2 ?h1 ?h2 ?h3); (case h1 => walk_at "ev"); (case h2 => walk_at "ev"); (case h3 => walk_at "op"))
  | with_reducible exact ev_nil
  | ((with_reducible refine' ev_cons ?h1 ?h2); (case h1 => walk_at "ev"); (case h2 => walk_at "ev"))
  | ((with_reducible refine' ev_F ?h1 ?h2); (case h1 => walk_at "ev"); (case h2 => walk_at "fn"))
  | ((with_reducible refine' ev_mB ?h1); (case h1 => walk_at "ev"))
  | ((with_reducible refine' ev_B ?h1 ?h2); (case h1 => walk_at "ev"); (case h2 => walk_at "op"))
  | ((with_reducible refine' ev_tup2 ?h1 ?h2); (case h1 => walk_at "ev"); (case h2 => walk_at "ev"))
  | ((with_reducible refine' ev_tup3 ?h1 ?h2 ?h3); (case h1 => walk_at "ev"); (case h2 => walk_at "ev"); (case h3 => walk_at "ev"))
  | ((with_reducible refine' ev_tup ?h1 ?h2); (case h1 => walk_at "ev"); (case h2 => walk_at "len"))
  | ((with_reducible refine' ev_L ?h1); (case h1 => walk_at "ev"))
  | ((with_reducible refine' ev_lst ?h1 ?h2); (case h1 => walk_at "ev"); (case h2 => walk_at "len"))
  | ((with_reducible refine' ev_not ?h1); (case h1 => walk_at "ev"))
  | ((with_reducible refine' ev_and0 ?h1); (case h1 => walk_at "ev"))
  | ((with_reducible refine' ev_and ?h1 ?h2); (case h1 => walk_at "ev"); (case h2 => (intro hq; (try simp only [decide_eq_true_eq, decide_eq_false_iff_not, Bool.not_eq_true', Bool.not_eq_false'] at hq); walk_at "ev")))
  | ((with_reducible refine' ev_or1 ?h1); (case h1 => walk_at "ev"))
  | ((with_reducible refine' ev_or ?h1 ?h2); (case h1 => walk_at "ev"); (case h2 => (intro hq; (try simp only [decide_eq_true_eq, decide_eq_false_iff_not, Bool.not_eq_true', Bool.not_eq_false'] at hq); walk_at "ev")))
  | ((with_reducible refine' ev_eNot ?h1); (case h1 => walk_at "ev"))
  | ((with_reducible refine' ev_eAnd0 ?h1); (case h1 => walk_at "ev"))
  | ((with_reducible refine' ev_eAnd ?h1 ?h2); (case h1 => walk_at "ev"); (case h2 => (intro hq; (try simp only [decide_eq_true_eq, decide_eq_false_iff_not, Bool.not_eq_true', Bool.not_eq_false'] at hq); walk_at "ev")))
  | ((with_reducible refine' ev_eOr1 ?h1); (case h1 => walk_at "ev"))
  | ((with_reducible refine' ev_eOr ?h1 ?h2); (case h1 => walk_at "ev"); (case h2 => (intro hq; (try simp only [decide_eq_true_eq, decide_eq_false_iff_not, Bool.not_eq_true', Bool.not_eq_false'] at hq); walk_at "ev")))
  | ((with_reducible refine' ev_e1 ?h1 ?h2); (case h1 => walk_at "ev"); (case h2 => walk_at "op"))
  | ((with_reducible refine' ev_copy ?h1 ?h2); (case h1 => walk_at "ev"); (case h2 => exact rfl))
  | ((with_reducible refine' ev_ch ?h1 ?h2 ?h3 ?h4 ?h5); (case h1 => walk_at "ev"); (case h2 => walk_at "ev"); (case h3 => walk_at "op"); (case h4 => (intro hq; (try simp only [decide_eq_true_eq, decide_eq_false_iff_not, Bool.not_eq_true', Bool.not_eq_false'] at hq); walk_at "ev")); (case h5 => (intro _; walk_at "op")))
  | ((with_reducible refine' ev_lc ?h1 ?h2 ?h3 ?h4); (case h1 => walk_at "ev"); (case h2 => walk_at "its"); (case h3 => walk_at "len"); (case h4 => (intro _ _; exact ⟨_, rfl, by walk_at "ev"⟩)))
  | ((with_reducible refine' ev_lcR ?h1 ?h2 ?h3 ?h4); (case h1 => walk_at "ev"); (case h2 => walk_at "rng"); (case h3 => walk_at "len"); (case h4 => (intro _ _; exact ⟨_, rfl, by walk_at "ev"⟩)))
  | ((with_reducible refine' ev_cat ?h1 ?h2 ?h3); (case h1 => walk_at "ev"); (case h2 => walk_at "ev"); (case h3 => walk_at "len"))
  | ((with_reducible refine' ev_ownLen ?h1); (case h1 => exact rfl))
  | ((with_reducible refine' ev_ownAt ?h1 ?h2 ?h3); (case h1 => exact rfl); (case h2 => walk_at "ev"); (case h3 => walk_at "op"))
  | with_reducible assumption)
local macro_rules | `(tactic| walk_at "len") => `(tactic| first
  | ((simp only [List.length_map, List.length_cons, List.length_nil, List.length_append, List.length_range]) <;> walk_at "num")
  | walk_at "num")
local macro_rules | `(tactic| walk_at "its") => `(tactic| first
  | with_reducible exact its_map
  | with_reducible exact its_map2
  | exact rfl)
local macro_rules | `(tactic| walk_at "rng") => `(tactic| first
  | ((with_reducible refine rng1 ?_ ?_) <;> walk_at "num")
  | ((with_reducible refine rng2 ?_ ?_ ?_ ?_) <;> walk_at "num"))
local macro_rules | `(tactic| walk_at "es") => `(tactic| simp (config := {failIfUnchanged := false}) only [List.set_cons_zero, List.set_cons_succ])
local macro_rules | `(tactic| walk_at "start") => `(tactic| (simp only [List.map_cons, List.map_nil, List.cons_append, List.nil_append, List.length_cons, List.length_nil, Nat.reduceAdd, Nat.reduceSub, List.replicate_succ, List.replicate_zero]))
local macro_rules | `(tactic| walk_at "st1") => `(tactic| first
  | ((with_reducible refine' wo_seq ?k))
  | ((with_reducible refine' wo_ift ?h ?e ?k); (case h => walk_at "ev"); (case e => simp only [beq_self_eq_true, Bool.true_beq, Bool.false_beq, decide_eq_true_eq, decide_eq_false_iff_not, Bool.not_eq_true', Bool.not_eq_false', Bool.or_eq_true, Bool.and_eq_true, Bool.or_eq_false_iff, Bool.and_eq_false_imp, Bool.not_true, Bool.not_false, Bool.false_or, Bool.or_false, Bool.true_or, Bool.or_true, Bool.true_and, Bool.and_true, Bool.false_and, Bool.and_false, Bool.true_eq_false, Bool.false_eq_true, decide_true, decide_false, reduceCtorEq, D.isNone, Int.not_lt, Int.not_le, ne_eq, Decidable.not_not, not_true_eq_false, not_false_eq_true, false_implies, true_implies, implies_true, and_true, true_and, and_false, false_and, or_true, true_or, or_false, false_or, reduceIte, eq_self]))
  | ((with_reducible refine' wo_iff ?h ?e ?k); (case h => walk_at "ev"); (case e => simp only [beq_self_eq_true, Bool.true_beq, Bool.false_beq, decide_eq_true_eq, decide_eq_false_iff_not, Bool.not_eq_true', Bool.not_eq_false', Bool.or_eq_true, Bool.and_eq_true, Bool.or_eq_false_iff, Bool.and_eq_false_imp, Bool.not_true, Bool.not_false, Bool.false_or, Bool.or_false, Bool.true_or, Bool.or_true, Bool.true_and, Bool.and_true, Bool.false_and, Bool.and_false, Bool.true_eq_false, Bool.false_eq_true, decide_true, decide_false, reduceCtorEq, D.isNone, Int.not_lt, Int.not_le, ne_eq, Decidable.not_not, not_true_eq_false, not_false_eq_true, false_implies, true_implies, implies_true, and_true, true_and, and_false, false_and, or_true, true_or, or_false, false_or, reduceIte, eq_self]))
  | (((with_reducible refine' wo_asg ?h1 ?k); (case h1 => walk_at "ev")); walk_at "es")
  | ((with_reducible refine' wo_ret ?h1 ?k); (case h1 => walk_at "ev"))
  | (((with_reducible refine' wo_tgt ?h1 ?h2 ?k); (case h1 => walk_at "ev"); (case h2 => exact rfl)); walk_at "es")
  | ((with_reducible refine' wo_nil ?k))
  | ((with_reducible refine' wo_raise ?k))
  | (((with_reducible refine' wo_own ?h1 ?k); (case h1 => walk_at "ev")); walk_at "es")
  | (((with_reducible refine' wo_asgL ?h1 ?k); (case h1 => walk_at "ev")); walk_at "es")
  | (((with_reducible refine' wo_app ?h1 ?h2 ?h3 ?k); (case h1 => exact rfl); (case h2 => walk_at "ev"); (case h3 => walk_at "len")); walk_at "es")
  | (((with_reducible refine' wo_par ?h1 ?h2 ?k); (case h1 => walk_at "ev"); (case h2 => walk_at "ev")); walk_at "es")
  | ((with_reducible refine wo_frz ?_); simp only [frz, List.getElem?_cons_zero, List.getElem?_cons_succ, List.set_cons_zero, List.set_cons_succ]))
local macro_rules | `(tactic| walk_at "st") => `(tactic| (walk_at "st1"; try dsimp only))
local macro_rules | `(tactic| walk_at "hs") => `(tactic| ((try simp only [beq_self_eq_true, Bool.true_beq, Bool.false_beq, decide_eq_true_eq, decide_eq_false_iff_not, Bool.not_eq_true', Bool.not_eq_false', Bool.or_eq_true, Bool.and_eq_true, Bool.or_eq_false_iff, Bool.and_eq_false_imp, Bool.not_true, Bool.not_false, Bool.false_or, Bool.or_false, Bool.true_or, Bool.or_true, Bool.true_and, Bool.and_true, Bool.false_and, Bool.and_false, Bool.true_eq_false, Bool.false_eq_true, decide_true, decide_false, reduceCtorEq, D.isNone, Int.not_lt, Int.not_le, ne_eq, Decidable.not_not, not_true_eq_false, not_false_eq_true, false_implies, true_implies, implies_true, and_true, true_and, and_false, false_and, or_true, true_or, or_false, false_or, reduceIte, eq_self]); exact rfl))
local macro_rules | `(tactic| walk_at "fls") => `(tactic| first | (with_reducible exact False.elim) | (with_reducible refine fun (_ : True) => ?_) | skip)
local macro_rules | `(tactic| walk_at "if") => `(tactic| ((with_reducible refine' wo_ifx ?h ?e1 ?e2 ?k1 ?k2); (case h => walk_at "ev"); (case e1 => walk_at "hs"); (case e2 => walk_at "hs"); (case' k1 => walk_at "fls"); (case' k2 => walk_at "fls")))
local macro_rules | `(tactic| walk_at "tt") => `(tactic| (try simp only [beq_self_eq_true, Bool.true_beq, Bool.false_beq, decide_eq_true_eq, decide_eq_false_iff_not, Bool.not_eq_true', Bool.not_eq_false', Bool.or_eq_true, Bool.and_eq_true, Bool.or_eq_false_iff, Bool.and_eq_false_imp, Bool.not_true, Bool.not_false, Bool.false_or, Bool.or_false, Bool.true_or, Bool.or_true, Bool.true_and, Bool.and_true, Bool.false_and, Bool.and_false, Bool.true_eq_false, Bool.false_eq_true, decide_true, decide_false, reduceCtorEq, D.isNone, Int.not_lt, Int.not_le, ne_eq, Decidable.not_not, not_true_eq_false, not_false_eq_true, false_implies, true_implies, implies_true, and_true, true_and, and_false, false_and, or_true, true_or, or_false, false_or, reduceIte, eq_self]))
local macro_rules | `(tactic| walk_at "hc") => `(tactic| simp only [beq_self_eq_true, Bool.true_beq, Bool.false_beq, decide_eq_true_eq, decide_eq_false_iff_not, Bool.not_eq_true', Bool.not_eq_false', Bool.or_eq_true, Bool.and_eq_true, Bool.or_eq_false_iff, Bool.and_eq_false_imp, Bool.not_true, Bool.not_false, Bool.false_or, Bool.or_false, Bool.true_or, Bool.or_true, Bool.true_and, Bool.and_true, Bool.false_and, Bool.and_false, Bool.true_eq_false, Bool.false_eq_true, decide_true, decide_false, reduceCtorEq, D.isNone, Int.not_lt, Int.not_le, ne_eq, Decidable.not_not, not_true_eq_false, not_false_eq_true, false_implies, true_implies, implies_true, and_true, true_and, and_false, false_and, or_true, true_or, or_false, false_or, reduceIte, eq_self] at *)
local macro_rules | `(tactic| walk_at "sts") => `(tactic| (walk_at "st"; try (walk_at "st"; try (walk_at "st"; try (walk_at "st"; try (walk_at "st"; try (walk_at "st"; try (walk_at "st"; try (walk_at "st"; try (walk_at "st"; try (walk_at "st"; try (walk_at "st"; try (walk_at "st"; try (walk_at "st"; try (walk_at "st"; try (walk_at "st"; try (walk_at "st"; try (walk_at "st"; try (walk_at "st"; try (walk_at "st"; try (walk_at "st"; try (walk_at "st"; try (walk_at "st"; try (walk_at "st"; try (walk_at "st"; try (walk_at "st"; try (walk_at "st"; try (walk_at "st"; try (walk_at "st"; try (walk_at "st"; try (walk_at "st"; try (walk_at "st"; try (walk_at "st"; try (walk_at "st"; try (walk_at "st"; try (walk_at "st"; try (walk_at "st"; try (walk_at "st"; try (walk_at "st"; try (walk_at "st"; try (walk_at "st"; try (walk_at "st"))))))))))))))))))))))))))))))))))))))))))
local macro_rules | `(tactic| walk_at "op") => `(tactic| first
  | with_reducible assumption
  | with_reducible exact dIs_nn
  | with_reducible exact dIs_pt _
  | with_reducible exact dIs_D3 _ _ _
  | with_reducible exact dIsN_nn
  | with_reducible exact dIsN_pt _
  | with_reducible exact dIsN_D3 _ _ _
  | ((with_reducible refine at_czm ?_); first | with_reducible assumption | omega)
  | ((with_reducible refine at_czm1 ?_); first | with_reducible assumption | omega)
  | ((with_reducible refine at_sides ?_); first | with_reducible assumption | omega)
  | ((with_reducible refine at_normals ?_); first | with_reducible assumption | omega)
  | ((with_reducible refine at_cz ?_ ?_) <;> first | with_reducible assumption | omega)
  | with_reducible exact dLen_scr _
  | with_reducible exact dLen_tup _
  | walk_at "opx")
local macro_rules | `(tactic| walk_at "opx") => `(tactic| first
  | with_reducible exact isi_bb _
  | with_reducible exact dIs_i _
  | with_reducible exact isi_u _
  | with_reducible exact dLen_u _
  | with_reducible exact dEqN_D3t _ _
  | with_reducible exact dEqE_D3t _ _
  | ((with_reducible refine at_lstI ?_ ?_) <;> first | with_reducible assumption | omega)
  | with_reducible exact dIs_D3t _
  | with_reducible exact dIsN_D3t _
  | with_reducible exact dAt_u0 _
  | with_reducible exact dAt_u1 _
  | with_reducible exact dAt_u2 _
  | with_reducible exact dIs_nn
  | with_reducible exact dIs_pt _
  | with_reducible exact dIs_D3 _ _ _
  | with_reducible exact dIs_lst _
  | with_reducible exact dIsN_nn
  | with_reducible exact dIsN_pt _
  | with_reducible exact dIsN_D3 _ _ _
  | with_reducible exact dLen_t2 _
  | with_reducible exact dLen_t3 _ _ _
  | with_reducible assumption)
local macro_rules | `(tactic| walk_at "bdq") => `(tactic| first
  | ((with_reducible refine' bd_cz ?h ?g _); (case h => first | with_reducible assumption | exact Body.bd (by with_reducible assumption)); (case g => first | with_reducible assumption | exact Body.pos (by with_reducible assumption) | omega)))
local macro_rules | `(tactic| walk_at "shp") => `(tactic| first
  | ((with_reducible refine' shp_mapL ?h _); (case h => (intro _; walk_at "shp"))))
local macro_rules | `(tactic| walk_at "rng") => `(tactic| first
  | ((with_reducible refine rngN ?_); walk_at "num"))
local macro_rules | `(tactic| walk_at "st1") => `(tactic| first
  | (((with_reducible refine' wo_ins ?h1 ?h2 ?h3 ?h4 ?h5 ?h6 ?k); (case h1 => exact rfl); (case h2 => walk_at "ev"); (case h3 => walk_at "ev"); (case h4 => walk_at "num"); (case h5 => walk_at "num"); (case h6 => walk_at "len")); walk_at "es"))
local macro_rules | `(tactic| walk_at "ev") => `(tactic| first
  | with_reducible exact ev_home _ _ _
  | ((with_reducible refine' ev_cutS ?h1 ?h2 ?h3); (case h1 => walk_at "ev"); (case h2 => walk_at "ev"); (case h3 => walk_at "ev"))
  | ((with_reducible refine' ev_ownLenM ?h1); (case h1 => exact rfl))
  | ((with_reducible refine' ev_revm ?h1); (case h1 => walk_at "ev"))
  | ((with_reducible refine' ev_rev ?h1); (case h1 => walk_at "ev"))
  | ((with_reducible refine' ev_lc6 ?h1 ?h2 ?h3 ?h4 ?h5 ?h6 ?h7); (case h1 => walk_at "ev"); (case h2 => exact ⟨_, rfl, by walk_at "ev"⟩); (case h3 => exact ⟨_, rfl, by walk_at "ev"⟩); (case h4 => exact ⟨_, rfl, by walk_at "ev"⟩); (case h5 => exact ⟨_, rfl, by walk_at "ev"⟩); (case h6 => exact ⟨_, rfl, by walk_at "ev"⟩); (case h7 => exact ⟨_, rfl, by walk_at "ev"⟩))
  | ((with_reducible refine' ev_lc8 ?h1 ?h2 ?h3 ?h4 ?h5 ?h6 ?h7 ?h8 ?h9); (case h1 => walk_at "ev"); (case h2 => exact ⟨_, rfl, by walk_at "ev"⟩); (case h3 => exact ⟨_, rfl, by walk_at "ev"⟩); (case h4 => exact ⟨_, rfl, by walk_at "ev"⟩); (case h5 => exact ⟨_, rfl, by walk_at "ev"⟩); (case h6 => exact ⟨_, rfl, by walk_at "ev"⟩); (case h7 => exact ⟨_, rfl, by walk_at "ev"⟩); (case h8 => exact ⟨_, rfl, by walk_at "ev"⟩); (case h9 => exact ⟨_, rfl, by walk_at "ev"⟩))
  | ((with_reducible refine' ev_lc3 ?h1 ?h2 ?h3 ?h4); (case h1 => walk_at "ev"); (case h2 => exact ⟨_, rfl, by walk_at "ev"⟩); (case h3 => exact ⟨_, rfl, by walk_at "ev"⟩); (case h4 => exact ⟨_, rfl, by walk_at "ev"⟩))
  | ((with_reducible refine' ev_lcN ?h1 ?h2 ?h3 ?h4); (case h1 => walk_at "ev"); (case h2 => walk_at "rng"); (case h3 => walk_at "len"); (case h4 => (intro _ _; exact ⟨_, rfl, by walk_at "ev"⟩))))
local macro_rules | `(tactic| walk_at "okt") => `(tactic| first
  | with_reducible assumption
  | ((with_reducible refine okT.take ?_ _); walk_at "okt")
  | ((with_reducible refine okT.drop ?_ _); walk_at "okt")
  | ((with_reducible refine okT.app ?_ ?_) <;> walk_at "okt")
  | ((with_reducible refine okT_numI _))
  | decide)
local macro_rules | `(tactic| walk_at "lenT") => `(tactic| first
  | with_reducible assumption
  | omega
  | ((simp only [List.length_append, List.length_cons, List.length_nil, List.length_take, List.length_drop]) <;> omega)
  | decide)
local macro_rules | `(tactic| walk_at "op") => `(tactic| first
  | ((with_reducible refine dEq_T ?_ ?_) <;> walk_at "okt")
  | ((with_reducible refine dNe_T ?_ ?_) <;> walk_at "okt")
  | ((with_reducible refine dLen_T ?_); walk_at "lenT")
  | ((with_reducible refine dAdd_T ?_); walk_at "lenT")
  | with_reducible exact dIn_T _ _
  | with_reducible exact dOrd_T _
  | ((with_reducible refine dAt_T0 ?_ ?_); (first | with_reducible assumption | decide); walk_at "lenT")
  | ((with_reducible refine dAt_Tn ?_ ?_) <;> walk_at "lenT")
  | ((with_reducible refine dStr_T ?_); walk_at "log")
  | with_reducible exact isi_T _
  | with_reducible exact dIs_T _
  | with_reducible exact dIsN_T _
  | with_reducible exact dIs_nnT
  | with_reducible exact dIsN_nnT
  | with_reducible exact dIs_iT _
  | with_reducible exact dIsN_iT _
  | with_reducible exact dIs_D2T _ _
  | with_reducible exact dIsN_D2T _ _)
local macro_rules | `(tactic| walk_at "ev") => `(tactic| first
  | with_reducible exact ev_lit lit_e
  | with_reducible exact ev_lit lit_m
  | with_reducible exact ev_lit lit_0
  | with_reducible exact ev_lit lit_s
  | with_reducible exact ev_lit lit_f
  | ((with_reducible refine' ev_cutTo1 ?h1 ?h2); (case h1 => walk_at "ev"); (case h2 => walk_at "lenT"))
  | ((with_reducible refine' ev_cutFrom1 ?h1 ?h2); (case h1 => walk_at "ev"); (case h2 => walk_at "lenT"))
  | ((with_reducible refine' ev_cutTo ?h1 ?h2 ?h3); (case h1 => walk_at "ev"); (case h2 => walk_at "ev"); (case h3 => walk_at "lenT"))
  | ((with_reducible refine' ev_cutFrom ?h1 ?h2 ?h3); (case h1 => walk_at "ev"); (case h2 => walk_at "ev"); (case h3 => walk_at "lenT")))
local macro_rules | `(tactic| walk_at "st1") => `(tactic| first
  | ((with_reducible refine' wo_ift ?h ?e ?k); (case h => walk_at "ev"); (case e => first | decide | (simp [D.isNone]; done)))
  | ((with_reducible refine' wo_iff ?h ?e ?k); (case h => walk_at "ev"); (case e => first | decide | (simp [D.isNone]; done))))
local macro_rules | `(tactic| walk_at "log") => `(tactic| ((with_reducible refine log_bd ?_); walk_at "dis"))
def optP : Option (Int × Int) → D
  | none => .non
  | some p => D2 p.1 p.2
theorem dLen_Ts (l : List (List Nat)) : dLen [.lst (l.map T)] = some (.int (l.length : Int)) := dLen_pts l
end Law
namespace Law
open PySem PySem.Spec PyProof.Rows L2 GD Hl TL
local macro_rules | `(tactic| walk_at "bd") => `(tactic| first
  | with_reducible assumption
  | with_reducible exact Bd.litO _
  | ((with_reducible refine' Bd.mul ?h ?g); (case h => walk_at "bd"); (case g => walk_at "bd"))
  | ((with_reducible refine' Bd.add ?h ?g); (case h => walk_at "bd"); (case g => walk_at "bd"))
  | ((with_reducible refine' Bd.sub ?h ?g); (case h => walk_at "bd"); (case g => walk_at "bd"))
  | ((with_reducible refine' Bd.neg ?h); (case h => walk_at "bd"))
  | ((with_reducible refine' Bd.emod ?h); (case h => walk_at "pos"))
  | ((with_reducible refine' Bd.ediv ?h); (case h => walk_at "bd"))
  | ((with_reducible refine' bd_fT ?h); (case h => walk_at "bd"))
  | ((with_reducible refine' bd_fB ?h); (case h => walk_at "bd"))
  | ((with_reducible refine' bd_sX ?h); (case h => walk_at "bd"))
  | ((with_reducible refine' bd_sY ?h); (case h => walk_at "bd"))
  | ((with_reducible refine' bd_sW ?h); (case h => walk_at "bd"))
  | ((with_reducible refine' bd_abs ?h); (case h => walk_at "bd"))
  | ((with_reducible refine' BdP.a ?h); (case h => walk_at "bdq"))
  | ((with_reducible refine' BdP.b ?h); (case h => walk_at "bdq"))
  | with_reducible exact bd_ite1
  | ((with_reducible refine' bd_ite ?h ?g); (case h => walk_at "bd"); (case g => walk_at "bd")))
local macro_rules | `(tactic| walk_at "pos") => `(tactic| first
  | with_reducible assumption
  | decide
  | omega)
local macro_rules | `(tactic| walk_at "bdq") => `(tactic| first
  | with_reducible assumption
  | ((with_reducible refine' bd_cy ?h ?g _); (case h => with_reducible assumption); (case g => first | with_reducible assumption | omega))
  | ((with_reducible refine' bd_mem ?h ?g); (case g => with_reducible assumption); (case h => with_reducible assumption))
  | ((with_reducible refine' bd_get ?h); (case h => with_reducible assumption)))
local macro_rules | `(tactic| walk_at "bdp") => `(tactic| first
  | walk_at "bdq"
  | ((with_reducible refine' BdP.mk ?h ?g); (case h => walk_at "bd"); (case g => walk_at "bd")))
local macro_rules | `(tactic| walk_at "num") => `(tactic| first
  | with_reducible assumption
  | omega
  | decide +kernel
  | (simp only [Nat.reduceLog2]; omega))
local macro_rules | `(tactic| walk_at "dis") => `(tactic| first
  | with_reducible assumption
  | ((with_reducible refine' mok ?h ?g ?l); (case h => walk_at "bd"); (case g => walk_at "bd"); (case l => walk_at "num"))
  | ((with_reducible refine' Bd.mono ?h ?l); (case h => walk_at "bd"); (case l => walk_at "num"))
  | ((with_reducible refine' BdP.mono ?h ?l); (case h => walk_at "bdp"); (case l => walk_at "num"))
  | ((with_reducible show divOk _); first | with_reducible assumption | decide +kernel | (refine' dok ?p ?h ?l; (case p => first | with_reducible assumption | omega); (case h => walk_at "bd"); (case l => walk_at "num")))
  | omega)
local macro_rules | `(tactic| walk_at "op") => `(tactic| first
  | with_reducible exact dAdd_int _ _
  | with_reducible exact dSub_int _ _
  | ((with_reducible refine dMul_int ?_); walk_at "dis")
  | with_reducible exact dAt_pp0 _ _
  | with_reducible exact dAt_pp1 _ _
  | with_reducible exact dAt_p0 _
  | with_reducible exact dAt_p1 _
  | with_reducible exact dAt_t0
  | with_reducible exact dAt_t1
  | with_reducible exact dAt_t2
  | with_reducible exact dAt_q0 _ _ _
  | with_reducible exact dAt_q1 _ _ _
  | with_reducible exact dAt_q2 _ _ _
  | with_reducible exact dAt_f0 _ _
  | with_reducible exact dAt_f1 _ _
  | with_reducible exact dLt_int _ _
  | with_reducible exact dLe_int _ _
  | with_reducible exact dGt_int _ _
  | with_reducible exact dGe_int _ _
  | with_reducible exact dEq_int _ _
  | with_reducible exact dNe_int _ _
  | ((with_reducible refine dMod_int ?_); walk_at "dis")
  | ((with_reducible refine dDiv_int ?_); walk_at "dis")
  | with_reducible exact dNeg_int _
  | with_reducible exact dIs_non _
  | with_reducible exact dIsNot_non _
  | with_reducible exact dAbs_int _
  | with_reducible exact dMax2_int _ _
  | with_reducible exact dMin2_int _ _
  | with_reducible exact dInt_bl _
  | with_reducible exact dLen_pts _
  | with_reducible exact dEq_pt _ _
  | with_reducible exact dNe_pt _ _
  | with_reducible exact dEq_pts _ _
  | with_reducible exact dNe_pts _ _
  | with_reducible exact dNe_bl _ _
  | with_reducible exact dEq_bl _ _
  | with_reducible exact dEq_D3 _ _ _ _ _ _
  | with_reducible exact dNe_D3 _ _ _ _ _ _
  | with_reducible exact dEq_np _
  | with_reducible exact dNe_np _
  | ((with_reducible refine at_last ?_); walk_at "dis")
  | with_reducible exact dAt_l0
  | with_reducible exact dAt_l1
  | with_reducible exact dAt_l2
  | with_reducible exact dAt_l3
  | with_reducible exact dAt_l4
  | with_reducible exact dAt_l5
  | with_reducible exact dAt_l6
  | with_reducible exact dAt_l7
  | ((with_reducible refine' dNe_self ?h ?l); (case h => walk_at "shp"); (case l => decide))
  | ((with_reducible refine' dEq_self ?h ?l); (case h => walk_at "shp"); (case l => decide))
  | with_reducible assumption
  | exact isi_int _ _ _ _ rfl kb_tuple_tuple
  | exact isi_int _ _ _ _ rfl kb_list_list
  | exact isi_int _ _ _ _ rfl kb_int_int
  | exact isi_int _ _ _ _ rfl kb_bool_bool
  | exact isi_int _ _ _ _ rfl kb_int_bool
  | exact isi_int _ _ _ _ rfl kb_list_tuple
  | exact isi_int _ _ _ _ rfl kb_tuple_list
  | with_reducible rfl)
local macro_rules | `(tactic| walk_at "shp") => `(tactic| first
  | with_reducible exact shp_int _
  | with_reducible exact shp_bl _
  | with_reducible exact shp_non
  | with_reducible exact shp_pt _
  | with_reducible exact shp_pts _
  | with_reducible exact shp_D2 _ _
  | with_reducible exact shp_fr _ _
  | with_reducible exact shp_D3 _ _ _
  | with_reducible exact shp_sp _ _ _
  | with_reducible exact shp_nilL
  | with_reducible exact shp_nilT
  | ((with_reducible refine' shp_consL ?h ?g); (case h => walk_at "shp"); (case g => walk_at "shp"))
  | ((with_reducible refine' shp_consT ?h ?g); (case h => walk_at "shp"); (case g => walk_at "shp"))
  | with_reducible assumption)
local macro_rules | `(tactic| walk_at "fn") => `(tactic| first
  | with_reducible assumption
  | with_reducible exact whole_int _
  | with_reducible exact divisor_eq _ _
  | with_reducible exact common_eq _ _)
local macro_rules | `(tactic| walk_at "ev") => `(tactic| first
  | with_reducible exact ev_c _
  | ((with_reducible refine' ev_var ?h1); (case h1 => exact rfl))
  | ((with_reducible refine' ev_e2 ?h1 ?h2 ?h3); (case h1 => walk_at "ev"); (case h2 => walk_at "ev"); (case h3 => walk_at "op"))
  | with_reducible exact ev_nil
  | ((with_reducible refine' ev_cons ?h1 ?h2); (case h1 => walk_at "ev"); (case h2 => walk_at "ev"))
  | ((with_reducible refine' ev_F ?h1 ?h2); (case h1 => walk_at "ev"); (case h2 => walk_at "fn"))
  | ((with_reducible refine' ev_mB ?h1); (case h1 => walk_at "ev"))
  | ((with_reducible refine' ev_B ?h1 ?h2); (case h1 => walk_at "ev"); (case h2 => walk_at "op"))
  | ((with_reducible refine' ev_tup2 ?h1 ?h2); (case h1 => walk_at "ev"); (case h2 => walk_at "ev"))
  | ((with_reducible refine' ev_tup3 ?h1 ?h2 ?h3); (case h1 => walk_at "ev"); (case h2 => walk_at "ev"); (case h3 => walk_at "ev"))
  | ((with_reducible refine' ev_tup ?h1 ?h2); (case h1 => walk_at "ev"); (case h2 => walk_at "len"))
  | ((with_reducible refine' ev_L ?h1); (case h1 => walk_at "ev"))
  | ((with_reducible refine' ev_lst ?h1 ?h2); (case h1 => walk_at "ev"); (case h2 => walk_at "len"))
  | ((with_reducible refine' ev_not ?h1); (case h1 => walk_at "ev"))
  | ((with_reducible refine' ev_and0 ?h1); (case h1 => walk_at "ev"))
  | ((with_reducible refine' ev_and ?h1 ?h2); (case h1 => walk_at "ev"); (case h2 => (intro hq; (try simp only [decide_eq_true_eq, decide_eq_false_iff_not, Bool.not_eq_true', Bool.not_eq_false'] at hq); walk_at "ev")))
  | ((with_reducible refine' ev_or1 ?h1); (case h1 => walk_at "ev"))
  | ((with_reducible refine' ev_or ?h1 ?h2); (case h1 => walk_at "ev"); (case h2 => (intro hq; (try simp only [decide_eq_true_eq, decide_eq_false_iff_not, Bool.not_eq_true', Bool.not_eq_false'] at hq); walk_at "ev")))
  | ((with_reducible refine' ev_eNot ?h1); (case h1 => walk_at "ev"))
  | ((with_reducible refine' ev_eAnd0 ?h1); (case h1 => walk_at "ev"))
  | ((with_reducible refine' ev_eAnd ?h1 ?h2); (case h1 => walk_at "ev"); (case h2 => (intro hq; (try simp only [decide_eq_true_eq, decide_eq_false_iff_not, Bool.not_eq_true', Bool.not_eq_false'] at hq); walk_at "ev")))
  | ((with_reducible refine' ev_eOr1 ?h1); (case h1 => walk_at "ev"))
  | ((with_reducible refine' ev_eOr ?h1 ?h2); (case h1 => walk_at "ev"); (case h2 => (intro hq; (try simp only [decide_eq_true_eq, decide_eq_false_iff_not, Bool.not_eq_true', Bool.not_eq_false'] at hq); walk_at "ev")))
  | ((with_reducible refine' ev_e1 ?h1 ?h2); (case h1 => walk_at "ev"); (case h2 => walk_at "op"))
  | ((with_reducible refine' ev_copy ?h1 ?h2); (case h1 => walk_at "ev"); (case h2 => exact rfl))
  | ((with_reducible refine' ev_ch ?h1 ?h2 ?h3 ?h4 ?h5); (case h1 => walk_at "ev"); (case h2 => walk_at "ev"); (case h3 => walk_at "op"); (case h4 => (intro hq; (try simp only [decide_eq_true_eq, decide_eq_false_iff_not, Bool.not_eq_true', Bool.not_eq_false'] at hq); walk_at "ev")); (case h5 => (intro _; walk_at "op")))
  | ((with_reducible refine' ev_lc ?h1 ?h2 ?h3 ?h4); (case h1 => walk_at "ev"); (case h2 => walk_at "its"); (case h3 => walk_at "len"); (case h4 => (intro _ _; exact ⟨_, rfl, by walk_at "ev"⟩)))
  | ((with_reducible refine' ev_lcR ?h1 ?h2 ?h3 ?h4); (case h1 => walk_at "ev"); (case h2 => walk_at "rng"); (case h3 => walk_at "len"); (case h4 => (intro _ _; exact ⟨_, rfl, by walk_at "ev"⟩)))
  | ((with_reducible refine' ev_cat ?h1 ?h2 ?h3); (case h1 => walk_at "ev"); (case h2 => walk_at "ev"); (case h3 => walk_at "len"))
  | ((with_reducible refine' ev_ownLen ?h1); (case h1 => exact rfl))
  | ((with_reducible refine' ev_ownAt ?h1 ?h2 ?h3); (case h1 => exact rfl); (case h2 => walk_at "ev"); (case h3 => walk_at "op"))
  | with_reducible assumption)
local macro_rules | `(tactic| walk_at "len") => `(tactic| first
  | ((simp only [List.length_map, List.length_cons, List.length_nil, List.length_append, List.length_range]) <;> walk_at "num")
  | walk_at "num")
local macro_rules | `(tactic| walk_at "its") => `(tactic| first
  | with_reducible exact its_map
  | with_reducible exact its_map2
  | exact rfl)
local macro_rules | `(tactic| walk_at "rng") => `(tactic| first
  | ((with_reducible refine rng1 ?_ ?_) <;> walk_at "num")
  | ((with_reducible refine rng2 ?_ ?_ ?_ ?_) <;> walk_at "num"))
local macro_rules | `(tactic| walk_at "es") => `(tactic| simp (config := {failIfUnchanged := false}) only [List.set_cons_zero, List.set_cons_succ])
local macro_rules | `(tactic| walk_at "start") => `(tactic| (simp only [List.map_cons, List.map_nil, List.cons_append, List.nil_append, List.length_cons, List.length_nil, Nat.reduceAdd, Nat.reduceSub, List.replicate_succ, List.replicate_zero]))
local macro_rules | `(tactic| walk_at "st1") => `(tactic| first
  | ((with_reducible refine' wo_seq ?k))
  | ((with_reducible refine' wo_ift ?h ?e ?k); (case h => walk_at "ev"); (case e => simp only [beq_self_eq_true, Bool.true_beq, Bool.false_beq, decide_eq_true_eq, decide_eq_false_iff_not, Bool.not_eq_true', Bool.not_eq_false', Bool.or_eq_true, Bool.and_eq_true, Bool.or_eq_false_iff, Bool.and_eq_false_imp, Bool.not_true, Bool.not_false, Bool.false_or, Bool.or_false, Bool.true_or, Bool.or_true, Bool.true_and, Bool.and_true, Bool.false_and, Bool.and_false, Bool.true_eq_false, Bool.false_eq_true, decide_true, decide_false, reduceCtorEq, D.isNone, Int.not_lt, Int.not_le, ne_eq, Decidable.not_not, not_true_eq_false, not_false_eq_true, false_implies, true_implies, implies_true, and_true, true_and, and_false, false_and, or_true, true_or, or_false, false_or, reduceIte, eq_self]))
  | ((with_reducible refine' wo_iff ?h ?e ?k); (case h => walk_at "ev"); (case e => simp only [beq_self_eq_true, Bool.true_beq, Bool.false_beq, decide_eq_true_eq, decide_eq_false_iff_not, Bool.not_eq_true', Bool.not_eq_false', Bool.or_eq_true, Bool.and_eq_true, Bool.or_eq_false_iff, Bool.and_eq_false_imp, Bool.not_true, Bool.not_false, Bool.false_or, Bool.or_false, Bool.true_or, Bool.or_true, Bool.true_and, Bool.and_true, Bool.false_and, Bool.and_false, Bool.true_eq_false, Bool.false_eq_true, decide_true, decide_false, reduceCtorEq, D.isNone, Int.not_lt, Int.not_le, ne_eq, Decidable.not_not, not_true_eq_false, not_false_eq_true, false_implies, true_implies, implies_true, and_true, true_and, and_false, false_and, or_true, true_or, or_false, false_or, reduceIte, eq_self]))
  | (((with_reducible refine' wo_asg ?h1 ?k); (case h1 => walk_at "ev")); walk_at "es")
  | ((with_reducible refine' wo_ret ?h1 ?k); (case h1 => walk_at "ev"))
  | (((with_reducible refine' wo_tgt ?h1 ?h2 ?k); (case h1 => walk_at "ev"); (case h2 => exact rfl)); walk_at "es")
  | ((with_reducible refine' wo_nil ?k))
  | ((with_reducible refine' wo_raise ?k))
  | (((with_reducible refine' wo_own ?h1 ?k); (case h1 => walk_at "ev")); walk_at "es")
  | (((with_reducible refine' wo_asgL ?h1 ?k); (case h1 => walk_at "ev")); walk_at "es")
  | (((with_reducible refine' wo_app ?h1 ?h2 ?h3 ?k); (case h1 => exact rfl); (case h2 => walk_at "ev"); (case h3 => walk_at "len")); walk_at "es")
  | (((with_reducible refine' wo_par ?h1 ?h2 ?k); (case h1 => walk_at "ev"); (case h2 => walk_at "ev")); walk_at "es")
  | ((with_reducible refine wo_frz ?_); simp only [frz, List.getElem?_cons_zero, List.getElem?_cons_succ, List.set_cons_zero, List.set_cons_succ]))
local macro_rules | `(tactic| walk_at "st") => `(tactic| (walk_at "st1"; try dsimp only))
local macro_rules | `(tactic| walk_at "hs") => `(tactic| ((try simp only [beq_self_eq_true, Bool.true_beq, Bool.false_beq, decide_eq_true_eq, decide_eq_false_iff_not, Bool.not_eq_true', Bool.not_eq_false', Bool.or_eq_true, Bool.and_eq_true, Bool.or_eq_false_iff, Bool.and_eq_false_imp, Bool.not_true, Bool.not_false, Bool.false_or, Bool.or_false, Bool.true_or, Bool.or_true, Bool.true_and, Bool.and_true, Bool.false_and, Bool.and_false, Bool.true_eq_false, Bool.false_eq_true, decide_true, decide_false, reduceCtorEq, D.isNone, Int.not_lt, Int.not_le, ne_eq, Decidable.not_not, not_true_eq_false, not_false_eq_true, false_implies, true_implies, implies_true, and_true, true_and, and_false, false_and, or_true, true_or, or_false, false_or, reduceIte, eq_self]); exact rfl))
local macro_rules | `(tactic| walk_at "fls") => `(tactic| first | (with_reducible exact False.elim) | (with_reducible refine fun (_ : True) => ?_) | skip)
local macro_rules | `(tactic| walk_at "if") => `(tactic| ((with_reducible refine' wo_ifx ?h ?e1 ?e2 ?k1 ?k2); (case h => walk_at "ev"); (case e1 => walk_at "hs"); (case e2 => walk_at "hs"); (case' k1 => walk_at "fls"); (case' k2 => walk_at "fls")))
local macro_rules | `(tactic| walk_at "tt") => `(tactic| (try simp only [beq_self_eq_true, Bool.true_beq, Bool.false_beq, decide_eq_true_eq, decide_eq_false_iff_not, Bool.not_eq_true', Bool.not_eq_false', Bool.or_eq_true, Bool.and_eq_true, Bool.or_eq_false_iff, Bool.and_eq_false_imp, Bool.not_true, Bool.not_false, Bool.false_or, Bool.or_false, Bool.true_or, Bool.or_true, Bool.true_and, Bool.and_true, Bool.false_and, Bool.and_false, Bool.true_eq_false, Bool.false_eq_true, decide_true, decide_false, reduceCtorEq, D.isNone, Int.not_lt, Int.not_le, ne_eq, Decidable.not_not, not_true_eq_false, not_false_eq_true, false_implies, true_implies, implies_true, and_true, true_and, and_false, false_and, or_true, true_or, or_false, false_or, reduceIte, eq_self]))
local macro_rules | `(tactic| walk_at "hc") => `(tactic| simp only [beq_self_eq_true, Bool.true_beq, Bool.false_beq, decide_eq_true_eq, decide_eq_false_iff_not, Bool.not_eq_true', Bool.not_eq_false', Bool.or_eq_true, Bool.and_eq_true, Bool.or_eq_false_iff, Bool.and_eq_false_imp, Bool.not_true, Bool.not_false, Bool.false_or, Bool.or_false, Bool.true_or, Bool.or_true, Bool.true_and, Bool.and_true, Bool.false_and, Bool.and_false, Bool.true_eq_false, Bool.false_eq_true, decide_true, decide_false, reduceCtorEq, D.isNone, Int.not_lt, Int.not_le, ne_eq, Decidable.not_not, not_true_eq_false, not_false_eq_true, false_implies, true_implies, implies_true, and_true, true_and, and_false, false_and, or_true, true_or, or_false, false_or, reduceIte, eq_self] at *)
local macro_rules | `(tactic| walk_at "sts") => `(tactic| (walk_at "st"; try (walk_at "st"; try (walk_at "st"; try (walk_at "st"; try (walk_at "st"; try (walk_at "st"; try (walk_at "st"; try (walk_at "st"; try (walk_at "st"; try (walk_at "st"; try (walk_at "st"; try (walk_at "st"; try (walk_at "st"; try (walk_at "st"; try (walk_at "st"; try (walk_at "st"; try (walk_at "st"; try (walk_at "st"; try (walk_at "st"; try (walk_at "st"; try (walk_at "st"; try (walk_at "st"; try (walk_at "st"; try (walk_at "st"; try (walk_at "st"; try (walk_at "st"; try (walk_at "st"; try (walk_at "st"; try (walk_at "st"; try (walk_at "st"; try (walk_at "st"; try (walk_at "st"; try (walk_at "st"; try (walk_at "st"; try (walk_at "st"; try (walk_at "st"; try (walk_at "st"; try (walk_at "st"; try (walk_at "st"; try (walk_at "st"; try (walk_at "st"))))))))))))))))))))))))))))))))))))))))))
local macro_rules | `(tactic| walk_at "op") => `(tactic| first
  | with_reducible assumption
  | with_reducible exact dIs_nn
  | with_reducible exact dIs_pt _
  | with_reducible exact dIs_D3 _ _ _
  | with_reducible exact dIsN_nn
  | with_reducible exact dIsN_pt _
  | with_reducible exact dIsN_D3 _ _ _
  | ((with_reducible refine at_czm ?_); first | with_reducible assumption | omega)
  | ((with_reducible refine at_czm1 ?_); first | with_reducible assumption | omega)
  | ((with_reducible refine at_sides ?_); first | with_reducible assumption | omega)
  | ((with_reducible refine at_normals ?_); first | with_reducible assumption | omega)
  | ((with_reducible refine at_cz ?_ ?_) <;> first | with_reducible assumption | omega)
  | with_reducible exact dLen_scr _
  | with_reducible exact dLen_tup _
  | walk_at "opx")
local macro_rules | `(tactic| walk_at "opx") => `(tactic| first
  | with_reducible exact isi_bb _
  | with_reducible exact dIs_i _
  | with_reducible exact isi_u _
  | with_reducible exact dLen_u _
  | with_reducible exact dEqN_D3t _ _
  | with_reducible exact dEqE_D3t _ _
  | ((with_reducible refine at_lstI ?_ ?_) <;> first | with_reducible assumption | omega)
  | with_reducible exact dIs_D3t _
  | with_reducible exact dIsN_D3t _
  | with_reducible exact dAt_u0 _
  | with_reducible exact dAt_u1 _
  | with_reducible exact dAt_u2 _
  | with_reducible exact dIs_nn
  | with_reducible exact dIs_pt _
  | with_reducible exact dIs_D3 _ _ _
  | with_reducible exact dIs_lst _
  | with_reducible exact dIsN_nn
  | with_reducible exact dIsN_pt _
  | with_reducible exact dIsN_D3 _ _ _
  | with_reducible exact dLen_t2 _
  | with_reducible exact dLen_t3 _ _ _
  | with_reducible assumption)
local macro_rules | `(tactic| walk_at "bdq") => `(tactic| first
  | ((with_reducible refine' bd_cz ?h ?g _); (case h => first | with_reducible assumption | exact Body.bd (by with_reducible assumption)); (case g => first | with_reducible assumption | exact Body.pos (by with_reducible assumption) | omega)))
local macro_rules | `(tactic| walk_at "shp") => `(tactic| first
  | ((with_reducible refine' shp_mapL ?h _); (case h => (intro _; walk_at "shp"))))
local macro_rules | `(tactic| walk_at "rng") => `(tactic| first
  | ((with_reducible refine rngN ?_); walk_at "num"))
local macro_rules | `(tactic| walk_at "st1") => `(tactic| first
  | (((with_reducible refine' wo_ins ?h1 ?h2 ?h3 ?h4 ?h5 ?h6 ?k); (case h1 => exact rfl); (case h2 => walk_at "ev"); (case h3 => walk_at "ev"); (case h4 => walk_at "num"); (case h5 => walk_at "num"); (case h6 => walk_at "len")); walk_at "es"))
local macro_rules | `(tactic| walk_at "ev") => `(tactic| first
  | with_reducible exact ev_home _ _ _
  | ((with_reducible refine' ev_cutS ?h1 ?h2 ?h3); (case h1 => walk_at "ev"); (case h2 => walk_at "ev"); (case h3 => walk_at "ev"))
  | ((with_reducible refine' ev_ownLenM ?h1); (case h1 => exact rfl))
  | ((with_reducible refine' ev_revm ?h1); (case h1 => walk_at "ev"))
  | ((with_reducible refine' ev_rev ?h1); (case h1 => walk_at "ev"))
  | ((with_reducible refine' ev_lc6 ?h1 ?h2 ?h3 ?h4 ?h5 ?h6 ?h7); (case h1 => walk_at "ev"); (case h2 => exact ⟨_, rfl, by walk_at "ev"⟩); (case h3 => exact ⟨_, rfl, by walk_at "ev"⟩); (case h4 => exact ⟨_, rfl, by walk_at "ev"⟩); (case h5 => exact ⟨_, rfl, by walk_at "ev"⟩); (case h6 => exact ⟨_, rfl, by walk_at "ev"⟩); (case h7 => exact ⟨_, rfl, by walk_at "ev"⟩))
  | ((with_reducible refine' ev_lc8 ?h1 ?h2 ?h3 ?h4 ?h5 ?h6 ?h7 ?h8 ?h9); (case h1 => walk_at "ev"); (case h2 => exact ⟨_, rfl, by walk_at "ev"⟩); (case h3 => exact ⟨_, rfl, by walk_at "ev"⟩); (case h4 => exact ⟨_, rfl, by walk_at "ev"⟩); (case h5 => exact ⟨_, rfl, by walk_at "ev"⟩); (case h6 => exact ⟨_, rfl, by walk_at "ev"⟩); (case h7 => exact ⟨_, rfl, by walk_at "ev"⟩); (case h8 => exact ⟨_, rfl, by walk_at "ev"⟩); (case h9 => exact ⟨_, rfl, by walk_at "ev"⟩))
  | ((with_reducible refine' ev_lc3 ?h1 ?h2 ?h3 ?h4); (case h1 => walk_at "ev"); (case h2 => exact ⟨_, rfl, by walk_at "ev"⟩); (case h3 => exact ⟨_, rfl, by walk_at "ev"⟩); (case h4 => exact ⟨_, rfl, by walk_at "ev"⟩))
  | ((with_reducible refine' ev_lcN ?h1 ?h2 ?h3 ?h4); (case h1 => walk_at "ev"); (case h2 => walk_at "rng"); (case h3 => walk_at "len"); (case h4 => (intro _ _; exact ⟨_, rfl, by walk_at "ev"⟩))))
local macro_rules | `(tactic| walk_at "okt") => `(tactic| first
  | with_reducible assumption
  | ((with_reducible refine okT.take ?_ _); walk_at "okt")
  | ((with_reducible refine okT.drop ?_ _); walk_at "okt")
  | ((with_reducible refine okT.app ?_ ?_) <;> walk_at "okt")
  | ((with_reducible refine okT_numI _))
  | decide)
local macro_rules | `(tactic| walk_at "lenT") => `(tactic| first
  | with_reducible assumption
  | omega
  | ((simp only [List.length_append, List.length_cons, List.length_nil, List.length_take, List.length_drop]) <;> omega)
  | decide)
local macro_rules | `(tactic| walk_at "op") => `(tactic| first
  | ((with_reducible refine dEq_T ?_ ?_) <;> walk_at "okt")
  | ((with_reducible refine dNe_T ?_ ?_) <;> walk_at "okt")
  | ((with_reducible refine dLen_T ?_); walk_at "lenT")
  | ((with_reducible refine dAdd_T ?_); walk_at "lenT")
  | with_reducible exact dIn_T _ _
  | with_reducible exact dOrd_T _
  | ((with_reducible refine dAt_T0 ?_ ?_); (first | with_reducible assumption | decide); walk_at "lenT")
  | ((with_reducible refine dAt_Tn ?_ ?_) <;> walk_at "lenT")
  | ((with_reducible refine dStr_T ?_); walk_at "log")
  | with_reducible exact isi_T _
  | with_reducible exact dIs_T _
  | with_reducible exact dIsN_T _
  | with_reducible exact dIs_nnT
  | with_reducible exact dIsN_nnT
  | with_reducible exact dIs_iT _
  | with_reducible exact dIsN_iT _
  | with_reducible exact dIs_D2T _ _
  | with_reducible exact dIsN_D2T _ _)
local macro_rules | `(tactic| walk_at "ev") => `(tactic| first
  | with_reducible exact ev_lit lit_e
  | with_reducible exact ev_lit lit_m
  | with_reducible exact ev_lit lit_0
  | with_reducible exact ev_lit lit_s
  | with_reducible exact ev_lit lit_f
  | ((with_reducible refine' ev_cutTo1 ?h1 ?h2); (case h1 => walk_at "ev"); (case h2 => walk_at "lenT"))
  | ((with_reducible refine' ev_cutFrom1 ?h1 ?h2); (case h1 => walk_at "ev"); (case h2 => walk_at "lenT"))
  | ((with_reducible refine' ev_cutTo ?h1 ?h2 ?h3); (case h1 => walk_at "ev"); (case h2 => walk_at "ev"); (case h3 => walk_at "lenT"))
  | ((with_reducible refine' ev_cutFrom ?h1 ?h2 ?h3); (case h1 => walk_at "ev"); (case h2 => walk_at "ev"); (case h3 => walk_at "lenT")))
local macro_rules | `(tactic| walk_at "st1") => `(tactic| first
  | ((with_reducible refine' wo_ift ?h ?e ?k); (case h => walk_at "ev"); (case e => first | decide | (simp [D.isNone]; done)))
  | ((with_reducible refine' wo_iff ?h ?e ?k); (case h => walk_at "ev"); (case e => first | decide | (simp [D.isNone]; done))))
local macro_rules | `(tactic| walk_at "log") => `(tactic| ((with_reducible refine log_bd ?_); walk_at "dis"))
theorem wo_retEr {ρ : En} {me : EM} {N : En → Prop} {T : D → Prop} {X : Str → Prop} {x : Str} (h : me ρ = .er x) (k : X x) : WO (sRet me ρ) N T X := by
  unfold sRet
  rw [h]
  exact k
theorem ev_Fer {ρ : En} {mr : AM} {F : List D → R D} {ds : List D} {x : Str} (h1 : mr ρ = .ok ds) (h2 : F ds = .er x) : eF F mr ρ = .er x := by
  unfold eF
  rw [h1, bind_ok, h2]
theorem ev_consEr {ρ : En} {ma : EM} {mr : AM} {x : Str} (h : ma ρ = .er x) : aCons ma mr ρ = .er x := by
  unfold aCons
  rw [h]
  rfl
theorem ev_tupEr {ρ : En} {mr : AM} {x : Str} (h : mr ρ = .er x) : eTup mr ρ = .er x := by
  unfold eTup
  rw [h]
  rfl
end Law
namespace Law
open PySem PySem.Spec PyProof.Rows L2 GD Hl TL
local macro_rules | `(tactic| walk_at "bd") => `(tactic| first
  | with_reducible assumption
  | with_reducible exact Bd.litO _
  | ((with_reducible refine' Bd.mul ?h ?g); (case h => walk_at "bd"); (case g => walk_at "bd"))
  | ((with_reducible refine' Bd.add ?h ?g); (case h => walk_at "bd"); (case g => walk_at "bd"))
  | ((with_reducible refine' Bd.sub ?h ?g); (case h => walk_at "bd"); (case g => walk_at "bd"))
  | ((with_reducible refine' Bd.neg ?h); (case h => walk_at "bd"))
  | ((with_reducible refine' Bd.emod ?h); (case h => walk_at "pos"))
  | ((with_reducible refine' Bd.ediv ?h); (case h => walk_at "bd"))
  | ((with_reducible refine' bd_fT ?h); (case h => walk_at "bd"))
  | ((with_reducible refine' bd_fB ?h); (case h => walk_at "bd"))
  | ((with_reducible refine' bd_sX ?h); (case h => walk_at "bd"))
  | ((with_reducible refine' bd_sY ?h); (case h => walk_at "bd"))
  | ((with_reducible refine' bd_sW ?h); (case h => walk_at "bd"))
  | ((with_reducible refine' bd_abs ?h); (case h => walk_at "bd"))
  | ((with_reducible refine' BdP.a ?h); (case h => walk_at "bdq"))
  | ((with_reducible refine' BdP.b ?h); (case h => walk_at "bdq"))
  | with_reducible exact bd_ite1
  | ((with_reducible refine' bd_ite ?h ?g); (case h => walk_at "bd"); (case g => walk_at "bd")))
local macro_rules | `(tactic| walk_at "pos") => `(tactic| first
  | with_reducible assumption
  | decide
  | omega)
local macro_rules | `(tactic| walk_at "bdq") => `(tactic| first
  | with_reducible assumption
  | ((with_reducible refine' bd_cy ?h ?g _); (case h => with_reducible assumption); (case g => first | with_reducible assumption | omega))
  | ((with_reducible refine' bd_mem ?h ?g); (case g => with_reducible assumption); (case h => with_reducible assumption))
  | ((with_reducible refine' bd_get ?h); (case h => with_reducible assumption)))
local macro_rules | `(tactic| walk_at "bdp") => `(tactic| first
  | walk_at "bdq"
  | ((with_reducible refine' BdP.mk ?h ?g); (case h => walk_at "bd"); (case g => walk_at "bd")))
local macro_rules | `(tactic| walk_at "num") => `(tactic| first
  | with_reducible assumption
  | omega
  | decide +kernel
  | (simp only [Nat.reduceLog2]; omega))
local macro_rules | `(tactic| walk_at "dis") => `(tactic| first
  | with_reducible assumption
  | ((with_reducible refine' mok ?h ?g ?l); (case h => walk_at "bd"); (case g => walk_at "bd"); (case l => walk_at "num"))
  | ((with_reducible refine' Bd.mono ?h ?l); (case h => walk_at "bd"); (case l => walk_at "num"))
  | ((with_reducible refine' BdP.mono ?h ?l); (case h => walk_at "bdp"); (case l => walk_at "num"))
  | ((with_reducible show divOk _); first | with_reducible assumption | decide +kernel | (refine' dok ?p ?h ?l; (case p => first | with_reducible assumption | omega); (case h => walk_at "bd"); (case l => walk_at "num")))
  | omega)
local macro_rules | `(tactic| walk_at "op") => `(tactic| first
  | with_reducible exact dAdd_int _ _
  | with_reducible exact dSub_int _ _
  | ((with_reducible refine dMul_int ?_); walk_at "dis")
  | with_reducible exact dAt_pp0 _ _
  | with_reducible exact dAt_pp1 _ _
  | with_reducible exact dAt_p0 _
  | with_reducible exact dAt_p1 _
  | with_reducible exact dAt_t0
  | with_reducible exact dAt_t1
  | with_reducible exact dAt_t2
  | with_reducible exact dAt_q0 _ _ _
  | with_reducible exact dAt_q1 _ _ _
  | with_reducible exact dAt_q2 _ _ _
  | with_reducible exact dAt_f0 _ _
  | with_reducible exact dAt_f1 _ _
  | with_reducible exact dLt_int _ _
  | with_reducible exact dLe_int _ _
  | with_reducible exact dGt_int _ _
  | with_reducible exact dGe_int _ _
  | with_reducible exact dEq_int _ _
  | with_reducible exact dNe_int _ _
  | ((with_reducible refine dMod_int ?_); walk_at "dis")
  | ((with_reducible refine dDiv_int ?_); walk_at "dis")
  | with_reducible exact dNeg_int _
  | with_reducible exact dIs_non _
  | with_reducible exact dIsNot_non _
  | with_reducible exact dAbs_int _
  | with_reducible exact dMax2_int _ _
  | with_reducible exact dMin2_int _ _
  | with_reducible exact dInt_bl _
  | with_reducible exact dLen_pts _
  | with_reducible exact dEq_pt _ _
  | with_reducible exact dNe_pt _ _
  | with_reducible exact dEq_pts _ _
  | with_reducible exact dNe_pts _ _
  | with_reducible exact dNe_bl _ _
  | with_reducible exact dEq_bl _ _
  | with_reducible exact dEq_D3 _ _ _ _ _ _
  | with_reducible exact dNe_D3 _ _ _ _ _ _
  | with_reducible exact dEq_np _
  | with_reducible exact dNe_np _
  | ((with_reducible refine at_last ?_); walk_at "dis")
  | with_reducible exact dAt_l0
  | with_reducible exact dAt_l1
  | with_reducible exact dAt_l2
  | with_reducible exact dAt_l3
  | with_reducible exact dAt_l4
  | with_reducible exact dAt_l5
  | with_reducible exact dAt_l6
  | with_reducible exact dAt_l7
  | ((with_reducible refine' dNe_self ?h ?l); (case h => walk_at "shp"); (case l => decide))
  | ((with_reducible refine' dEq_self ?h ?l); (case h => walk_at "shp"); (case l => decide))
  | with_reducible assumption
  | exact isi_int _ _ _ _ rfl kb_tuple_tuple
  | exact isi_int _ _ _ _ rfl kb_list_list
  | exact isi_int _ _ _ _ rfl kb_int_int
  | exact isi_int _ _ _ _ rfl kb_bool_bool
  | exact isi_int _ _ _ _ rfl kb_int_bool
  | exact isi_int _ _ _ _ rfl kb_list_tuple
  | exact isi_int _ _ _ _ rfl kb_tuple_list
  | with_reducible rfl)
local macro_rules | `(tactic| walk_at "shp") => `(tactic| first
  | with_reducible exact shp_int _
  | with_reducible exact shp_bl _
  | with_reducible exact shp_non
  | with_reducible exact shp_pt _
  | with_reducible exact shp_pts _
  | with_reducible exact shp_D2 _ _
  | with_reducible exact shp_fr _ _
  | with_reducible exact shp_D3 _ _ _
  | with_reducible exact shp_sp _ _ _
  | with_reducible exact shp_nilL
  | with_reducible exact shp_nilT
  | ((with_reducible refine' shp_consL ?h ?g); (case h => walk_at "shp"); (case g => walk_at "shp"))
  | ((with_reducible refine' shp_consT ?h ?g); (case h => walk_at "shp"); (case g => walk_at "shp"))
  | with_reducible assumption)
local macro_rules | `(tactic| walk_at "fn") => `(tactic| first
  | with_reducible assumption
  | with_reducible exact whole_int _
  | with_reducible exact divisor_eq _ _
  | with_reducible exact common_eq _ _)
local macro_rules | `(tactic| walk_at "ev") => `(tactic| first
  | with_reducible exact ev_c _
  | ((with_reducible refine' ev_var ?h1); (case h1 => exact rfl))
  | ((with_reducible refine' ev_e2 ?h1 ?h2 ?h3); (case h1 => walk_at "ev"); (case h2 => walk_at "ev"); (case h3 => walk_at "op"))
  | with_reducible exact ev_nil
  | ((with_reducible refine' ev_cons ?h1 ?h2); (case h1 => walk_at "ev"); (case h2 => walk_at "ev"))
  | ((with_reducible refine' ev_F ?h1 ?h2); (case h1 => walk_at "ev"); (case h2 => walk_at "fn"))
  | ((with_reducible refine' ev_mB ?h1); (case h1 => walk_at "ev"))
  | ((with_reducible refine' ev_B ?h1 ?h2); (case h1 => walk_at "ev"); (case h2 => walk_at "op"))
  | ((with_reducible refine' ev_tup2 ?h1 ?h2); (case h1 => walk_at "ev"); (case h2 => walk_at "ev"))
  | ((with_reducible refine' ev_tup3 ?h1 ?h2 ?h3); (case h1 => walk_at "ev"); (case h2 => walk_at "ev"); (case h3 => walk_at "ev"))
  | ((with_reducible refine' ev_tup ?h1 ?h2); (case h1 => walk_at "ev"); (case h2 => walk_at "len"))
  | ((with_reducible refine' ev_L ?h1); (case h1 => walk_at "ev"))
  | ((with_reducible refine' ev_lst ?h1 ?h2); (case h1 => walk_at "ev"); (case h2 => walk_at "len"))
  | ((with_reducible refine' ev_not ?h1); (case h1 => walk_at "ev"))
  | ((with_reducible refine' ev_and0 ?h1); (case h1 => walk_at "ev"))
  | ((with_reducible refine' ev_and ?h1 ?h2); (case h1 => walk_at "ev"); (case h2 => (intro hq; (try simp only [decide_eq_true_eq, decide_eq_false_iff_not, Bool.not_eq_true', Bool.not_eq_false'] at hq); walk_at "ev")))
  | ((with_reducible refine' ev_or1 ?h1); (case h1 => walk_at "ev"))
  | ((with_reducible refine' ev_or ?h1 ?h2); (case h1 => walk_at "ev"); (case h2 => (intro hq; (try simp only [decide_eq_true_eq, decide_eq_false_iff_not, Bool.not_eq_true', Bool.not_eq_false'] at hq); walk_at "ev")))
  | ((with_reducible refine' ev_eNot ?h1); (case h1 => walk_at "ev"))
  | ((with_reducible refine' ev_eAnd0 ?h1); (case h1 => walk_at "ev"))
  | ((with_reducible refine' ev_eAnd ?h1 ?h2); (case h1 => walk_at "ev"); (case h2 => (intro hq; (try simp only [decide_eq_true_eq, decide_eq_false_iff_not, Bool.not_eq_true', Bool.not_eq_false'] at hq); walk_at "ev")))
  | ((with_reducible refine' ev_eOr1 ?h1); (case h1 => walk_at "ev"))
  | ((with_reducible refine' ev_eOr ?h1 ?h2); (case h1 => walk_at "ev"); (case h2 => (intro hq; (try simp only [decide_eq_true_eq, decide_eq_false_iff_not, Bool.not_eq_true', Bool.not_eq_false'] at hq); walk_at "ev")))
  | ((with_reducible refine' ev_e1 ?h1 ?h2); (case h1 => walk_at "ev"); (case h2 => walk_at "op"))
  | ((with_reducible refine' ev_copy ?h1 ?h2); (case h1 => walk_at "ev"); (case h2 => exact rfl))
  | ((with_reducible refine' ev_ch ?h1 ?h2 ?h3 ?h4 ?h5); (case h1 => walk_at "ev"); (case h2 => walk_at "ev"); (case h3 => walk_at "op"); (case h4 => (intro hq; (try simp only [decide_eq_true_eq, decide_eq_false_iff_not, Bool.not_eq_true', Bool.not_eq_false'] at hq); walk_at "ev")); (case h5 => (intro _; walk_at "op")))
  | ((with_reducible refine' ev_lc ?h1 ?h2 ?h3 ?h4); (case h1 => walk_at "ev"); (case h2 => walk_at "its"); (case h3 => walk_at "len"); (case h4 => (intro _ _; exact ⟨_, rfl, by walk_at "ev"⟩)))
  | ((with_reducible refine' ev_lcR ?h1 ?h2 ?h3 ?h4); (case h1 => walk_at "ev"); (case h2 => walk_at "rng"); (case h3 => walk_at "len"); (case h4 => (intro _ _; exact ⟨_, rfl, by walk_at "ev"⟩)))
  | ((with_reducible refine' ev_cat ?h1 ?h2 ?h3); (case h1 => walk_at "ev"); (case h2 => walk_at "ev"); (case h3 => walk_at "len"))
  | ((with_reducible refine' ev_ownLen ?h1); (case h1 => exact rfl))
  | ((with_reducible refine' ev_ownAt ?h1 ?h2 ?h3); (case h1 => exact rfl); (case h2 => walk_at "ev"); (case h3 => walk_at "op"))
  | with_reducible assumption)
local macro_rules | `(tactic| walk_at "len") => `(tactic| first
  | ((simp only [List.length_map, List.length_cons, List.length_nil, List.length_append, List.length_range]) <;> walk_at "num")
  | walk_at "num")
local macro_rules | `(tactic| walk_at "its") => `(tactic| first
  | with_reducible exact its_map
  | with_reducible exact its_map2
  | exact rfl)
local macro_rules | `(tactic| walk_at "rng") => `(tactic| first
  | ((with_reducible refine rng1 ?_ ?_) <;> walk_at "num")
  | ((with_reducible refine rng2 ?_ ?_ ?_ ?_) <;> walk_at "num"))
local macro_rules | `(tactic| walk_at "es") => `(tactic| simp (config := {failIfUnchanged := false}) only [List.set_cons_zero, List.set_cons_succ])
local macro_rules | `(tactic| walk_at "start") => `(tactic| (simp only [List.map_cons, List.map_nil, List.cons_append, List.nil_append, List.length_cons, List.length_nil, Nat.reduceAdd, Nat.reduceSub, List.replicate_succ, List.replicate_zero]))
local macro_rules | `(tactic| walk_at "st1") => `(tactic| first
  | ((with_reducible refine' wo_seq ?k))
  | ((with_reducible refine' wo_ift ?h ?e ?k); (case h => walk_at "ev"); (case e => simp only [beq_self_eq_true, Bool.true_beq, Bool.false_beq, decide_eq_true_eq, decide_eq_false_iff_not, Bool.not_eq_true', Bool.not_eq_false', Bool.or_eq_true, Bool.and_eq_true, Bool.or_eq_false_iff, Bool.and_eq_false_imp, Bool.not_true, Bool.not_false, Bool.false_or, Bool.or_false, Bool.true_or, Bool.or_true, Bool.true_and, Bool.and_true, Bool.false_and, Bool.and_false, Bool.true_eq_false, Bool.false_eq_true, decide_true, decide_false, reduceCtorEq, D.isNone, Int.not_lt, Int.not_le, ne_eq, Decidable.not_not, not_true_eq_false, not_false_eq_true, false_implies, true_implies, implies_true, and_true, true_and, and_false, false_and, or_true, true_or, or_false, false_or, reduceIte, eq_self]))
  | ((with_reducible refine' wo_iff ?h ?e ?k); (case h => walk_at "ev"); (case e => simp only [beq_self_eq_true, Bool.true_beq, Bool.false_beq, decide_eq_true_eq, decide_eq_false_iff_not, Bool.not_eq_true', Bool.not_eq_false', Bool.or_eq_true, Bool.and_eq_true, Bool.or_eq_false_iff, Bool.and_eq_false_imp, Bool.not_true, Bool.not_false, Bool.false_or, Bool.or_false, Bool.true_or, Bool.or_true, Bool.true_and, Bool.and_true, Bool.false_and, Bool.and_false, Bool.true_eq_false, Bool.false_eq_true, decide_true, decide_false, reduceCtorEq, D.isNone, Int.not_lt, Int.not_le, ne_eq, Decidable.not_not, not_true_eq_false, not_false_eq_true, false_implies, true_implies, implies_true, and_true, true_and, and_false, false_and, or_true, true_or, or_false, false_or, reduceIte, eq_self]))
  | (((with_reducible refine' wo_asg ?h1 ?k); (case h1 => walk_at "ev")); walk_at "es")
  | ((with_reducible refine' wo_ret ?h1 ?k); (case h1 => walk_at "ev"))
  | (((with_reducible refine' wo_tgt ?h1 ?h2 ?k); (case h1 => walk_at "ev"); (case h2 => exact rfl)); walk_at "es")
  | ((with_reducible refine' wo_nil ?k))
  | ((with_reducible refine' wo_raise ?k))
  | (((with_reducible refine' wo_own ?h1 ?k); (case h1 => walk_at "ev")); walk_at "es")
  | (((with_reducible refine' wo_asgL ?h1 ?k); (case h1 => walk_at "ev")); walk_at "es")
  | (((with_reducible refine' wo_app ?h1 ?h2 ?h3 ?k); (case h1 => exact rfl); (case h2 => walk_at "ev"); (case h3 => walk_at "len")); walk_at "es")
  | (((with_reducible refine' wo_par ?h1 ?h2 ?k); (case h1 => walk_at "ev"); (case h2 => walk_at "ev")); walk_at "es")
  | ((with_reducible refine wo_frz ?_); simp only [frz, List.getElem?_cons_zero, List.getElem?_cons_succ, List.set_cons_zero, List.set_cons_succ]))
local macro_rules | `(tactic| walk_at "st") => `(tactic| (walk_at "st1"; try dsimp only))
local macro_rules | `(tactic| walk_at "hs") => `(tactic| ((try simp only [beq_self_eq_true, Bool.true_beq, Bool.false_beq, decide_eq_true_eq, decide_eq_false_iff_not, Bool.not_eq_true', Bool.not_eq_false', Bool.or_eq_true, Bool.and_eq_true, Bool.or_eq_false_iff, Bool.and_eq_false_imp, Bool.not_true, Bool.not_false, Bool.false_or, Bool.or_false, Bool.true_or, Bool.or_true, Bool.true_and, Bool.and_true, Bool.false_and, Bool.and_false, Bool.true_eq_false, Bool.false_eq_true, decide_true, decide_false, reduceCtorEq, D.isNone, Int.not_lt, Int.not_le, ne_eq, Decidable.not_not, not_true_eq_false, not_false_eq_true, false_implies, true_implies, implies_true, and_true, true_and, and_false, false_and, or_true, true_or, or_false, false_or, reduceIte, eq_self]); exact rfl))
local macro_rules | `(tactic| walk_at "fls") => `(tactic| first | (with_reducible exact False.elim) | (with_reducible refine fun (_ : True) => ?_) | skip)
local macro_rules | `(tactic| walk_at "if") => `(tactic| ((with_reducible refine' wo_ifx ?h ?e1 ?e2 ?k1 ?k2); (case h => walk_at "ev"); (case e1 => walk_at "hs"); (case e2 => walk_at "hs"); (case' k1 => walk_at "fls"); (case' k2 => walk_at "fls")))
local macro_rules | `(tactic| walk_at "tt") => `(tactic| (try simp only [beq_self_eq_true, Bool.true_beq, Bool.false_beq, decide_eq_true_eq, decide_eq_false_iff_not, Bool.not_eq_true', Bool.not_eq_false', Bool.or_eq_true, Bool.and_eq_true, Bool.or_eq_false_iff, Bool.and_eq_false_imp, Bool.not_true, Bool.not_false, Bool.false_or, Bool.or_false, Bool.true_or, Bool.or_true, Bool.true_and, Bool.and_true, Bool.false_and, Bool.and_false, Bool.true_eq_false, Bool.false_eq_true, decide_true, decide_false, reduceCtorEq, D.isNone, Int.not_lt, Int.not_le, ne_eq, Decidable.not_not, not_true_eq_false, not_false_eq_true, false_implies, true_implies, implies_true, and_true, true_and, and_false, false_and, or_true, true_or, or_false, false_or, reduceIte, eq_self]))
local macro_rules | `(tactic| walk_at "hc") => `(tactic| simp only [beq_self_eq_true, Bool.true_beq, Bool.false_beq, decide_eq_true_eq, decide_eq_false_iff_not, Bool.not_eq_true', Bool.not_eq_false', Bool.or_eq_true, Bool.and_eq_true, Bool.or_eq_false_iff, Bool.and_eq_false_imp, Bool.not_true, Bool.not_false, Bool.false_or, Bool.or_false, Bool.true_or, Bool.or_true, Bool.true_and, Bool.and_true, Bool.false_and, Bool.and_false, Bool.true_eq_false, Bool.false_eq_true, decide_true, decide_false, reduceCtorEq, D.isNone, Int.not_lt, Int.not_le, ne_eq, Decidable.not_not, not_true_eq_false, not_false_eq_true, false_implies, true_implies, implies_true, and_true, true_and, and_false, false_and, or_true, true_or, or_false, false_or, reduceIte, eq_self] at *)
local macro_rules | `(tactic| walk_at "sts") => `(tactic| (walk_at "st"; try (walk_at "st"; try (walk_at "st"; try (walk_at "st"; try (walk_at "st"; try (walk_at "st"; try (walk_at "st"; try (walk_at "st"; try (walk_at "st"; try (walk_at "st"; try (walk_at "st"; try (walk_at "st"; try (walk_at "st"; try (walk_at "st"; try (walk_at "st"; try (walk_at "st"; try (walk_at "st"; try (walk_at "st"; try (walk_at "st"; try (walk_at "st"; try (walk_at "st"; try (walk_at "st"; try (walk_at "st"; try (walk_at "st"; try (walk_at "st"; try (walk_at "st"; try (walk_at "st"; try (walk_at "st"; try (walk_at "st"; try (walk_at "st"; try (walk_at "st"; try (walk_at "st"; try (walk_at "st"; try (walk_at "st"; try (walk_at "st"; try (walk_at "st"; try (walk_at "st"; try (walk_at "st"; try (walk_at "st"; try (walk_at "st"; try (walk_at "st"))))))))))))))))))))))))))))))))))))))))))
local macro_rules | `(tactic| walk_at "op") => `(tactic| first
  | with_reducible assumption
  | with_reducible exact dIs_nn
  | with_reducible exact dIs_pt _
  | with_reducible exact dIs_D3 _ _ _
  | with_reducible exact dIsN_nn
  | with_reducible exact dIsN_pt _
  | with_reducible exact dIsN_D3 _ _ _
  | ((with_reducible refine at_czm ?_); first | with_reducible assumption | omega)
  | ((with_reducible refine at_czm1 ?_); first | with_reducible assumption | omega)
  | ((with_reducible refine at_sides ?_); first | with_reducible assumption | omega)
  | ((with_reducible refine at_normals ?_); first | with_reducible assumption | omega)
  | ((with_reducible refine at_cz ?_ ?_) <;> first | with_reducible assumption | omega)
  | with_reducible exact dLen_scr _
  | with_reducible exact dLen_tup _
  | walk_at "opx")
local macro_rules | `(tactic| walk_at "opx") => `(tactic| first
  | with_reducible exact isi_bb _
  | with_reducible exact dIs_i _
  | with_reducible exact isi_u _
  | with_reducible exact dLen_u _
  | with_reducible exact dEqN_D3t _ _
  | with_reducible exact dEqE_D3t _ _
  | ((with_reducible refine at_lstI ?_ ?_) <;> first | with_reducible assumption | omega)
  | with_reducible exact dIs_D3t _
  | with_reducible exact dIsN_D3t _
  | with_reducible exact dAt_u0 _
  | with_reducible exact dAt_u1 _
  | with_reducible exact dAt_u2 _
  | with_reducible exact dIs_nn
  | with_reducible exact dIs_pt _
  | with_reducible exact dIs_D3 _ _ _
  | with_reducible exact dIs_lst _
  | with_reducible exact dIsN_nn
  | with_reducible exact dIsN_pt _
  | with_reducible exact dIsN_D3 _ _ _
  | with_reducible exact dLen_t2 _
  | with_reducible exact dLen_t3 _ _ _
  | with_reducible assumption)
local macro_rules | `(tactic| walk_at "bdq") => `(tactic| first
  | ((with_reducible refine' bd_cz ?h ?g _); (case h => first | with_reducible assumption | exact Body.bd (by with_reducible assumption)); (case g => first | with_reducible assumption | exact Body.pos (by with_reducible assumption) | omega)))
local macro_rules | `(tactic| walk_at "shp") => `(tactic| first
  | ((with_reducible refine' shp_mapL ?h _); (case h => (intro _; walk_at "shp"))))
local macro_rules | `(tactic| walk_at "rng") => `(tactic| first
  | ((with_reducible refine rngN ?_); walk_at "num"))
local macro_rules | `(tactic| walk_at "st1") => `(tactic| first
  | (((with_reducible refine' wo_ins ?h1 ?h2 ?h3 ?h4 ?h5 ?h6 ?k); (case h1 => exact rfl); (case h2 => walk_at "ev"); (case h3 => walk_at "ev"); (case h4 => walk_at "num"); (case h5 => walk_at "num"); (case h6 => walk_at "len")); walk_at "es"))
local macro_rules | `(tactic| walk_at "ev") => `(tactic| first
  | with_reducible exact ev_home _ _ _
  | ((with_reducible refine' ev_cutS ?h1 ?h2 ?h3); (case h1 => walk_at "ev"); (case h2 => walk_at "ev"); (case h3 => walk_at "ev"))
  | ((with_reducible refine' ev_ownLenM ?h1); (case h1 => exact rfl))
  | ((with_reducible refine' ev_revm ?h1); (case h1 => walk_at "ev"))
  | ((with_reducible refine' ev_rev ?h1); (case h1 => walk_at "ev"))
  | ((with_reducible refine' ev_lc6 ?h1 ?h2 ?h3 ?h4 ?h5 ?h6 ?h7); (case h1 => walk_at "ev"); (case h2 => exact ⟨_, rfl, by walk_at "ev"⟩); (case h3 => exact ⟨_, rfl, by walk_at "ev"⟩); (case h4 => exact ⟨_, rfl, by walk_at "ev"⟩); (case h5 => exact ⟨_, rfl, by walk_at "ev"⟩); (case h6 => exact ⟨_, rfl, by walk_at "ev"⟩); (case h7 => exact ⟨_, rfl, by walk_at "ev"⟩))
  | ((with_reducible refine' ev_lc8 ?h1 ?h2 ?h3 ?h4 ?h5 ?h6 ?h7 ?h8 ?h9); (case h1 => walk_at "ev"); (case h2 => exact ⟨_, rfl, by walk_at "ev"⟩); (case h3 => exact ⟨_, rfl, by walk_at "ev"⟩); (case h4 => exact ⟨_, rfl, by walk_at "ev"⟩); (case h5 => exact ⟨_, rfl, by walk_at "ev"⟩); (case h6 => exact ⟨_, rfl, by walk_at "ev"⟩); (case h7 => exact ⟨_, rfl, by walk_at "ev"⟩); (case h8 => exact ⟨_, rfl, by walk_at "ev"⟩); (case h9 => exact ⟨_, rfl, by walk_at "ev"⟩))
  | ((with_reducible refine' ev_lc3 ?h1 ?h2 ?h3 ?h4); (case h1 => walk_at "ev"); (case h2 => exact ⟨_, rfl, by walk_at "ev"⟩); (case h3 => exact ⟨_, rfl, by walk_at "ev"⟩); (case h4 => exact ⟨_, rfl, by walk_at "ev"⟩))
  | ((with_reducible refine' ev_lcN ?h1 ?h2 ?h3 ?h4); (case h1 => walk_at "ev"); (case h2 => walk_at "rng"); (case h3 => walk_at "len"); (case h4 => (intro _ _; exact ⟨_, rfl, by walk_at "ev"⟩))))
local macro_rules | `(tactic| walk_at "okt") => `(tactic| first
  | with_reducible assumption
  | ((with_reducible refine okT.take ?_ _); walk_at "okt")
  | ((with_reducible refine okT.drop ?_ _); walk_at "okt")
  | ((with_reducible refine okT.app ?_ ?_) <;> walk_at "okt")
  | ((with_reducible refine okT_numI _))
  | decide)
local macro_rules | `(tactic| walk_at "lenT") => `(tactic| first
  | with_reducible assumption
  | omega
  | ((simp only [List.length_append, List.length_cons, List.length_nil, List.length_take, List.length_drop]) <;> omega)
  | decide)
local macro_rules | `(tactic| walk_at "op") => `(tactic| first
  | ((with_reducible refine dEq_T ?_ ?_) <;> walk_at "okt")
  | ((with_reducible refine dNe_T ?_ ?_) <;> walk_at "okt")
  | ((with_reducible refine dLen_T ?_); walk_at "lenT")
  | ((with_reducible refine dAdd_T ?_); walk_at "lenT")
  | with_reducible exact dIn_T _ _
  | with_reducible exact dOrd_T _
  | ((with_reducible refine dAt_T0 ?_ ?_); (first | with_reducible assumption | decide); walk_at "lenT")
  | ((with_reducible refine dAt_Tn ?_ ?_) <;> walk_at "lenT")
  | ((with_reducible refine dStr_T ?_); walk_at "log")
  | with_reducible exact isi_T _
  | with_reducible exact dIs_T _
  | with_reducible exact dIsN_T _
  | with_reducible exact dIs_nnT
  | with_reducible exact dIsN_nnT
  | with_reducible exact dIs_iT _
  | with_reducible exact dIsN_iT _
  | with_reducible exact dIs_D2T _ _
  | with_reducible exact dIsN_D2T _ _)
local macro_rules | `(tactic| walk_at "ev") => `(tactic| first
  | with_reducible exact ev_lit lit_e
  | with_reducible exact ev_lit lit_m
  | with_reducible exact ev_lit lit_0
  | with_reducible exact ev_lit lit_s
  | with_reducible exact ev_lit lit_f
  | ((with_reducible refine' ev_cutTo1 ?h1 ?h2); (case h1 => walk_at "ev"); (case h2 => walk_at "lenT"))
  | ((with_reducible refine' ev_cutFrom1 ?h1 ?h2); (case h1 => walk_at "ev"); (case h2 => walk_at "lenT"))
  | ((with_reducible refine' ev_cutTo ?h1 ?h2 ?h3); (case h1 => walk_at "ev"); (case h2 => walk_at "ev"); (case h3 => walk_at "lenT"))
  | ((with_reducible refine' ev_cutFrom ?h1 ?h2 ?h3); (case h1 => walk_at "ev"); (case h2 => walk_at "ev"); (case h3 => walk_at "lenT")))
local macro_rules | `(tactic| walk_at "st1") => `(tactic| first
  | ((with_reducible refine' wo_ift ?h ?e ?k); (case h => walk_at "ev"); (case e => first | decide | (simp [D.isNone]; done)))
  | ((with_reducible refine' wo_iff ?h ?e ?k); (case h => walk_at "ev"); (case e => first | decide | (simp [D.isNone]; done))))
local macro_rules | `(tactic| walk_at "log") => `(tactic| ((with_reducible refine log_bd ?_); walk_at "dis"))
section
variable {N : En → Prop} {T : D → Prop} {X : Str → Prop} {ρ ρ1 : En} {body : SM} {ct : Str → Bool} {i j : Nat}
theorem wo_tryE {x : Str} (h : body ρ = .er x ρ1) (h1 : ct x = true) (h2 : i < ρ1.length) (k : N (((ρ1.set i (.v (.exc x))).set j (.v (.exc x))).set i .un)) : WO (sTry ct i j body ρ) N T X := by
  unfold sTry
  rw [h]
  show WO (if ct x = true ∧ i < ρ1.length then .nx (((ρ1.set i (.v (.exc x))).set j (.v (.exc x))).set i .un) else .st) N T X
  rw [if_pos ⟨h1, h2⟩]
  exact k
theorem wo_tryN (h : body ρ = .nx ρ1) (k : N ρ1) : WO (sTry ct i j body ρ) N T X := by
  unfold sTry
  rw [h]
  exact k
theorem asg_ok {m : EM} {d : D} {k : Nat} (h : m ρ = .ok d) : sAsg k m ρ = .nx (ρ.set k (.v d)) := by unfold sAsg; rw [h]; rfl
theorem asg_er {m : EM} {x : Str} {k : Nat} (h : m ρ = .er x) : sAsg k m ρ = .er x ρ := by unfold sAsg; rw [h]; rfl
end
theorem shp_lit {x : Str} (h : (PyData.str x).canLay0 = true) : Shp 0 (.str x) := ⟨h, Nat.le_refl 0⟩
theorem shp_text : Shp 0 (.str "text") := shp_lit (by decide +kernel)
theorem shp_told : Shp 0 (.str "told") := shp_lit (by decide +kernel)
theorem kind_text : F__law_kind [.exc "NoText"] = .ok (.str "text") := by
  have k1 : dIsX xLy14 xLc14 xLt14 [.exc "NoText", .ty "ValueError"] = some (.bl true) := by rfl
  have k2 : dIsX xLy14 xLc14 xLt14 [.exc "NoText", .cls "NoText"] = some (.bl true) := by rfl
  have k3 : dIsX xLy14 xLc14 xLt14 [.exc "NoText", .tup [.cls "NoNumber", .cls "Flat", .cls "Crowded", .cls "NoName", .cls "Twice", .cls "Past", .cls "NoRow"]] = some (.bl false) := by rfl
  unfold F__law_kind b__law_kind
  refine fn_ok ?_
  walk_at "start"
  walk_at "sts"
def wordD : Option D → D
  | none => .str "text"
  | some d => .lst [.str "told", d]
end Law
namespace Law
open PySem PySem.Spec PyProof.Rows L2 GD Hl TL
local macro_rules | `(tactic| walk_at "bd") => `(tactic| first
  | with_reducible assumption
  | with_reducible exact Bd.litO _
  | ((with_reducible refine' Bd.mul ?h ?g); (case h => walk_at "bd"); (case g => walk_at "bd"))
  | ((with_reducible refine' Bd.add ?h ?g); (case h => walk_at "bd"); (case g => walk_at "bd"))
  | ((with_reducible refine' Bd.sub ?h ?g); (case h => walk_at "bd"); (case g => walk_at "bd"))
  | ((with_reducible refine' Bd.neg ?h); (case h => walk_at "bd"))
  | ((with_reducible refine' Bd.emod ?h); (case h => walk_at "pos"))
  | ((with_reducible refine' Bd.ediv ?h); (case h => walk_at "bd"))
  | ((with_reducible refine' bd_fT ?h); (case h => walk_at "bd"))
  | ((with_reducible refine' bd_fB ?h); (case h => walk_at "bd"))
  | ((with_reducible refine' bd_sX ?h); (case h => walk_at "bd"))
  | ((with_reducible refine' bd_sY ?h); (case h => walk_at "bd"))
  | ((with_reducible refine' bd_sW ?h); (case h => walk_at "bd"))
  | ((with_reducible refine' bd_abs ?h); (case h => walk_at "bd"))
  | ((with_reducible refine' BdP.a ?h); (case h => walk_at "bdq"))
  | ((with_reducible refine' BdP.b ?h); (case h => walk_at "bdq"))
  | with_reducible exact bd_ite1
  | ((with_reducible refine' bd_ite ?h ?g); (case h => walk_at "bd"); (case g => walk_at "bd")))
local macro_rules | `(tactic| walk_at "pos") => `(tactic| first
  | with_reducible assumption
  | decide
  | omega)
local macro_rules | `(tactic| walk_at "bdq") => `(tactic| first
  | with_reducible assumption
  | ((with_reducible refine' bd_cy ?h ?g _); (case h => with_reducible assumption); (case g => first | with_reducible assumption | omega))
  | ((with_reducible refine' bd_mem ?h ?g); (case g => with_reducible assumption); (case h => with_reducible assumption))
  | ((with_reducible refine' bd_get ?h); (case h => with_reducible assumption)))
local macro_rules | `(tactic| walk_at "bdp") => `(tactic| first
  | walk_at "bdq"
  | ((with_reducible refine' BdP.mk ?h ?g); (case h => walk_at "bd"); (case g => walk_at "bd")))
local macro_rules | `(tactic| walk_at "num") => `(tactic| first
  | with_reducible assumption
  | omega
  | decide +kernel
  | (simp only [Nat.reduceLog2]; omega))
local macro_rules | `(tactic| walk_at "dis") => `(tactic| first
  | with_reducible assumption
  | ((with_reducible refine' mok ?h ?g ?l); (case h => walk_at "bd"); (case g => walk_at "bd"); (case l => walk_at "num"))
  | ((with_reducible refine' Bd.mono ?h ?l); (case h => walk_at "bd"); (case l => walk_at "num"))
  | ((with_reducible refine' BdP.mono ?h ?l); (case h => walk_at "bdp"); (case l => walk_at "num"))
  | ((with_reducible show divOk _); first | with_reducible assumption | decide +kernel | (refine' dok ?p ?h ?l; (case p => first | with_reducible assumption | omega); (case h => walk_at "bd"); (case l => walk_at "num")))
  | omega)
local macro_rules | `(tactic| walk_at "op") => `(tactic| first
  | with_reducible exact dAdd_int _ _
  | with_reducible exact dSub_int _ _
  | ((with_reducible refine dMul_int ?_); walk_at "dis")
  | with_reducible exact dAt_pp0 _ _
  | with_reducible exact dAt_pp1 _ _
  | with_reducible exact dAt_p0 _
  | with_reducible exact dAt_p1 _
  | with_reducible exact dAt_t0
  | with_reducible exact dAt_t1
  | with_reducible exact dAt_t2
  | with_reducible exact dAt_q0 _ _ _
  | with_reducible exact dAt_q1 _ _ _
  | with_reducible exact dAt_q2 _ _ _
  | with_reducible exact dAt_f0 _ _
  | with_reducible exact dAt_f1 _ _
  | with_reducible exact dLt_int _ _
  | with_reducible exact dLe_int _ _
  | with_reducible exact dGt_int _ _
  | with_reducible exact dGe_int _ _
  | with_reducible exact dEq_int _ _
  | with_reducible exact dNe_int _ _
  | ((with_reducible refine dMod_int ?_); walk_at "dis")
  | ((with_reducible refine dDiv_int ?_); walk_at "dis")
  | with_reducible exact dNeg_int _
  | with_reducible exact dIs_non _
  | with_reducible exact dIsNot_non _
  | with_reducible exact dAbs_int _
  | with_reducible exact dMax2_int _ _
  | with_reducible exact dMin2_int _ _
  | with_reducible exact dInt_bl _
  | with_reducible exact dLen_pts _
  | with_reducible exact dEq_pt _ _
  | with_reducible exact dNe_pt _ _
  | with_reducible exact dEq_pts _ _
  | with_reducible exact dNe_pts _ _
  | with_reducible exact dNe_bl _ _
  | with_reducible exact dEq_bl _ _
  | with_reducible exact dEq_D3 _ _ _ _ _ _
  | with_reducible exact dNe_D3 _ _ _ _ _ _
  | with_reducible exact dEq_np _
  | with_reducible exact dNe_np _
  | ((with_reducible refine at_last ?_); walk_at "dis")
  | with_reducible exact dAt_l0
  | with_reducible exact dAt_l1
  | with_reducible exact dAt_l2
  | with_reducible exact dAt_l3
  | with_reducible exact dAt_l4
  | with_reducible exact dAt_l5
  | with_reducible exact dAt_l6
  | with_reducible exact dAt_l7
  | ((with_reducible refine' dNe_self ?h ?l); (case h => walk_at "shp"); (case l => decide))
  | ((with_reducible refine' dEq_self ?h ?l); (case h => walk_at "shp"); (case l => decide))
  | with_reducible assumption
  | exact isi_int _ _ _ _ rfl kb_tuple_tuple
  | exact isi_int _ _ _ _ rfl kb_list_list
  | exact isi_int _ _ _ _ rfl kb_int_int
  | exact isi_int _ _ _ _ rfl kb_bool_bool
  | exact isi_int _ _ _ _ rfl kb_int_bool
  | exact isi_int _ _ _ _ rfl kb_list_tuple
  | exact isi_int _ _ _ _ rfl kb_tuple_list
  | with_reducible rfl)
local macro_rules | `(tactic| walk_at "shp") => `(tactic| first
  | with_reducible exact shp_int _
  | with_reducible exact shp_bl _
  | with_reducible exact shp_non
  | with_reducible exact shp_pt _
  | with_reducible exact shp_pts _
  | with_reducible exact shp_D2 _ _
  | with_reducible exact shp_fr _ _
  | with_reducible exact shp_D3 _ _ _
  | with_reducible exact shp_sp _ _ _
  | with_reducible exact shp_nilL
  | with_reducible exact shp_nilT
  | ((with_reducible refine' shp_consL ?h ?g); (case h => walk_at "shp"); (case g => walk_at "shp"))
  | ((with_reducible refine' shp_consT ?h ?g); (case h => walk_at "shp"); (case g => walk_at "shp"))
  | with_reducible assumption)
local macro_rules | `(tactic| walk_at "fn") => `(tactic| first
  | with_reducible assumption
  | with_reducible exact whole_int _
  | with_reducible exact divisor_eq _ _
  | with_reducible exact common_eq _ _)
local macro_rules | `(tactic| walk_at "ev") => `(tactic| first
  | with_reducible exact ev_c _
  | ((with_reducible refine' ev_var ?h1); (case h1 => exact rfl))
  | ((with_reducible refine' ev_e2 ?h1 ?h2 ?h3); (case h1 => walk_at "ev"); (case h2 => walk_at "ev"); (case h3 => walk_at "op"))
  | with_reducible exact ev_nil
  | ((with_reducible refine' ev_cons ?h1 ?h2); (case h1 => walk_at "ev"); (case h2 => walk_at "ev"))
  | ((with_reducible refine' ev_F ?h1 ?h2); (case h1 => walk_at "ev"); (case h2 => walk_at "fn"))
  | ((with_reducible refine' ev_mB ?h1); (case h1 => walk_at "ev"))
  | ((with_reducible refine' ev_B ?h1 ?h2); (case h1 => walk_at "ev"); (case h2 => walk_at "op"))
  | ((with_reducible refine' ev_tup2 ?h1 ?h2); (case h1 => walk_at "ev"); (case h2 => walk_at "ev"))
  | ((with_reducible refine' ev_tup3 ?h1 ?h2 ?h3); (case h1 => walk_at "ev"); (case h2 => walk_at "ev"); (case h3 => walk_at "ev"))
  | ((with_reducible refine' ev_tup ?h1 ?h2); (case h1 => walk_at "ev"); (case h2 => walk_at "len"))
  | ((with_reducible refine' ev_L ?h1); (case h1 => walk_at "ev"))
  | ((with_reducible refine' ev_lst ?h1 ?h2); (case h1 => walk_at "ev"); (case h2 => walk_at "len"))
  | ((with_reducible refine' ev_not ?h1); (case h1 => walk_at "ev"))
  | ((with_reducible refine' ev_and0 ?h1); (case h1 => walk_at "ev"))
  | ((with_reducible refine' ev_and ?h1 ?h2); (case h1 => walk_at "ev"); (case h2 => (intro hq; (try simp only [decide_eq_true_eq, decide_eq_false_iff_not, Bool.not_eq_true', Bool.not_eq_false'] at hq); walk_at "ev")))
  | ((with_reducible refine' ev_or1 ?h1); (case h1 => walk_at "ev"))
  | ((with_reducible refine' ev_or ?h1 ?h2); (case h1 => walk_at "ev"); (case h2 => (intro hq; (try simp only [decide_eq_true_eq, decide_eq_false_iff_not, Bool.not_eq_true', Bool.not_eq_false'] at hq); walk_at "ev")))
  | ((with_reducible refine' ev_eNot ?h1); (case h1 => walk_at "ev"))
  | ((with_reducible refine' ev_eAnd0 ?h1); (case h1 => walk_at "ev"))
  | ((with_reducible refine' ev_eAnd ?h1 ?h2); (case h1 => walk_at "ev"); (case h2 => (intro hq; (try simp only [decide_eq_true_eq, decide_eq_false_iff_not, Bool.not_eq_true', Bool.not_eq_false'] at hq); walk_at "ev")))
  | ((with_reducible refine' ev_eOr1 ?h1); (case h1 => walk_at "ev"))
  | ((with_reducible refine' ev_eOr ?h1 ?h2); (case h1 => walk_at "ev"); (case h2 => (intro hq; (try simp only [decide_eq_true_eq, decide_eq_false_iff_not, Bool.not_eq_true', Bool.not_eq_false'] at hq); walk_at "ev")))
  | ((with_reducible refine' ev_e1 ?h1 ?h2); (case h1 => walk_at "ev"); (case h2 => walk_at "op"))
  | ((with_reducible refine' ev_copy ?h1 ?h2); (case h1 => walk_at "ev"); (case h2 => exact rfl))
  | ((with_reducible refine' ev_ch ?h1 ?h2 ?h3 ?h4 ?h5); (case h1 => walk_at "ev"); (case h2 => walk_at "ev"); (case h3 => walk_at "op"); (case h4 => (intro hq; (try simp only [decide_eq_true_eq, decide_eq_false_iff_not, Bool.not_eq_true', Bool.not_eq_false'] at hq); walk_at "ev")); (case h5 => (intro _; walk_at "op")))
  | ((with_reducible refine' ev_lc ?h1 ?h2 ?h3 ?h4); (case h1 => walk_at "ev"); (case h2 => walk_at "its"); (case h3 => walk_at "len"); (case h4 => (intro _ _; exact ⟨_, rfl, by walk_at "ev"⟩)))
  | ((with_reducible refine' ev_lcR ?h1 ?h2 ?h3 ?h4); (case h1 => walk_at "ev"); (case h2 => walk_at "rng"); (case h3 => walk_at "len"); (case h4 => (intro _ _; exact ⟨_, rfl, by walk_at "ev"⟩)))
  | ((with_reducible refine' ev_cat ?h1 ?h2 ?h3); (case h1 => walk_at "ev"); (case h2 => walk_at "ev"); (case h3 => walk_at "len"))
  | ((with_reducible refine' ev_ownLen ?h1); (case h1 => exact rfl))
  | ((with_reducible refine' ev_ownAt ?h1 ?h2 ?h3); (case h1 => exact rfl); (case h2 => walk_at "ev"); (case h3 => walk_at "op"))
  | with_reducible assumption)
local macro_rules | `(tactic| walk_at "len") => `(tactic| first
  | ((simp only [List.length_map, List.length_cons, List.length_nil, List.length_append, List.length_range]) <;> walk_at "num")
  | walk_at "num")
local macro_rules | `(tactic| walk_at "its") => `(tactic| first
  | with_reducible exact its_map
  | with_reducible exact its_map2
  | exact rfl)
local macro_rules | `(tactic| walk_at "rng") => `(tactic| first
  | ((with_reducible refine rng1 ?_ ?_) <;> walk_at "num")
  | ((with_reducible refine rng2 ?_ ?_ ?_ ?_) <;> walk_at "num"))
local macro_rules | `(tactic| walk_at "es") => `(tactic| simp (config := {failIfUnchanged := false}) only [List.set_cons_zero, List.set_cons_succ])
local macro_rules | `(tactic| walk_at "start") => `(tactic| (simp only [List.map_cons, List.map_nil, List.cons_append, List.nil_append, List.length_cons, List.length_nil, Nat.reduceAdd, Nat.reduceSub, List.replicate_succ, List.replicate_zero]))
local macro_rules | `(tactic| walk_at "st1") => `(tactic| first
  | ((with_reducible refine' wo_seq ?k))
  | ((with_reducible refine' wo_ift ?h ?e ?k); (case h => walk_at "ev"); (case e => simp only [beq_self_eq_true, Bool.true_beq, Bool.false_beq, decide_eq_true_eq, decide_eq_false_iff_not, Bool.not_eq_true', Bool.not_eq_false', Bool.or_eq_true, Bool.and_eq_true, Bool.or_eq_false_iff, Bool.and_eq_false_imp, Bool.not_true, Bool.not_false, Bool.false_or, Bool.or_false, Bool.true_or, Bool.or_true, Bool.true_and, Bool.and_true, Bool.false_and, Bool.and_false, Bool.true_eq_false, Bool.false_eq_true, decide_true, decide_false, reduceCtorEq, D.isNone, Int.not_lt, Int.not_le, ne_eq, Decidable.not_not, not_true_eq_false, not_false_eq_true, false_implies, true_implies, implies_true, and_true, true_and, and_false, false_and, or_true, true_or, or_false, false_or, reduceIte, eq_self]))
  | ((with_reducible refine' wo_iff ?h ?e ?k); (case h => walk_at "ev"); (case e => simp only [beq_self_eq_true, Bool.true_beq, Bool.false_beq, decide_eq_true_eq, decide_eq_false_iff_not, Bool.not_eq_true', Bool.not_eq_false', Bool.or_eq_true, Bool.and_eq_true, Bool.or_eq_false_iff, Bool.and_eq_false_imp, Bool.not_true, Bool.not_false, Bool.false_or, Bool.or_false, Bool.true_or, Bool.or_true, Bool.true_and, Bool.and_true, Bool.false_and, Bool.and_false, Bool.true_eq_false, Bool.false_eq_true, decide_true, decide_false, reduceCtorEq, D.isNone, Int.not_lt, Int.not_le, ne_eq, Decidable.not_not, not_true_eq_false, not_false_eq_true, false_implies, true_implies, implies_true, and_true, true_and, and_false, false_and, or_true, true_or, or_false, false_or, reduceIte, eq_self]))
  | (((with_reducible refine' wo_asg ?h1 ?k); (case h1 => walk_at "ev")); walk_at "es")
  | ((with_reducible refine' wo_ret ?h1 ?k); (case h1 => walk_at "ev"))
  | (((with_reducible refine' wo_tgt ?h1 ?h2 ?k); (case h1 => walk_at "ev"); (case h2 => exact rfl)); walk_at "es")
  | ((with_reducible refine' wo_nil ?k))
  | ((with_reducible refine' wo_raise ?k))
  | (((with_reducible refine' wo_own ?h1 ?k); (case h1 => walk_at "ev")); walk_at "es")
  | (((with_reducible refine' wo_asgL ?h1 ?k); (case h1 => walk_at "ev")); walk_at "es")
  | (((with_reducible refine' wo_app ?h1 ?h2 ?h3 ?k); (case h1 => exact rfl); (case h2 => walk_at "ev"); (case h3 => walk_at "len")); walk_at "es")
  | (((with_reducible refine' wo_par ?h1 ?h2 ?k); (case h1 => walk_at "ev"); (case h2 => walk_at "ev")); walk_at "es")
  | ((with_reducible refine wo_frz ?_); simp only [frz, List.getElem?_cons_zero, List.getElem?_cons_succ, List.set_cons_zero, List.set_cons_succ]))
local macro_rules | `(tactic| walk_at "st") => `(tactic| (walk_at "st1"; try dsimp only))
local macro_rules | `(tactic| walk_at "hs") => `(tactic| ((try simp only [beq_self_eq_true, Bool.true_beq, Bool.false_beq, decide_eq_true_eq, decide_eq_false_iff_not, Bool.not_eq_true', Bool.not_eq_false', Bool.or_eq_true, Bool.and_eq_true, Bool.or_eq_false_iff, Bool.and_eq_false_imp, Bool.not_true, Bool.not_false, Bool.false_or, Bool.or_false, Bool.true_or, Bool.or_true, Bool.true_and, Bool.and_true, Bool.false_and, Bool.and_false, Bool.true_eq_false, Bool.false_eq_true, decide_true, decide_false, reduceCtorEq, D.isNone, Int.not_lt, Int.not_le, ne_eq, Decidable.not_not, not_true_eq_false, not_false_eq_true, false_implies, true_implies, implies_true, and_true, true_and, and_false, false_and, or_true, true_or, or_false, false_or, reduceIte, eq_self]); exact rfl))
local macro_rules | `(tactic| walk_at "fls") => `(tactic| first | (with_reducible exact False.elim) | (with_reducible refine fun (_ : True) => ?_) | skip)
local macro_rules | `(tactic| walk_at "if") => `(tactic| ((with_reducible refine' wo_ifx ?h ?e1 ?e2 ?k1 ?k2); (case h => walk_at "ev"); (case e1 => walk_at "hs"); (case e2 => walk_at "hs"); (case' k1 => walk_at "fls"); (case' k2 => walk_at "fls")))
local macro_rules | `(tactic| walk_at "tt") => `(tactic| (try simp only [beq_self_eq_true, Bool.true_beq, Bool.false_beq, decide_eq_true_eq, decide_eq_false_iff_not, Bool.not_eq_true', Bool.not_eq_false', Bool.or_eq_true, Bool.and_eq_true, Bool.or_eq_false_iff, Bool.and_eq_false_imp, Bool.not_true, Bool.not_false, Bool.false_or, Bool.or_false, Bool.true_or, Bool.or_true, Bool.true_and, Bool.and_true, Bool.false_and, Bool.and_false, Bool.true_eq_false, Bool.false_eq_true, decide_true, decide_false, reduceCtorEq, D.isNone, Int.not_lt, Int.not_le, ne_eq, Decidable.not_not, not_true_eq_false, not_false_eq_true, false_implies, true_implies, implies_true, and_true, true_and, and_false, false_and, or_true, true_or, or_false, false_or, reduceIte, eq_self]))
local macro_rules | `(tactic| walk_at "hc") => `(tactic| simp only [beq_self_eq_true, Bool.true_beq, Bool.false_beq, decide_eq_true_eq, decide_eq_false_iff_not, Bool.not_eq_true', Bool.not_eq_false', Bool.or_eq_true, Bool.and_eq_true, Bool.or_eq_false_iff, Bool.and_eq_false_imp, Bool.not_true, Bool.not_false, Bool.false_or, Bool.or_false, Bool.true_or, Bool.or_true, Bool.true_and, Bool.and_true, Bool.false_and, Bool.and_false, Bool.true_eq_false, Bool.false_eq_true, decide_true, decide_false, reduceCtorEq, D.isNone, Int.not_lt, Int.not_le, ne_eq, Decidable.not_not, not_true_eq_false, not_false_eq_true, false_implies, true_implies, implies_true, and_true, true_and, and_false, false_and, or_true, true_or, or_false, false_or, reduceIte, eq_self] at *)
local macro_rules | `(tactic| walk_at "sts") => `(tactic| (walk_at "st"; try (walk_at "st"; try (walk_at "st"; try (walk_at "st"; try (walk_at "st"; try (walk_at "st"; try (walk_at "st"; try (walk_at "st"; try (walk_at "st"; try (walk_at "st"; try (walk_at "st"; try (walk_at "st"; try (walk_at "st"; try (walk_at "st"; try (walk_at "st"; try (walk_at "st"; try (walk_at "st"; try (walk_at "st"; try (walk_at "st"; try (walk_at "st"; try (walk_at "st"; try (walk_at "st"; try (walk_at "st"; try (walk_at "st"; try (walk_at "st"; try (walk_at "st"; try (walk_at "st"; try (walk_at "st"; try (walk_at "st"; try (walk_at "st"; try (walk_at "st"; try (walk_at "st"; try (walk_at "st"; try (walk_at "st"; try (walk_at "st"; try (walk_at "st"; try (walk_at "st"; try (walk_at "st"; try (walk_at "st"; try (walk_at "st"; try (walk_at "st"))))))))))))))))))))))))))))))))))))))))))
local macro_rules | `(tactic| walk_at "op") => `(tactic| first
  | with_reducible assumption
  | with_reducible exact dIs_nn
  | with_reducible exact dIs_pt _
  | with_reducible exact dIs_D3 _ _ _
  | with_reducible exact dIsN_nn
  | with_reducible exact dIsN_pt _
  | with_reducible exact dIsN_D3 _ _ _
  | ((with_reducible refine at_czm ?_); first | with_reducible assumption | omega)
  | ((with_reducible refine at_czm1 ?_); first | with_reducible assumption | omega)
  | ((with_reducible refine at_sides ?_); first | with_reducible assumption | omega)
  | ((with_reducible refine at_normals ?_); first | with_reducible assumption | omega)
  | ((with_reducible refine at_cz ?_ ?_) <;> first | with_reducible assumption | omega)
  | with_reducible exact dLen_scr _
  | with_reducible exact dLen_tup _
  | walk_at "opx")
local macro_rules | `(tactic| walk_at "opx") => `(tactic| first
  | with_reducible exact isi_bb _
  | with_reducible exact dIs_i _
  | with_reducible exact isi_u _
  | with_reducible exact dLen_u _
  | with_reducible exact dEqN_D3t _ _
  | with_reducible exact dEqE_D3t _ _
  | ((with_reducible refine at_lstI ?_ ?_) <;> first | with_reducible assumption | omega)
  | with_reducible exact dIs_D3t _
  | with_reducible exact dIsN_D3t _
  | with_reducible exact dAt_u0 _
  | with_reducible exact dAt_u1 _
  | with_reducible exact dAt_u2 _
  | with_reducible exact dIs_nn
  | with_reducible exact dIs_pt _
  | with_reducible exact dIs_D3 _ _ _
  | with_reducible exact dIs_lst _
  | with_reducible exact dIsN_nn
  | with_reducible exact dIsN_pt _
  | with_reducible exact dIsN_D3 _ _ _
  | with_reducible exact dLen_t2 _
  | with_reducible exact dLen_t3 _ _ _
  | with_reducible assumption)
local macro_rules | `(tactic| walk_at "bdq") => `(tactic| first
  | ((with_reducible refine' bd_cz ?h ?g _); (case h => first | with_reducible assumption | exact Body.bd (by with_reducible assumption)); (case g => first | with_reducible assumption | exact Body.pos (by with_reducible assumption) | omega)))
local macro_rules | `(tactic| walk_at "shp") => `(tactic| first
  | ((with_reducible refine' shp_mapL ?h _); (case h => (intro _; walk_at "shp"))))
local macro_rules | `(tactic| walk_at "rng") => `(tactic| first
  | ((with_reducible refine rngN ?_); walk_at "num"))
local macro_rules | `(tactic| walk_at "st1") => `(tactic| first
  | (((with_reducible refine' wo_ins ?h1 ?h2 ?h3 ?h4 ?h5 ?h6 ?k); (case h1 => exact rfl); (case h2 => walk_at "ev"); (case h3 => walk_at "ev"); (case h4 => walk_at "num"); (case h5 => walk_at "num"); (case h6 => walk_at "len")); walk_at "es"))
local macro_rules | `(tactic| walk_at "ev") => `(tactic| first
  | with_reducible exact ev_home _ _ _
  | ((with_reducible refine' ev_cutS ?h1 ?h2 ?h3); (case h1 => walk_at "ev"); (case h2 => walk_at "ev"); (case h3 => walk_at "ev"))
  | ((with_reducible refine' ev_ownLenM ?h1); (case h1 => exact rfl))
  | ((with_reducible refine' ev_revm ?h1); (case h1 => walk_at "ev"))
  | ((with_reducible refine' ev_rev ?h1); (case h1 => walk_at "ev"))
  | ((with_reducible refine' ev_lc6 ?h1 ?h2 ?h3 ?h4 ?h5 ?h6 ?h7); (case h1 => walk_at "ev"); (case h2 => exact ⟨_, rfl, by walk_at "ev"⟩); (case h3 => exact ⟨_, rfl, by walk_at "ev"⟩); (case h4 => exact ⟨_, rfl, by walk_at "ev"⟩); (case h5 => exact ⟨_, rfl, by walk_at "ev"⟩); (case h6 => exact ⟨_, rfl, by walk_at "ev"⟩); (case h7 => exact ⟨_, rfl, by walk_at "ev"⟩))
  | ((with_reducible refine' ev_lc8 ?h1 ?h2 ?h3 ?h4 ?h5 ?h6 ?h7 ?h8 ?h9); (case h1 => walk_at "ev"); (case h2 => exact ⟨_, rfl, by walk_at "ev"⟩); (case h3 => exact ⟨_, rfl, by walk_at "ev"⟩); (case h4 => exact ⟨_, rfl, by walk_at "ev"⟩); (case h5 => exact ⟨_, rfl, by walk_at "ev"⟩); (case h6 => exact ⟨_, rfl, by walk_at "ev"⟩); (case h7 => exact ⟨_, rfl, by walk_at "ev"⟩); (case h8 => exact ⟨_, rfl, by walk_at "ev"⟩); (case h9 => exact ⟨_, rfl, by walk_at "ev"⟩))
  | ((with_reducible refine' ev_lc3 ?h1 ?h2 ?h3 ?h4); (case h1 => walk_at "ev"); (case h2 => exact ⟨_, rfl, by walk_at "ev"⟩); (case h3 => exact ⟨_, rfl, by walk_at "ev"⟩); (case h4 => exact ⟨_, rfl, by walk_at "ev"⟩))
  | ((with_reducible refine' ev_lcN ?h1 ?h2 ?h3 ?h4); (case h1 => walk_at "ev"); (case h2 => walk_at "rng"); (case h3 => walk_at "len"); (case h4 => (intro _ _; exact ⟨_, rfl, by walk_at "ev"⟩))))
local macro_rules | `(tactic| walk_at "okt") => `(tactic| first
  | with_reducible assumption
  | ((with_reducible refine okT.take ?_ _); walk_at "okt")
  | ((with_reducible refine okT.drop ?_ _); walk_at "okt")
  | ((with_reducible refine okT.app ?_ ?_) <;> walk_at "okt")
  | ((with_reducible refine okT_numI _))
  | decide)
local macro_rules | `(tactic| walk_at "lenT") => `(tactic| first
  | with_reducible assumption
  | omega
  | ((simp only [List.length_append, List.length_cons, List.length_nil, List.length_take, List.length_drop]) <;> omega)
  | decide)
local macro_rules | `(tactic| walk_at "op") => `(tactic| first
  | ((with_reducible refine dEq_T ?_ ?_) <;> walk_at "okt")
  | ((with_reducible refine dNe_T ?_ ?_) <;> walk_at "okt")
  | ((with_reducible refine dLen_T ?_); walk_at "lenT")
  | ((with_reducible refine dAdd_T ?_); walk_at "lenT")
  | with_reducible exact dIn_T _ _
  | with_reducible exact dOrd_T _
  | ((with_reducible refine dAt_T0 ?_ ?_); (first | with_reducible assumption | decide); walk_at "lenT")
  | ((with_reducible refine dAt_Tn ?_ ?_) <;> walk_at "lenT")
  | ((with_reducible refine dStr_T ?_); walk_at "log")
  | with_reducible exact isi_T _
  | with_reducible exact dIs_T _
  | with_reducible exact dIsN_T _
  | with_reducible exact dIs_nnT
  | with_reducible exact dIsN_nnT
  | with_reducible exact dIs_iT _
  | with_reducible exact dIsN_iT _
  | with_reducible exact dIs_D2T _ _
  | with_reducible exact dIsN_D2T _ _)
local macro_rules | `(tactic| walk_at "ev") => `(tactic| first
  | with_reducible exact ev_lit lit_e
  | with_reducible exact ev_lit lit_m
  | with_reducible exact ev_lit lit_0
  | with_reducible exact ev_lit lit_s
  | with_reducible exact ev_lit lit_f
  | ((with_reducible refine' ev_cutTo1 ?h1 ?h2); (case h1 => walk_at "ev"); (case h2 => walk_at "lenT"))
  | ((with_reducible refine' ev_cutFrom1 ?h1 ?h2); (case h1 => walk_at "ev"); (case h2 => walk_at "lenT"))
  | ((with_reducible refine' ev_cutTo ?h1 ?h2 ?h3); (case h1 => walk_at "ev"); (case h2 => walk_at "ev"); (case h3 => walk_at "lenT"))
  | ((with_reducible refine' ev_cutFrom ?h1 ?h2 ?h3); (case h1 => walk_at "ev"); (case h2 => walk_at "ev"); (case h3 => walk_at "lenT")))
local macro_rules | `(tactic| walk_at "st1") => `(tactic| first
  | ((with_reducible refine' wo_ift ?h ?e ?k); (case h => walk_at "ev"); (case e => first | decide | (simp [D.isNone]; done)))
  | ((with_reducible refine' wo_iff ?h ?e ?k); (case h => walk_at "ev"); (case e => first | decide | (simp [D.isNone]; done))))
local macro_rules | `(tactic| walk_at "log") => `(tactic| ((with_reducible refine log_bd ?_); walk_at "dis"))
theorem ne_tt : dNe (.str "text") (.str "text") = some (.bl false) := dNe_self shp_text (by decide)
theorem eq_tt : dEq (.str "text") (.str "text") = some (.bl true) := dEq_self shp_text (by decide)
theorem isi_no {d : D} {t : String} (h : tyName d = some t) (k : kitB t "str" = some false) : dIsi [d, .ty "str"] = some (.bl false) := by
  show ((tyName d).bind fun t => (kitB t "str").map D.bl) = _
  rw [h]
  show (kitB t "str").map D.bl = _
  rw [k]
  rfl
end Law
namespace Law
open PySem PySem.Spec PyProof.Rows L2 GD Hl TL
local macro_rules | `(tactic| walk_at "bd") => `(tactic| first
  | with_reducible assumption
  | with_reducible exact Bd.litO _
  | ((with_reducible refine' Bd.mul ?h ?g); (case h => walk_at "bd"); (case g => walk_at "bd"))
  | ((with_reducible refine' Bd.add ?h ?g); (case h => walk_at "bd"); (case g => walk_at "bd"))
  | ((with_reducible refine' Bd.sub ?h ?g); (case h => walk_at "bd"); (case g => walk_at "bd"))
  | ((with_reducible refine' Bd.neg ?h); (case h => walk_at "bd"))
  | ((with_reducible refine' Bd.emod ?h); (case h => walk_at "pos"))
  | ((with_reducible refine' Bd.ediv ?h); (case h => walk_at "bd"))
  | ((with_reducible refine' bd_fT ?h); (case h => walk_at "bd"))
  | ((with_reducible refine' bd_fB ?h); (case h => walk_at "bd"))
  | ((with_reducible refine' bd_sX ?h); (case h => walk_at "bd"))
  | ((with_reducible refine' bd_sY ?h); (case h => walk_at "bd"))
  | ((with_reducible refine' bd_sW ?h); (case h => walk_at "bd"))
  | ((with_reducible refine' bd_abs ?h); (case h => walk_at "bd"))
  | ((with_reducible refine' BdP.a ?h); (case h => walk_at "bdq"))
  | ((with_reducible refine' BdP.b ?h); (case h => walk_at "bdq"))
  | with_reducible exact bd_ite1
  | ((with_reducible refine' bd_ite ?h ?g); (case h => walk_at "bd"); (case g => walk_at "bd")))
local macro_rules | `(tactic| walk_at "pos") => `(tactic| first
  | with_reducible assumption
  | decide
  | omega)
local macro_rules | `(tactic| walk_at "bdq") => `(tactic| first
  | with_reducible assumption
  | ((with_reducible refine' bd_cy ?h ?g _); (case h => with_reducible assumption); (case g => first | with_reducible assumption | omega))
  | ((with_reducible refine' bd_mem ?h ?g); (case g => with_reducible assumption); (case h => with_reducible assumption))
  | ((with_reducible refine' bd_get ?h); (case h => with_reducible assumption)))
local macro_rules | `(tactic| walk_at "bdp") => `(tactic| first
  | walk_at "bdq"
  | ((with_reducible refine' BdP.mk ?h ?g); (case h => walk_at "bd"); (case g => walk_at "bd")))
local macro_rules | `(tactic| walk_at "num") => `(tactic| first
  | with_reducible assumption
  | omega
  | decide +kernel
  | (simp only [Nat.reduceLog2]; omega))
local macro_rules | `(tactic| walk_at "dis") => `(tactic| first
  | with_reducible assumption
  | ((with_reducible refine' mok ?h ?g ?l); (case h => walk_at "bd"); (case g => walk_at "bd"); (case l => walk_at "num"))
  | ((with_reducible refine' Bd.mono ?h ?l); (case h => walk_at "bd"); (case l => walk_at "num"))
  | ((with_reducible refine' BdP.mono ?h ?l); (case h => walk_at "bdp"); (case l => walk_at "num"))
  | ((with_reducible show divOk _); first | with_reducible assumption | decide +kernel | (refine' dok ?p ?h ?l; (case p => first | with_reducible assumption | omega); (case h => walk_at "bd"); (case l => walk_at "num")))
  | omega)
local macro_rules | `(tactic| walk_at "op") => `(tactic| first
  | with_reducible exact dAdd_int _ _
  | with_reducible exact dSub_int _ _
  | ((with_reducible refine dMul_int ?_); walk_at "dis")
  | with_reducible exact dAt_pp0 _ _
  | with_reducible exact dAt_pp1 _ _
  | with_reducible exact dAt_p0 _
  | with_reducible exact dAt_p1 _
  | with_reducible exact dAt_t0
  | with_reducible exact dAt_t1
  | with_reducible exact dAt_t2
  | with_reducible exact dAt_q0 _ _ _
  | with_reducible exact dAt_q1 _ _ _
  | with_reducible exact dAt_q2 _ _ _
  | with_reducible exact dAt_f0 _ _
  | with_reducible exact dAt_f1 _ _
  | with_reducible exact dLt_int _ _
  | with_reducible exact dLe_int _ _
  | with_reducible exact dGt_int _ _
  | with_reducible exact dGe_int _ _
  | with_reducible exact dEq_int _ _
  | with_reducible exact dNe_int _ _
  | ((with_reducible refine dMod_int ?_); walk_at "dis")
  | ((with_reducible refine dDiv_int ?_); walk_at "dis")
  | with_reducible exact dNeg_int _
  | with_reducible exact dIs_non _
  | with_reducible exact dIsNot_non _
  | with_reducible exact dAbs_int _
  | with_reducible exact dMax2_int _ _
  | with_reducible exact dMin2_int _ _
  | with_reducible exact dInt_bl _
  | with_reducible exact dLen_pts _
  | with_reducible exact dEq_pt _ _
  | with_reducible exact dNe_pt _ _
  | with_reducible exact dEq_pts _ _
  | with_reducible exact dNe_pts _ _
  | with_reducible exact dNe_bl _ _
  | with_reducible exact dEq_bl _ _
  | with_reducible exact dEq_D3 _ _ _ _ _ _
  | with_reducible exact dNe_D3 _ _ _ _ _ _
  | with_reducible exact dEq_np _
  | with_reducible exact dNe_np _
  | ((with_reducible refine at_last ?_); walk_at "dis")
  | with_reducible exact dAt_l0
  | with_reducible exact dAt_l1
  | with_reducible exact dAt_l2
  | with_reducible exact dAt_l3
  | with_reducible exact dAt_l4
  | with_reducible exact dAt_l5
  | with_reducible exact dAt_l6
  | with_reducible exact dAt_l7
  | ((with_reducible refine' dNe_self ?h ?l); (case h => walk_at "shp"); (case l => decide))
  | ((with_reducible refine' dEq_self ?h ?l); (case h => walk_at "shp"); (case l => decide))
  | with_reducible assumption
  | exact isi_int _ _ _ _ rfl kb_tuple_tuple
  | exact isi_int _ _ _ _ rfl kb_list_list
  | exact isi_int _ _ _ _ rfl kb_int_int
  | exact isi_int _ _ _ _ rfl kb_bool_bool
  | exact isi_int _ _ _ _ rfl kb_int_bool
  | exact isi_int _ _ _ _ rfl kb_list_tuple
  | exact isi_int _ _ _ _ rfl kb_tuple_list
  | with_reducible rfl)
local macro_rules | `(tactic| walk_at "shp") => `(tactic| first
  | with_reducible exact shp_int _
  | with_reducible exact shp_bl _
  | with_reducible exact shp_non
  | with_reducible exact shp_pt _
  | with_reducible exact shp_pts _
  | with_reducible exact shp_D2 _ _
  | with_reducible exact shp_fr _ _
  | with_reducible exact shp_D3 _ _ _
  | with_reducible exact shp_sp _ _ _
  | with_reducible exact shp_nilL
  | with_reducible exact shp_nilT
  | ((with_reducible refine' shp_consL ?h ?g); (case h => walk_at "shp"); (case g => walk_at "shp"))
  | ((with_reducible refine' shp_consT ?h ?g); (case h => walk_at "shp"); (case g => walk_at "shp"))
  | with_reducible assumption)
local macro_rules | `(tactic| walk_at "fn") => `(tactic| first
  | with_reducible assumption
  | with_reducible exact whole_int _
  | with_reducible exact divisor_eq _ _
  | with_reducible exact common_eq _ _)
local macro_rules | `(tactic| walk_at "ev") => `(tactic| first
  | with_reducible exact ev_c _
  | ((with_reducible refine' ev_var ?h1); (case h1 => exact rfl))
  | ((with_reducible refine' ev_e2 ?h1 ?h2 ?h3); (case h1 => walk_at "ev"); (case h2 => walk_at "ev"); (case h3 => walk_at "op"))
  | with_reducible exact ev_nil
  | ((with_reducible refine' ev_cons ?h1 ?h2); (case h1 => walk_at "ev"); (case h2 => walk_at "ev"))
  | ((with_reducible refine' ev_F ?h1 ?h2); (case h1 => walk_at "ev"); (case h2 => walk_at "fn"))
  | ((with_reducible refine' ev_mB ?h1); (case h1 => walk_at "ev"))
  | ((with_reducible refine' ev_B ?h1 ?h2); (case h1 => walk_at "ev"); (case h2 => walk_at "op"))
  | ((with_reducible refine' ev_tup2 ?h1 ?h2); (case h1 => walk_at "ev"); (case h2 => walk_at "ev"))
  | ((with_reducible refine' ev_tup3 ?h1 ?h2 ?h3); (case h1 => walk_at "ev"); (case h2 => walk_at "ev"); (case h3 => walk_at "ev"))
  | ((with_reducible refine' ev_tup ?h1 ?h2); (case h1 => walk_at "ev"); (case h2 => walk_at "len"))
  | ((with_reducible refine' ev_L ?h1); (case h1 => walk_at "ev"))
  | ((with_reducible refine' ev_lst ?h1 ?h2); (case h1 => walk_at "ev"); (case h2 => walk_at "len"))
  | ((with_reducible refine' ev_not ?h1); (case h1 => walk_at "ev"))
  | ((with_reducible refine' ev_and0 ?h1); (case h1 => walk_at "ev"))
  | ((with_reducible refine' ev_and ?h1 ?h2); (case h1 => walk_at "ev"); (case h2 => (intro hq; (try simp only [decide_eq_true_eq, decide_eq_false_iff_not, Bool.not_eq_true', Bool.not_eq_false'] at hq); walk_at "ev")))
  | ((with_reducible refine' ev_or1 ?h1); (case h1 => walk_at "ev"))
  | ((with_reducible refine' ev_or ?h1 ?h2); (case h1 => walk_at "ev"); (case h2 => (intro hq; (try simp only [decide_eq_true_eq, decide_eq_false_iff_not, Bool.not_eq_true', Bool.not_eq_false'] at hq); walk_at "ev")))
  | ((with_reducible refine' ev_eNot ?h1); (case h1 => walk_at "ev"))
  | ((with_reducible refine' ev_eAnd0 ?h1); (case h1 => walk_at "ev"))
  | ((with_reducible refine' ev_eAnd ?h1 ?h2); (case h1 => walk_at "ev"); (case h2 => (intro hq; (try simp only [decide_eq_true_eq, decide_eq_false_iff_not, Bool.not_eq_true', Bool.not_eq_false'] at hq); walk_at "ev")))
  | ((with_reducible refine' ev_eOr1 ?h1); (case h1 => walk_at "ev"))
  | ((with_reducible refine' ev_eOr ?h1 ?h2); (case h1 => walk_at "ev"); (case h2 => (intro hq; (try simp only [decide_eq_true_eq, decide_eq_false_iff_not, Bool.not_eq_true', Bool.not_eq_false'] at hq); walk_at "ev")))
  | ((with_reducible refine' ev_e1 ?h1 ?h2); (case h1 => walk_at "ev"); (case h2 => walk_at "op"))
  | ((with_reducible refine' ev_copy ?h1 ?h2); (case h1 => walk_at "ev"); (case h2 => exact rfl))
  | ((with_reducible refine' ev_ch ?h1 ?h2 ?h3 ?h4 ?h5); (case h1 => walk_at "ev"); (case h2 => walk_at "ev"); (case h3 => walk_at "op"); (case h4 => (intro hq; (try simp only [decide_eq_true_eq, decide_eq_false_iff_not, Bool.not_eq_true', Bool.not_eq_false'] at hq); walk_at "ev")); (case h5 => (intro _; walk_at "op")))
  | ((with_reducible refine' ev_lc ?h1 ?h2 ?h3 ?h4); (case h1 => walk_at "ev"); (case h2 => walk_at "its"); (case h3 => walk_at "len"); (case h4 => (intro _ _; exact ⟨_, rfl, by walk_at "ev"⟩)))
  | ((with_reducible refine' ev_lcR ?h1 ?h2 ?h3 ?h4); (case h1 => walk_at "ev"); (case h2 => walk_at "rng"); (case h3 => walk_at "len"); (case h4 => (intro _ _; exact ⟨_, rfl, by walk_at "ev"⟩)))
  | ((with_reducible refine' ev_cat ?h1 ?h2 ?h3); (case h1 => walk_at "ev"); (case h2 => walk_at "ev"); (case h3 => walk_at "len"))
  | ((with_reducible refine' ev_ownLen ?h1); (case h1 => exact rfl))
  | ((with_reducible refine' ev_ownAt ?h1 ?h2 ?h3); (case h1 => exact rfl); (case h2 => walk_at "ev"); (case h3 => walk_at "op"))
  | with_reducible assumption)
local macro_rules | `(tactic| walk_at "len") => `(tactic| first
  | ((simp only [List.length_map, List.length_cons, List.length_nil, List.length_append, List.length_range]) <;> walk_at "num")
  | walk_at "num")
local macro_rules | `(tactic| walk_at "its") => `(tactic| first
  | with_reducible exact its_map
  | with_reducible exact its_map2
  | exact rfl)
local macro_rules | `(tactic| walk_at "rng") => `(tactic| first
  | ((with_reducible refine rng1 ?_ ?_) <;> walk_at "num")
  | ((with_reducible refine rng2 ?_ ?_ ?_ ?_) <;> walk_at "num"))
local macro_rules | `(tactic| walk_at "es") => `(tactic| simp (config := {failIfUnchanged := false}) only [List.set_cons_zero, List.set_cons_succ])
local macro_rules | `(tactic| walk_at "start") => `(tactic| (simp only [List.map_cons, List.map_nil, List.cons_append, List.nil_append, List.length_cons, List.length_nil, Nat.reduceAdd, Nat.reduceSub, List.replicate_succ, List.replicate_zero]))
local macro_rules | `(tactic| walk_at "st1") => `(tactic| first
  | ((with_reducible refine' wo_seq ?k))
  | ((with_reducible refine' wo_ift ?h ?e ?k); (case h => walk_at "ev"); (case e => simp only [beq_self_eq_true, Bool.true_beq, Bool.false_beq, decide_eq_true_eq, decide_eq_false_iff_not, Bool.not_eq_true', Bool.not_eq_false', Bool.or_eq_true, Bool.and_eq_true, Bool.or_eq_false_iff, Bool.and_eq_false_imp, Bool.not_true, Bool.not_false, Bool.false_or, Bool.or_false, Bool.true_or, Bool.or_true, Bool.true_and, Bool.and_true, Bool.false_and, Bool.and_false, Bool.true_eq_false, Bool.false_eq_true, decide_true, decide_false, reduceCtorEq, D.isNone, Int.not_lt, Int.not_le, ne_eq, Decidable.not_not, not_true_eq_false, not_false_eq_true, false_implies, true_implies, implies_true, and_true, true_and, and_false, false_and, or_true, true_or, or_false, false_or, reduceIte, eq_self]))
  | ((with_reducible refine' wo_iff ?h ?e ?k); (case h => walk_at "ev"); (case e => simp only [beq_self_eq_true, Bool.true_beq, Bool.false_beq, decide_eq_true_eq, decide_eq_false_iff_not, Bool.not_eq_true', Bool.not_eq_false', Bool.or_eq_true, Bool.and_eq_true, Bool.or_eq_false_iff, Bool.and_eq_false_imp, Bool.not_true, Bool.not_false, Bool.false_or, Bool.or_false, Bool.true_or, Bool.or_true, Bool.true_and, Bool.and_true, Bool.false_and, Bool.and_false, Bool.true_eq_false, Bool.false_eq_true, decide_true, decide_false, reduceCtorEq, D.isNone, Int.not_lt, Int.not_le, ne_eq, Decidable.not_not, not_true_eq_false, not_false_eq_true, false_implies, true_implies, implies_true, and_true, true_and, and_false, false_and, or_true, true_or, or_false, false_or, reduceIte, eq_self]))
  | (((with_reducible refine' wo_asg ?h1 ?k); (case h1 => walk_at "ev")); walk_at "es")
  | ((with_reducible refine' wo_ret ?h1 ?k); (case h1 => walk_at "ev"))
  | (((with_reducible refine' wo_tgt ?h1 ?h2 ?k); (case h1 => walk_at "ev"); (case h2 => exact rfl)); walk_at "es")
  | ((with_reducible refine' wo_nil ?k))
  | ((with_reducible refine' wo_raise ?k))
  | (((with_reducible refine' wo_own ?h1 ?k); (case h1 => walk_at "ev")); walk_at "es")
  | (((with_reducible refine' wo_asgL ?h1 ?k); (case h1 => walk_at "ev")); walk_at "es")
  | (((with_reducible refine' wo_app ?h1 ?h2 ?h3 ?k); (case h1 => exact rfl); (case h2 => walk_at "ev"); (case h3 => walk_at "len")); walk_at "es")
  | (((with_reducible refine' wo_par ?h1 ?h2 ?k); (case h1 => walk_at "ev"); (case h2 => walk_at "ev")); walk_at "es")
  | ((with_reducible refine wo_frz ?_); simp only [frz, List.getElem?_cons_zero, List.getElem?_cons_succ, List.set_cons_zero, List.set_cons_succ]))
local macro_rules | `(tactic| walk_at "st") => `(tactic| (walk_at "st1"; try dsimp only))
local macro_rules | `(tactic| walk_at "hs") => `(tactic| ((try simp only [beq_self_eq_true, Bool.true_beq, Bool.false_beq, decide_eq_true_eq, decide_eq_false_iff_not, Bool.not_eq_true', Bool.not_eq_false', Bool.or_eq_true, Bool.and_eq_true, Bool.or_eq_false_iff, Bool.and_eq_false_imp, Bool.not_true, Bool.not_false, Bool.false_or, Bool.or_false, Bool.true_or, Bool.or_true, Bool.true_and, Bool.and_true, Bool.false_and, Bool.and_false, Bool.true_eq_false, Bool.false_eq_true, decide_true, decide_false, reduceCtorEq, D.isNone, Int.not_lt, Int.not_le, ne_eq, Decidable.not_not, not_true_eq_false, not_false_eq_true, false_implies, true_implies, implies_true, and_true, true_and, and_false, false_and, or_true, true_or, or_false, false_or, reduceIte, eq_self]); exact rfl))
local macro_rules | `(tactic| walk_at "fls") => `(tactic| first | (with_reducible exact False.elim) | (with_reducible refine fun (_ : True) => ?_) | skip)
local macro_rules | `(tactic| walk_at "if") => `(tactic| ((with_reducible refine' wo_ifx ?h ?e1 ?e2 ?k1 ?k2); (case h => walk_at "ev"); (case e1 => walk_at "hs"); (case e2 => walk_at "hs"); (case' k1 => walk_at "fls"); (case' k2 => walk_at "fls")))
local macro_rules | `(tactic| walk_at "tt") => `(tactic| (try simp only [beq_self_eq_true, Bool.true_beq, Bool.false_beq, decide_eq_true_eq, decide_eq_false_iff_not, Bool.not_eq_true', Bool.not_eq_false', Bool.or_eq_true, Bool.and_eq_true, Bool.or_eq_false_iff, Bool.and_eq_false_imp, Bool.not_true, Bool.not_false, Bool.false_or, Bool.or_false, Bool.true_or, Bool.or_true, Bool.true_and, Bool.and_true, Bool.false_and, Bool.and_false, Bool.true_eq_false, Bool.false_eq_true, decide_true, decide_false, reduceCtorEq, D.isNone, Int.not_lt, Int.not_le, ne_eq, Decidable.not_not, not_true_eq_false, not_false_eq_true, false_implies, true_implies, implies_true, and_true, true_and, and_false, false_and, or_true, true_or, or_false, false_or, reduceIte, eq_self]))
local macro_rules | `(tactic| walk_at "hc") => `(tactic| simp only [beq_self_eq_true, Bool.true_beq, Bool.false_beq, decide_eq_true_eq, decide_eq_false_iff_not, Bool.not_eq_true', Bool.not_eq_false', Bool.or_eq_true, Bool.and_eq_true, Bool.or_eq_false_iff, Bool.and_eq_false_imp, Bool.not_true, Bool.not_false, Bool.false_or, Bool.or_false, Bool.true_or, Bool.or_true, Bool.true_and, Bool.and_true, Bool.false_and, Bool.and_false, Bool.true_eq_false, Bool.false_eq_true, decide_true, decide_false, reduceCtorEq, D.isNone, Int.not_lt, Int.not_le, ne_eq, Decidable.not_not, not_true_eq_false, not_false_eq_true, false_implies, true_implies, implies_true, and_true, true_and, and_false, false_and, or_true, true_or, or_false, false_or, reduceIte, eq_self] at *)
local macro_rules | `(tactic| walk_at "sts") => `(tactic| (walk_at "st"; try (walk_at "st"; try (walk_at "st"; try (walk_at "st"; try (walk_at "st"; try (walk_at "st"; try (walk_at "st"; try (walk_at "st"; try (walk_at "st"; try (walk_at "st"; try (walk_at "st"; try (walk_at "st"; try (walk_at "st"; try (walk_at "st"; try (walk_at "st"; try (walk_at "st"; try (walk_at "st"; try (walk_at "st"; try (walk_at "st"; try (walk_at "st"; try (walk_at "st"; try (walk_at "st"; try (walk_at "st"; try (walk_at "st"; try (walk_at "st"; try (walk_at "st"; try (walk_at "st"; try (walk_at "st"; try (walk_at "st"; try (walk_at "st"; try (walk_at "st"; try (walk_at "st"; try (walk_at "st"; try (walk_at "st"; try (walk_at "st"; try (walk_at "st"; try (walk_at "st"; try (walk_at "st"; try (walk_at "st"; try (walk_at "st"; try (walk_at "st"))))))))))))))))))))))))))))))))))))))))))
local macro_rules | `(tactic| walk_at "op") => `(tactic| first
  | with_reducible assumption
  | with_reducible exact dIs_nn
  | with_reducible exact dIs_pt _
  | with_reducible exact dIs_D3 _ _ _
  | with_reducible exact dIsN_nn
  | with_reducible exact dIsN_pt _
  | with_reducible exact dIsN_D3 _ _ _
  | ((with_reducible refine at_czm ?_); first | with_reducible assumption | omega)
  | ((with_reducible refine at_czm1 ?_); first | with_reducible assumption | omega)
  | ((with_reducible refine at_sides ?_); first | with_reducible assumption | omega)
  | ((with_reducible refine at_normals ?_); first | with_reducible assumption | omega)
  | ((with_reducible refine at_cz ?_ ?_) <;> first | with_reducible assumption | omega)
  | with_reducible exact dLen_scr _
  | with_reducible exact dLen_tup _
  | walk_at "opx")
local macro_rules | `(tactic| walk_at "opx") => `(tactic| first
  | with_reducible exact isi_bb _
  | with_reducible exact dIs_i _
  | with_reducible exact isi_u _
  | with_reducible exact dLen_u _
  | with_reducible exact dEqN_D3t _ _
  | with_reducible exact dEqE_D3t _ _
  | ((with_reducible refine at_lstI ?_ ?_) <;> first | with_reducible assumption | omega)
  | with_reducible exact dIs_D3t _
  | with_reducible exact dIsN_D3t _
  | with_reducible exact dAt_u0 _
  | with_reducible exact dAt_u1 _
  | with_reducible exact dAt_u2 _
  | with_reducible exact dIs_nn
  | with_reducible exact dIs_pt _
  | with_reducible exact dIs_D3 _ _ _
  | with_reducible exact dIs_lst _
  | with_reducible exact dIsN_nn
  | with_reducible exact dIsN_pt _
  | with_reducible exact dIsN_D3 _ _ _
  | with_reducible exact dLen_t2 _
  | with_reducible exact dLen_t3 _ _ _
  | with_reducible assumption)
local macro_rules | `(tactic| walk_at "bdq") => `(tactic| first
  | ((with_reducible refine' bd_cz ?h ?g _); (case h => first | with_reducible assumption | exact Body.bd (by with_reducible assumption)); (case g => first | with_reducible assumption | exact Body.pos (by with_reducible assumption) | omega)))
local macro_rules | `(tactic| walk_at "shp") => `(tactic| first
  | ((with_reducible refine' shp_mapL ?h _); (case h => (intro _; walk_at "shp"))))
local macro_rules | `(tactic| walk_at "rng") => `(tactic| first
  | ((with_reducible refine rngN ?_); walk_at "num"))
local macro_rules | `(tactic| walk_at "st1") => `(tactic| first
  | (((with_reducible refine' wo_ins ?h1 ?h2 ?h3 ?h4 ?h5 ?h6 ?k); (case h1 => exact rfl); (case h2 => walk_at "ev"); (case h3 => walk_at "ev"); (case h4 => walk_at "num"); (case h5 => walk_at "num"); (case h6 => walk_at "len")); walk_at "es"))
local macro_rules | `(tactic| walk_at "ev") => `(tactic| first
  | with_reducible exact ev_home _ _ _
  | ((with_reducible refine' ev_cutS ?h1 ?h2 ?h3); (case h1 => walk_at "ev"); (case h2 => walk_at "ev"); (case h3 => walk_at "ev"))
  | ((with_reducible refine' ev_ownLenM ?h1); (case h1 => exact rfl))
  | ((with_reducible refine' ev_revm ?h1); (case h1 => walk_at "ev"))
  | ((with_reducible refine' ev_rev ?h1); (case h1 => walk_at "ev"))
  | ((with_reducible refine' ev_lc6 ?h1 ?h2 ?h3 ?h4 ?h5 ?h6 ?h7); (case h1 => walk_at "ev"); (case h2 => exact ⟨_, rfl, by walk_at "ev"⟩); (case h3 => exact ⟨_, rfl, by walk_at "ev"⟩); (case h4 => exact ⟨_, rfl, by walk_at "ev"⟩); (case h5 => exact ⟨_, rfl, by walk_at "ev"⟩); (case h6 => exact ⟨_, rfl, by walk_at "ev"⟩); (case h7 => exact ⟨_, rfl, by walk_at "ev"⟩))
  | ((with_reducible refine' ev_lc8 ?h1 ?h2 ?h3 ?h4 ?h5 ?h6 ?h7 ?h8 ?h9); (case h1 => walk_at "ev"); (case h2 => exact ⟨_, rfl, by walk_at "ev"⟩); (case h3 => exact ⟨_, rfl, by walk_at "ev"⟩); (case h4 => exact ⟨_, rfl, by walk_at "ev"⟩); (case h5 => exact ⟨_, rfl, by walk_at "ev"⟩); (case h6 => exact ⟨_, rfl, by walk_at "ev"⟩); (case h7 => exact ⟨_, rfl, by walk_at "ev"⟩); (case h8 => exact ⟨_, rfl, by walk_at "ev"⟩); (case h9 => exact ⟨_, rfl, by walk_at "ev"⟩))
  | ((with_reducible refine' ev_lc3 ?h1 ?h2 ?h3 ?h4); (case h1 => walk_at "ev"); (case h2 => exact ⟨_, rfl, by walk_at "ev"⟩); (case h3 => exact ⟨_, rfl, by walk_at "ev"⟩); (case h4 => exact ⟨_, rfl, by walk_at "ev"⟩))
  | ((with_reducible refine' ev_lcN ?h1 ?h2 ?h3 ?h4); (case h1 => walk_at "ev"); (case h2 => walk_at "rng"); (case h3 => walk_at "len"); (case h4 => (intro _ _; exact ⟨_, rfl, by walk_at "ev"⟩))))
local macro_rules | `(tactic| walk_at "okt") => `(tactic| first
  | with_reducible assumption
  | ((with_reducible refine okT.take ?_ _); walk_at "okt")
  | ((with_reducible refine okT.drop ?_ _); walk_at "okt")
  | ((with_reducible refine okT.app ?_ ?_) <;> walk_at "okt")
  | ((with_reducible refine okT_numI _))
  | decide)
local macro_rules | `(tactic| walk_at "lenT") => `(tactic| first
  | with_reducible assumption
  | omega
  | ((simp only [List.length_append, List.length_cons, List.length_nil, List.length_take, List.length_drop]) <;> omega)
  | decide)
local macro_rules | `(tactic| walk_at "op") => `(tactic| first
  | ((with_reducible refine dEq_T ?_ ?_) <;> walk_at "okt")
  | ((with_reducible refine dNe_T ?_ ?_) <;> walk_at "okt")
  | ((with_reducible refine dLen_T ?_); walk_at "lenT")
  | ((with_reducible refine dAdd_T ?_); walk_at "lenT")
  | with_reducible exact dIn_T _ _
  | with_reducible exact dOrd_T _
  | ((with_reducible refine dAt_T0 ?_ ?_); (first | with_reducible assumption | decide); walk_at "lenT")
  | ((with_reducible refine dAt_Tn ?_ ?_) <;> walk_at "lenT")
  | ((with_reducible refine dStr_T ?_); walk_at "log")
  | with_reducible exact isi_T _
  | with_reducible exact dIs_T _
  | with_reducible exact dIsN_T _
  | with_reducible exact dIs_nnT
  | with_reducible exact dIsN_nnT
  | with_reducible exact dIs_iT _
  | with_reducible exact dIsN_iT _
  | with_reducible exact dIs_D2T _ _
  | with_reducible exact dIsN_D2T _ _)
local macro_rules | `(tactic| walk_at "ev") => `(tactic| first
  | with_reducible exact ev_lit lit_e
  | with_reducible exact ev_lit lit_m
  | with_reducible exact ev_lit lit_0
  | with_reducible exact ev_lit lit_s
  | with_reducible exact ev_lit lit_f
  | ((with_reducible refine' ev_cutTo1 ?h1 ?h2); (case h1 => walk_at "ev"); (case h2 => walk_at "lenT"))
  | ((with_reducible refine' ev_cutFrom1 ?h1 ?h2); (case h1 => walk_at "ev"); (case h2 => walk_at "lenT"))
  | ((with_reducible refine' ev_cutTo ?h1 ?h2 ?h3); (case h1 => walk_at "ev"); (case h2 => walk_at "ev"); (case h3 => walk_at "lenT"))
  | ((with_reducible refine' ev_cutFrom ?h1 ?h2 ?h3); (case h1 => walk_at "ev"); (case h2 => walk_at "ev"); (case h3 => walk_at "lenT")))
local macro_rules | `(tactic| walk_at "st1") => `(tactic| first
  | ((with_reducible refine' wo_ift ?h ?e ?k); (case h => walk_at "ev"); (case e => first | decide | (simp [D.isNone]; done)))
  | ((with_reducible refine' wo_iff ?h ?e ?k); (case h => walk_at "ev"); (case e => first | decide | (simp [D.isNone]; done))))
local macro_rules | `(tactic| walk_at "log") => `(tactic| ((with_reducible refine log_bd ?_); walk_at "dis"))
theorem numI_len {i : Int} (h : Bd 200 i) : (numI i).length ≤ 62 := by
  have h' : i.natAbs < 2 ^ 200 := h
  have h2 : i.natAbs < 10 ^ 61 := Nat.lt_trans h' (by decide)
  have := numL_len (by decide) h2
  unfold numI
  split
  · rw [List.length_cons]; omega
  · omega
theorem kb_no (t : String) (h : t = "NoneType" ∨ t = "int" ∨ t = "bool" ∨ t = "list" ∨ t = "tuple" ∨ t = "dict") : kitB t "str" = some false := by
  rcases h with rfl | rfl | rfl | rfl | rfl | rfl <;> decide +kernel
end Law
namespace Law
open PySem PySem.Spec PyProof.Rows L2 GD Hl TL
local macro_rules | `(tactic| walk_at "bd") => `(tactic| first
  | with_reducible assumption
  | with_reducible exact Bd.litO _
  | ((with_reducible refine' Bd.mul ?h ?g); (case h => walk_at "bd"); (case g => walk_at "bd"))
  | ((with_reducible refine' Bd.add ?h ?g); (case h => walk_at "bd"); (case g => walk_at "bd"))
  | ((with_reducible refine' Bd.sub ?h ?g); (case h => walk_at "bd"); (case g => walk_at "bd"))
  | ((with_reducible refine' Bd.neg ?h); (case h => walk_at "bd"))
  | ((with_reducible refine' Bd.emod ?h); (case h => walk_at "pos"))
  | ((with_reducible refine' Bd.ediv ?h); (case h => walk_at "bd"))
  | ((with_reducible refine' bd_fT ?h); (case h => walk_at "bd"))
  | ((with_reducible refine' bd_fB ?h); (case h => walk_at "bd"))
  | ((with_reducible refine' bd_sX ?h); (case h => walk_at "bd"))
  | ((with_reducible refine' bd_sY ?h); (case h => walk_at "bd"))
  | ((with_reducible refine' bd_sW ?h); (case h => walk_at "bd"))
  | ((with_reducible refine' bd_abs ?h); (case h => walk_at "bd"))
  | ((with_reducible refine' BdP.a ?h); (case h => walk_at "bdq"))
  | ((with_reducible refine' BdP.b ?h); (case h => walk_at "bdq"))
  | with_reducible exact bd_ite1
  | ((with_reducible refine' bd_ite ?h ?g); (case h => walk_at "bd"); (case g => walk_at "bd")))
local macro_rules | `(tactic| walk_at "pos") => `(tactic| first
  | with_reducible assumption
  | decide
  | omega)
local macro_rules | `(tactic| walk_at "bdq") => `(tactic| first
  | with_reducible assumption
  | ((with_reducible refine' bd_cy ?h ?g _); (case h => with_reducible assumption); (case g => first | with_reducible assumption | omega))
  | ((with_reducible refine' bd_mem ?h ?g); (case g => with_reducible assumption); (case h => with_reducible assumption))
  | ((with_reducible refine' bd_get ?h); (case h => with_reducible assumption)))
local macro_rules | `(tactic| walk_at "bdp") => `(tactic| first
  | walk_at "bdq"
  | ((with_reducible refine' BdP.mk ?h ?g); (case h => walk_at "bd"); (case g => walk_at "bd")))
local macro_rules | `(tactic| walk_at "num") => `(tactic| first
  | with_reducible assumption
  | omega
  | decide +kernel
  | (simp only [Nat.reduceLog2]; omega))
local macro_rules | `(tactic| walk_at "dis") => `(tactic| first
  | with_reducible assumption
  | ((with_reducible refine' mok ?h ?g ?l); (case h => walk_at "bd"); (case g => walk_at "bd"); (case l => walk_at "num"))
  | ((with_reducible refine' Bd.mono ?h ?l); (case h => walk_at "bd"); (case l => walk_at "num"))
  | ((with_reducible refine' BdP.mono ?h ?l); (case h => walk_at "bdp"); (case l => walk_at "num"))
  | ((with_reducible show divOk _); first | with_reducible assumption | decide +kernel | (refine' dok ?p ?h ?l; (case p => first | with_reducible assumption | omega); (case h => walk_at "bd"); (case l => walk_at "num")))
  | omega)
local macro_rules | `(tactic| walk_at "op") => `(tactic| first
  | with_reducible exact dAdd_int _ _
  | with_reducible exact dSub_int _ _
  | ((with_reducible refine dMul_int ?_); walk_at "dis")
  | with_reducible exact dAt_pp0 _ _
  | with_reducible exact dAt_pp1 _ _
  | with_reducible exact dAt_p0 _
  | with_reducible exact dAt_p1 _
  | with_reducible exact dAt_t0
  | with_reducible exact dAt_t1
  | with_reducible exact dAt_t2
  | with_reducible exact dAt_q0 _ _ _
  | with_reducible exact dAt_q1 _ _ _
  | with_reducible exact dAt_q2 _ _ _
  | with_reducible exact dAt_f0 _ _
  | with_reducible exact dAt_f1 _ _
  | with_reducible exact dLt_int _ _
  | with_reducible exact dLe_int _ _
  | with_reducible exact dGt_int _ _
  | with_reducible exact dGe_int _ _
  | with_reducible exact dEq_int _ _
  | with_reducible exact dNe_int _ _
  | ((with_reducible refine dMod_int ?_); walk_at "dis")
  | ((with_reducible refine dDiv_int ?_); walk_at "dis")
  | with_reducible exact dNeg_int _
  | with_reducible exact dIs_non _
  | with_reducible exact dIsNot_non _
  | with_reducible exact dAbs_int _
  | with_reducible exact dMax2_int _ _
  | with_reducible exact dMin2_int _ _
  | with_reducible exact dInt_bl _
  | with_reducible exact dLen_pts _
  | with_reducible exact dEq_pt _ _
  | with_reducible exact dNe_pt _ _
  | with_reducible exact dEq_pts _ _
  | with_reducible exact dNe_pts _ _
  | with_reducible exact dNe_bl _ _
  | with_reducible exact dEq_bl _ _
  | with_reducible exact dEq_D3 _ _ _ _ _ _
  | with_reducible exact dNe_D3 _ _ _ _ _ _
  | with_reducible exact dEq_np _
  | with_reducible exact dNe_np _
  | ((with_reducible refine at_last ?_); walk_at "dis")
  | with_reducible exact dAt_l0
  | with_reducible exact dAt_l1
  | with_reducible exact dAt_l2
  | with_reducible exact dAt_l3
  | with_reducible exact dAt_l4
  | with_reducible exact dAt_l5
  | with_reducible exact dAt_l6
  | with_reducible exact dAt_l7
  | ((with_reducible refine' dNe_self ?h ?l); (case h => walk_at "shp"); (case l => decide))
  | ((with_reducible refine' dEq_self ?h ?l); (case h => walk_at "shp"); (case l => decide))
  | with_reducible assumption
  | exact isi_int _ _ _ _ rfl kb_tuple_tuple
  | exact isi_int _ _ _ _ rfl kb_list_list
  | exact isi_int _ _ _ _ rfl kb_int_int
  | exact isi_int _ _ _ _ rfl kb_bool_bool
  | exact isi_int _ _ _ _ rfl kb_int_bool
  | exact isi_int _ _ _ _ rfl kb_list_tuple
  | exact isi_int _ _ _ _ rfl kb_tuple_list
  | with_reducible rfl)
local macro_rules | `(tactic| walk_at "shp") => `(tactic| first
  | with_reducible exact shp_int _
  | with_reducible exact shp_bl _
  | with_reducible exact shp_non
  | with_reducible exact shp_pt _
  | with_reducible exact shp_pts _
  | with_reducible exact shp_D2 _ _
  | with_reducible exact shp_fr _ _
  | with_reducible exact shp_D3 _ _ _
  | with_reducible exact shp_sp _ _ _
  | with_reducible exact shp_nilL
  | with_reducible exact shp_nilT
  | ((with_reducible refine' shp_consL ?h ?g); (case h => walk_at "shp"); (case g => walk_at "shp"))
  | ((with_reducible refine' shp_consT ?h ?g); (case h => walk_at "shp"); (case g => walk_at "shp"))
  | with_reducible assumption)
local macro_rules | `(tactic| walk_at "fn") => `(tactic| first
  | with_reducible assumption
  | with_reducible exact whole_int _
  | with_reducible exact divisor_eq _ _
  | with_reducible exact common_eq _ _)
local macro_rules | `(tactic| walk_at "ev") => `(tactic| first
  | with_reducible exact ev_c _
  | ((with_reducible refine' ev_var ?h1); (case h1 => exact rfl))
  | ((with_reducible refine' ev_e2 ?h1 ?h2 ?h3); (case h1 => walk_at "ev"); (case h2 => walk_at "ev"); (case h3 => walk_at "op"))
  | with_reducible exact ev_nil
  | ((with_reducible refine' ev_cons ?h1 ?h2); (case h1 => walk_at "ev"); (case h2 => walk_at "ev"))
  | ((with_reducible refine' ev_F ?h1 ?h2); (case h1 => walk_at "ev"); (case h2 => walk_at "fn"))
  | ((with_reducible refine' ev_mB ?h1); (case h1 => walk_at "ev"))
  | ((with_reducible refine' ev_B ?h1 ?h2); (case h1 => walk_at "ev"); (case h2 => walk_at "op"))
  | ((with_reducible refine' ev_tup2 ?h1 ?h2); (case h1 => walk_at "ev"); (case h2 => walk_at "ev"))
  | ((with_reducible refine' ev_tup3 ?h1 ?h2 ?h3); (case h1 => walk_at "ev"); (case h2 => walk_at "ev"); (case h3 => walk_at "ev"))
  | ((with_reducible refine' ev_tup ?h1 ?h2); (case h1 => walk_at "ev"); (case h2 => walk_at "len"))
  | ((with_reducible refine' ev_L ?h1); (case h1 => walk_at "ev"))
  | ((with_reducible refine' ev_lst ?h1 ?h2); (case h1 => walk_at "ev"); (case h2 => walk_at "len"))
  | ((with_reducible refine' ev_not ?h1); (case h1 => walk_at "ev"))
  | ((with_reducible refine' ev_and0 ?h1); (case h1 => walk_at "ev"))
  | ((with_reducible refine' ev_and ?h1 ?h2); (case h1 => walk_at "ev"); (case h2 => (intro hq; (try simp only [decide_eq_true_eq, decide_eq_false_iff_not, Bool.not_eq_true', Bool.not_eq_false'] at hq); walk_at "ev")))
  | ((with_reducible refine' ev_or1 ?h1); (case h1 => walk_at "ev"))
  | ((with_reducible refine' ev_or ?h1 ?h2); (case h1 => walk_at "ev"); (case h2 => (intro hq; (try simp only [decide_eq_true_eq, decide_eq_false_iff_not, Bool.not_eq_true', Bool.not_eq_false'] at hq); walk_at "ev")))
  | ((with_reducible refine' ev_eNot ?h1); (case h1 => walk_at "ev"))
  | ((with_reducible refine' ev_eAnd0 ?h1); (case h1 => walk_at "ev"))
  | ((with_reducible refine' ev_eAnd ?h1 ?h2); (case h1 => walk_at "ev"); (case h2 => (intro hq; (try simp only [decide_eq_true_eq, decide_eq_false_iff_not, Bool.not_eq_true', Bool.not_eq_false'] at hq); walk_at "ev")))
  | ((with_reducible refine' ev_eOr1 ?h1); (case h1 => walk_at "ev"))
  | ((with_reducible refine' ev_eOr ?h1 ?h2); (case h1 => walk_at "ev"); (case h2 => (intro hq; (try simp only [decide_eq_true_eq, decide_eq_false_iff_not, Bool.not_eq_true', Bool.not_eq_false'] at hq); walk_at "ev")))
  | ((with_reducible refine' ev_e1 ?h1 ?h2); (case h1 => walk_at "ev"); (case h2 => walk_at "op"))
  | ((with_reducible refine' ev_copy ?h1 ?h2); (case h1 => walk_at "ev"); (case h2 => exact rfl))
  | ((with_reducible refine' ev_ch ?h1 ?h2 ?h3 ?h4 ?h5); (case h1 => walk_at "ev"); (case h2 => walk_at "ev"); (case h3 => walk_at "op"); (case h4 => (intro hq; (try simp only [decide_eq_true_eq, decide_eq_false_iff_not, Bool.not_eq_true', Bool.not_eq_false'] at hq); walk_at "ev")); (case h5 => (intro _; walk_at "op")))
  | ((with_reducible refine' ev_lc ?h1 ?h2 ?h3 ?h4); (case h1 => walk_at "ev"); (case h2 => walk_at "its"); (case h3 => walk_at "len"); (case h4 => (intro _ _; exact ⟨_, rfl, by walk_at "ev"⟩)))
  | ((with_reducible refine' ev_lcR ?h1 ?h2 ?h3 ?h4); (case h1 => walk_at "ev"); (case h2 => walk_at "rng"); (case h3 => walk_at "len"); (case h4 => (intro _ _; exact ⟨_, rfl, by walk_at "ev"⟩)))
  | ((with_reducible refine' ev_cat ?h1 ?h2 ?h3); (case h1 => walk_at "ev"); (case h2 => walk_at "ev"); (case h3 => walk_at "len"))
  | ((with_reducible refine' ev_ownLen ?h1); (case h1 => exact rfl))
  | ((with_reducible refine' ev_ownAt ?h1 ?h2 ?h3); (case h1 => exact rfl); (case h2 => walk_at "ev"); (case h3 => walk_at "op"))
  | with_reducible assumption)
local macro_rules | `(tactic| walk_at "len") => `(tactic| first
  | ((simp only [List.length_map, List.length_cons, List.length_nil, List.length_append, List.length_range]) <;> walk_at "num")
  | walk_at "num")
local macro_rules | `(tactic| walk_at "its") => `(tactic| first
  | with_reducible exact its_map
  | with_reducible exact its_map2
  | exact rfl)
local macro_rules | `(tactic| walk_at "rng") => `(tactic| first
  | ((with_reducible refine rng1 ?_ ?_) <;> walk_at "num")
  | ((with_reducible refine rng2 ?_ ?_ ?_ ?_) <;> walk_at "num"))
local macro_rules | `(tactic| walk_at "es") => `(tactic| simp (config := {failIfUnchanged := false}) only [List.set_cons_zero, List.set_cons_succ])
local macro_rules | `(tactic| walk_at "start") => `(tactic| (simp only [List.map_cons, List.map_nil, List.cons_append, List.nil_append, List.length_cons, List.length_nil, Nat.reduceAdd, Nat.reduceSub, List.replicate_succ, List.replicate_zero]))
local macro_rules | `(tactic| walk_at "st1") => `(tactic| first
  | ((with_reducible refine' wo_seq ?k))
  | ((with_reducible refine' wo_ift ?h ?e ?k); (case h => walk_at "ev"); (case e => simp only [beq_self_eq_true, Bool.true_beq, Bool.false_beq, decide_eq_true_eq, decide_eq_false_iff_not, Bool.not_eq_true', Bool.not_eq_false', Bool.or_eq_true, Bool.and_eq_true, Bool.or_eq_false_iff, Bool.and_eq_false_imp, Bool.not_true, Bool.not_false, Bool.false_or, Bool.or_false, Bool.true_or, Bool.or_true, Bool.true_and, Bool.and_true, Bool.false_and, Bool.and_false, Bool.true_eq_false, Bool.false_eq_true, decide_true, decide_false, reduceCtorEq, D.isNone, Int.not_lt, Int.not_le, ne_eq, Decidable.not_not, not_true_eq_false, not_false_eq_true, false_implies, true_implies, implies_true, and_true, true_and, and_false, false_and, or_true, true_or, or_false, false_or, reduceIte, eq_self]))
  | ((with_reducible refine' wo_iff ?h ?e ?k); (case h => walk_at "ev"); (case e => simp only [beq_self_eq_true, Bool.true_beq, Bool.false_beq, decide_eq_true_eq, decide_eq_false_iff_not, Bool.not_eq_true', Bool.not_eq_false', Bool.or_eq_true, Bool.and_eq_true, Bool.or_eq_false_iff, Bool.and_eq_false_imp, Bool.not_true, Bool.not_false, Bool.false_or, Bool.or_false, Bool.true_or, Bool.or_true, Bool.true_and, Bool.and_true, Bool.false_and, Bool.and_false, Bool.true_eq_false, Bool.false_eq_true, decide_true, decide_false, reduceCtorEq, D.isNone, Int.not_lt, Int.not_le, ne_eq, Decidable.not_not, not_true_eq_false, not_false_eq_true, false_implies, true_implies, implies_true, and_true, true_and, and_false, false_and, or_true, true_or, or_false, false_or, reduceIte, eq_self]))
  | (((with_reducible refine' wo_asg ?h1 ?k); (case h1 => walk_at "ev")); walk_at "es")
  | ((with_reducible refine' wo_ret ?h1 ?k); (case h1 => walk_at "ev"))
  | (((with_reducible refine' wo_tgt ?h1 ?h2 ?k); (case h1 => walk_at "ev"); (case h2 => exact rfl)); walk_at "es")
  | ((with_reducible refine' wo_nil ?k))
  | ((with_reducible refine' wo_raise ?k))
  | (((with_reducible refine' wo_own ?h1 ?k); (case h1 => walk_at "ev")); walk_at "es")
  | (((with_reducible refine' wo_asgL ?h1 ?k); (case h1 => walk_at "ev")); walk_at "es")
  | (((with_reducible refine' wo_app ?h1 ?h2 ?h3 ?k); (case h1 => exact rfl); (case h2 => walk_at "ev"); (case h3 => walk_at "len")); walk_at "es")
  | (((with_reducible refine' wo_par ?h1 ?h2 ?k); (case h1 => walk_at "ev"); (case h2 => walk_at "ev")); walk_at "es")
  | ((with_reducible refine wo_frz ?_); simp only [frz, List.getElem?_cons_zero, List.getElem?_cons_succ, List.set_cons_zero, List.set_cons_succ]))
local macro_rules | `(tactic| walk_at "st") => `(tactic| (walk_at "st1"; try dsimp only))
local macro_rules | `(tactic| walk_at "hs") => `(tactic| ((try simp only [beq_self_eq_true, Bool.true_beq, Bool.false_beq, decide_eq_true_eq, decide_eq_false_iff_not, Bool.not_eq_true', Bool.not_eq_false', Bool.or_eq_true, Bool.and_eq_true, Bool.or_eq_false_iff, Bool.and_eq_false_imp, Bool.not_true, Bool.not_false, Bool.false_or, Bool.or_false, Bool.true_or, Bool.or_true, Bool.true_and, Bool.and_true, Bool.false_and, Bool.and_false, Bool.true_eq_false, Bool.false_eq_true, decide_true, decide_false, reduceCtorEq, D.isNone, Int.not_lt, Int.not_le, ne_eq, Decidable.not_not, not_true_eq_false, not_false_eq_true, false_implies, true_implies, implies_true, and_true, true_and, and_false, false_and, or_true, true_or, or_false, false_or, reduceIte, eq_self]); exact rfl))
local macro_rules | `(tactic| walk_at "fls") => `(tactic| first | (with_reducible exact False.elim) | (with_reducible refine fun (_ : True) => ?_) | skip)
local macro_rules | `(tactic| walk_at "if") => `(tactic| ((with_reducible refine' wo_ifx ?h ?e1 ?e2 ?k1 ?k2); (case h => walk_at "ev"); (case e1 => walk_at "hs"); (case e2 => walk_at "hs"); (case' k1 => walk_at "fls"); (case' k2 => walk_at "fls")))
local macro_rules | `(tactic| walk_at "tt") => `(tactic| (try simp only [beq_self_eq_true, Bool.true_beq, Bool.false_beq, decide_eq_true_eq, decide_eq_false_iff_not, Bool.not_eq_true', Bool.not_eq_false', Bool.or_eq_true, Bool.and_eq_true, Bool.or_eq_false_iff, Bool.and_eq_false_imp, Bool.not_true, Bool.not_false, Bool.false_or, Bool.or_false, Bool.true_or, Bool.or_true, Bool.true_and, Bool.and_true, Bool.false_and, Bool.and_false, Bool.true_eq_false, Bool.false_eq_true, decide_true, decide_false, reduceCtorEq, D.isNone, Int.not_lt, Int.not_le, ne_eq, Decidable.not_not, not_true_eq_false, not_false_eq_true, false_implies, true_implies, implies_true, and_true, true_and, and_false, false_and, or_true, true_or, or_false, false_or, reduceIte, eq_self]))
local macro_rules | `(tactic| walk_at "hc") => `(tactic| simp only [beq_self_eq_true, Bool.true_beq, Bool.false_beq, decide_eq_true_eq, decide_eq_false_iff_not, Bool.not_eq_true', Bool.not_eq_false', Bool.or_eq_true, Bool.and_eq_true, Bool.or_eq_false_iff, Bool.and_eq_false_imp, Bool.not_true, Bool.not_false, Bool.false_or, Bool.or_false, Bool.true_or, Bool.or_true, Bool.true_and, Bool.and_true, Bool.false_and, Bool.and_false, Bool.true_eq_false, Bool.false_eq_true, decide_true, decide_false, reduceCtorEq, D.isNone, Int.not_lt, Int.not_le, ne_eq, Decidable.not_not, not_true_eq_false, not_false_eq_true, false_implies, true_implies, implies_true, and_true, true_and, and_false, false_and, or_true, true_or, or_false, false_or, reduceIte, eq_self] at *)
local macro_rules | `(tactic| walk_at "sts") => `(tactic| (walk_at "st"; try (walk_at "st"; try (walk_at "st"; try (walk_at "st"; try (walk_at "st"; try (walk_at "st"; try (walk_at "st"; try (walk_at "st"; try (walk_at "st"; try (walk_at "st"; try (walk_at "st"; try (walk_at "st"; try (walk_at "st"; try (walk_at "st"; try (walk_at "st"; try (walk_at "st"; try (walk_at "st"; try (walk_at "st"; try (walk_at "st"; try (walk_at "st"; try (walk_at "st"; try (walk_at "st"; try (walk_at "st"; try (walk_at "st"; try (walk_at "st"; try (walk_at "st"; try (walk_at "st"; try (walk_at "st"; try (walk_at "st"; try (walk_at "st"; try (walk_at "st"; try (walk_at "st"; try (walk_at "st"; try (walk_at "st"; try (walk_at "st"; try (walk_at "st"; try (walk_at "st"; try (walk_at "st"; try (walk_at "st"; try (walk_at "st"; try (walk_at "st"))))))))))))))))))))))))))))))))))))))))))
local macro_rules | `(tactic| walk_at "op") => `(tactic| first
  | with_reducible assumption
  | with_reducible exact dIs_nn
  | with_reducible exact dIs_pt _
  | with_reducible exact dIs_D3 _ _ _
  | with_reducible exact dIsN_nn
  | with_reducible exact dIsN_pt _
  | with_reducible exact dIsN_D3 _ _ _
  | ((with_reducible refine at_czm ?_); first | with_reducible assumption | omega)
  | ((with_reducible refine at_czm1 ?_); first | with_reducible assumption | omega)
  | ((with_reducible refine at_sides ?_); first | with_reducible assumption | omega)
  | ((with_reducible refine at_normals ?_); first | with_reducible assumption | omega)
  | ((with_reducible refine at_cz ?_ ?_) <;> first | with_reducible assumption | omega)
  | with_reducible exact dLen_scr _
  | with_reducible exact dLen_tup _
  | walk_at "opx")
local macro_rules | `(tactic| walk_at "opx") => `(tactic| first
  | with_reducible exact isi_bb _
  | with_reducible exact dIs_i _
  | with_reducible exact isi_u _
  | with_reducible exact dLen_u _
  | with_reducible exact dEqN_D3t _ _
  | with_reducible exact dEqE_D3t _ _
  | ((with_reducible refine at_lstI ?_ ?_) <;> first | with_reducible assumption | omega)
  | with_reducible exact dIs_D3t _
  | with_reducible exact dIsN_D3t _
  | with_reducible exact dAt_u0 _
  | with_reducible exact dAt_u1 _
  | with_reducible exact dAt_u2 _
  | with_reducible exact dIs_nn
  | with_reducible exact dIs_pt _
  | with_reducible exact dIs_D3 _ _ _
  | with_reducible exact dIs_lst _
  | with_reducible exact dIsN_nn
  | with_reducible exact dIsN_pt _
  | with_reducible exact dIsN_D3 _ _ _
  | with_reducible exact dLen_t2 _
  | with_reducible exact dLen_t3 _ _ _
  | with_reducible assumption)
local macro_rules | `(tactic| walk_at "bdq") => `(tactic| first
  | ((with_reducible refine' bd_cz ?h ?g _); (case h => first | with_reducible assumption | exact Body.bd (by with_reducible assumption)); (case g => first | with_reducible assumption | exact Body.pos (by with_reducible assumption) | omega)))
local macro_rules | `(tactic| walk_at "shp") => `(tactic| first
  | ((with_reducible refine' shp_mapL ?h _); (case h => (intro _; walk_at "shp"))))
local macro_rules | `(tactic| walk_at "rng") => `(tactic| first
  | ((with_reducible refine rngN ?_); walk_at "num"))
local macro_rules | `(tactic| walk_at "st1") => `(tactic| first
  | (((with_reducible refine' wo_ins ?h1 ?h2 ?h3 ?h4 ?h5 ?h6 ?k); (case h1 => exact rfl); (case h2 => walk_at "ev"); (case h3 => walk_at "ev"); (case h4 => walk_at "num"); (case h5 => walk_at "num"); (case h6 => walk_at "len")); walk_at "es"))
local macro_rules | `(tactic| walk_at "ev") => `(tactic| first
  | with_reducible exact ev_home _ _ _
  | ((with_reducible refine' ev_cutS ?h1 ?h2 ?h3); (case h1 => walk_at "ev"); (case h2 => walk_at "ev"); (case h3 => walk_at "ev"))
  | ((with_reducible refine' ev_ownLenM ?h1); (case h1 => exact rfl))
  | ((with_reducible refine' ev_revm ?h1); (case h1 => walk_at "ev"))
  | ((with_reducible refine' ev_rev ?h1); (case h1 => walk_at "ev"))
  | ((with_reducible refine' ev_lc6 ?h1 ?h2 ?h3 ?h4 ?h5 ?h6 ?h7); (case h1 => walk_at "ev"); (case h2 => exact ⟨_, rfl, by walk_at "ev"⟩); (case h3 => exact ⟨_, rfl, by walk_at "ev"⟩); (case h4 => exact ⟨_, rfl, by walk_at "ev"⟩); (case h5 => exact ⟨_, rfl, by walk_at "ev"⟩); (case h6 => exact ⟨_, rfl, by walk_at "ev"⟩); (case h7 => exact ⟨_, rfl, by walk_at "ev"⟩))
  | ((with_reducible refine' ev_lc8 ?h1 ?h2 ?h3 ?h4 ?h5 ?h6 ?h7 ?h8 ?h9); (case h1 => walk_at "ev"); (case h2 => exact ⟨_, rfl, by walk_at "ev"⟩); (case h3 => exact ⟨_, rfl, by walk_at "ev"⟩); (case h4 => exact ⟨_, rfl, by walk_at "ev"⟩); (case h5 => exact ⟨_, rfl, by walk_at "ev"⟩); (case h6 => exact ⟨_, rfl, by walk_at "ev"⟩); (case h7 => exact ⟨_, rfl, by walk_at "ev"⟩); (case h8 => exact ⟨_, rfl, by walk_at "ev"⟩); (case h9 => exact ⟨_, rfl, by walk_at "ev"⟩))
  | ((with_reducible refine' ev_lc3 ?h1 ?h2 ?h3 ?h4); (case h1 => walk_at "ev"); (case h2 => exact ⟨_, rfl, by walk_at "ev"⟩); (case h3 => exact ⟨_, rfl, by walk_at "ev"⟩); (case h4 => exact ⟨_, rfl, by walk_at "ev"⟩))
  | ((with_reducible refine' ev_lcN ?h1 ?h2 ?h3 ?h4); (case h1 => walk_at "ev"); (case h2 => walk_at "rng"); (case h3 => walk_at "len"); (case h4 => (intro _ _; exact ⟨_, rfl, by walk_at "ev"⟩))))
local macro_rules | `(tactic| walk_at "okt") => `(tactic| first
  | with_reducible assumption
  | ((with_reducible refine okT.take ?_ _); walk_at "okt")
  | ((with_reducible refine okT.drop ?_ _); walk_at "okt")
  | ((with_reducible refine okT.app ?_ ?_) <;> walk_at "okt")
  | ((with_reducible refine okT_numI _))
  | decide)
local macro_rules | `(tactic| walk_at "lenT") => `(tactic| first
  | with_reducible assumption
  | omega
  | ((simp only [List.length_append, List.length_cons, List.length_nil, List.length_take, List.length_drop]) <;> omega)
  | decide)
local macro_rules | `(tactic| walk_at "op") => `(tactic| first
  | ((with_reducible refine dEq_T ?_ ?_) <;> walk_at "okt")
  | ((with_reducible refine dNe_T ?_ ?_) <;> walk_at "okt")
  | ((with_reducible refine dLen_T ?_); walk_at "lenT")
  | ((with_reducible refine dAdd_T ?_); walk_at "lenT")
  | with_reducible exact dIn_T _ _
  | with_reducible exact dOrd_T _
  | ((with_reducible refine dAt_T0 ?_ ?_); (first | with_reducible assumption | decide); walk_at "lenT")
  | ((with_reducible refine dAt_Tn ?_ ?_) <;> walk_at "lenT")
  | ((with_reducible refine dStr_T ?_); walk_at "log")
  | with_reducible exact isi_T _
  | with_reducible exact dIs_T _
  | with_reducible exact dIsN_T _
  | with_reducible exact dIs_nnT
  | with_reducible exact dIsN_nnT
  | with_reducible exact dIs_iT _
  | with_reducible exact dIsN_iT _
  | with_reducible exact dIs_D2T _ _
  | with_reducible exact dIsN_D2T _ _)
local macro_rules | `(tactic| walk_at "ev") => `(tactic| first
  | with_reducible exact ev_lit lit_e
  | with_reducible exact ev_lit lit_m
  | with_reducible exact ev_lit lit_0
  | with_reducible exact ev_lit lit_s
  | with_reducible exact ev_lit lit_f
  | ((with_reducible refine' ev_cutTo1 ?h1 ?h2); (case h1 => walk_at "ev"); (case h2 => walk_at "lenT"))
  | ((with_reducible refine' ev_cutFrom1 ?h1 ?h2); (case h1 => walk_at "ev"); (case h2 => walk_at "lenT"))
  | ((with_reducible refine' ev_cutTo ?h1 ?h2 ?h3); (case h1 => walk_at "ev"); (case h2 => walk_at "ev"); (case h3 => walk_at "lenT"))
  | ((with_reducible refine' ev_cutFrom ?h1 ?h2 ?h3); (case h1 => walk_at "ev"); (case h2 => walk_at "ev"); (case h3 => walk_at "lenT")))
local macro_rules | `(tactic| walk_at "st1") => `(tactic| first
  | ((with_reducible refine' wo_ift ?h ?e ?k); (case h => walk_at "ev"); (case e => first | decide | (simp [D.isNone]; done)))
  | ((with_reducible refine' wo_iff ?h ?e ?k); (case h => walk_at "ev"); (case e => first | decide | (simp [D.isNone]; done))))
local macro_rules | `(tactic| walk_at "log") => `(tactic| ((with_reducible refine log_bd ?_); walk_at "dis"))
theorem lit_co : D.str "," = T [44] := congrArg D.str (by decide +kernel)
theorem lit_se : D.str ";" = T [59] := congrArg D.str (by decide +kernel)
def ptW : List (List Nat) → Option (Int × Int)
  | [w, v] => match numOf w, numOf v with
    | some a, some b => some (a, b)
    | _, _ => none
  | _ => none
def ptOf (l : List Nat) : Option (Int × Int) := ptW (cuts 44 l)
theorem point_due_q {l : List Nat} (ok : okT l) (hl : l.length ≤ 100000) : F__law_point_due [T l] = .ok (optP (ptOf l)) := by
  have hcut := cut_q (m := 44) ok (by decide) (by omega : l.length ≤ 1000000)
  rw [← lit_co] at hcut
  have wok : ∀ w ∈ cuts 44 l, okT w := fun w hw => cuts_ok ok hw
  have wlen : ∀ w ∈ cuts 44 l, w.length ≤ 100000 := fun w hw => Nat.le_trans (cuts_len hw) hl
  have wne := cuts_ne 44 l
  unfold ptOf
  generalize cuts 44 l = ws at *
  unfold F__law_point_due b__law_point_due
  refine fn_ok ?_
  walk_at "start"
  walk_at "st"
  walk_at "st"
  walk_at "st"
  match ws, wne, hcut, wok, wlen with
  | w :: v :: u :: r, _, hcut, _, _ =>
    have hlen := dLen_Ts (w :: v :: u :: r)
    rw [List.length_cons, List.length_cons, List.length_cons] at hlen
    walk_at "if"
    case k1 => intro _; walk_at "sts"; rfl
    case k2 => intro h; omega
  | [w], _, hcut, wok, wlen =>
    have hlen : dLen [.lst ([w].map T)] = some (.int 1) := rfl
    generalize D.lst ([w].map T) = W at *
    walk_at "sts"
    rfl
  | [w, v], _, hcut, wok, wlen =>
    have ow := wok w (by simp)
    have ov := wok v (by simp)
    have kw := num_due_L ow (wlen w (by simp))
    have kv := num_due_L ov (wlen v (by simp))
    have k0 : dAt (.lst ([w, v].map T)) (.int 0) = some (T w) := rfl
    have k1 : dAt (.lst ([w, v].map T)) (.int 1) = some (T v) := rfl
    have hlen : dLen [.lst ([w, v].map T)] = some (.int 2) := rfl
    generalize D.lst ([w, v].map T) = W at *
    cases e : numOf w with
    | none =>
      rw [e] at kw
      change _ = R.ok D.non at kw
      cases e2 : numOf v with
      | none =>
        rw [e2] at kv
        change _ = R.ok D.non at kv
        walk_at "sts"
        simp only [ptW, e, e2]
        rfl
      | some b =>
        rw [e2] at kv
        change _ = R.ok (D.int b) at kv
        walk_at "sts"
        simp only [ptW, e, e2]
        rfl
    | some a =>
      rw [e] at kw
      change _ = R.ok (D.int a) at kw
      cases e2 : numOf v with
      | none =>
        rw [e2] at kv
        change _ = R.ok D.non at kv
        walk_at "sts"
        simp only [ptW, e, e2]
        rfl
      | some b =>
        rw [e2] at kv
        change _ = R.ok (D.int b) at kv
        walk_at "sts"
        simp only [ptW, e, e2]
        rfl
theorem ev_consEr2 {ρ : En} {ma : EM} {mr : AM} {d : D} {x : Str} (h1 : ma ρ = .ok d) (h2 : mr ρ = .er x) : aCons ma mr ρ = .er x := by
  unfold aCons
  rw [h1]
  show (mr ρ).bind _ = _
  rw [h2]
  rfl
theorem read_pt_q {l : List Nat} (ok : okT l) (hl : l.length ≤ 100000) : F_read_point [T l] = orEr "NoText" ((ptOf l).map fun p => D2 p.1 p.2) := by
  have wok : ∀ w ∈ cuts 44 l, okT w := fun w hw => cuts_ok ok hw
  have wlen : ∀ w ∈ cuts 44 l, w.length ≤ 100000 := fun w hw => Nat.le_trans (cuts_len hw) hl
  have wne := cuts_ne 44 l
  have hsp : aSplit (eVar 0) (eC (.str ",")) [.v (T l), .un] = .ok ((cuts 44 l).map T) := ev_split (ev_var rfl) (ev_lit lit_co) (by decide) (by omega)
  unfold ptOf
  generalize cuts 44 l = ws at *
  unfold F_read_point b_read_point
  refine fn_opt ?_
  walk_at "start"
  walk_at "st"
  walk_at "st"
  walk_at "st"
  walk_at "st"
  with_reducible refine' wo_asg (ev_L hsp) ?k
  case k =>
  walk_at "es"
  match ws, wne, wok, wlen with
  | w :: v :: u :: r, _, _, _ =>
    have hlen := dLen_Ts (w :: v :: u :: r)
    rw [List.length_cons, List.length_cons, List.length_cons] at hlen
    walk_at "st"
    walk_at "if"
    case k1 => intro _; walk_at "sts"; exact ⟨rfl, rfl⟩
    case k2 => intro h; omega
  | [w], _, wok, wlen =>
    have hlen : dLen [.lst ([w].map T)] = some (.int 1) := rfl
    generalize D.lst ([w].map T) = W at *
    walk_at "sts"
    exact ⟨rfl, rfl⟩
  | [w, v], _, wok, wlen =>
    have ow := wok w (by simp)
    have ov := wok v (by simp)
    have kw := read_L ow (wlen w (by simp))
    have kv := read_L ov (wlen v (by simp))
    have k0 : dAt (.lst ([w, v].map T)) (.int 0) = some (T w) := rfl
    have k1 : dAt (.lst ([w, v].map T)) (.int 1) = some (T v) := rfl
    have hlen : dLen [.lst ([w, v].map T)] = some (.int 2) := rfl
    generalize D.lst ([w, v].map T) = W at *
    walk_at "st"
    walk_at "st"
    walk_at "st"
    cases e : numOf w with
    | none =>
      rw [e] at kw
      change _ = R.er "NoText" at kw
      with_reducible refine' wo_retEr (x := "NoText") ?g1 ?g2
      case g1 => exact ev_tupEr (ev_consEr (ev_Fer (ev_cons (ev_e2 (ev_var rfl) (ev_c _) k0) ev_nil) kw))
      case g2 =>
        refine ⟨rfl, ?_⟩
        simp only [ptW, e]
        rfl
    | some a =>
      rw [e] at kw
      change _ = R.ok (D.int a) at kw
      cases e' : numOf v with
      | none =>
        rw [e'] at kv
        change _ = R.er "NoText" at kv
        with_reducible refine' wo_retEr (x := "NoText") ?g1 ?g2
        case g1 =>
          refine ev_tupEr (ev_consEr2 (ev_F (ev_cons (ev_e2 (ev_var rfl) (ev_c _) k0) ev_nil) kw) (ev_consEr (ev_Fer (ev_cons (ev_e2 (ev_var rfl) (ev_c _) k1) ev_nil) kv)))
        case g2 =>
          refine ⟨rfl, ?_⟩
          simp only [ptW, e, e']
          rfl
      | some b =>
        rw [e'] at kv
        change _ = R.ok (D.int b) at kv
        walk_at "sts"
        simp only [ptW, e, e']
        rfl
def allO {α : Type} : List (Option α) → Option (List α)
  | [] => some []
  | none :: _ => none
  | some a :: r => (allO r).map (a :: ·)
theorem allO_none {α : Type} : ∀ {l : List (Option α)}, allO l = none ↔ none ∈ l
  | [] => by simp [allO]
  | none :: r => by simp [allO]
  | some a :: r => by
    have ih := allO_none (l := r)
    show (allO r).map (a :: ·) = none ↔ _
    rw [Option.map_eq_none_iff, ih]
    simp
theorem allO_some {α : Type} : ∀ {l : List (Option α)} {ps : List α}, allO l = some ps → l = ps.map some
  | [], ps, h => by cases h; rfl
  | none :: r, ps, h => by cases h
  | some a :: r, ps, h => by
    obtain ⟨qs, h1, rfl⟩ := Option.map_eq_some_iff.mp h
    rw [allO_some h1]
    rfl
def ptsOf (l : List Nat) : Option (List (Int × Int)) := allO ((cuts 59 l).map ptOf)
def pD2 (p : Int × Int) : D := D2 p.1 p.2
def ptsD (ps : List (Int × Int)) : D := .lst (ps.map pD2)
def optPs : Option (List (Int × Int)) → D
  | none => .non
  | some ps => ptsD ps
theorem lcE_pts {a : Sl} {s : Sl} : ∀ ws : List (List Nat), (∀ w ∈ ws, okT w ∧ w.length ≤ 100000) → lcGoE (gNm 1) (eF F_read_point (aCons (eVar 1) aNil)) (ws.map T) [a, s] = match allO (ws.map ptOf) with
    | some ps => .ok (ps.map pD2)
    | none => .er "NoText"
  | [], _ => rfl
  | w :: r, h => by
    have ih := lcE_pts (a := a) (s := s) r fun w hw => h w (List.mem_cons_of_mem _ hw)
    obtain ⟨h1, h2⟩ := h w List.mem_cons_self
    have kr := read_pt_q h1 h2
    rw [List.map_cons, List.map_cons]
    show (eF F_read_point (aCons (eVar 1) aNil) [a, .v (T w)]).bind (fun x => (lcGoE (gNm 1) (eF F_read_point (aCons (eVar 1) aNil)) (r.map T) [a, s]).bind fun xs => R.ok (x :: xs)) = _
    rw [ih]
    cases e : ptOf w with
    | none =>
      rw [e] at kr
      change _ = R.er "NoText" at kr
      rw [ev_Fer (ev_cons (ev_var rfl) ev_nil) kr]
      rfl
    | some p =>
      rw [e] at kr
      change _ = R.ok (pD2 p) at kr
      rw [ev_F (ev_cons (ev_var rfl) ev_nil) kr]
      show (match allO (r.map ptOf) with | some ps => R.ok (ps.map pD2) | none => .er "NoText").bind _ = _
      show _ = match (allO (r.map ptOf)).map (p :: ·) with | some ps => R.ok (ps.map pD2) | none => .er "NoText"
      cases allO (r.map ptOf) <;> rfl
theorem read_pts_q {l : List Nat} (ok : okT l) (hl : l.length ≤ 100000) : F_read_points [T l] = orEr "NoText" ((ptsOf l).map ptsD) := by
  have wok : ∀ w ∈ cuts 59 l, okT w ∧ w.length ≤ 100000 := fun w hw => ⟨cuts_ok ok hw, Nat.le_trans (cuts_len hw) hl⟩
  have ln : (cuts 59 l).length ≤ l.length + 1 := spl_len 59 l []
  have hsp : aSplit (eVar 0) (eC (.str ";")) [.v (T l), .un] = .ok ((cuts 59 l).map T) := ev_split (ev_var rfl) (ev_lit lit_se) (by decide) (by omega)
  have key : aLcE [1] (gNm 1) (eL (aSplit (eVar 0) (eC (.str ";")))) (eF F_read_point (aCons (eVar 1) aNil)) [.v (T l), .un] = match ptsOf l with
      | some ps => .ok (ps.map pD2)
      | none => .er "NoText" := by
    unfold aLcE
    rw [ev_L hsp, bind_ok]
    show (R.ofO (some ((cuts 59 l).map T))).bind _ = _
    rw [ofO_some, bind_ok]
    rw [if_pos (by rw [List.length_map, sizeLine_eq]; omega)]
    exact lcE_pts (cuts 59 l) wok
  unfold F_read_points b_read_points
  refine fn_opt ?_
  walk_at "start"
  walk_at "st"
  walk_at "st"
  walk_at "st"
  cases e : ptsOf l with
  | none =>
    rw [e] at key
    with_reducible refine' wo_retEr (x := "NoText") ?g1 ?g2
    case g1 =>
      show (aLcE [1] (gNm 1) (eL (aSplit (eVar 0) (eC (.str ";")))) (eF F_read_point (aCons (eVar 1) aNil)) [.v (T l), .un]).bind (fun ds => R.ok (D.lst ds)) = _
      rw [key]
      rfl
    case g2 => exact ⟨rfl, rfl⟩
  | some ps =>
    rw [e] at key
    exact wo_ret (ev_L key) rfl
theorem shp_opts : ∀ os : List (Option (Int × Int)), Shp 2 (.lst (os.map optP))
  | [] => ⟨shp_nilL.1, Nat.le_trans shp_nilL.2 (by decide)⟩
  | o :: r => by
    have h1 : Shp 1 (optP o) := by
      cases o with
      | none => exact ⟨shp_non.1, Nat.le_trans shp_non.2 (by decide)⟩
      | some p => exact shp_D2 _ _
    exact shp_consL h1 (shp_opts r)
theorem dIn_non (os : List (Option (Int × Int))) : dIn .non (.lst (os.map optP)) = some (.bl (decide (none ∈ os))) := by
  have key : ∀ l : List (Option (Int × Int)), dInB .non (l.map optP) = decide (none ∈ l) := by
    intro l
    induction l with
    | nil => rfl
    | cons o r ih =>
      unfold dInB at ih ⊢
      cases o with
      | none =>
        show (PyData.eqv (toP .non) (toP .non) || _) = _
        rw [show PyData.eqv (toP .non) (toP .non) = true by rfl, Bool.true_or, decide_eq_true List.mem_cons_self]
      | some p =>
        show (PyData.eqv (toP (D2 p.1 p.2)) (toP .non) || (toPs (r.map optP)).any fun z => PyData.eqv z (toP .non)) = _
        rw [ih, show PyData.eqv (toP (D2 p.1 p.2)) (toP .non) = false by rfl, Bool.false_or]
        simp
  show (if SeqAt.shaped (toP .non) = true ∧ SeqAt.shaped (toP (.lst (os.map optP))) = true then some (D.bl (dInB .non (os.map optP))) else none) = _
  rw [if_pos ⟨shp_non.shaped (by decide), (shp_opts os).shaped (by decide)⟩, key]
theorem points_due_q {l : List Nat} (ok : okT l) (hl : l.length ≤ 100000) : F__law_points_due [T l] = .ok (optPs (ptsOf l)) := by
  have hcut := cut_q (m := 59) ok (by decide) (by omega : l.length ≤ 1000000)
  rw [← lit_se] at hcut
  have wok : ∀ w ∈ cuts 59 l, okT w ∧ w.length ≤ 100000 := fun w hw => ⟨cuts_ok ok hw, Nat.le_trans (cuts_len hw) hl⟩
  have ln : (cuts 59 l).length ≤ l.length + 1 := spl_len 59 l []
  have ki := dIn_non ((cuts 59 l).map ptOf)
  have e1 : (cuts 59 l).map (fun w => optP (ptOf w)) = ((cuts 59 l).map ptOf).map optP := by rw [List.map_map]; rfl
  unfold F__law_points_due b__law_points_due
  refine fn_ok ?_
  walk_at "start"
  refine wo_seq (wo_asgL (ev_lc (h := T) (f' := fun w => optP (ptOf w)) (l := cuts 59 l) (ev_F (ev_cons (ev_var rfl) (ev_cons (ev_c _) ev_nil)) hcut) rfl (by omega) fun w hw => ⟨_, rfl, ev_F (ev_cons (ev_var rfl) ev_nil) (point_due_q (wok w hw).1 (wok w hw).2)⟩) ?_)
  rw [e1]
  walk_at "es"
  cases e : ptsOf l with
  | none =>
    have := allO_none.mp e
    rw [decide_eq_true this] at ki
    exact wo_seq (wo_ift (ev_mB (ev_e2 (ev_c _) (ev_var rfl) ki)) rfl (wo_ret (ev_c _) rfl))
  | some ps =>
    have h2 := allO_some e
    have n : ¬ none ∈ (cuts 59 l).map ptOf := fun z => by
      have := allO_none.mpr z
      unfold ptsOf at e
      rw [this] at e
      cases e
    rw [decide_eq_false n] at ki
    refine wo_seq (wo_iff (ev_mB (ev_e2 (ev_c _) (ev_var rfl) ki)) rfl (wo_nil (wo_ret (ev_var rfl) ?_)))
    rw [h2, List.map_map]
    rfl
end Law
namespace Law
open PySem PySem.Spec PyProof.Rows L2 GD Hl TL
local macro_rules | `(tactic| walk_at "bd") => `(tactic| first
  | with_reducible assumption
  | with_reducible exact Bd.litO _
  | ((with_reducible refine' Bd.mul ?h ?g); (case h => walk_at "bd"); (case g => walk_at "bd"))
  | ((with_reducible refine' Bd.add ?h ?g); (case h => walk_at "bd"); (case g => walk_at "bd"))
  | ((with_reducible refine' Bd.sub ?h ?g); (case h => walk_at "bd"); (case g => walk_at "bd"))
  | ((with_reducible refine' Bd.neg ?h); (case h => walk_at "bd"))
  | ((with_reducible refine' Bd.emod ?h); (case h => walk_at "pos"))
  | ((with_reducible refine' Bd.ediv ?h); (case h => walk_at "bd"))
  | ((with_reducible refine' bd_fT ?h); (case h => walk_at "bd"))
  | ((with_reducible refine' bd_fB ?h); (case h => walk_at "bd"))
  | ((with_reducible refine' bd_sX ?h); (case h => walk_at "bd"))
  | ((with_reducible refine' bd_sY ?h); (case h => walk_at "bd"))
  | ((with_reducible refine' bd_sW ?h); (case h => walk_at "bd"))
  | ((with_reducible refine' bd_abs ?h); (case h => walk_at "bd"))
  | ((with_reducible refine' BdP.a ?h); (case h => walk_at "bdq"))
  | ((with_reducible refine' BdP.b ?h); (case h => walk_at "bdq"))
  | with_reducible exact bd_ite1
  | ((with_reducible refine' bd_ite ?h ?g); (case h => walk_at "bd"); (case g => walk_at "bd")))
local macro_rules | `(tactic| walk_at "pos") => `(tactic| first
  | with_reducible assumption
  | decide
  | omega)
local macro_rules | `(tactic| walk_at "bdq") => `(tactic| first
  | with_reducible assumption
  | ((with_reducible refine' bd_cy ?h ?g _); (case h => with_reducible assumption); (case g => first | with_reducible assumption | omega))
  | ((with_reducible refine' bd_mem ?h ?g); (case g => with_reducible assumption); (case h => with_reducible assumption))
  | ((with_reducible refine' bd_get ?h); (case h => with_reducible assumption)))
local macro_rules | `(tactic| walk_at "bdp") => `(tactic| first
  | walk_at "bdq"
  | ((with_reducible refine' BdP.mk ?h ?g); (case h => walk_at "bd"); (case g => walk_at "bd")))
local macro_rules | `(tactic| walk_at "num") => `(tactic| first
  | with_reducible assumption
  | omega
  | decide +kernel
  | (simp only [Nat.reduceLog2]; omega))
local macro_rules | `(tactic| walk_at "dis") => `(tactic| first
  | with_reducible assumption
  | ((with_reducible refine' mok ?h ?g ?l); (case h => walk_at "bd"); (case g => walk_at "bd"); (case l => walk_at "num"))
  | ((with_reducible refine' Bd.mono ?h ?l); (case h => walk_at "bd"); (case l => walk_at "num"))
  | ((with_reducible refine' BdP.mono ?h ?l); (case h => walk_at "bdp"); (case l => walk_at "num"))
  | ((with_reducible show divOk _); first | with_reducible assumption | decide +kernel | (refine' dok ?p ?h ?l; (case p => first | with_reducible assumption | omega); (case h => walk_at "bd"); (case l => walk_at "num")))
  | omega)
local macro_rules | `(tactic| walk_at "op") => `(tactic| first
  | with_reducible exact dAdd_int _ _
  | with_reducible exact dSub_int _ _
  | ((with_reducible refine dMul_int ?_); walk_at "dis")
  | with_reducible exact dAt_pp0 _ _
  | with_reducible exact dAt_pp1 _ _
  | with_reducible exact dAt_p0 _
  | with_reducible exact dAt_p1 _
  | with_reducible exact dAt_t0
  | with_reducible exact dAt_t1
  | with_reducible exact dAt_t2
  | with_reducible exact dAt_q0 _ _ _
  | with_reducible exact dAt_q1 _ _ _
  | with_reducible exact dAt_q2 _ _ _
  | with_reducible exact dAt_f0 _ _
  | with_reducible exact dAt_f1 _ _
  | with_reducible exact dLt_int _ _
  | with_reducible exact dLe_int _ _
  | with_reducible exact dGt_int _ _
  | with_reducible exact dGe_int _ _
  | with_reducible exact dEq_int _ _
  | with_reducible exact dNe_int _ _
  | ((with_reducible refine dMod_int ?_); walk_at "dis")
  | ((with_reducible refine dDiv_int ?_); walk_at "dis")
  | with_reducible exact dNeg_int _
  | with_reducible exact dIs_non _
  | with_reducible exact dIsNot_non _
  | with_reducible exact dAbs_int _
  | with_reducible exact dMax2_int _ _
  | with_reducible exact dMin2_int _ _
  | with_reducible exact dInt_bl _
  | with_reducible exact dLen_pts _
  | with_reducible exact dEq_pt _ _
  | with_reducible exact dNe_pt _ _
  | with_reducible exact dEq_pts _ _
  | with_reducible exact dNe_pts _ _
  | with_reducible exact dNe_bl _ _
  | with_reducible exact dEq_bl _ _
  | with_reducible exact dEq_D3 _ _ _ _ _ _
  | with_reducible exact dNe_D3 _ _ _ _ _ _
  | with_reducible exact dEq_np _
  | with_reducible exact dNe_np _
  | ((with_reducible refine at_last ?_); walk_at "dis")
  | with_reducible exact dAt_l0
  | with_reducible exact dAt_l1
  | with_reducible exact dAt_l2
  | with_reducible exact dAt_l3
  | with_reducible exact dAt_l4
  | with_reducible exact dAt_l5
  | with_reducible exact dAt_l6
  | with_reducible exact dAt_l7
  | ((with_reducible refine' dNe_self ?h ?l); (case h => walk_at "shp"); (case l => decide))
  | ((with_reducible refine' dEq_self ?h ?l); (case h => walk_at "shp"); (case l => decide))
  | with_reducible assumption
  | exact isi_int _ _ _ _ rfl kb_tuple_tuple
  | exact isi_int _ _ _ _ rfl kb_list_list
  | exact isi_int _ _ _ _ rfl kb_int_int
  | exact isi_int _ _ _ _ rfl kb_bool_bool
  | exact isi_int _ _ _ _ rfl kb_int_bool
  | exact isi_int _ _ _ _ rfl kb_list_tuple
  | exact isi_int _ _ _ _ rfl kb_tuple_list
  | with_reducible rfl)
local macro_rules | `(tactic| walk_at "shp") => `(tactic| first
  | with_reducible exact shp_int _
  | with_reducible exact shp_bl _
  | with_reducible exact shp_non
  | with_reducible exact shp_pt _
  | with_reducible exact shp_pts _
  | with_reducible exact shp_D2 _ _
  | with_reducible exact shp_fr _ _
  | with_reducible exact shp_D3 _ _ _
  | with_reducible exact shp_sp _ _ _
  | with_reducible exact shp_nilL
  | with_reducible exact shp_nilT
  | ((with_reducible refine' shp_consL ?h ?g); (case h => walk_at "shp"); (case g => walk_at "shp"))
  | ((with_reducible refine' shp_consT ?h ?g); (case h => walk_at "shp"); (case g => walk_at "shp"))
  | with_reducible assumption)
local macro_rules | `(tactic| walk_at "fn") => `(tactic| first
  | with_reducible assumption
  | with_reducible exact whole_int _
  | with_reducible exact divisor_eq _ _
  | with_reducible exact common_eq _ _)
local macro_rules | `(tactic| walk_at "ev") => `(tactic| first
  | with_reducible exact ev_c _
  | ((with_reducible refine' ev_var ?h1); (case h1 => exact rfl))
  | ((with_reducible refine' ev_e2 ?h1 ?h2 ?h3); (case h1 => walk_at "ev"); (case h2 => walk_at "ev"); (case h3 => walk_at "op"))
  | with_reducible exact ev_nil
  | ((with_reducible refine' ev_cons ?h1 ?h2); (case h1 => walk_at "ev"); (case h2 => walk_at "ev"))
  | ((with_reducible refine' ev_F ?h1 ?h2); (case h1 => walk_at "ev"); (case h2 => walk_at "fn"))
  | ((with_reducible refine' ev_mB ?h1); (case h1 => walk_at "ev"))
  | ((with_reducible refine' ev_B ?h1 ?h2); (case h1 => walk_at "ev"); (case h2 => walk_at "op"))
  | ((with_reducible refine' ev_tup2 ?h1 ?h2); (case h1 => walk_at "ev"); (case h2 => walk_at "ev"))
  | ((with_reducible refine' ev_tup3 ?h1 ?h2 ?h3); (case h1 => walk_at "ev"); (case h2 => walk_at "ev"); (case h3 => walk_at "ev"))
  | ((with_reducible refine' ev_tup ?h1 ?h2); (case h1 => walk_at "ev"); (case h2 => walk_at "len"))
  | ((with_reducible refine' ev_L ?h1); (case h1 => walk_at "ev"))
  | ((with_reducible refine' ev_lst ?h1 ?h2); (case h1 => walk_at "ev"); (case h2 => walk_at "len"))
  | ((with_reducible refine' ev_not ?h1); (case h1 => walk_at "ev"))
  | ((with_reducible refine' ev_and0 ?h1); (case h1 => walk_at "ev"))
  | ((with_reducible refine' ev_and ?h1 ?h2); (case h1 => walk_at "ev"); (case h2 => (intro hq; (try simp only [decide_eq_true_eq, decide_eq_false_iff_not, Bool.not_eq_true', Bool.not_eq_false'] at hq); walk_at "ev")))
  | ((with_reducible refine' ev_or1 ?h1); (case h1 => walk_at "ev"))
  | ((with_reducible refine' ev_or ?h1 ?h2); (case h1 => walk_at "ev"); (case h2 => (intro hq; (try simp only [decide_eq_true_eq, decide_eq_false_iff_not, Bool.not_eq_true', Bool.not_eq_false'] at hq); walk_at "ev")))
  | ((with_reducible refine' ev_eNot ?h1); (case h1 => walk_at "ev"))
  | ((with_reducible refine' ev_eAnd0 ?h1); (case h1 => walk_at "ev"))
  | ((with_reducible refine' ev_eAnd ?h1 ?h2); (case h1 => walk_at "ev"); (case h2 => (intro hq; (try simp only [decide_eq_true_eq, decide_eq_false_iff_not, Bool.not_eq_true', Bool.not_eq_false'] at hq); walk_at "ev")))
  | ((with_reducible refine' ev_eOr1 ?h1); (case h1 => walk_at "ev"))
  | ((with_reducible refine' ev_eOr ?h1 ?h2); (case h1 => walk_at "ev"); (case h2 => (intro hq; (try simp only [decide_eq_true_eq, decide_eq_false_iff_not, Bool.not_eq_true', Bool.not_eq_false'] at hq); walk_at "ev")))
  | ((with_reducible refine' ev_e1 ?h1 ?h2); (case h1 => walk_at "ev"); (case h2 => walk_at "op"))
  | ((with_reducible refine' ev_copy ?h1 ?h2); (case h1 => walk_at "ev"); (case h2 => exact rfl))
  | ((with_reducible refine' ev_ch ?h1 ?h2 ?h3 ?h4 ?h5); (case h1 => walk_at "ev"); (case h2 => walk_at "ev"); (case h3 => walk_at "op"); (case h4 => (intro hq; (try simp only [decide_eq_true_eq, decide_eq_false_iff_not, Bool.not_eq_true', Bool.not_eq_false'] at hq); walk_at "ev")); (case h5 => (intro _; walk_at "op")))
  | ((with_reducible refine' ev_lc ?h1 ?h2 ?h3 ?h4); (case h1 => walk_at "ev"); (case h2 => walk_at "its"); (case h3 => walk_at "len"); (case h4 => (intro _ _; exact ⟨_, rfl, by walk_at "ev"⟩)))
  | ((with_reducible refine' ev_lcR ?h1 ?h2 ?h3 ?h4); (case h1 => walk_at "ev"); (case h2 => walk_at "rng"); (case h3 => walk_at "len"); (case h4 => (intro _ _; exact ⟨_, rfl, by walk_at "ev"⟩)))
  | ((with_reducible refine' ev_cat ?h1 ?h2 ?h3); (case h1 => walk_at "ev"); (case h2 => walk_at "ev"); (case h3 => walk_at "len"))
  | ((with_reducible refine' ev_ownLen ?h1); (case h1 => exact rfl))
  | ((with_reducible refine' ev_ownAt ?h1 ?h2 ?h3); (case h1 => exact rfl); (case h2 => walk_at "ev"); (case h3 => walk_at "op"))
  | with_reducible assumption)
local macro_rules | `(tactic| walk_at "len") => `(tactic| first
  | ((simp only [List.length_map, List.length_cons, List.length_nil, List.length_append, List.length_range]) <;> walk_at "num")
  | walk_at "num")
local macro_rules | `(tactic| walk_at "its") => `(tactic| first
  | with_reducible exact its_map
  | with_reducible exact its_map2
  | exact rfl)
local macro_rules | `(tactic| walk_at "rng") => `(tactic| first
  | ((with_reducible refine rng1 ?_ ?_) <;> walk_at "num")
  | ((with_reducible refine rng2 ?_ ?_ ?_ ?_) <;> walk_at "num"))
local macro_rules | `(tactic| walk_at "es") => `(tactic| simp (config := {failIfUnchanged := false}) only [List.set_cons_zero, List.set_cons_succ])
local macro_rules | `(tactic| walk_at "start") => `(tactic| (simp only [List.map_cons, List.map_nil, List.cons_append, List.nil_append, List.length_cons, List.length_nil, Nat.reduceAdd, Nat.reduceSub, List.replicate_succ, List.replicate_zero]))
local macro_rules | `(tactic| walk_at "st1") => `(tactic| first
  | ((with_reducible refine' wo_seq ?k))
  | ((with_reducible refine' wo_ift ?h ?e ?k); (case h => walk_at "ev"); (case e => simp only [beq_self_eq_true, Bool.true_beq, Bool.false_beq, decide_eq_true_eq, decide_eq_false_iff_not, Bool.not_eq_true', Bool.not_eq_false', Bool.or_eq_true, Bool.and_eq_true, Bool.or_eq_false_iff, Bool.and_eq_false_imp, Bool.not_true, Bool.not_false, Bool.false_or, Bool.or_false, Bool.true_or, Bool.or_true, Bool.true_and, Bool.and_true, Bool.false_and, Bool.and_false, Bool.true_eq_false, Bool.false_eq_true, decide_true, decide_false, reduceCtorEq, D.isNone, Int.not_lt, Int.not_le, ne_eq, Decidable.not_not, not_true_eq_false, not_false_eq_true, false_implies, true_implies, implies_true, and_true, true_and, and_false, false_and, or_true, true_or, or_false, false_or, reduceIte, eq_self]))
  | ((with_reducible refine' wo_iff ?h ?e ?k); (case h => walk_at "ev"); (case e => simp only [beq_self_eq_true, Bool.true_beq, Bool.false_beq, decide_eq_true_eq, decide_eq_false_iff_not, Bool.not_eq_true', Bool.not_eq_false', Bool.or_eq_true, Bool.and_eq_true, Bool.or_eq_false_iff, Bool.and_eq_false_imp, Bool.not_true, Bool.not_false, Bool.false_or, Bool.or_false, Bool.true_or, Bool.or_true, Bool.true_and, Bool.and_true, Bool.false_and, Bool.and_false, Bool.true_eq_false, Bool.false_eq_true, decide_true, decide_false, reduceCtorEq, D.isNone, Int.not_lt, Int.not_le, ne_eq, Decidable.not_not, not_true_eq_false, not_false_eq_true, false_implies, true_implies, implies_true, and_true, true_and, and_false, false_and, or_true, true_or, or_false, false_or, reduceIte, eq_self]))
  | (((with_reducible refine' wo_asg ?h1 ?k); (case h1 => walk_at "ev")); walk_at "es")
  | ((with_reducible refine' wo_ret ?h1 ?k); (case h1 => walk_at "ev"))
  | (((with_reducible refine' wo_tgt ?h1 ?h2 ?k); (case h1 => walk_at "ev"); (case h2 => exact rfl)); walk_at "es")
  | ((with_reducible refine' wo_nil ?k))
  | ((with_reducible refine' wo_raise ?k))
  | (((with_reducible refine' wo_own ?h1 ?k); (case h1 => walk_at "ev")); walk_at "es")
  | (((with_reducible refine' wo_asgL ?h1 ?k); (case h1 => walk_at "ev")); walk_at "es")
  | (((with_reducible refine' wo_app ?h1 ?h2 ?h3 ?k); (case h1 => exact rfl); (case h2 => walk_at "ev"); (case h3 => walk_at "len")); walk_at "es")
  | (((with_reducible refine' wo_par ?h1 ?h2 ?k); (case h1 => walk_at "ev"); (case h2 => walk_at "ev")); walk_at "es")
  | ((with_reducible refine wo_frz ?_); simp only [frz, List.getElem?_cons_zero, List.getElem?_cons_succ, List.set_cons_zero, List.set_cons_succ]))
local macro_rules | `(tactic| walk_at "st") => `(tactic| (walk_at "st1"; try dsimp only))
local macro_rules | `(tactic| walk_at "hs") => `(tactic| ((try simp only [beq_self_eq_true, Bool.true_beq, Bool.false_beq, decide_eq_true_eq, decide_eq_false_iff_not, Bool.not_eq_true', Bool.not_eq_false', Bool.or_eq_true, Bool.and_eq_true, Bool.or_eq_false_iff, Bool.and_eq_false_imp, Bool.not_true, Bool.not_false, Bool.false_or, Bool.or_false, Bool.true_or, Bool.or_true, Bool.true_and, Bool.and_true, Bool.false_and, Bool.and_false, Bool.true_eq_false, Bool.false_eq_true, decide_true, decide_false, reduceCtorEq, D.isNone, Int.not_lt, Int.not_le, ne_eq, Decidable.not_not, not_true_eq_false, not_false_eq_true, false_implies, true_implies, implies_true, and_true, true_and, and_false, false_and, or_true, true_or, or_false, false_or, reduceIte, eq_self]); exact rfl))
local macro_rules | `(tactic| walk_at "fls") => `(tactic| first | (with_reducible exact False.elim) | (with_reducible refine fun (_ : True) => ?_) | skip)
local macro_rules | `(tactic| walk_at "if") => `(tactic| ((with_reducible refine' wo_ifx ?h ?e1 ?e2 ?k1 ?k2); (case h => walk_at "ev"); (case e1 => walk_at "hs"); (case e2 => walk_at "hs"); (case' k1 => walk_at "fls"); (case' k2 => walk_at "fls")))
local macro_rules | `(tactic| walk_at "tt") => `(tactic| (try simp only [beq_self_eq_true, Bool.true_beq, Bool.false_beq, decide_eq_true_eq, decide_eq_false_iff_not, Bool.not_eq_true', Bool.not_eq_false', Bool.or_eq_true, Bool.and_eq_true, Bool.or_eq_false_iff, Bool.and_eq_false_imp, Bool.not_true, Bool.not_false, Bool.false_or, Bool.or_false, Bool.true_or, Bool.or_true, Bool.true_and, Bool.and_true, Bool.false_and, Bool.and_false, Bool.true_eq_false, Bool.false_eq_true, decide_true, decide_false, reduceCtorEq, D.isNone, Int.not_lt, Int.not_le, ne_eq, Decidable.not_not, not_true_eq_false, not_false_eq_true, false_implies, true_implies, implies_true, and_true, true_and, and_false, false_and, or_true, true_or, or_false, false_or, reduceIte, eq_self]))
local macro_rules | `(tactic| walk_at "hc") => `(tactic| simp only [beq_self_eq_true, Bool.true_beq, Bool.false_beq, decide_eq_true_eq, decide_eq_false_iff_not, Bool.not_eq_true', Bool.not_eq_false', Bool.or_eq_true, Bool.and_eq_true, Bool.or_eq_false_iff, Bool.and_eq_false_imp, Bool.not_true, Bool.not_false, Bool.false_or, Bool.or_false, Bool.true_or, Bool.or_true, Bool.true_and, Bool.and_true, Bool.false_and, Bool.and_false, Bool.true_eq_false, Bool.false_eq_true, decide_true, decide_false, reduceCtorEq, D.isNone, Int.not_lt, Int.not_le, ne_eq, Decidable.not_not, not_true_eq_false, not_false_eq_true, false_implies, true_implies, implies_true, and_true, true_and, and_false, false_and, or_true, true_or, or_false, false_or, reduceIte, eq_self] at *)
local macro_rules | `(tactic| walk_at "sts") => `(tactic| (walk_at "st"; try (walk_at "st"; try (walk_at "st"; try (walk_at "st"; try (walk_at "st"; try (walk_at "st"; try (walk_at "st"; try (walk_at "st"; try (walk_at "st"; try (walk_at "st"; try (walk_at "st"; try (walk_at "st"; try (walk_at "st"; try (walk_at "st"; try (walk_at "st"; try (walk_at "st"; try (walk_at "st"; try (walk_at "st"; try (walk_at "st"; try (walk_at "st"; try (walk_at "st"; try (walk_at "st"; try (walk_at "st"; try (walk_at "st"; try (walk_at "st"; try (walk_at "st"; try (walk_at "st"; try (walk_at "st"; try (walk_at "st"; try (walk_at "st"; try (walk_at "st"; try (walk_at "st"; try (walk_at "st"; try (walk_at "st"; try (walk_at "st"; try (walk_at "st"; try (walk_at "st"; try (walk_at "st"; try (walk_at "st"; try (walk_at "st"; try (walk_at "st"))))))))))))))))))))))))))))))))))))))))))
local macro_rules | `(tactic| walk_at "op") => `(tactic| first
  | with_reducible assumption
  | with_reducible exact dIs_nn
  | with_reducible exact dIs_pt _
  | with_reducible exact dIs_D3 _ _ _
  | with_reducible exact dIsN_nn
  | with_reducible exact dIsN_pt _
  | with_reducible exact dIsN_D3 _ _ _
  | ((with_reducible refine at_czm ?_); first | with_reducible assumption | omega)
  | ((with_reducible refine at_czm1 ?_); first | with_reducible assumption | omega)
  | ((with_reducible refine at_sides ?_); first | with_reducible assumption | omega)
  | ((with_reducible refine at_normals ?_); first | with_reducible assumption | omega)
  | ((with_reducible refine at_cz ?_ ?_) <;> first | with_reducible assumption | omega)
  | with_reducible exact dLen_scr _
  | with_reducible exact dLen_tup _
  | walk_at "opx")
local macro_rules | `(tactic| walk_at "opx") => `(tactic| first
  | with_reducible exact isi_bb _
  | with_reducible exact dIs_i _
  | with_reducible exact isi_u _
  | with_reducible exact dLen_u _
  | with_reducible exact dEqN_D3t _ _
  | with_reducible exact dEqE_D3t _ _
  | ((with_reducible refine at_lstI ?_ ?_) <;> first | with_reducible assumption | omega)
  | with_reducible exact dIs_D3t _
  | with_reducible exact dIsN_D3t _
  | with_reducible exact dAt_u0 _
  | with_reducible exact dAt_u1 _
  | with_reducible exact dAt_u2 _
  | with_reducible exact dIs_nn
  | with_reducible exact dIs_pt _
  | with_reducible exact dIs_D3 _ _ _
  | with_reducible exact dIs_lst _
  | with_reducible exact dIsN_nn
  | with_reducible exact dIsN_pt _
  | with_reducible exact dIsN_D3 _ _ _
  | with_reducible exact dLen_t2 _
  | with_reducible exact dLen_t3 _ _ _
  | with_reducible assumption)
local macro_rules | `(tactic| walk_at "bdq") => `(tactic| first
  | ((with_reducible refine' bd_cz ?h ?g _); (case h => first | with_reducible assumption | exact Body.bd (by with_reducible assumption)); (case g => first | with_reducible assumption | exact Body.pos (by with_reducible assumption) | omega)))
local macro_rules | `(tactic| walk_at "shp") => `(tactic| first
  | ((with_reducible refine' shp_mapL ?h _); (case h => (intro _; walk_at "shp"))))
local macro_rules | `(tactic| walk_at "rng") => `(tactic| first
  | ((with_reducible refine rngN ?_); walk_at "num"))
local macro_rules | `(tactic| walk_at "st1") => `(tactic| first
  | (((with_reducible refine' wo_ins ?h1 ?h2 ?h3 ?h4 ?h5 ?h6 ?k); (case h1 => exact rfl); (case h2 => walk_at "ev"); (case h3 => walk_at "ev"); (case h4 => walk_at "num"); (case h5 => walk_at "num"); (case h6 => walk_at "len")); walk_at "es"))
local macro_rules | `(tactic| walk_at "ev") => `(tactic| first
  | with_reducible exact ev_home _ _ _
  | ((with_reducible refine' ev_cutS ?h1 ?h2 ?h3); (case h1 => walk_at "ev"); (case h2 => walk_at "ev"); (case h3 => walk_at "ev"))
  | ((with_reducible refine' ev_ownLenM ?h1); (case h1 => exact rfl))
  | ((with_reducible refine' ev_revm ?h1); (case h1 => walk_at "ev"))
  | ((with_reducible refine' ev_rev ?h1); (case h1 => walk_at "ev"))
  | ((with_reducible refine' ev_lc6 ?h1 ?h2 ?h3 ?h4 ?h5 ?h6 ?h7); (case h1 => walk_at "ev"); (case h2 => exact ⟨_, rfl, by walk_at "ev"⟩); (case h3 => exact ⟨_, rfl, by walk_at "ev"⟩); (case h4 => exact ⟨_, rfl, by walk_at "ev"⟩); (case h5 => exact ⟨_, rfl, by walk_at "ev"⟩); (case h6 => exact ⟨_, rfl, by walk_at "ev"⟩); (case h7 => exact ⟨_, rfl, by walk_at "ev"⟩))
  | ((with_reducible refine' ev_lc8 ?h1 ?h2 ?h3 ?h4 ?h5 ?h6 ?h7 ?h8 ?h9); (case h1 => walk_at "ev"); (case h2 => exact ⟨_, rfl, by walk_at "ev"⟩); (case h3 => exact ⟨_, rfl, by walk_at "ev"⟩); (case h4 => exact ⟨_, rfl, by walk_at "ev"⟩); (case h5 => exact ⟨_, rfl, by walk_at "ev"⟩); (case h6 => exact ⟨_, rfl, by walk_at "ev"⟩); (case h7 => exact ⟨_, rfl, by walk_at "ev"⟩); (case h8 => exact ⟨_, rfl, by walk_at "ev"⟩); (case h9 => exact ⟨_, rfl, by walk_at "ev"⟩))
  | ((with_reducible refine' ev_lc3 ?h1 ?h2 ?h3 ?h4); (case h1 => walk_at "ev"); (case h2 => exact ⟨_, rfl, by walk_at "ev"⟩); (case h3 => exact ⟨_, rfl, by walk_at "ev"⟩); (case h4 => exact ⟨_, rfl, by walk_at "ev"⟩))
  | ((with_reducible refine' ev_lcN ?h1 ?h2 ?h3 ?h4); (case h1 => walk_at "ev"); (case h2 => walk_at "rng"); (case h3 => walk_at "len"); (case h4 => (intro _ _; exact ⟨_, rfl, by walk_at "ev"⟩))))
local macro_rules | `(tactic| walk_at "okt") => `(tactic| first
  | with_reducible assumption
  | ((with_reducible refine okT.take ?_ _); walk_at "okt")
  | ((with_reducible refine okT.drop ?_ _); walk_at "okt")
  | ((with_reducible refine okT.app ?_ ?_) <;> walk_at "okt")
  | ((with_reducible refine okT_numI _))
  | decide)
local macro_rules | `(tactic| walk_at "lenT") => `(tactic| first
  | with_reducible assumption
  | omega
  | ((simp only [List.length_append, List.length_cons, List.length_nil, List.length_take, List.length_drop]) <;> omega)
  | decide)
local macro_rules | `(tactic| walk_at "op") => `(tactic| first
  | ((with_reducible refine dEq_T ?_ ?_) <;> walk_at "okt")
  | ((with_reducible refine dNe_T ?_ ?_) <;> walk_at "okt")
  | ((with_reducible refine dLen_T ?_); walk_at "lenT")
  | ((with_reducible refine dAdd_T ?_); walk_at "lenT")
  | with_reducible exact dIn_T _ _
  | with_reducible exact dOrd_T _
  | ((with_reducible refine dAt_T0 ?_ ?_); (first | with_reducible assumption | decide); walk_at "lenT")
  | ((with_reducible refine dAt_Tn ?_ ?_) <;> walk_at "lenT")
  | ((with_reducible refine dStr_T ?_); walk_at "log")
  | with_reducible exact isi_T _
  | with_reducible exact dIs_T _
  | with_reducible exact dIsN_T _
  | with_reducible exact dIs_nnT
  | with_reducible exact dIsN_nnT
  | with_reducible exact dIs_iT _
  | with_reducible exact dIsN_iT _
  | with_reducible exact dIs_D2T _ _
  | with_reducible exact dIsN_D2T _ _)
local macro_rules | `(tactic| walk_at "ev") => `(tactic| first
  | with_reducible exact ev_lit lit_e
  | with_reducible exact ev_lit lit_m
  | with_reducible exact ev_lit lit_0
  | with_reducible exact ev_lit lit_s
  | with_reducible exact ev_lit lit_f
  | ((with_reducible refine' ev_cutTo1 ?h1 ?h2); (case h1 => walk_at "ev"); (case h2 => walk_at "lenT"))
  | ((with_reducible refine' ev_cutFrom1 ?h1 ?h2); (case h1 => walk_at "ev"); (case h2 => walk_at "lenT"))
  | ((with_reducible refine' ev_cutTo ?h1 ?h2 ?h3); (case h1 => walk_at "ev"); (case h2 => walk_at "ev"); (case h3 => walk_at "lenT"))
  | ((with_reducible refine' ev_cutFrom ?h1 ?h2 ?h3); (case h1 => walk_at "ev"); (case h2 => walk_at "ev"); (case h3 => walk_at "lenT")))
local macro_rules | `(tactic| walk_at "st1") => `(tactic| first
  | ((with_reducible refine' wo_ift ?h ?e ?k); (case h => walk_at "ev"); (case e => first | decide | (simp [D.isNone]; done)))
  | ((with_reducible refine' wo_iff ?h ?e ?k); (case h => walk_at "ev"); (case e => first | decide | (simp [D.isNone]; done))))
local macro_rules | `(tactic| walk_at "log") => `(tactic| ((with_reducible refine log_bd ?_); walk_at "dis"))
theorem lit_20b : D.str "0123456789-+, \n\t_a.;" = T [48, 49, 50, 51, 52, 53, 54, 55, 56, 57, 45, 43, 44, 32, 10, 9, 95, 97, 46, 59] := congrArg D.str (by decide +kernel)
theorem side_q {c : Int} (hc : Bd 210 c) : ∃ x, F__law_side [.int c] = .ok (.int x) ∧ Bd 200 x := by
  unfold F__law_side b__law_side
  suffices h : ∃ d, runF 1 _ [.int c] = .ok d ∧ ∃ x, d = .int x ∧ Bd 200 x by
    obtain ⟨d, h1, x, rfl, h2⟩ := h
    exact ⟨x, h1, h2⟩
  refine fn_ex ?_
  walk_at "start"
  walk_at "st"
  walk_at "if"
  case k1 =>
    intro _
    walk_at "sts"
    exact ⟨_, rfl, by walk_at "dis"⟩
  case k2 =>
    intro _
    walk_at "sts"
    exact ⟨_, rfl, by walk_at "dis"⟩
theorem point_text_q {c : Int} (hc : Bd 210 c) : ∃ l, F__law_point_text [.int c] = .ok (T l) ∧ okT l ∧ l.length ≤ 125 ∧ 0 < l.length := by
  obtain ⟨x, kx, bx⟩ := side_q hc
  have hc2 : Bd 210 (c / 243) := by walk_at "dis"
  obtain ⟨y, ky, bY⟩ := side_q hc2
  have lx := numI_len bx
  have ly := numI_len bY
  have sx : dStr [.int x] = some (T (numI x)) := dStr_T (log_bd (bx.mono (by decide)))
  have sy : dStr [.int y] = some (T (numI y)) := dStr_T (log_bd (bY.mono (by decide)))
  refine ⟨numI x ++ [44] ++ numI y, ?_, okT.app (okT.app (okT_numI _) (by decide)) (okT_numI _), by simp; omega, by simp; omega⟩
  unfold F__law_point_text b__law_point_text
  refine fn_ok ?_
  walk_at "start"
  refine wo_ret (ev_e2 (ev_e2 (ev_B (ev_cons (ev_F (ev_cons (ev_var rfl) ev_nil) kx) ev_nil) sx) (ev_lit lit_co) (dAdd_T (by rw [List.length_singleton]; omega))) (ev_B (ev_cons (ev_F (ev_cons (ev_e2 (ev_var rfl) (ev_c _) (dDiv_lit (by decide) (by decide))) ev_nil) ky) ev_nil) sy) (dAdd_T (by rw [List.length_append, List.length_singleton]; omega))) rfl
def Thing (d : D) : Prop := (∃ l, d = T l ∧ okT l ∧ l.length ≤ 100000) ∨ dIsi [d, .ty "str"] = some (.bl false)
theorem thing7 (l : List Nat) {q : Int} (h0 : 0 ≤ q) (h1 : q < 7) : ∃ d, dAt (.lst [.non, .int 7, .lst [T l], .tup [T l], .bl true, .dct [] [], .tup [.int 1, .int 2]]) (.int q) = some d ∧ dIsi [d, .ty "str"] = some (.bl false) := by
  have : q = 0 ∨ q = 1 ∨ q = 2 ∨ q = 3 ∨ q = 4 ∨ q = 5 ∨ q = 6 := by omega
  rcases this with rfl | rfl | rfl | rfl | rfl | rfl | rfl
  · exact ⟨_, rfl, isi_no (t := "NoneType") rfl (kb_no _ (by simp))⟩
  · exact ⟨_, rfl, isi_no (t := "int") rfl (kb_no _ (by simp))⟩
  · exact ⟨_, rfl, isi_no (t := "list") rfl (kb_no _ (by simp))⟩
  · exact ⟨_, rfl, isi_no (t := "tuple") rfl (kb_no _ (by simp))⟩
  · exact ⟨_, rfl, isi_no (t := "bool") rfl (kb_no _ (by simp))⟩
  · exact ⟨_, rfl, isi_no (t := "dict") rfl (kb_no _ (by simp))⟩
  · exact ⟨_, rfl, isi_no (t := "tuple") rfl (kb_no _ (by simp))⟩
theorem spoiled_q {l : List Nat} {c : Int} (ol : okT l) (ll : l.length ≤ 50000) (l0 : 0 < l.length) : ∃ d, F__law_spoiled [T l, .int c] = .ok d ∧ Thing d := by
  have hlen := dLen_T (a := l) (by omega)
  obtain ⟨j, hj⟩ : ∃ j : Nat, c / 7 % 20 = (j : Int) := ⟨(c / 7 % 20).toNat, (Int.toNat_of_nonneg (Int.emod_nonneg _ (by omega))).symm⟩
  have jl : j < 20 := by omega
  have sg : dAt (T [48, 49, 50, 51, 52, 53, 54, 55, 56, 57, 45, 43, 44, 32, 10, 9, 95, 97, 46, 59]) (.int (j : Int)) = some (T [([48, 49, 50, 51, 52, 53, 54, 55, 56, 57, 45, 43, 44, 32, 10, 9, 95, 97, 46, 59] : List Nat)[j]'(by simpa using jl)]) := dAt_Tn (by simpa using jl) (by decide)
  have os : okT [([48, 49, 50, 51, 52, 53, 54, 55, 56, 57, 45, 43, 44, 32, 10, 9, 95, 97, 46, 59] : List Nat)[j]'(by simpa using jl)] := okT.get (l := [48, 49, 50, 51, 52, 53, 54, 55, 56, 57, 45, 43, 44, 32, 10, 9, 95, 97, 46, 59]) (by decide) _
  generalize ([48, 49, 50, 51, 52, 53, 54, 55, 56, 57, 45, 43, 44, 32, 10, 9, 95, 97, 46, 59] : List Nat)[j]'(by simpa using jl) = s at *
  obtain ⟨m, hm⟩ : ∃ m : Nat, c / 140 % (l.length : Int) = (m : Int) := ⟨(c / 140 % (l.length : Int)).toNat, (Int.toNat_of_nonneg (Int.emod_nonneg _ (by omega))).symm⟩
  have ml : m < l.length := by have := Int.emod_lt_of_pos (c / 140) (show 0 < (l.length : Int) by omega); omega
  obtain ⟨m1, hm1⟩ : ∃ m : Nat, c / 140 % ((l.length : Int) + 1) = (m : Int) := ⟨(c / 140 % ((l.length : Int) + 1)).toNat, (Int.toNat_of_nonneg (Int.emod_nonneg _ (by omega))).symm⟩
  have d1 : dMod (.int (c / 140)) (.int (l.length : Int)) = some (.int (m : Int)) := by rw [dMod_int (by omega), hm]
  have d2 : dMod (.int (c / 140)) (.int ((l.length : Int) + 1)) = some (.int (m1 : Int)) := by rw [dMod_int (by omega), hm1]
  have q0 := Int.emod_nonneg (c / 140) (show (7 : Int) ≠ 0 by decide)
  have q1 := Int.emod_lt_of_pos (c / 140) (show (0 : Int) < 7 by decide)
  have lp : ∀ k, (l.take k).length ≤ 50000 := fun k => by rw [List.length_take]; omega
  have ld : ∀ k, (l.drop k).length ≤ 50000 := fun k => by rw [List.length_drop]; omega
  obtain ⟨d7, k7, n7⟩ := thing7 l q0 q1
  unfold F__law_spoiled b__law_spoiled
  refine fn_ex ?_
  walk_at "start"
  refine wo_seq (wo_asg (ev_e2 (ev_var rfl) (ev_c _) (dMod_int (by decide))) ?_)
  walk_at "es"
  refine wo_seq (wo_asg (ev_e2 (ev_lit lit_20b) (ev_e2 (ev_e2 (ev_var rfl) (ev_c _) (dDiv_lit (by decide) (by decide))) (ev_c _) (y := .int 20) (z := .int (j : Int)) (by rw [dMod_int (by decide), hj])) sg) ?_)
  walk_at "es"
  refine wo_seq (wo_asg (ev_e2 (ev_e2 (ev_var rfl) (ev_c _) (dDiv_lit (by decide) (by decide))) (ev_B (ev_cons (ev_var rfl) ev_nil) hlen) d1) ?_)
  walk_at "es"
  generalize c % 7 = k at *
  -- the slices
  have cT : eCut (eVar 0) oNone (oSome (eVar 4)) [.v (T l), .v (.int c), .v (.int k), .v (T [s]), .v (.int (m : Int))] = .ok (T (l.take m)) := ev_cutTo (ev_var rfl) (ev_var rfl) (by omega)
  have cF : eCut (eVar 0) (oSome (eVar 4)) oNone [.v (T l), .v (.int c), .v (.int k), .v (T [s]), .v (.int (m : Int))] = .ok (T (l.drop m)) := ev_cutFrom (ev_var rfl) (ev_var rfl) (by omega)
  have cG : eCut (eVar 0) (oSome (e2 dAdd (eVar 4) (eC (.int 1)))) oNone [.v (T l), .v (.int c), .v (.int k), .v (T [s]), .v (.int (m : Int))] = .ok (T (l.drop (m + 1))) := ev_cutFrom (k := m + 1) (ev_var rfl) (ev_e2 (ev_var rfl) (ev_c _) (dAdd_int _ _)) (by omega)
  have om : okT [l[m]] := ol.get ml
  walk_at "st"
  walk_at "if"
  case k1 =>
    intro _
    refine wo_seq (wo_asg (ev_e2 (ev_e2 (ev_var rfl) (ev_c _) (dDiv_lit (by decide) (by decide))) (ev_e2 (ev_B (ev_cons (ev_var rfl) ev_nil) hlen) (ev_c _) (dAdd_int _ _)) d2) ?_)
    walk_at "es"
    refine wo_ret (ev_e2 (ev_e2 (ev_cutTo (k := m1) (ev_var rfl) (ev_var rfl) (by omega)) (ev_var rfl) (dAdd_T (by have := lp m1; rw [List.length_singleton]; omega))) (ev_cutFrom (k := m1) (ev_var rfl) (ev_var rfl) (by omega)) (dAdd_T (by have := lp m1; have := ld m1; rw [List.length_append, List.length_singleton]; omega))) (.inl ⟨_, rfl, okT.app (okT.app (ol.take _) os) (ol.drop _), ?_⟩)
    rw [List.length_append, List.length_append, List.length_singleton, List.length_take, List.length_drop]
    omega
  case k2 =>
    intro _
    walk_at "st"
    walk_at "st"
    walk_at "if"
    case k1 =>
      intro _
      refine wo_ret (ev_e2 cT cG (dAdd_T (by have := lp m; have := ld (m + 1); omega))) (.inl ⟨_, rfl, okT.app (ol.take _) (ol.drop _), ?_⟩)
      rw [List.length_append, List.length_take, List.length_drop]
      omega
    case k2 =>
      intro _
      walk_at "st"
      walk_at "st"
      walk_at "if"
      case k1 =>
        intro _
        refine wo_ret (ev_e2 (ev_e2 cT (ev_e2 (ev_var rfl) (ev_var rfl) (dAt_Tn ml (by omega))) (dAdd_T (by have := lp m; rw [List.length_singleton]; omega))) cF (dAdd_T (by have := lp m; have := ld m; rw [List.length_append, List.length_singleton]; omega))) (.inl ⟨_, rfl, okT.app (okT.app (ol.take _) om) (ol.drop _), ?_⟩)
        rw [List.length_append, List.length_append, List.length_singleton, List.length_take, List.length_drop]
        omega
      case k2 =>
        intro _
        walk_at "st"
        walk_at "st"
        walk_at "if"
        case k1 =>
          intro _
          refine wo_ret (ev_e2 (ev_e2 cT (ev_var rfl) (dAdd_T (by have := lp m; rw [List.length_singleton]; omega))) cG (dAdd_T (by have := lp m; have := ld (m + 1); rw [List.length_append, List.length_singleton]; omega))) (.inl ⟨_, rfl, okT.app (okT.app (ol.take _) os) (ol.drop _), ?_⟩)
          rw [List.length_append, List.length_append, List.length_singleton, List.length_take, List.length_drop]
          omega
        case k2 =>
          intro _
          walk_at "st"
          walk_at "st"
          walk_at "if"
          case k1 =>
            intro _
            refine wo_ret (ev_e2 (ev_L (ev_lst (ev_cons (ev_c _) (ev_cons (ev_c _) (ev_cons (ev_L (ev_lst (ev_cons (ev_var rfl) ev_nil) (show 1 ≤ 16777216 by decide))) (ev_cons (ev_tup (ev_cons (ev_var rfl) ev_nil) (show 1 ≤ 16777216 by decide)) (ev_cons (ev_c _) (ev_cons (ev_c _) (ev_cons (ev_tup (ev_cons (ev_c _) (ev_cons (ev_c _) ev_nil)) (show 2 ≤ 16777216 by decide)) ev_nil))))))) (show 7 ≤ 16777216 by decide))) (ev_e2 (ev_e2 (ev_var rfl) (ev_c _) (dDiv_lit (by decide) (by decide))) (ev_c _) (dMod_int (by decide))) k7) (.inr n7)
          case k2 =>
            intro _
            walk_at "st"
            exact wo_ret (ev_var rfl) (Or.inl ⟨l, rfl, ol, by omega⟩)
theorem read_pt_no {d : D} (h : dIsi [d, .ty "str"] = some (.bl false)) : F_read_point [d] = .er "NoText" := by
  unfold F_read_point b_read_point
  refine fn_er ?_
  walk_at "start"
  walk_at "sts"
theorem read_pts_no {d : D} (h : dIsi [d, .ty "str"] = some (.bl false)) : F_read_points [d] = .er "NoText" := by
  unfold F_read_points b_read_points
  refine fn_er ?_
  walk_at "start"
  walk_at "sts"
theorem ptword_q {d : D} {o : Option D} (k : F_read_point [d] = orEr "NoText" o) : F__law_point_word [d] = .ok (wordD o) := by
  have kw := kind_text
  unfold F__law_point_word b__law_point_word
  refine fn_ok ?_
  walk_at "start"
  walk_at "st"
  walk_at "st"
  walk_at "st"
  walk_at "st"
  walk_at "st"
  cases o with
  | none =>
    change _ = R.er "NoText" at k
    have k0 : dIsNot (.exc "NoText") .non = some (.bl true) := rfl
    refine wo_tryE (asg_er (ev_Fer (ev_cons (ev_var rfl) ev_nil) k)) (by decide +kernel) (show 3 < 4 by decide) ?_
    walk_at "es"
    walk_at "sts"
    rfl
  | some r =>
    change _ = R.ok r at k
    refine wo_tryN (asg_ok (ev_F (ev_cons (ev_var rfl) ev_nil) k)) ?_
    walk_at "es"
    walk_at "sts"
    rfl
theorem ptsword_q {d : D} {o : Option D} (k : F_read_points [d] = orEr "NoText" o) : F__law_points_word [d] = .ok (wordD o) := by
  have kw := kind_text
  unfold F__law_points_word b__law_points_word
  refine fn_ok ?_
  walk_at "start"
  walk_at "st"
  walk_at "st"
  walk_at "st"
  walk_at "st"
  walk_at "st"
  cases o with
  | none =>
    change _ = R.er "NoText" at k
    have k0 : dIsNot (.exc "NoText") .non = some (.bl true) := rfl
    refine wo_tryE (asg_er (ev_Fer (ev_cons (ev_var rfl) ev_nil) k)) (by decide +kernel) (show 3 < 4 by decide) ?_
    walk_at "es"
    walk_at "sts"
    rfl
  | some r =>
    change _ = R.ok r at k
    refine wo_tryN (asg_ok (ev_F (ev_cons (ev_var rfl) ev_nil) k)) ?_
    walk_at "es"
    walk_at "sts"
    rfl
end Law
namespace Law
open PySem PySem.Spec PyProof.Rows L2 GD
def b_law : SM := sSeq (sAsg 1 (eF F__law_spoiled (aCons (eF F__law_point_text (aCons (eF F__law_cell (aCons (eVar 0) (aCons (eC (.int 1)) (aNil)))) (aNil))) (aCons (eF F__law_cell (aCons (eVar 0) (aCons (eC (.int 0)) (aNil)))) (aNil))))) (sSeq (sAsg 2 (eC (.str "text"))) (sSeq (sIf (mAnd (mB (eB dIsi (aCons (eVar 1) (aCons (eC (.ty "str")) (aNil))))) (mB (e2 dIsNot (eF F__law_point_due (aCons (eVar 1) (aNil))) (eC .non)))) (sAsg 2 (eL (aLst (aCons (eC (.str "told")) (aCons (eF F__law_point_due (aCons (eVar 1) (aNil))) (aNil)))))) (sNil)) (sSeq (sIf (mB (e2 dNe (eF F__law_point_word (aCons (eVar 1) (aNil))) (eVar 2))) (sRet (eC (.bl false))) (sNil)) (sSeq (sAsg 3 (eB dMax2 (aCons (eC (.int 1)) (aCons (eB dMin2 (aCons (e2 dSub (eB dLen (aCons (eVar 0) (aNil))) (eC (.int 3))) (aCons (eC (.int 30)) (aNil)))) (aNil))))) (sSeq (sAsg 4 (eJoin (eC (.str ";")) (eL (aLcR [5] (gNm 5) (mYes) (aCons (eVar 3) (aNil)) (eF F__law_point_text (aCons (eF F__law_cell (aCons (eVar 0) (aCons (e2 dAdd (eC (.int 3)) (eVar 5)) (aNil)))) (aNil))))))) (sSeq (sAsg 1 (eF F__law_spoiled (aCons (eVar 4) (aCons (eF F__law_cell (aCons (eVar 0) (aCons (eC (.int 2)) (aNil)))) (aNil))))) (sSeq (sAsg 2 (eC (.str "text"))) (sSeq (sIf (mAnd (mB (eB dIsi (aCons (eVar 1) (aCons (eC (.ty "str")) (aNil))))) (mB (e2 dIsNot (eF F__law_points_due (aCons (eVar 1) (aNil))) (eC .non)))) (sAsg 2 (eL (aLst (aCons (eC (.str "told")) (aCons (eF F__law_points_due (aCons (eVar 1) (aNil))) (aNil)))))) (sNil)) (sRet (e2 dEq (eF F__law_points_word (aCons (eVar 1) (aNil))) (eVar 2)))))))))))
def F_law : List D → R D := runF 6 b_law
end Law
namespace Law
open PySem PySem.Spec PyProof.Rows L2 GD
def topS (i : Nat) : Stmt := PySem.Challenge.pw_glide_k47_points_read.main.body.getD i (.Pass ⟨0, 0, 0, 0⟩)
structure Txt (K : PySem.W.Frag) (mg : Str → Option Value) (C_Crowded : Addr) (C_Flat : Addr) (C_GlideError : Addr) (C_NoName : Addr) (C_NoNumber : Addr) (C_NoRow : Addr) (C_NoText : Addr) (C_Past : Addr) (C_Twice : Addr) : Prop where
  z_ValueError : mg "ValueError" = none
  z_all : mg "all" = none
  z_int : mg "int" = none
  z_isinstance : mg "isinstance" = none
  z_len : mg "len" = none
  z_max : mg "max" = none
  z_min : mg "min" = none
  z_ord : mg "ord" = none
  z_range : mg "range" = none
  z_str : mg "str" = none
  k_FIGURES : KCS mg "FIGURES" "0123456789"
  g_Crowded : mg "Crowded" = some (.ref C_Crowded)
  kc_Crowded : PySem.W.keepIn K (.ref C_Crowded) = true
  b_Crowded : PySem.W.subIn K (.ref C_Crowded) (.type "BaseException") = some true
  t_Crowded : PySem.W.typeIn K (.ref C_Crowded) = some (.type "type")
  g_Flat : mg "Flat" = some (.ref C_Flat)
  kc_Flat : PySem.W.keepIn K (.ref C_Flat) = true
  b_Flat : PySem.W.subIn K (.ref C_Flat) (.type "BaseException") = some true
  t_Flat : PySem.W.typeIn K (.ref C_Flat) = some (.type "type")
  g_GlideError : mg "GlideError" = some (.ref C_GlideError)
  kc_GlideError : PySem.W.keepIn K (.ref C_GlideError) = true
  b_GlideError : PySem.W.subIn K (.ref C_GlideError) (.type "BaseException") = some true
  t_GlideError : PySem.W.typeIn K (.ref C_GlideError) = some (.type "type")
  g_NoName : mg "NoName" = some (.ref C_NoName)
  kc_NoName : PySem.W.keepIn K (.ref C_NoName) = true
  b_NoName : PySem.W.subIn K (.ref C_NoName) (.type "BaseException") = some true
  t_NoName : PySem.W.typeIn K (.ref C_NoName) = some (.type "type")
  g_NoNumber : mg "NoNumber" = some (.ref C_NoNumber)
  kc_NoNumber : PySem.W.keepIn K (.ref C_NoNumber) = true
  b_NoNumber : PySem.W.subIn K (.ref C_NoNumber) (.type "BaseException") = some true
  t_NoNumber : PySem.W.typeIn K (.ref C_NoNumber) = some (.type "type")
  g_NoRow : mg "NoRow" = some (.ref C_NoRow)
  kc_NoRow : PySem.W.keepIn K (.ref C_NoRow) = true
  b_NoRow : PySem.W.subIn K (.ref C_NoRow) (.type "BaseException") = some true
  t_NoRow : PySem.W.typeIn K (.ref C_NoRow) = some (.type "type")
  g_NoText : mg "NoText" = some (.ref C_NoText)
  x_NoText : PySem.W.excIn K C_NoText [.type "ValueError", .type "Exception", .type "BaseException", .type "object"] "ValueError.__new__" = true
  kc_NoText : PySem.W.keepIn K (.ref C_NoText) = true
  b_NoText : PySem.W.subIn K (.ref C_NoText) (.type "BaseException") = some true
  t_NoText : PySem.W.typeIn K (.ref C_NoText) = some (.type "type")
  g_Past : mg "Past" = some (.ref C_Past)
  kc_Past : PySem.W.keepIn K (.ref C_Past) = true
  b_Past : PySem.W.subIn K (.ref C_Past) (.type "BaseException") = some true
  t_Past : PySem.W.typeIn K (.ref C_Past) = some (.type "type")
  g_Twice : mg "Twice" = some (.ref C_Twice)
  kc_Twice : PySem.W.keepIn K (.ref C_Twice) = true
  b_Twice : PySem.W.subIn K (.ref C_Twice) (.type "BaseException") = some true
  t_Twice : PySem.W.typeIn K (.ref C_Twice) = some (.type "type")
  m_NoText : PySem.W.exmOne K (.ref C_NoText) (.ref C_GlideError) = some true
  v_NoText : ExcC K C_NoText
  w_NoText : PySem.W.kitOne K (.ref C_NoText) (.type "ValueError") = some true
  q_NoText_Crowded : PySem.W.kitOne K (.ref C_NoText) (.ref C_Crowded) = some false
  q_NoText_Flat : PySem.W.kitOne K (.ref C_NoText) (.ref C_Flat) = some false
  q_NoText_NoName : PySem.W.kitOne K (.ref C_NoText) (.ref C_NoName) = some false
  q_NoText_NoNumber : PySem.W.kitOne K (.ref C_NoText) (.ref C_NoNumber) = some false
  q_NoText_NoRow : PySem.W.kitOne K (.ref C_NoText) (.ref C_NoRow) = some false
  q_NoText_NoText : PySem.W.kitOne K (.ref C_NoText) (.ref C_NoText) = some true
  q_NoText_Past : PySem.W.kitOne K (.ref C_NoText) (.ref C_Past) = some false
  q_NoText_Twice : PySem.W.kitOne K (.ref C_NoText) (.ref C_Twice) = some false
section
variable {K : PySem.W.Frag} {mg : Str → Option Value} {C_Crowded : Addr} {C_Flat : Addr} {C_GlideError : Addr} {C_NoName : Addr} {C_NoNumber : Addr} {C_NoRow : Addr} {C_NoText : Addr} {C_Past : Addr} {C_Twice : Addr}
theorem xct (T : Txt K mg C_Crowded C_Flat C_GlideError C_NoName C_NoNumber C_NoRow C_NoText C_Past C_Twice) : ∀ y cls, xCt14 y = true → mg y = some cls → PySem.W.exmOne K cls (.ref C_GlideError) = some true := by
  intro y cls h e
  unfold xCt14 at h
  have h2 := List.contains_iff_mem.mp h
  simp only [List.mem_cons, List.not_mem_nil, or_false] at h2
  rcases h2 with rfl
  · cases e.symm.trans T.g_NoText; exact T.m_NoText
theorem exh (T : Txt K mg C_Crowded C_Flat C_GlideError C_NoName C_NoNumber C_NoRow C_NoText C_Past C_Twice) : ExH K mg xLy14 xLc14 xLt14 where
  c := (all_cons ⟨C_NoText, C_Crowded, T.g_NoText, T.g_Crowded, T.q_NoText_Crowded⟩ (all_cons ⟨C_NoText, C_Flat, T.g_NoText, T.g_Flat, T.q_NoText_Flat⟩ (all_cons ⟨C_NoText, C_NoName, T.g_NoText, T.g_NoName, T.q_NoText_NoName⟩ (all_cons ⟨C_NoText, C_NoNumber, T.g_NoText, T.g_NoNumber, T.q_NoText_NoNumber⟩ (all_cons ⟨C_NoText, C_NoRow, T.g_NoText, T.g_NoRow, T.q_NoText_NoRow⟩ (all_cons ⟨C_NoText, C_NoText, T.g_NoText, T.g_NoText, T.q_NoText_NoText⟩ (all_cons ⟨C_NoText, C_Past, T.g_NoText, T.g_Past, T.q_NoText_Past⟩ (all_cons ⟨C_NoText, C_Twice, T.g_NoText, T.g_Twice, T.q_NoText_Twice⟩ (fun _ h => nomatch h)))))))))
  t := (all_cons ⟨C_NoText, T.g_NoText, T.w_NoText⟩ (fun _ h => nomatch h))
  x := (all_cons ⟨C_NoText, T.g_NoText, T.v_NoText⟩ (fun _ h => nomatch h))
end
abbrev s_read_number : Stmt := topS 12
abbrev N_read_number : List Str := ["text", "figures", "sign"]
theorem sc_read_number : FnScope N_read_number ["text"] (defScope s_read_number) := ⟨rfl, rfl, rfl, by decide +kernel, rfl, by decide +kernel, by decide +kernel⟩
abbrev s_read_point : Stmt := topS 13
abbrev N_read_point : List Str := ["text", "words"]
theorem sc_read_point : FnScope N_read_point ["text"] (defScope s_read_point) := ⟨rfl, rfl, rfl, by decide +kernel, rfl, by decide +kernel, by decide +kernel⟩
abbrev s_read_points : Stmt := topS 14
abbrev N_read_points : List Str := ["text", "word"]
theorem sc_read_points : FnScope N_read_points ["text"] (defScope s_read_points) := ⟨rfl, rfl, rfl, by decide +kernel, rfl, by decide +kernel, by decide +kernel⟩
abbrev s__law_cell : Stmt := topS 16
abbrev N__law_cell : List Str := ["script", "k", "number", "cell"]
theorem sc__law_cell : FnScope N__law_cell ["script", "k"] (defScope s__law_cell) := ⟨rfl, rfl, rfl, by decide +kernel, rfl, by decide +kernel, by decide +kernel⟩
abbrev s__law_number_due : Stmt := topS 17
abbrev N__law_number_due : List Str := ["word", "figures", "number", "sign"]
theorem sc__law_number_due : FnScope N__law_number_due ["word"] (defScope s__law_number_due) := ⟨rfl, rfl, rfl, by decide +kernel, rfl, by decide +kernel, by decide +kernel⟩
abbrev s__law_cut_at : Stmt := topS 18
abbrev N__law_cut_at : List Str := ["text", "mark", "words", "sign"]
theorem sc__law_cut_at : FnScope N__law_cut_at ["text", "mark"] (defScope s__law_cut_at) := ⟨rfl, rfl, rfl, by decide +kernel, rfl, by decide +kernel, by decide +kernel⟩
abbrev s__law_side : Stmt := topS 19
abbrev N__law_side : List Str := ["cell"]
theorem sc__law_side : FnScope N__law_side ["cell"] (defScope s__law_side) := ⟨rfl, rfl, rfl, by decide +kernel, rfl, by decide +kernel, by decide +kernel⟩
abbrev s__law_point_text : Stmt := topS 20
abbrev N__law_point_text : List Str := ["cell"]
theorem sc__law_point_text : FnScope N__law_point_text ["cell"] (defScope s__law_point_text) := ⟨rfl, rfl, rfl, by decide +kernel, rfl, by decide +kernel, by decide +kernel⟩
abbrev s__law_point_due : Stmt := topS 21
abbrev N__law_point_due : List Str := ["text", "words", "x", "y"]
theorem sc__law_point_due : FnScope N__law_point_due ["text"] (defScope s__law_point_due) := ⟨rfl, rfl, rfl, by decide +kernel, rfl, by decide +kernel, by decide +kernel⟩
abbrev s__law_points_due : Stmt := topS 22
abbrev N__law_points_due : List Str := ["text", "told", "word"]
theorem sc__law_points_due : FnScope N__law_points_due ["text"] (defScope s__law_points_due) := ⟨rfl, rfl, rfl, by decide +kernel, rfl, by decide +kernel, by decide +kernel⟩
abbrev s__law_spoiled : Stmt := topS 23
abbrev N__law_spoiled : List Str := ["text", "cell", "kind", "sign", "at"]
theorem sc__law_spoiled : FnScope N__law_spoiled ["text", "cell"] (defScope s__law_spoiled) := ⟨rfl, rfl, rfl, by decide +kernel, rfl, by decide +kernel, by decide +kernel⟩
abbrev s__law_kind : Stmt := topS 24
abbrev N__law_kind : List Str := ["e"]
theorem sc__law_kind : FnScope N__law_kind ["e"] (defScope s__law_kind) := ⟨rfl, rfl, rfl, by decide +kernel, rfl, by decide +kernel, by decide +kernel⟩
abbrev s__law_point_word : Stmt := topS 25
abbrev N__law_point_word : List Str := ["thing", "error", "found", "e"]
theorem sc__law_point_word : FnScope N__law_point_word ["thing"] (defScope s__law_point_word) := ⟨rfl, rfl, rfl, by decide +kernel, rfl, by decide +kernel, by decide +kernel⟩
abbrev s__law_points_word : Stmt := topS 26
abbrev N__law_points_word : List Str := ["thing", "error", "found", "e"]
theorem sc__law_points_word : FnScope N__law_points_word ["thing"] (defScope s__law_points_word) := ⟨rfl, rfl, rfl, by decide +kernel, rfl, by decide +kernel, by decide +kernel⟩
abbrev s_law : Stmt := topS 27
abbrev N_law : List Str := ["script", "word", "due", "many", "text", "k"]
theorem sc_law : FnScope N_law ["script"] (defScope s_law) := ⟨rfl, rfl, rfl, by decide +kernel, rfl, by decide +kernel, by decide +kernel⟩
section
variable {P : Program} {w : World} {K : PySem.W.Frag} {mg : Str → Option Value} {base : Heap} {C_Crowded : Addr} {C_Flat : Addr} {C_GlideError : Addr} {C_NoName : Addr} {C_NoNumber : Addr} {C_NoRow : Addr} {C_NoText : Addr} {C_Past : Addr} {C_Twice : Addr}
theorem ok_read_number {f : Addr} {fd : FuncData} (F : Fun K "read_number" "read_number" s_read_number f fd) (T : Txt K mg C_Crowded C_Flat C_GlideError C_NoName C_NoNumber C_NoRow C_NoText C_Past C_Twice) : FnOk P w K mg base (L2.CX P w) 1 f fd ["text"] (spD K mg 1 F_read_number) :=
  fnOk_mk F sc_read_number fun cdv A outer s H E hr => pbd_cons (psd_if (ptd_not (ptd_val (ped_callB calld_isi (by rfl) T.z_isinstance bb_isinstance (pad_cons (ped_var (i := 0) rfl (Or.inl rfl)) (pad_cons (ped_bltn (v := .ty "str") rfl T.z_str bb_str rfl (fun _ => .ty _)) (pad_nil)))) (by intro _; rfl))) (pbd_one (psd_raise rfl (takes_of rfl rfl rfl rfl) PySem.F.excBase_ValueError T.x_NoText T.g_NoText T.kc_NoText (raises_own T.b_NoText T.t_NoText) rfl)) (pbd_nil)) (pbd_cons (psd_set (i := 1) sc_read_number.nd rfl (Or.inl rfl) (ped_var (i := 0) rfl (Or.inl rfl))) (pbd_cons (psd_if (ptd_cmp (opd_eq hr.units) (ped_cut (ped_var (i := 0) rfl (Or.inl rfl)) (pod_none) (pod_some (ped_int))) (ped_str) (nomark _)) (pbd_one (psd_set (i := 1) sc_read_number.nd rfl (Or.inl rfl) (ped_cut (ped_var (i := 0) rfl (Or.inl rfl)) (pod_some (ped_int)) (pod_none)))) (pbd_nil)) (pbd_cons (psd_if (pwd_pt (pwd_or (ptd_cmp (opd_lt hr.units0) (ped_callB calld_len (by rfl) T.z_len bb_len (pad_cons (ped_var (i := 1) rfl (Or.inl rfl)) (pad_nil))) (ped_int) (nomark _)) (pwd_or1 (ptd_cmp (opd_gt) (ped_callB calld_len (by rfl) T.z_len bb_len (pad_cons (ped_var (i := 1) rfl (Or.inl rfl)) (pad_nil))) (ped_int) (nomark _))))) (pbd_one (psd_raise rfl (takes_of rfl rfl rfl rfl) PySem.F.excBase_ValueError T.x_NoText T.g_NoText T.kc_NoText (raises_own T.b_NoText T.t_NoText) rfl)) (pbd_nil)) (pbd_cons (psd_if (ptd_not (ptd_val (ped_callB (calld_all rfl) (by rfl) T.z_all bb_all (pad_cons (ped_new (pfd_lc rfl sc_read_number.nd (lcd_S (own := [("sign", 2)]) (ped_var (i := 1) rfl (Or.inl rfl)) (blkOk_by (own := [("sign", 2)]) (N := N_read_number) (sc := defScope s_read_number) (by decide +kernel)) (fun _ _ _ _ _ => pgv_name (i := 2) sc_read_number.nd rfl (Or.inl rfl) (by decide)) (fun _ _ _ _ _ => ptsd_nil) (fun _ _ _ _ _ => ped_cmp (opd_in (hr_in hr)) (ped_var (i := 2) rfl (Or.inl rfl)) ((T.k_FIGURES).ped rfl) (by rfl))))) (pad_nil))) (by intro _; rfl))) (pbd_one (psd_raise rfl (takes_of rfl rfl rfl rfl) PySem.F.excBase_ValueError T.x_NoText T.g_NoText T.kc_NoText (raises_own T.b_NoText T.t_NoText) rfl)) (pbd_nil)) (pbd_cons (psd_if (pwd_pt (pwd_and (ptd_cmp (opd_eq hr.units) (ped_ix (ped_var (i := 1) rfl (Or.inl rfl)) (ped_int) (fun _ _ => rfl)) (ped_str) (nomark _)) (pwd_and1 (ptd_cmp (opd_ne hr.units) (ped_var (i := 0) rfl (Or.inl rfl)) (ped_str) (nomark _))))) (pbd_one (psd_raise rfl (takes_of rfl rfl rfl rfl) PySem.F.excBase_ValueError T.x_NoText T.g_NoText T.kc_NoText (raises_own T.b_NoText T.t_NoText) rfl)) (pbd_nil)) (pbd_one (psd_ret (ped_callT calld_intS (by rfl) T.z_int bb_int (pad_cons (ped_var (i := 0) rfl (Or.inl rfl)) (pad_nil))))))))))
theorem ok_read_point {f : Addr} {fd : FuncData} (F : Fun K "read_point" "read_point" s_read_point f fd) (T : Txt K mg C_Crowded C_Flat C_GlideError C_NoName C_NoNumber C_NoRow C_NoText C_Past C_Twice) (h_read_number : FnD P w K mg base 1 "read_number" ["text"] F_read_number) : FnOk P w K mg base (L2.CX P w) 2 f fd ["text"] (spD K mg 1 F_read_point) :=
  fnOk_mk F sc_read_point fun cdv A outer s H E hr => pbd_cons (psd_if (ptd_not (ptd_val (ped_callB calld_isi (by rfl) T.z_isinstance bb_isinstance (pad_cons (ped_var (i := 0) rfl (Or.inl rfl)) (pad_cons (ped_bltn (v := .ty "str") rfl T.z_str bb_str rfl (fun _ => .ty _)) (pad_nil)))) (by intro _; rfl))) (pbd_one (psd_raise rfl (takes_of rfl rfl rfl rfl) PySem.F.excBase_ValueError T.x_NoText T.g_NoText T.kc_NoText (raises_own T.b_NoText T.t_NoText) rfl)) (pbd_nil)) (pbd_cons (psd_set (i := 1) sc_read_point.nd rfl (Or.inl rfl) (ped_new (pfd_split (ped_var (i := 0) rfl (Or.inl rfl)) (ped_str)))) (pbd_cons (psd_if (ptd_cmp (opd_ne hr.units) (ped_callB calld_len (by rfl) T.z_len bb_len (pad_cons (ped_var (i := 1) rfl (Or.inl rfl)) (pad_nil))) (ped_int) (nomark _)) (pbd_one (psd_raise rfl (takes_of rfl rfl rfl rfl) PySem.F.excBase_ValueError T.x_NoText T.g_NoText T.kc_NoText (raises_own T.b_NoText T.t_NoText) rfl)) (pbd_nil)) (pbd_one (psd_ret (ped_tup (pad_cons (ped_call h_read_number (hr.mono (by decide)) (takes_of rfl rfl rfl rfl) (by rfl) (pad_cons (ped_ix (ped_var (i := 1) rfl (Or.inl rfl)) (ped_int) (fun _ _ => rfl)) (pad_nil)) (aCons_len aNil_len)) (pad_cons (ped_call h_read_number (hr.mono (by decide)) (takes_of rfl rfl rfl rfl) (by rfl) (pad_cons (ped_ix (ped_var (i := 1) rfl (Or.inl rfl)) (ped_int) (fun _ _ => rfl)) (pad_nil)) (aCons_len aNil_len)) (pad_nil))))))))
theorem ok_read_points {f : Addr} {fd : FuncData} (F : Fun K "read_points" "read_points" s_read_points f fd) (T : Txt K mg C_Crowded C_Flat C_GlideError C_NoName C_NoNumber C_NoRow C_NoText C_Past C_Twice) (h_read_point : FnD P w K mg base 2 "read_point" ["text"] F_read_point) : FnOk P w K mg base (L2.CX P w) 3 f fd ["text"] (spD K mg 1 F_read_points) :=
  fnOk_mk F sc_read_points fun cdv A outer s H E hr => pbd_cons (psd_if (ptd_not (ptd_val (ped_callB calld_isi (by rfl) T.z_isinstance bb_isinstance (pad_cons (ped_var (i := 0) rfl (Or.inl rfl)) (pad_cons (ped_bltn (v := .ty "str") rfl T.z_str bb_str rfl (fun _ => .ty _)) (pad_nil)))) (by intro _; rfl))) (pbd_one (psd_raise rfl (takes_of rfl rfl rfl rfl) PySem.F.excBase_ValueError T.x_NoText T.g_NoText T.kc_NoText (raises_own T.b_NoText T.t_NoText) rfl)) (pbd_nil)) (pbd_one (psd_ret (ped_new (pfd_lcE (own := [("word", 1)]) rfl rfl (takes_of rfl rfl rfl rfl) rfl sc_read_points.nd (ped_new (pfd_split (ped_var (i := 0) rfl (Or.inl rfl)) (ped_str))) (blkOk_by (own := [("word", 1)]) (N := N_read_points) (sc := defScope s_read_points) (by decide +kernel)) (fun _ _ _ _ _ => pgv_name (i := 1) sc_read_points.nd rfl (Or.inl rfl) (by decide)) (fun _ _ _ _ _ => ped_call h_read_point (hr.mono (by decide)) takes_blk (by rfl) (pad_cons (ped_var (i := 1) rfl (Or.inl rfl)) (pad_nil)) (aCons_len aNil_len))))))
theorem ok__law_cell {f : Addr} {fd : FuncData} (F : Fun K "_law_cell" "_law_cell" s__law_cell f fd) (T : Txt K mg C_Crowded C_Flat C_GlideError C_NoName C_NoNumber C_NoRow C_NoText C_Past C_Twice) : FnOk P w K mg base (L2.CX P w) 1 f fd ["script", "k"] (spD K mg 2 F__law_cell) :=
  fnOk_mk F sc__law_cell fun cdv A outer s H E hr => pbd_cons (psd_if (ptd_cmp (opd_lt hr.units0) (ped_var (i := 1) rfl (Or.inl rfl)) (ped_callB calld_len (by rfl) T.z_len bb_len (pad_cons (ped_var (i := 0) rfl (Or.inl rfl)) (pad_nil))) (nomark _)) (pbd_one (psd_ret (ped_op opd_mod (ped_ix (ped_var (i := 0) rfl (Or.inl rfl)) (ped_var (i := 1) rfl (Or.inl rfl)) (fun _ _ => rfl)) (ped_const (ped_op opd_pow (ped_int) (ped_int)) (fun _ => rfl))))) (pbd_nil)) (pbd_cons (psd_set (i := 2) sc__law_cell.nd rfl (Or.inl rfl) (ped_op opd_add (ped_op opd_mul (ped_var (i := 1) rfl (Or.inl rfl)) (ped_int)) (ped_int))) (pbd_cons (psd_forL (passes_of rfl) rfl (ped_new (pfd_cut (ped_var (i := 0) rfl (Or.inl rfl)) (pod_none) (pod_some (ped_int)))) (pgd_name (i := 3) sc__law_cell.nd rfl (Or.inl rfl)) (pbd_one (psd_set (i := 2) sc__law_cell.nd rfl (Or.inl rfl) (ped_op opd_add (ped_op opd_mul (ped_var (i := 2) rfl (Or.inl rfl)) (ped_int)) (ped_op opd_mod (ped_var (i := 3) rfl (Or.inl rfl)) (ped_int)))))) (pbd_cons (psd_set (i := 2) sc__law_cell.nd rfl (Or.inl rfl) (ped_op opd_mod (ped_var (i := 2) rfl (Or.inl rfl)) (ped_int))) (pbd_one (psd_ret (ped_op opd_mod (ped_op opd_mul (ped_var (i := 2) rfl (Or.inl rfl)) (ped_var (i := 2) rfl (Or.inl rfl))) (ped_int)))))))
theorem ok__law_number_due {f : Addr} {fd : FuncData} (F : Fun K "_law_number_due" "_law_number_due" s__law_number_due f fd) (T : Txt K mg C_Crowded C_Flat C_GlideError C_NoName C_NoNumber C_NoRow C_NoText C_Past C_Twice) : FnOk P w K mg base (L2.CX P w) 1 f fd ["word"] (spD K mg 1 F__law_number_due) :=
  fnOk_mk F sc__law_number_due fun cdv A outer s H E hr => pbd_cons (psd_set (i := 1) sc__law_number_due.nd rfl (Or.inl rfl) (ped_var (i := 0) rfl (Or.inl rfl))) (pbd_cons (psd_if (ptd_cmp (opd_eq hr.units) (ped_cut (ped_var (i := 0) rfl (Or.inl rfl)) (pod_none) (pod_some (ped_int))) (ped_str) (nomark _)) (pbd_one (psd_set (i := 1) sc__law_number_due.nd rfl (Or.inl rfl) (ped_cut (ped_var (i := 0) rfl (Or.inl rfl)) (pod_some (ped_int)) (pod_none)))) (pbd_nil)) (pbd_cons (psd_if (pwd_pt (pwd_or (ptd_cmp (opd_eq hr.units) (ped_var (i := 1) rfl (Or.inl rfl)) (ped_str) (nomark _)) (pwd_or (ptd_cmp (opd_gt) (ped_callB calld_len (by rfl) T.z_len bb_len (pad_cons (ped_var (i := 1) rfl (Or.inl rfl)) (pad_nil))) (ped_int) (nomark _)) (pwd_or1 (pwd_pt (pwd_and (ptd_cmp (opd_eq hr.units) (ped_ix (ped_var (i := 1) rfl (Or.inl rfl)) (ped_int) (fun _ _ => rfl)) (ped_str) (nomark _)) (pwd_and1 (ptd_cmp (opd_ne hr.units) (ped_var (i := 0) rfl (Or.inl rfl)) (ped_str) (nomark _))))))))) (pbd_one (psd_ret (ped_non))) (pbd_nil)) (pbd_cons (psd_set (i := 2) sc__law_number_due.nd rfl (Or.inl rfl) (ped_int)) (pbd_cons (psd_forS (passes_of rfl) rfl (ped_var (i := 1) rfl (Or.inl rfl)) (pgd_name (i := 3) sc__law_number_due.nd rfl (Or.inl rfl)) (pbd_cons (psd_if (pwd_pt (pwd_or (ptd_cmp (opd_lt hr.units0) (ped_callB calld_ord (by rfl) T.z_ord bb_ord (pad_cons (ped_var (i := 3) rfl (Or.inl rfl)) (pad_nil))) (ped_int) (nomark _)) (pwd_or1 (ptd_cmp (opd_gt) (ped_callB calld_ord (by rfl) T.z_ord bb_ord (pad_cons (ped_var (i := 3) rfl (Or.inl rfl)) (pad_nil))) (ped_int) (nomark _))))) (pbd_one (psd_ret (ped_non))) (pbd_nil)) (pbd_one (psd_set (i := 2) sc__law_number_due.nd rfl (Or.inl rfl) (ped_op opd_sub (ped_op opd_add (ped_op opd_mul (ped_int) (ped_var (i := 2) rfl (Or.inl rfl))) (ped_callB calld_ord (by rfl) T.z_ord bb_ord (pad_cons (ped_var (i := 3) rfl (Or.inl rfl)) (pad_nil)))) (ped_int)))))) (pbd_cons (psd_if (ptd_cmp (opd_eq hr.units) (ped_cut (ped_var (i := 0) rfl (Or.inl rfl)) (pod_none) (pod_some (ped_int))) (ped_str) (nomark _)) (pbd_one (psd_ret (ped_op opd_sub (ped_int) (ped_var (i := 2) rfl (Or.inl rfl))))) (pbd_nil)) (pbd_one (psd_ret (ped_var (i := 2) rfl (Or.inl rfl)))))))))
theorem ok__law_cut_at {f : Addr} {fd : FuncData} (F : Fun K "_law_cut_at" "_law_cut_at" s__law_cut_at f fd) (T : Txt K mg C_Crowded C_Flat C_GlideError C_NoName C_NoNumber C_NoRow C_NoText C_Past C_Twice) : FnOk P w K mg base (L2.CX P w) 1 f fd ["text", "mark"] (spD K mg 2 F__law_cut_at) :=
  fnOk_mk F sc__law_cut_at fun cdv A outer s H E hr => pbd_cons (psd_own (i := 2) sc__law_cut_at.nd rfl (Or.inl rfl) (pfd_lst (pad_cons (ped_str) (pad_nil)))) (pbd_cons (psd_forS (passes_of rfl) rfl (ped_var (i := 0) rfl (Or.inl rfl)) (pgd_name (i := 3) sc__law_cut_at.nd rfl (Or.inl rfl)) (pbd_one (psd_if (ptd_cmp (opd_eq hr.units) (ped_var (i := 3) rfl (Or.inl rfl)) (ped_var (i := 1) rfl (Or.inl rfl)) (nomark _)) (pbd_one (psd_app (i := 2) rfl (Or.inl rfl) (ped_str))) (pbd_one (psd_put (i := 2) rfl (Or.inl rfl) (ped_const (ped_neg (ped_int)) (fun _ => rfl)) (ped_op opd_add (ped_ownAt (i := 2) rfl (Or.inl rfl) (ped_const (ped_neg (ped_int)) (fun _ => rfl)) (fun _ _ => rfl)) (ped_var (i := 3) rfl (Or.inl rfl)))))))) (pbd_one (psd_frz 2 (psd_ret (ped_var (i := 2) rfl (Or.inl rfl))))))
theorem ok__law_side {f : Addr} {fd : FuncData} (F : Fun K "_law_side" "_law_side" s__law_side f fd) (T : Txt K mg C_Crowded C_Flat C_GlideError C_NoName C_NoNumber C_NoRow C_NoText C_Past C_Twice) : FnOk P w K mg base (L2.CX P w) 1 f fd ["cell"] (spD K mg 1 F__law_side) :=
  fnOk_mk F sc__law_side fun cdv A outer s H E hr => pbd_cons (psd_if (ptd_cmp (opd_gt) (ped_op opd_mod (ped_var (i := 0) rfl (Or.inl rfl)) (ped_int)) (ped_int) (nomark _)) (pbd_one (psd_ret (ped_op opd_sub (ped_op opd_mod (ped_op opd_div (ped_var (i := 0) rfl (Or.inl rfl)) (ped_int)) (ped_int)) (ped_int)))) (pbd_nil)) (pbd_one (psd_ret (ped_op opd_sub (ped_op opd_mod (ped_op opd_div (ped_var (i := 0) rfl (Or.inl rfl)) (ped_int)) (ped_const (ped_op opd_pow (ped_int) (ped_int)) (fun _ => rfl))) (ped_const (ped_op opd_mul (ped_int) (ped_const (ped_op opd_pow (ped_int) (ped_int)) (fun _ => rfl))) (fun _ => rfl)))))
theorem ok__law_point_text {f : Addr} {fd : FuncData} (F : Fun K "_law_point_text" "_law_point_text" s__law_point_text f fd) (T : Txt K mg C_Crowded C_Flat C_GlideError C_NoName C_NoNumber C_NoRow C_NoText C_Past C_Twice) (h__law_side : FnD P w K mg base 1 "_law_side" ["cell"] F__law_side) : FnOk P w K mg base (L2.CX P w) 2 f fd ["cell"] (spD K mg 1 F__law_point_text) :=
  fnOk_mk F sc__law_point_text fun cdv A outer s H E hr => pbd_one (psd_ret (ped_op opd_add (ped_op opd_add (ped_callT calld_str (by rfl) T.z_str bb_str (pad_cons (ped_call h__law_side (hr.mono (by decide)) (takes_of rfl rfl rfl rfl) (by rfl) (pad_cons (ped_var (i := 0) rfl (Or.inl rfl)) (pad_nil)) (aCons_len aNil_len)) (pad_nil))) (ped_str)) (ped_callT calld_str (by rfl) T.z_str bb_str (pad_cons (ped_call h__law_side (hr.mono (by decide)) (takes_of rfl rfl rfl rfl) (by rfl) (pad_cons (ped_op opd_div (ped_var (i := 0) rfl (Or.inl rfl)) (ped_int)) (pad_nil)) (aCons_len aNil_len)) (pad_nil)))))
theorem ok__law_point_due {f : Addr} {fd : FuncData} (F : Fun K "_law_point_due" "_law_point_due" s__law_point_due f fd) (T : Txt K mg C_Crowded C_Flat C_GlideError C_NoName C_NoNumber C_NoRow C_NoText C_Past C_Twice) (h__law_cut_at : FnD P w K mg base 1 "_law_cut_at" ["text", "mark"] F__law_cut_at) (h__law_number_due : FnD P w K mg base 1 "_law_number_due" ["word"] F__law_number_due) : FnOk P w K mg base (L2.CX P w) 2 f fd ["text"] (spD K mg 1 F__law_point_due) :=
  fnOk_mk F sc__law_point_due fun cdv A outer s H E hr => pbd_cons (psd_set (i := 1) sc__law_point_due.nd rfl (Or.inl rfl) (ped_call h__law_cut_at (hr.mono (by decide)) (takes_of rfl rfl rfl rfl) (by rfl) (pad_cons (ped_var (i := 0) rfl (Or.inl rfl)) (pad_cons (ped_str) (pad_nil))) (aCons_len (aCons_len aNil_len)))) (pbd_cons (psd_if (ptd_cmp (opd_ne hr.units) (ped_callB calld_len (by rfl) T.z_len bb_len (pad_cons (ped_var (i := 1) rfl (Or.inl rfl)) (pad_nil))) (ped_int) (nomark _)) (pbd_one (psd_ret (ped_non))) (pbd_nil)) (pbd_cons (psd_set (i := 2) sc__law_point_due.nd rfl (Or.inl rfl) (ped_call h__law_number_due (hr.mono (by decide)) (takes_of rfl rfl rfl rfl) (by rfl) (pad_cons (ped_ix (ped_var (i := 1) rfl (Or.inl rfl)) (ped_int) (fun _ _ => rfl)) (pad_nil)) (aCons_len aNil_len))) (pbd_cons (psd_set (i := 3) sc__law_point_due.nd rfl (Or.inl rfl) (ped_call h__law_number_due (hr.mono (by decide)) (takes_of rfl rfl rfl rfl) (by rfl) (pad_cons (ped_ix (ped_var (i := 1) rfl (Or.inl rfl)) (ped_int) (fun _ _ => rfl)) (pad_nil)) (aCons_len aNil_len))) (pbd_cons (psd_if (pwd_pt (pwd_or (ptd_cmp (opd_is) (ped_var (i := 2) rfl (Or.inl rfl)) (ped_non) (nomark _)) (pwd_or1 (ptd_cmp (opd_is) (ped_var (i := 3) rfl (Or.inl rfl)) (ped_non) (nomark _))))) (pbd_one (psd_ret (ped_non))) (pbd_nil)) (pbd_one (psd_ret (ped_tup (pad_cons (ped_var (i := 2) rfl (Or.inl rfl)) (pad_cons (ped_var (i := 3) rfl (Or.inl rfl)) (pad_nil))))))))))
theorem ok__law_points_due {f : Addr} {fd : FuncData} (F : Fun K "_law_points_due" "_law_points_due" s__law_points_due f fd) (T : Txt K mg C_Crowded C_Flat C_GlideError C_NoName C_NoNumber C_NoRow C_NoText C_Past C_Twice) (h__law_point_due : FnD P w K mg base 2 "_law_point_due" ["text"] F__law_point_due) (h__law_cut_at : FnD P w K mg base 1 "_law_cut_at" ["text", "mark"] F__law_cut_at) : FnOk P w K mg base (L2.CX P w) 3 f fd ["text"] (spD K mg 1 F__law_points_due) :=
  fnOk_mk F sc__law_points_due fun cdv A outer s H E hr => pbd_cons (psd_setL (i := 1) rfl sc__law_points_due.nd rfl rfl (lcd_L (own := [("word", 2)]) (ped_call h__law_cut_at (hr.mono (by decide)) (takes_of rfl rfl rfl rfl) (by rfl) (pad_cons (ped_var (i := 0) rfl (Or.inl rfl)) (pad_cons (ped_str) (pad_nil))) (aCons_len (aCons_len aNil_len))) (blkOk_by (own := [("word", 2)]) (N := N__law_points_due) (sc := defScope s__law_points_due) (by decide +kernel)) (fun _ _ _ _ _ => pgv_name (i := 2) sc__law_points_due.nd rfl (Or.inl rfl) (by decide)) (fun _ _ _ _ _ => ptsd_nil) (fun _ _ _ _ _ => ped_call h__law_point_due (hr.mono (by decide)) takes0 (by rfl) (pad_cons (ped_var (i := 2) rfl (Or.inl rfl)) (pad_nil)) (aCons_len aNil_len))) (sw_true rfl rfl rfl (by decide +kernel))) (pbd_cons (psd_if (ptd_cmp (opd_in (hr_in hr)) (ped_non) (ped_var (i := 1) rfl (Or.inl rfl)) (by rfl)) (pbd_one (psd_ret (ped_non))) (pbd_nil)) (pbd_one (psd_ret (ped_var (i := 1) rfl (Or.inl rfl)))))
theorem ok__law_spoiled {f : Addr} {fd : FuncData} (F : Fun K "_law_spoiled" "_law_spoiled" s__law_spoiled f fd) (T : Txt K mg C_Crowded C_Flat C_GlideError C_NoName C_NoNumber C_NoRow C_NoText C_Past C_Twice) : FnOk P w K mg base (L2.CX P w) 1 f fd ["text", "cell"] (spD K mg 2 F__law_spoiled) :=
  fnOk_mk F sc__law_spoiled fun cdv A outer s H E hr => pbd_cons (psd_set (i := 2) sc__law_spoiled.nd rfl (Or.inl rfl) (ped_op opd_mod (ped_var (i := 1) rfl (Or.inl rfl)) (ped_int))) (pbd_cons (psd_set (i := 3) sc__law_spoiled.nd rfl (Or.inl rfl) (ped_ix (ped_str) (ped_op opd_mod (ped_op opd_div (ped_var (i := 1) rfl (Or.inl rfl)) (ped_int)) (ped_int)) (fun _ _ => rfl))) (pbd_cons (psd_set (i := 4) sc__law_spoiled.nd rfl (Or.inl rfl) (ped_op opd_mod (ped_op opd_div (ped_var (i := 1) rfl (Or.inl rfl)) (ped_int)) (ped_callB calld_len (by rfl) T.z_len bb_len (pad_cons (ped_var (i := 0) rfl (Or.inl rfl)) (pad_nil))))) (pbd_cons (psd_if (ptd_cmp (opd_eq hr.units) (ped_var (i := 2) rfl (Or.inl rfl)) (ped_int) (nomark _)) (pbd_cons (psd_set (i := 4) sc__law_spoiled.nd rfl (Or.inl rfl) (ped_op opd_mod (ped_op opd_div (ped_var (i := 1) rfl (Or.inl rfl)) (ped_int)) (ped_op opd_add (ped_callB calld_len (by rfl) T.z_len bb_len (pad_cons (ped_var (i := 0) rfl (Or.inl rfl)) (pad_nil))) (ped_int)))) (pbd_one (psd_ret (ped_op opd_add (ped_op opd_add (ped_cut (ped_var (i := 0) rfl (Or.inl rfl)) (pod_none) (pod_some (ped_var (i := 4) rfl (Or.inl rfl)))) (ped_var (i := 3) rfl (Or.inl rfl))) (ped_cut (ped_var (i := 0) rfl (Or.inl rfl)) (pod_some (ped_var (i := 4) rfl (Or.inl rfl))) (pod_none)))))) (pbd_nil)) (pbd_cons (psd_if (ptd_cmp (opd_eq hr.units) (ped_var (i := 2) rfl (Or.inl rfl)) (ped_int) (nomark _)) (pbd_one (psd_ret (ped_op opd_add (ped_cut (ped_var (i := 0) rfl (Or.inl rfl)) (pod_none) (pod_some (ped_var (i := 4) rfl (Or.inl rfl)))) (ped_cut (ped_var (i := 0) rfl (Or.inl rfl)) (pod_some (ped_op opd_add (ped_var (i := 4) rfl (Or.inl rfl)) (ped_int))) (pod_none))))) (pbd_nil)) (pbd_cons (psd_if (ptd_cmp (opd_eq hr.units) (ped_var (i := 2) rfl (Or.inl rfl)) (ped_int) (nomark _)) (pbd_one (psd_ret (ped_op opd_add (ped_op opd_add (ped_cut (ped_var (i := 0) rfl (Or.inl rfl)) (pod_none) (pod_some (ped_var (i := 4) rfl (Or.inl rfl)))) (ped_ix (ped_var (i := 0) rfl (Or.inl rfl)) (ped_var (i := 4) rfl (Or.inl rfl)) (fun _ _ => rfl))) (ped_cut (ped_var (i := 0) rfl (Or.inl rfl)) (pod_some (ped_var (i := 4) rfl (Or.inl rfl))) (pod_none))))) (pbd_nil)) (pbd_cons (psd_if (ptd_cmp (opd_eq hr.units) (ped_var (i := 2) rfl (Or.inl rfl)) (ped_int) (nomark _)) (pbd_one (psd_ret (ped_op opd_add (ped_op opd_add (ped_cut (ped_var (i := 0) rfl (Or.inl rfl)) (pod_none) (pod_some (ped_var (i := 4) rfl (Or.inl rfl)))) (ped_var (i := 3) rfl (Or.inl rfl))) (ped_cut (ped_var (i := 0) rfl (Or.inl rfl)) (pod_some (ped_op opd_add (ped_var (i := 4) rfl (Or.inl rfl)) (ped_int))) (pod_none))))) (pbd_nil)) (pbd_cons (psd_if (pwd_pt (pwd_and (ptd_cmp (opd_eq hr.units) (ped_var (i := 2) rfl (Or.inl rfl)) (ped_int) (nomark _)) (pwd_and1 (ptd_cmp (opd_eq hr.units) (ped_op opd_mod (ped_op opd_div (ped_var (i := 1) rfl (Or.inl rfl)) (ped_int)) (ped_int)) (ped_int) (nomark _))))) (pbd_one (psd_ret (ped_ix (ped_new (pfd_lst (pad_cons (ped_non) (pad_cons (ped_int) (pad_cons (ped_new (pfd_lst (pad_cons (ped_var (i := 0) rfl (Or.inl rfl)) (pad_nil)))) (pad_cons (ped_tup (pad_cons (ped_var (i := 0) rfl (Or.inl rfl)) (pad_nil))) (pad_cons (ped_bl) (pad_cons (ped_dnew) (pad_cons (ped_tup (pad_cons (ped_int) (pad_cons (ped_int) (pad_nil)))) (pad_nil)))))))))) (ped_op opd_mod (ped_op opd_div (ped_var (i := 1) rfl (Or.inl rfl)) (ped_int)) (ped_int)) (fun _ _ => rfl)))) (pbd_nil)) (pbd_one (psd_ret (ped_var (i := 0) rfl (Or.inl rfl)))))))))))
theorem ok__law_kind {f : Addr} {fd : FuncData} (F : Fun K "_law_kind" "_law_kind" s__law_kind f fd) (T : Txt K mg C_Crowded C_Flat C_GlideError C_NoName C_NoNumber C_NoRow C_NoText C_Past C_Twice) : FnOk P w K mg base (L2.CX P w) 1 f fd ["e"] (spD K mg 1 F__law_kind) :=
  fnOk_mk F sc__law_kind fun cdv A outer s H E hr => pbd_cons (psd_if (pwd_pt (pwd_or (ptd_not (ptd_val (ped_callB (calld_isX (exh T)) (by rfl) T.z_isinstance bb_isinstance (pad_cons (ped_var (i := 0) rfl (Or.inl rfl)) (pad_cons (ped_bltn (v := .ty "ValueError") rfl T.z_ValueError bb_ValueError rfl (fun _ => .ty _)) (pad_nil)))) (by intro _; rfl))) (pwd_or1 (ptd_not (ptd_val (ped_callB (calld_isX (exh T)) (by rfl) T.z_isinstance bb_isinstance (pad_cons (ped_var (i := 0) rfl (Or.inl rfl)) (pad_cons (ped_glob (v := .ref C_NoText) rfl T.g_NoText rfl (fun _ => .cls T.g_NoText)) (pad_nil)))) (by intro _; rfl)))))) (pbd_one (psd_ret (ped_str))) (pbd_nil)) (pbd_cons (psd_if (ptd_val (ped_callB (calld_isX (exh T)) (by rfl) T.z_isinstance bb_isinstance (pad_cons (ped_var (i := 0) rfl (Or.inl rfl)) (pad_cons (ped_tup (pad_cons (ped_glob (v := .ref C_NoNumber) rfl T.g_NoNumber rfl (fun _ => .cls T.g_NoNumber)) (pad_cons (ped_glob (v := .ref C_Flat) rfl T.g_Flat rfl (fun _ => .cls T.g_Flat)) (pad_cons (ped_glob (v := .ref C_Crowded) rfl T.g_Crowded rfl (fun _ => .cls T.g_Crowded)) (pad_cons (ped_glob (v := .ref C_NoName) rfl T.g_NoName rfl (fun _ => .cls T.g_NoName)) (pad_cons (ped_glob (v := .ref C_Twice) rfl T.g_Twice rfl (fun _ => .cls T.g_Twice)) (pad_cons (ped_glob (v := .ref C_Past) rfl T.g_Past rfl (fun _ => .cls T.g_Past)) (pad_cons (ped_glob (v := .ref C_NoRow) rfl T.g_NoRow rfl (fun _ => .cls T.g_NoRow)) (pad_nil))))))))) (pad_nil)))) (by intro _; rfl)) (pbd_one (psd_ret (ped_str))) (pbd_nil)) (pbd_one (psd_ret (ped_str))))
theorem ok__law_point_word {f : Addr} {fd : FuncData} (F : Fun K "_law_point_word" "_law_point_word" s__law_point_word f fd) (T : Txt K mg C_Crowded C_Flat C_GlideError C_NoName C_NoNumber C_NoRow C_NoText C_Past C_Twice) (h_read_point : FnD P w K mg base 2 "read_point" ["text"] F_read_point) (h__law_kind : FnD P w K mg base 1 "_law_kind" ["e"] F__law_kind) : FnOk P w K mg base (L2.CX P w) 3 f fd ["thing"] (spD K mg 1 F__law_point_word) :=
  fnOk_mk F sc__law_point_word fun cdv A outer s H E hr => pbd_cons (psd_set (i := 1) sc__law_point_word.nd rfl (Or.inl rfl) (ped_non)) (pbd_cons (psd_set (i := 2) sc__law_point_word.nd rfl (Or.inl rfl) (ped_non)) (pbd_cons (psd_try (i := 3) (j := 1) (xct T) rfl rfl sc__law_point_word.nd rfl rfl ⟨by rfl, by decide, .inl T.g_GlideError⟩ (Or.inl rfl) rfl (Or.inl rfl) (fun Wn pn xe tk ps => pbd_one (psd_set (i := 2) sc__law_point_word.nd rfl (Or.inl rfl) (ped_call h_read_point (hr.mono (by decide)) tk (by rfl) (pad_cons (ped_var (i := 0) rfl (Or.inl rfl)) (pad_nil)) (aCons_len aNil_len))))) (pbd_cons (psd_if (ptd_cmp (opd_isNot) (ped_var (i := 1) rfl (Or.inl rfl)) (ped_non) (nomark _)) (pbd_one (psd_ret (ped_call h__law_kind (hr.mono (by decide)) (takes_of rfl rfl rfl rfl) (by rfl) (pad_cons (ped_var (i := 1) rfl (Or.inl rfl)) (pad_nil)) (aCons_len aNil_len)))) (pbd_nil)) (pbd_one (psd_ret (ped_new (pfd_lst (pad_cons (ped_str) (pad_cons (ped_var (i := 2) rfl (Or.inl rfl)) (pad_nil))))))))))
theorem ok__law_points_word {f : Addr} {fd : FuncData} (F : Fun K "_law_points_word" "_law_points_word" s__law_points_word f fd) (T : Txt K mg C_Crowded C_Flat C_GlideError C_NoName C_NoNumber C_NoRow C_NoText C_Past C_Twice) (h_read_points : FnD P w K mg base 3 "read_points" ["text"] F_read_points) (h__law_kind : FnD P w K mg base 1 "_law_kind" ["e"] F__law_kind) : FnOk P w K mg base (L2.CX P w) 4 f fd ["thing"] (spD K mg 1 F__law_points_word) :=
  fnOk_mk F sc__law_points_word fun cdv A outer s H E hr => pbd_cons (psd_set (i := 1) sc__law_points_word.nd rfl (Or.inl rfl) (ped_non)) (pbd_cons (psd_set (i := 2) sc__law_points_word.nd rfl (Or.inl rfl) (ped_non)) (pbd_cons (psd_try (i := 3) (j := 1) (xct T) rfl rfl sc__law_points_word.nd rfl rfl ⟨by rfl, by decide, .inl T.g_GlideError⟩ (Or.inl rfl) rfl (Or.inl rfl) (fun Wn pn xe tk ps => pbd_one (psd_set (i := 2) sc__law_points_word.nd rfl (Or.inl rfl) (ped_call h_read_points (hr.mono (by decide)) tk (by rfl) (pad_cons (ped_var (i := 0) rfl (Or.inl rfl)) (pad_nil)) (aCons_len aNil_len))))) (pbd_cons (psd_if (ptd_cmp (opd_isNot) (ped_var (i := 1) rfl (Or.inl rfl)) (ped_non) (nomark _)) (pbd_one (psd_ret (ped_call h__law_kind (hr.mono (by decide)) (takes_of rfl rfl rfl rfl) (by rfl) (pad_cons (ped_var (i := 1) rfl (Or.inl rfl)) (pad_nil)) (aCons_len aNil_len)))) (pbd_nil)) (pbd_one (psd_ret (ped_new (pfd_lst (pad_cons (ped_str) (pad_cons (ped_var (i := 2) rfl (Or.inl rfl)) (pad_nil))))))))))
theorem ok_law {f : Addr} {fd : FuncData} (F : Fun K "law" "law" s_law f fd) (T : Txt K mg C_Crowded C_Flat C_GlideError C_NoName C_NoNumber C_NoRow C_NoText C_Past C_Twice) (h__law_spoiled : FnD P w K mg base 1 "_law_spoiled" ["text", "cell"] F__law_spoiled) (h__law_point_text : FnD P w K mg base 2 "_law_point_text" ["cell"] F__law_point_text) (h__law_cell : FnD P w K mg base 1 "_law_cell" ["script", "k"] F__law_cell) (h__law_point_word : FnD P w K mg base 3 "_law_point_word" ["thing"] F__law_point_word) (h__law_points_word : FnD P w K mg base 4 "_law_points_word" ["thing"] F__law_points_word) (h__law_point_due : FnD P w K mg base 2 "_law_point_due" ["text"] F__law_point_due) (h__law_points_due : FnD P w K mg base 3 "_law_points_due" ["text"] F__law_points_due) : FnOk P w K mg base (L2.CX P w) 5 f fd ["script"] (spD K mg 1 F_law) :=
  fnOk_mk F sc_law fun cdv A outer s H E hr => pbd_cons (psd_set (i := 1) sc_law.nd rfl (Or.inl rfl) (ped_call h__law_spoiled (hr.mono (by decide)) (takes_of rfl rfl rfl rfl) (by rfl) (pad_cons (ped_call h__law_point_text (hr.mono (by decide)) (takes_of rfl rfl rfl rfl) (by rfl) (pad_cons (ped_call h__law_cell (hr.mono (by decide)) (takes_of rfl rfl rfl rfl) (by rfl) (pad_cons (ped_var (i := 0) rfl (Or.inr (Or.inl rfl))) (pad_cons (ped_int) (pad_nil))) (aCons_len (aCons_len aNil_len))) (pad_nil)) (aCons_len aNil_len)) (pad_cons (ped_call h__law_cell (hr.mono (by decide)) (takes_of rfl rfl rfl rfl) (by rfl) (pad_cons (ped_var (i := 0) rfl (Or.inr (Or.inl rfl))) (pad_cons (ped_int) (pad_nil))) (aCons_len (aCons_len aNil_len))) (pad_nil))) (aCons_len (aCons_len aNil_len)))) (pbd_cons (psd_set (i := 2) sc_law.nd rfl (Or.inl rfl) (ped_str)) (pbd_cons (psd_if (pwd_pt (pwd_and (ptd_val (ped_callB calld_isi (by rfl) T.z_isinstance bb_isinstance (pad_cons (ped_var (i := 1) rfl (Or.inl rfl)) (pad_cons (ped_bltn (v := .ty "str") rfl T.z_str bb_str rfl (fun _ => .ty _)) (pad_nil)))) (by intro _; rfl)) (pwd_and1 (ptd_cmp (opd_isNot) (ped_call h__law_point_due (hr.mono (by decide)) (takes_of rfl rfl rfl rfl) (by rfl) (pad_cons (ped_var (i := 1) rfl (Or.inl rfl)) (pad_nil)) (aCons_len aNil_len)) (ped_non) (nomark _))))) (pbd_one (psd_set (i := 2) sc_law.nd rfl (Or.inl rfl) (ped_new (pfd_lst (pad_cons (ped_str) (pad_cons (ped_call h__law_point_due (hr.mono (by decide)) (takes_of rfl rfl rfl rfl) (by rfl) (pad_cons (ped_var (i := 1) rfl (Or.inl rfl)) (pad_nil)) (aCons_len aNil_len)) (pad_nil))))))) (pbd_nil)) (pbd_cons (psd_if (ptd_cmp (opd_ne hr.units) (ped_call h__law_point_word (hr.mono (by decide)) (takes_of rfl rfl rfl rfl) (by rfl) (pad_cons (ped_var (i := 1) rfl (Or.inl rfl)) (pad_nil)) (aCons_len aNil_len)) (ped_var (i := 2) rfl (Or.inl rfl)) (nomark _)) (pbd_one (psd_ret (ped_bl))) (pbd_nil)) (pbd_cons (psd_set (i := 3) sc_law.nd rfl (Or.inl rfl) (ped_callB (calld_max2 rfl) (by rfl) T.z_max bb_max (pad_cons (ped_int) (pad_cons (ped_callB (calld_min2 rfl) (by rfl) T.z_min bb_min (pad_cons (ped_op opd_sub (ped_callB calld_len (by rfl) T.z_len bb_len (pad_cons (ped_var (i := 0) rfl (Or.inr (Or.inl rfl))) (pad_nil))) (ped_int)) (pad_cons (ped_int) (pad_nil)))) (pad_nil))))) (pbd_cons (psd_set (i := 4) sc_law.nd rfl (Or.inl rfl) (ped_join (ped_str) (ped_new (pfd_lc rfl sc_law.nd (lcd_1 (own := [("k", 5)]) (by rfl) T.z_range (pad_cons (ped_var (i := 3) rfl (Or.inl rfl)) (pad_nil)) (aCons_len aNil_len) (blkOk_by (own := [("k", 5)]) (N := N_law) (sc := defScope s_law) (by decide +kernel)) (fun _ _ _ _ _ => pgv_name (i := 5) sc_law.nd rfl (Or.inl rfl) (by decide)) (fun _ _ _ _ _ => ptsd_nil) (fun _ _ _ _ _ => ped_call h__law_point_text (hr.mono (by decide)) takes0 (by rfl) (pad_cons (ped_call h__law_cell (hr.mono (by decide)) takes0 (by rfl) (pad_cons (ped_var (i := 0) rfl (Or.inr (Or.inl rfl))) (pad_cons (ped_op opd_add (ped_int) (ped_var (i := 5) rfl (Or.inl rfl))) (pad_nil))) (aCons_len (aCons_len aNil_len))) (pad_nil)) (aCons_len aNil_len))))))) (pbd_cons (psd_set (i := 1) sc_law.nd rfl (Or.inl rfl) (ped_call h__law_spoiled (hr.mono (by decide)) (takes_of rfl rfl rfl rfl) (by rfl) (pad_cons (ped_var (i := 4) rfl (Or.inl rfl)) (pad_cons (ped_call h__law_cell (hr.mono (by decide)) (takes_of rfl rfl rfl rfl) (by rfl) (pad_cons (ped_var (i := 0) rfl (Or.inr (Or.inl rfl))) (pad_cons (ped_int) (pad_nil))) (aCons_len (aCons_len aNil_len))) (pad_nil))) (aCons_len (aCons_len aNil_len)))) (pbd_cons (psd_set (i := 2) sc_law.nd rfl (Or.inl rfl) (ped_str)) (pbd_cons (psd_if (pwd_pt (pwd_and (ptd_val (ped_callB calld_isi (by rfl) T.z_isinstance bb_isinstance (pad_cons (ped_var (i := 1) rfl (Or.inl rfl)) (pad_cons (ped_bltn (v := .ty "str") rfl T.z_str bb_str rfl (fun _ => .ty _)) (pad_nil)))) (by intro _; rfl)) (pwd_and1 (ptd_cmp (opd_isNot) (ped_call h__law_points_due (hr.mono (by decide)) (takes_of rfl rfl rfl rfl) (by rfl) (pad_cons (ped_var (i := 1) rfl (Or.inl rfl)) (pad_nil)) (aCons_len aNil_len)) (ped_non) (nomark _))))) (pbd_one (psd_set (i := 2) sc_law.nd rfl (Or.inl rfl) (ped_new (pfd_lst (pad_cons (ped_str) (pad_cons (ped_call h__law_points_due (hr.mono (by decide)) (takes_of rfl rfl rfl rfl) (by rfl) (pad_cons (ped_var (i := 1) rfl (Or.inl rfl)) (pad_nil)) (aCons_len aNil_len)) (pad_nil))))))) (pbd_nil)) (pbd_one (psd_ret (ped_cmp (opd_eq hr.units) (ped_call h__law_points_word (hr.mono (by decide)) (takes_of rfl rfl rfl rfl) (by rfl) (pad_cons (ped_var (i := 1) rfl (Or.inl rfl)) (pad_nil)) (aCons_len aNil_len)) (ped_var (i := 2) rfl (Or.inl rfl)) (nomark _))))))))))))
end
theorem all_mk {l : PySem.W.OpenLaw} {w : World} {K : PySem.W.Frag} {h : Heap} {mg : Str → Option Value} {fa f0 f1 f2 f3 f4 f5 f6 f7 f8 f9 f10 f11 f12 f13 f14 C_Crowded C_Flat C_GlideError C_NoName C_NoNumber C_NoRow C_NoText C_Past C_Twice : Addr} (X : K.In h) (G : h.Ns mainGlobals mg) (hfa : mg "law" = some (.ref fa))
    {tK_FIGURES : Tok}
    {od0 an0 od1 an1 od2 an2 od3 an3 od4 an4 od5 an5 od6 an6 od7 an7 od8 an8 od9 an9 od10 an10 od11 an11 od12 an12 od13 an13 od14 an14 : Option Addr} {sl0 sl1 sl2 sl3 sl4 sl5 sl6 sl7 sl8 sl9 sl10 sl11 sl12 sl13 sl14 : Array (Option Value)} {oc0 kV0 dc0 pm0 cd0 ct0 oc1 kV1 dc1 pm1 cd1 ct1 oc2 kV2 dc2 pm2 cd2 ct2 oc3 kV3 dc3 pm3 cd3 ct3 oc4 kV4 dc4 pm4 cd4 ct4 oc5 kV5 dc5 pm5 cd5 ct5 oc6 kV6 dc6 pm6 cd6 ct6 oc7 kV7 dc7 pm7 cd7 ct7 oc8 kV8 dc8 pm8 cd8 ct8 oc9 kV9 dc9 pm9 cd9 ct9 oc10 kV10 dc10 pm10 cd10 ct10 oc11 kV11 dc11 pm11 cd11 ct11 oc12 kV12 dc12 pm12 cd12 ct12 oc13 kV13 dc13 pm13 cd13 ct13 oc14 kV14 dc14 pm14 cd14 ct14 : Value}
    (gC_Crowded : PySem.W.nsIn K mainGlobals "Crowded" = some (some (.ref C_Crowded)))
    (kC_Crowded : PySem.W.keepIn K (.ref C_Crowded) = true)
    (bC_Crowded : PySem.W.subIn K (.ref C_Crowded) (.type "BaseException") = some true)
    (tC_Crowded : PySem.W.typeIn K (.ref C_Crowded) = some (.type "type"))
    (gC_Flat : PySem.W.nsIn K mainGlobals "Flat" = some (some (.ref C_Flat)))
    (kC_Flat : PySem.W.keepIn K (.ref C_Flat) = true)
    (bC_Flat : PySem.W.subIn K (.ref C_Flat) (.type "BaseException") = some true)
    (tC_Flat : PySem.W.typeIn K (.ref C_Flat) = some (.type "type"))
    (gC_GlideError : PySem.W.nsIn K mainGlobals "GlideError" = some (some (.ref C_GlideError)))
    (kC_GlideError : PySem.W.keepIn K (.ref C_GlideError) = true)
    (bC_GlideError : PySem.W.subIn K (.ref C_GlideError) (.type "BaseException") = some true)
    (tC_GlideError : PySem.W.typeIn K (.ref C_GlideError) = some (.type "type"))
    (gC_NoName : PySem.W.nsIn K mainGlobals "NoName" = some (some (.ref C_NoName)))
    (kC_NoName : PySem.W.keepIn K (.ref C_NoName) = true)
    (bC_NoName : PySem.W.subIn K (.ref C_NoName) (.type "BaseException") = some true)
    (tC_NoName : PySem.W.typeIn K (.ref C_NoName) = some (.type "type"))
    (gC_NoNumber : PySem.W.nsIn K mainGlobals "NoNumber" = some (some (.ref C_NoNumber)))
    (kC_NoNumber : PySem.W.keepIn K (.ref C_NoNumber) = true)
    (bC_NoNumber : PySem.W.subIn K (.ref C_NoNumber) (.type "BaseException") = some true)
    (tC_NoNumber : PySem.W.typeIn K (.ref C_NoNumber) = some (.type "type"))
    (gC_NoRow : PySem.W.nsIn K mainGlobals "NoRow" = some (some (.ref C_NoRow)))
    (kC_NoRow : PySem.W.keepIn K (.ref C_NoRow) = true)
    (bC_NoRow : PySem.W.subIn K (.ref C_NoRow) (.type "BaseException") = some true)
    (tC_NoRow : PySem.W.typeIn K (.ref C_NoRow) = some (.type "type"))
    (gC_NoText : PySem.W.nsIn K mainGlobals "NoText" = some (some (.ref C_NoText)))
    (xC_NoText : PySem.W.excIn K C_NoText [.type "ValueError", .type "Exception", .type "BaseException", .type "object"] "ValueError.__new__" = true)
    (kC_NoText : PySem.W.keepIn K (.ref C_NoText) = true)
    (bC_NoText : PySem.W.subIn K (.ref C_NoText) (.type "BaseException") = some true)
    (tC_NoText : PySem.W.typeIn K (.ref C_NoText) = some (.type "type"))
    (gC_Past : PySem.W.nsIn K mainGlobals "Past" = some (some (.ref C_Past)))
    (kC_Past : PySem.W.keepIn K (.ref C_Past) = true)
    (bC_Past : PySem.W.subIn K (.ref C_Past) (.type "BaseException") = some true)
    (tC_Past : PySem.W.typeIn K (.ref C_Past) = some (.type "type"))
    (gC_Twice : PySem.W.nsIn K mainGlobals "Twice" = some (some (.ref C_Twice)))
    (kC_Twice : PySem.W.keepIn K (.ref C_Twice) = true)
    (bC_Twice : PySem.W.subIn K (.ref C_Twice) (.type "BaseException") = some true)
    (tC_Twice : PySem.W.typeIn K (.ref C_Twice) = some (.type "type"))
    (sg_NoText : PySem.W.subIn K (.ref C_NoText) (.ref C_GlideError) = some true)
    (hd_Crowded : PySem.W.hasDictIn K C_Crowded = true)
    (hd_Flat : PySem.W.hasDictIn K C_Flat = true)
    (hd_GlideError : PySem.W.hasDictIn K C_GlideError = true)
    (hd_NoName : PySem.W.hasDictIn K C_NoName = true)
    (hd_NoNumber : PySem.W.hasDictIn K C_NoNumber = true)
    (hd_NoRow : PySem.W.hasDictIn K C_NoRow = true)
    (hd_NoText : PySem.W.hasDictIn K C_NoText = true)
    (hd_Past : PySem.W.hasDictIn K C_Past = true)
    (hd_Twice : PySem.W.hasDictIn K C_Twice = true)
    (oN : PySem.W.specialIn K (.builtin "object.__class__") "__get__" = some (some (.builtin "getset_descriptor.__get__")))
    (oT : PySem.W.takesIn K (.builtin "object.__class__") = some true)
    (vg_NoText : PySem.W.findIn K (.ref C_NoText) "__getattribute__" = some (some (.builtin "BaseException.__getattribute__")))
    (vk_NoText : PySem.W.findIn K (.ref C_NoText) "__getattr__" = some none)
    (va_NoText : PySem.W.findIn K (.ref C_NoText) "__class__" = some (some (.builtin "object.__class__")))
    (vm_NoText : PySem.W.mroIn K C_NoText (.type "object") = some true)
    (sv_NoText : PySem.W.subIn K (.ref C_NoText) (.type "ValueError") = some true)
    (su_NoText_Crowded : PySem.W.subIn K (.ref C_NoText) (.ref C_Crowded) = some false)
    (su_NoText_Flat : PySem.W.subIn K (.ref C_NoText) (.ref C_Flat) = some false)
    (su_NoText_NoName : PySem.W.subIn K (.ref C_NoText) (.ref C_NoName) = some false)
    (su_NoText_NoNumber : PySem.W.subIn K (.ref C_NoText) (.ref C_NoNumber) = some false)
    (su_NoText_NoRow : PySem.W.subIn K (.ref C_NoText) (.ref C_NoRow) = some false)
    (su_NoText_NoText : PySem.W.subIn K (.ref C_NoText) (.ref C_NoText) = some true)
    (su_NoText_Past : PySem.W.subIn K (.ref C_NoText) (.ref C_Past) = some false)
    (su_NoText_Twice : PySem.W.subIn K (.ref C_NoText) (.ref C_Twice) = some false)
    (ss_Crowded : PySem.W.subIn K (.ref C_Crowded) (.ref C_Crowded) = some true)
    (ss_Flat : PySem.W.subIn K (.ref C_Flat) (.ref C_Flat) = some true)
    (ss_NoName : PySem.W.subIn K (.ref C_NoName) (.ref C_NoName) = some true)
    (ss_NoNumber : PySem.W.subIn K (.ref C_NoNumber) (.ref C_NoNumber) = some true)
    (ss_NoRow : PySem.W.subIn K (.ref C_NoRow) (.ref C_NoRow) = some true)
    (ss_NoText : PySem.W.subIn K (.ref C_NoText) (.ref C_NoText) = some true)
    (ss_Past : PySem.W.subIn K (.ref C_Past) (.ref C_Past) = some true)
    (ss_Twice : PySem.W.subIn K (.ref C_Twice) (.ref C_Twice) = some true)
    (a0 : PySem.W.nsIn K mainGlobals "read_number" = some (some (.ref f0)))
    (l0 : K.lookup f0 = some ⟨oc0, od0, .func (PySem.W.fnOf "read_number" "read_number" (defArgs s_read_number) (defBody s_read_number) (defScope s_read_number) .none kV0 dc0 pm0 an0 cd0 ct0), sl0⟩)
    (c0 : PySem.W.codeIn K cd0 "read_number" = true)
    (k0 : PySem.W.keepIn K (.ref f0) = true)
    (a1 : PySem.W.nsIn K mainGlobals "read_point" = some (some (.ref f1)))
    (l1 : K.lookup f1 = some ⟨oc1, od1, .func (PySem.W.fnOf "read_point" "read_point" (defArgs s_read_point) (defBody s_read_point) (defScope s_read_point) .none kV1 dc1 pm1 an1 cd1 ct1), sl1⟩)
    (c1 : PySem.W.codeIn K cd1 "read_point" = true)
    (k1 : PySem.W.keepIn K (.ref f1) = true)
    (a2 : PySem.W.nsIn K mainGlobals "read_points" = some (some (.ref f2)))
    (l2 : K.lookup f2 = some ⟨oc2, od2, .func (PySem.W.fnOf "read_points" "read_points" (defArgs s_read_points) (defBody s_read_points) (defScope s_read_points) .none kV2 dc2 pm2 an2 cd2 ct2), sl2⟩)
    (c2 : PySem.W.codeIn K cd2 "read_points" = true)
    (k2 : PySem.W.keepIn K (.ref f2) = true)
    (a3 : PySem.W.nsIn K mainGlobals "_law_cell" = some (some (.ref f3)))
    (l3 : K.lookup f3 = some ⟨oc3, od3, .func (PySem.W.fnOf "_law_cell" "_law_cell" (defArgs s__law_cell) (defBody s__law_cell) (defScope s__law_cell) .none kV3 dc3 pm3 an3 cd3 ct3), sl3⟩)
    (c3 : PySem.W.codeIn K cd3 "_law_cell" = true)
    (k3 : PySem.W.keepIn K (.ref f3) = true)
    (a4 : PySem.W.nsIn K mainGlobals "_law_number_due" = some (some (.ref f4)))
    (l4 : K.lookup f4 = some ⟨oc4, od4, .func (PySem.W.fnOf "_law_number_due" "_law_number_due" (defArgs s__law_number_due) (defBody s__law_number_due) (defScope s__law_number_due) .none kV4 dc4 pm4 an4 cd4 ct4), sl4⟩)
    (c4 : PySem.W.codeIn K cd4 "_law_number_due" = true)
    (k4 : PySem.W.keepIn K (.ref f4) = true)
    (a5 : PySem.W.nsIn K mainGlobals "_law_cut_at" = some (some (.ref f5)))
    (l5 : K.lookup f5 = some ⟨oc5, od5, .func (PySem.W.fnOf "_law_cut_at" "_law_cut_at" (defArgs s__law_cut_at) (defBody s__law_cut_at) (defScope s__law_cut_at) .none kV5 dc5 pm5 an5 cd5 ct5), sl5⟩)
    (c5 : PySem.W.codeIn K cd5 "_law_cut_at" = true)
    (k5 : PySem.W.keepIn K (.ref f5) = true)
    (a6 : PySem.W.nsIn K mainGlobals "_law_side" = some (some (.ref f6)))
    (l6 : K.lookup f6 = some ⟨oc6, od6, .func (PySem.W.fnOf "_law_side" "_law_side" (defArgs s__law_side) (defBody s__law_side) (defScope s__law_side) .none kV6 dc6 pm6 an6 cd6 ct6), sl6⟩)
    (c6 : PySem.W.codeIn K cd6 "_law_side" = true)
    (k6 : PySem.W.keepIn K (.ref f6) = true)
    (a7 : PySem.W.nsIn K mainGlobals "_law_point_text" = some (some (.ref f7)))
    (l7 : K.lookup f7 = some ⟨oc7, od7, .func (PySem.W.fnOf "_law_point_text" "_law_point_text" (defArgs s__law_point_text) (defBody s__law_point_text) (defScope s__law_point_text) .none kV7 dc7 pm7 an7 cd7 ct7), sl7⟩)
    (c7 : PySem.W.codeIn K cd7 "_law_point_text" = true)
    (k7 : PySem.W.keepIn K (.ref f7) = true)
    (a8 : PySem.W.nsIn K mainGlobals "_law_point_due" = some (some (.ref f8)))
    (l8 : K.lookup f8 = some ⟨oc8, od8, .func (PySem.W.fnOf "_law_point_due" "_law_point_due" (defArgs s__law_point_due) (defBody s__law_point_due) (defScope s__law_point_due) .none kV8 dc8 pm8 an8 cd8 ct8), sl8⟩)
    (c8 : PySem.W.codeIn K cd8 "_law_point_due" = true)
    (k8 : PySem.W.keepIn K (.ref f8) = true)
    (a9 : PySem.W.nsIn K mainGlobals "_law_points_due" = some (some (.ref f9)))
    (l9 : K.lookup f9 = some ⟨oc9, od9, .func (PySem.W.fnOf "_law_points_due" "_law_points_due" (defArgs s__law_points_due) (defBody s__law_points_due) (defScope s__law_points_due) .none kV9 dc9 pm9 an9 cd9 ct9), sl9⟩)
    (c9 : PySem.W.codeIn K cd9 "_law_points_due" = true)
    (k9 : PySem.W.keepIn K (.ref f9) = true)
    (a10 : PySem.W.nsIn K mainGlobals "_law_spoiled" = some (some (.ref f10)))
    (l10 : K.lookup f10 = some ⟨oc10, od10, .func (PySem.W.fnOf "_law_spoiled" "_law_spoiled" (defArgs s__law_spoiled) (defBody s__law_spoiled) (defScope s__law_spoiled) .none kV10 dc10 pm10 an10 cd10 ct10), sl10⟩)
    (c10 : PySem.W.codeIn K cd10 "_law_spoiled" = true)
    (k10 : PySem.W.keepIn K (.ref f10) = true)
    (a11 : PySem.W.nsIn K mainGlobals "_law_kind" = some (some (.ref f11)))
    (l11 : K.lookup f11 = some ⟨oc11, od11, .func (PySem.W.fnOf "_law_kind" "_law_kind" (defArgs s__law_kind) (defBody s__law_kind) (defScope s__law_kind) .none kV11 dc11 pm11 an11 cd11 ct11), sl11⟩)
    (c11 : PySem.W.codeIn K cd11 "_law_kind" = true)
    (k11 : PySem.W.keepIn K (.ref f11) = true)
    (a12 : PySem.W.nsIn K mainGlobals "_law_point_word" = some (some (.ref f12)))
    (l12 : K.lookup f12 = some ⟨oc12, od12, .func (PySem.W.fnOf "_law_point_word" "_law_point_word" (defArgs s__law_point_word) (defBody s__law_point_word) (defScope s__law_point_word) .none kV12 dc12 pm12 an12 cd12 ct12), sl12⟩)
    (c12 : PySem.W.codeIn K cd12 "_law_point_word" = true)
    (k12 : PySem.W.keepIn K (.ref f12) = true)
    (a13 : PySem.W.nsIn K mainGlobals "_law_points_word" = some (some (.ref f13)))
    (l13 : K.lookup f13 = some ⟨oc13, od13, .func (PySem.W.fnOf "_law_points_word" "_law_points_word" (defArgs s__law_points_word) (defBody s__law_points_word) (defScope s__law_points_word) .none kV13 dc13 pm13 an13 cd13 ct13), sl13⟩)
    (c13 : PySem.W.codeIn K cd13 "_law_points_word" = true)
    (k13 : PySem.W.keepIn K (.ref f13) = true)
    (a14 : PySem.W.nsIn K mainGlobals "law" = some (some (.ref f14)))
    (l14 : K.lookup f14 = some ⟨oc14, od14, .func (PySem.W.fnOf "law" "law" (defArgs s_law) (defBody s_law) (defScope s_law) .none kV14 dc14 pm14 an14 cd14 ct14), sl14⟩)
    (c14 : PySem.W.codeIn K cd14 "law" = true)
    (k14 : PySem.W.keepIn K (.ref f14) = true)
    (gK_FIGURES : PySem.W.nsIn K mainGlobals "FIGURES" = some (some (.str "0123456789" tK_FIGURES)))
    (zz_ValueError : PySem.W.nsIn K mainGlobals "ValueError" = some none)
    (zz_all : PySem.W.nsIn K mainGlobals "all" = some none)
    (zz_int : PySem.W.nsIn K mainGlobals "int" = some none)
    (zz_isinstance : PySem.W.nsIn K mainGlobals "isinstance" = some none)
    (zz_len : PySem.W.nsIn K mainGlobals "len" = some none)
    (zz_max : PySem.W.nsIn K mainGlobals "max" = some none)
    (zz_min : PySem.W.nsIn K mainGlobals "min" = some none)
    (zz_ord : PySem.W.nsIn K mainGlobals "ord" = some none)
    (zz_range : PySem.W.nsIn K mainGlobals "range" = some none)
    (zz_str : PySem.W.nsIn K mainGlobals "str" = some none)
    (hF : ∀ ns : List Int, ns.length ≤ 63 → F_law [.scr ns] = .ok (.bl true)) :
    ∃ fd : FuncData, (∀ (s : Shared) (v : Value), BindsTo s fd ⟨[v], []⟩ [("script", v)]) ∧ ∀ base : Heap, K.In base → base.Ns mainGlobals mg → FnOk l.prog w K mg base (L2.CX l.prog w) 5 fa fd ["script"] (spLaw K) := by
  have e := hfa.symm.trans (PySem.W.mg_of X G a14)
  cases e
  have T : Txt K mg C_Crowded C_Flat C_GlideError C_NoName C_NoNumber C_NoRow C_NoText C_Past C_Twice := ⟨PySem.W.mg_none_of X G zz_ValueError, PySem.W.mg_none_of X G zz_all, PySem.W.mg_none_of X G zz_int, PySem.W.mg_none_of X G zz_isinstance, PySem.W.mg_none_of X G zz_len, PySem.W.mg_none_of X G zz_max, PySem.W.mg_none_of X G zz_min, PySem.W.mg_none_of X G zz_ord, PySem.W.mg_none_of X G zz_range, PySem.W.mg_none_of X G zz_str, ⟨_, PySem.W.mg_of X G gK_FIGURES⟩, PySem.W.mg_of X G gC_Crowded, kC_Crowded, bC_Crowded, tC_Crowded, PySem.W.mg_of X G gC_Flat, kC_Flat, bC_Flat, tC_Flat, PySem.W.mg_of X G gC_GlideError, kC_GlideError, bC_GlideError, tC_GlideError, PySem.W.mg_of X G gC_NoName, kC_NoName, bC_NoName, tC_NoName, PySem.W.mg_of X G gC_NoNumber, kC_NoNumber, bC_NoNumber, tC_NoNumber, PySem.W.mg_of X G gC_NoRow, kC_NoRow, bC_NoRow, tC_NoRow, PySem.W.mg_of X G gC_NoText, xC_NoText, kC_NoText, bC_NoText, tC_NoText, PySem.W.mg_of X G gC_Past, kC_Past, bC_Past, tC_Past, PySem.W.mg_of X G gC_Twice, kC_Twice, bC_Twice, tC_Twice, PySem.W.exm_ref bC_GlideError hd_GlideError tC_GlideError sg_NoText, ⟨vg_NoText, vk_NoText, bC_NoText, hd_NoText, va_NoText, oN, oT, vm_NoText⟩, kit_ve sv_NoText, kit_sub su_NoText_Crowded hd_Crowded tC_Crowded ss_Crowded, kit_sub su_NoText_Flat hd_Flat tC_Flat ss_Flat, kit_sub su_NoText_NoName hd_NoName tC_NoName ss_NoName, kit_sub su_NoText_NoNumber hd_NoNumber tC_NoNumber ss_NoNumber, kit_sub su_NoText_NoRow hd_NoRow tC_NoRow ss_NoRow, kit_sub su_NoText_NoText hd_NoText tC_NoText ss_NoText, kit_sub su_NoText_Past hd_Past tC_Past ss_Past, kit_sub su_NoText_Twice hd_Twice tC_Twice ss_Twice⟩
  refine ⟨PySem.W.fnOf "law" "law" (defArgs s_law) (defBody s_law) (defScope s_law) .none kV14 dc14 pm14 an14 cd14 ct14, fun s v => .of_eq rfl, fun base _ _ => ?_⟩
  have h_read_number : FnD l.prog w K mg base 1 "read_number" ["text"] F_read_number := fnd_mk (PySem.W.mg_of X G a0) k0 ((fun_mk (st := s_read_number) l0 c0 k0).binds (ps := ["text"]) fun _ _ _ _ _ _ us hl => match us, hl with | [_], _ => rfl) (ok_read_number (fun_mk (st := s_read_number) l0 c0 k0) T)
  have h_read_point : FnD l.prog w K mg base 2 "read_point" ["text"] F_read_point := fnd_mk (PySem.W.mg_of X G a1) k1 ((fun_mk (st := s_read_point) l1 c1 k1).binds (ps := ["text"]) fun _ _ _ _ _ _ us hl => match us, hl with | [_], _ => rfl) (ok_read_point (fun_mk (st := s_read_point) l1 c1 k1) T h_read_number)
  have h_read_points : FnD l.prog w K mg base 3 "read_points" ["text"] F_read_points := fnd_mk (PySem.W.mg_of X G a2) k2 ((fun_mk (st := s_read_points) l2 c2 k2).binds (ps := ["text"]) fun _ _ _ _ _ _ us hl => match us, hl with | [_], _ => rfl) (ok_read_points (fun_mk (st := s_read_points) l2 c2 k2) T h_read_point)
  have h__law_cell : FnD l.prog w K mg base 1 "_law_cell" ["script", "k"] F__law_cell := fnd_mk (PySem.W.mg_of X G a3) k3 ((fun_mk (st := s__law_cell) l3 c3 k3).binds (ps := ["script", "k"]) fun _ _ _ _ _ _ us hl => match us, hl with | [_, _], _ => rfl) (ok__law_cell (fun_mk (st := s__law_cell) l3 c3 k3) T)
  have h__law_number_due : FnD l.prog w K mg base 1 "_law_number_due" ["word"] F__law_number_due := fnd_mk (PySem.W.mg_of X G a4) k4 ((fun_mk (st := s__law_number_due) l4 c4 k4).binds (ps := ["word"]) fun _ _ _ _ _ _ us hl => match us, hl with | [_], _ => rfl) (ok__law_number_due (fun_mk (st := s__law_number_due) l4 c4 k4) T)
  have h__law_cut_at : FnD l.prog w K mg base 1 "_law_cut_at" ["text", "mark"] F__law_cut_at := fnd_mk (PySem.W.mg_of X G a5) k5 ((fun_mk (st := s__law_cut_at) l5 c5 k5).binds (ps := ["text", "mark"]) fun _ _ _ _ _ _ us hl => match us, hl with | [_, _], _ => rfl) (ok__law_cut_at (fun_mk (st := s__law_cut_at) l5 c5 k5) T)
  have h__law_side : FnD l.prog w K mg base 1 "_law_side" ["cell"] F__law_side := fnd_mk (PySem.W.mg_of X G a6) k6 ((fun_mk (st := s__law_side) l6 c6 k6).binds (ps := ["cell"]) fun _ _ _ _ _ _ us hl => match us, hl with | [_], _ => rfl) (ok__law_side (fun_mk (st := s__law_side) l6 c6 k6) T)
  have h__law_point_text : FnD l.prog w K mg base 2 "_law_point_text" ["cell"] F__law_point_text := fnd_mk (PySem.W.mg_of X G a7) k7 ((fun_mk (st := s__law_point_text) l7 c7 k7).binds (ps := ["cell"]) fun _ _ _ _ _ _ us hl => match us, hl with | [_], _ => rfl) (ok__law_point_text (fun_mk (st := s__law_point_text) l7 c7 k7) T h__law_side)
  have h__law_point_due : FnD l.prog w K mg base 2 "_law_point_due" ["text"] F__law_point_due := fnd_mk (PySem.W.mg_of X G a8) k8 ((fun_mk (st := s__law_point_due) l8 c8 k8).binds (ps := ["text"]) fun _ _ _ _ _ _ us hl => match us, hl with | [_], _ => rfl) (ok__law_point_due (fun_mk (st := s__law_point_due) l8 c8 k8) T h__law_cut_at h__law_number_due)
  have h__law_points_due : FnD l.prog w K mg base 3 "_law_points_due" ["text"] F__law_points_due := fnd_mk (PySem.W.mg_of X G a9) k9 ((fun_mk (st := s__law_points_due) l9 c9 k9).binds (ps := ["text"]) fun _ _ _ _ _ _ us hl => match us, hl with | [_], _ => rfl) (ok__law_points_due (fun_mk (st := s__law_points_due) l9 c9 k9) T h__law_point_due h__law_cut_at)
  have h__law_spoiled : FnD l.prog w K mg base 1 "_law_spoiled" ["text", "cell"] F__law_spoiled := fnd_mk (PySem.W.mg_of X G a10) k10 ((fun_mk (st := s__law_spoiled) l10 c10 k10).binds (ps := ["text", "cell"]) fun _ _ _ _ _ _ us hl => match us, hl with | [_, _], _ => rfl) (ok__law_spoiled (fun_mk (st := s__law_spoiled) l10 c10 k10) T)
  have h__law_kind : FnD l.prog w K mg base 1 "_law_kind" ["e"] F__law_kind := fnd_mk (PySem.W.mg_of X G a11) k11 ((fun_mk (st := s__law_kind) l11 c11 k11).binds (ps := ["e"]) fun _ _ _ _ _ _ us hl => match us, hl with | [_], _ => rfl) (ok__law_kind (fun_mk (st := s__law_kind) l11 c11 k11) T)
  have h__law_point_word : FnD l.prog w K mg base 3 "_law_point_word" ["thing"] F__law_point_word := fnd_mk (PySem.W.mg_of X G a12) k12 ((fun_mk (st := s__law_point_word) l12 c12 k12).binds (ps := ["thing"]) fun _ _ _ _ _ _ us hl => match us, hl with | [_], _ => rfl) (ok__law_point_word (fun_mk (st := s__law_point_word) l12 c12 k12) T h_read_point h__law_kind)
  have h__law_points_word : FnD l.prog w K mg base 4 "_law_points_word" ["thing"] F__law_points_word := fnd_mk (PySem.W.mg_of X G a13) k13 ((fun_mk (st := s__law_points_word) l13 c13 k13).binds (ps := ["thing"]) fun _ _ _ _ _ _ us hl => match us, hl with | [_], _ => rfl) (ok__law_points_word (fun_mk (st := s__law_points_word) l13 c13 k13) T h_read_points h__law_kind)
  exact law_of (ok_law (fun_mk (st := s_law) l14 c14 k14) T h__law_spoiled h__law_point_text h__law_cell h__law_point_word h__law_points_word h__law_point_due h__law_points_due) hF
end Law
namespace Law
open PySem PySem.Spec PyProof.Rows L2 GD Hl TL
local macro_rules | `(tactic| walk_at "bd") => `(tactic| first
  | with_reducible assumption
  | with_reducible exact Bd.litO _
  | ((with_reducible refine' Bd.mul ?h ?g); (case h => walk_at "bd"); (case g => walk_at "bd"))
  | ((with_reducible refine' Bd.add ?h ?g); (case h => walk_at "bd"); (case g => walk_at "bd"))
  | ((with_reducible refine' Bd.sub ?h ?g); (case h => walk_at "bd"); (case g => walk_at "bd"))
  | ((with_reducible refine' Bd.neg ?h); (case h => walk_at "bd"))
  | ((with_reducible refine' Bd.emod ?h); (case h => walk_at "pos"))
  | ((with_reducible refine' Bd.ediv ?h); (case h => walk_at "bd"))
  | ((with_reducible refine' bd_fT ?h); (case h => walk_at "bd"))
  | ((with_reducible refine' bd_fB ?h); (case h => walk_at "bd"))
  | ((with_reducible refine' bd_sX ?h); (case h => walk_at "bd"))
  | ((with_reducible refine' bd_sY ?h); (case h => walk_at "bd"))
  | ((with_reducible refine' bd_sW ?h); (case h => walk_at "bd"))
  | ((with_reducible refine' bd_abs ?h); (case h => walk_at "bd"))
  | ((with_reducible refine' BdP.a ?h); (case h => walk_at "bdq"))
  | ((with_reducible refine' BdP.b ?h); (case h => walk_at "bdq"))
  | with_reducible exact bd_ite1
  | ((with_reducible refine' bd_ite ?h ?g); (case h => walk_at "bd"); (case g => walk_at "bd")))
local macro_rules | `(tactic| walk_at "pos") => `(tactic| first
  | with_reducible assumption
  | decide
  | omega)
local macro_rules | `(tactic| walk_at "bdq") => `(tactic| first
  | with_reducible assumption
  | ((with_reducible refine' bd_cy ?h ?g _); (case h => with_reducible assumption); (case g => first | with_reducible assumption | omega))
  | ((with_reducible refine' bd_mem ?h ?g); (case g => with_reducible assumption); (case h => with_reducible assumption))
  | ((with_reducible refine' bd_get ?h); (case h => with_reducible assumption)))
local macro_rules | `(tactic| walk_at "bdp") => `(tactic| first
  | walk_at "bdq"
  | ((with_reducible refine' BdP.mk ?h ?g); (case h => walk_at "bd"); (case g => walk_at "bd")))
local macro_rules | `(tactic| walk_at "num") => `(tactic| first
  | with_reducible assumption
  | omega
  | decide +kernel
  | (simp only [Nat.reduceLog2]; omega))
local macro_rules | `(tactic| walk_at "dis") => `(tactic| first
  | with_reducible assumption
  | ((with_reducible refine' mok ?h ?g ?l); (case h => walk_at "bd"); (case g => walk_at "bd"); (case l => walk_at "num"))
  | ((with_reducible refine' Bd.mono ?h ?l); (case h => walk_at "bd"); (case l => walk_at "num"))
  | ((with_reducible refine' BdP.mono ?h ?l); (case h => walk_at "bdp"); (case l => walk_at "num"))
  | ((with_reducible show divOk _); first | with_reducible assumption | decide +kernel | (refine' dok ?p ?h ?l; (case p => first | with_reducible assumption | omega); (case h => walk_at "bd"); (case l => walk_at "num")))
  | omega)
local macro_rules | `(tactic| walk_at "op") => `(tactic| first
  | with_reducible exact dAdd_int _ _
  | with_reducible exact dSub_int _ _
  | ((with_reducible refine dMul_int ?_); walk_at "dis")
  | with_reducible exact dAt_pp0 _ _
  | with_reducible exact dAt_pp1 _ _
  | with_reducible exact dAt_p0 _
  | with_reducible exact dAt_p1 _
  | with_reducible exact dAt_t0
  | with_reducible exact dAt_t1
  | with_reducible exact dAt_t2
  | with_reducible exact dAt_q0 _ _ _
  | with_reducible exact dAt_q1 _ _ _
  | with_reducible exact dAt_q2 _ _ _
  | with_reducible exact dAt_f0 _ _
  | with_reducible exact dAt_f1 _ _
  | with_reducible exact dLt_int _ _
  | with_reducible exact dLe_int _ _
  | with_reducible exact dGt_int _ _
  | with_reducible exact dGe_int _ _
  | with_reducible exact dEq_int _ _
  | with_reducible exact dNe_int _ _
  | ((with_reducible refine dMod_int ?_); walk_at "dis")
  | ((with_reducible refine dDiv_int ?_); walk_at "dis")
  | with_reducible exact dNeg_int _
  | with_reducible exact dIs_non _
  | with_reducible exact dIsNot_non _
  | with_reducible exact dAbs_int _
  | with_reducible exact dMax2_int _ _
  | with_reducible exact dMin2_int _ _
  | with_reducible exact dInt_bl _
  | with_reducible exact dLen_pts _
  | with_reducible exact dEq_pt _ _
  | with_reducible exact dNe_pt _ _
  | with_reducible exact dEq_pts _ _
  | with_reducible exact dNe_pts _ _
  | with_reducible exact dNe_bl _ _
  | with_reducible exact dEq_bl _ _
  | with_reducible exact dEq_D3 _ _ _ _ _ _
  | with_reducible exact dNe_D3 _ _ _ _ _ _
  | with_reducible exact dEq_np _
  | with_reducible exact dNe_np _
  | ((with_reducible refine at_last ?_); walk_at "dis")
  | with_reducible exact dAt_l0
  | with_reducible exact dAt_l1
  | with_reducible exact dAt_l2
  | with_reducible exact dAt_l3
  | with_reducible exact dAt_l4
  | with_reducible exact dAt_l5
  | with_reducible exact dAt_l6
  | with_reducible exact dAt_l7
  | ((with_reducible refine' dNe_self ?h ?l); (case h => walk_at "shp"); (case l => decide))
  | ((with_reducible refine' dEq_self ?h ?l); (case h => walk_at "shp"); (case l => decide))
  | with_reducible assumption
  | exact isi_int _ _ _ _ rfl kb_tuple_tuple
  | exact isi_int _ _ _ _ rfl kb_list_list
  | exact isi_int _ _ _ _ rfl kb_int_int
  | exact isi_int _ _ _ _ rfl kb_bool_bool
  | exact isi_int _ _ _ _ rfl kb_int_bool
  | exact isi_int _ _ _ _ rfl kb_list_tuple
  | exact isi_int _ _ _ _ rfl kb_tuple_list
  | with_reducible rfl)
local macro_rules | `(tactic| walk_at "shp") => `(tactic| first
  | with_reducible exact shp_int _
  | with_reducible exact shp_bl _
  | with_reducible exact shp_non
  | with_reducible exact shp_pt _
  | with_reducible exact shp_pts _
  | with_reducible exact shp_D2 _ _
  | with_reducible exact shp_fr _ _
  | with_reducible exact shp_D3 _ _ _
  | with_reducible exact shp_sp _ _ _
  | with_reducible exact shp_nilL
  | with_reducible exact shp_nilT
  | ((with_reducible refine' shp_consL ?h ?g); (case h => walk_at "shp"); (case g => walk_at "shp"))
  | ((with_reducible refine' shp_consT ?h ?g); (case h => walk_at "shp"); (case g => walk_at "shp"))
  | with_reducible assumption)
local macro_rules | `(tactic| walk_at "fn") => `(tactic| first
  | with_reducible assumption
  | with_reducible exact whole_int _
  | with_reducible exact divisor_eq _ _
  | with_reducible exact common_eq _ _)
local macro_rules | `(tactic| walk_at "ev") => `(tactic| first
  | with_reducible exact ev_c _
  | ((with_reducible refine' ev_var ?h1); (case h1 => exact rfl))
  | ((with_reducible refine' ev_e2 ?h1 ?h2 ?h3); (case h1 => walk_at "ev"); (case h2 => walk_at "ev"); (case h3 => walk_at "op"))
  | with_reducible exact ev_nil
  | ((with_reducible refine' ev_cons ?h1 ?h2); (case h1 => walk_at "ev"); (case h2 => walk_at "ev"))
  | ((with_reducible refine' ev_F ?h1 ?h2); (case h1 => walk_at "ev"); (case h2 => walk_at "fn"))
  | ((with_reducible refine' ev_mB ?h1); (case h1 => walk_at "ev"))
  | ((with_reducible refine' ev_B ?h1 ?h2); (case h1 => walk_at "ev"); (case h2 => walk_at "op"))
  | ((with_reducible refine' ev_tup2 ?h1 ?h2); (case h1 => walk_at "ev"); (case h2 => walk_at "ev"))
  | ((with_reducible refine' ev_tup3 ?h1 ?h2 ?h3); (case h1 => walk_at "ev"); (case h2 => walk_at "ev"); (case h3 => walk_at "ev"))
  | ((with_reducible refine' ev_tup ?h1 ?h2); (case h1 => walk_at "ev"); (case h2 => walk_at "len"))
  | ((with_reducible refine' ev_L ?h1); (case h1 => walk_at "ev"))
  | ((with_reducible refine' ev_lst ?h1 ?h2); (case h1 => walk_at "ev"); (case h2 => walk_at "len"))
  | ((with_reducible refine' ev_not ?h1); (case h1 => walk_at "ev"))
  | ((with_reducible refine' ev_and0 ?h1); (case h1 => walk_at "ev"))
  | ((with_reducible refine' ev_and ?h1 ?h2); (case h1 => walk_at "ev"); (case h2 => (intro hq; (try simp only [decide_eq_true_eq, decide_eq_false_iff_not, Bool.not_eq_true', Bool.not_eq_false'] at hq); walk_at "ev")))
  | ((with_reducible refine' ev_or1 ?h1); (case h1 => walk_at "ev"))
  | ((with_reducible refine' ev_or ?h1 ?h2); (case h1 => walk_at "ev"); (case h2 => (intro hq; (try simp only [decide_eq_true_eq, decide_eq_false_iff_not, Bool.not_eq_true', Bool.not_eq_false'] at hq); walk_at "ev")))
  | ((with_reducible refine' ev_eNot ?h1); (case h1 => walk_at "ev"))
  | ((with_reducible refine' ev_eAnd0 ?h1); (case h1 => walk_at "ev"))
  | ((with_reducible refine' ev_eAnd ?h1 ?h2); (case h1 => walk_at "ev"); (case h2 => (intro hq; (try simp only [decide_eq_true_eq, decide_eq_false_iff_not, Bool.not_eq_true', Bool.not_eq_false'] at hq); walk_at "ev")))
  | ((with_reducible refine' ev_eOr1 ?h1); (case h1 => walk_at "ev"))
  | ((with_reducible refine' ev_eOr ?h1 ?h2); (case h1 => walk_at "ev"); (case h2 => (intro hq; (try simp only [decide_eq_true_eq, decide_eq_false_iff_not, Bool.not_eq_true', Bool.not_eq_false'] at hq); walk_at "ev")))
  | ((with_reducible refine' ev_e1 ?h1 ?h2); (case h1 => walk_at "ev"); (case h2 => walk_at "op"))
  | ((with_reducible refine' ev_copy ?h1 ?h2); (case h1 => walk_at "ev"); (case h2 => exact rfl))
  | ((with_reducible refine' ev_ch ?h1 ?h2 ?h3 ?h4 ?h5); (case h1 => walk_at "ev"); (case h2 => walk_at "ev"); (case h3 => walk_at "op"); (case h4 => (intro hq; (try simp only [decide_eq_true_eq, decide_eq_false_iff_not, Bool.not_eq_true', Bool.not_eq_false'] at hq); walk_at "ev")); (case h5 => (intro _; walk_at "op")))
  | ((with_reducible refine' ev_lc ?h1 ?h2 ?h3 ?h4); (case h1 => walk_at "ev"); (case h2 => walk_at "its"); (case h3 => walk_at "len"); (case h4 => (intro _ _; exact ⟨_, rfl, by walk_at "ev"⟩)))
  | ((with_reducible refine' ev_lcR ?h1 ?h2 ?h3 ?h4); (case h1 => walk_at "ev"); (case h2 => walk_at "rng"); (case h3 => walk_at "len"); (case h4 => (intro _ _; exact ⟨_, rfl, by walk_at "ev"⟩)))
  | ((with_reducible refine' ev_cat ?h1 ?h2 ?h3); (case h1 => walk_at "ev"); (case h2 => walk_at "ev"); (case h3 => walk_at "len"))
  | ((with_reducible refine' ev_ownLen ?h1); (case h1 => exact rfl))
  | ((with_reducible refine' ev_ownAt ?h1 ?h2 ?h3); (case h1 => exact rfl); (case h2 => walk_at "ev"); (case h3 => walk_at "op"))
  | with_reducible assumption)
local macro_rules | `(tactic| walk_at "len") => `(tactic| first
  | ((simp only [List.length_map, List.length_cons, List.length_nil, List.length_append, List.length_range]) <;> walk_at "num")
  | walk_at "num")
local macro_rules | `(tactic| walk_at "its") => `(tactic| first
  | with_reducible exact its_map
  | with_reducible exact its_map2
  | exact rfl)
local macro_rules | `(tactic| walk_at "rng") => `(tactic| first
  | ((with_reducible refine rng1 ?_ ?_) <;> walk_at "num")
  | ((with_reducible refine rng2 ?_ ?_ ?_ ?_) <;> walk_at "num"))
local macro_rules | `(tactic| walk_at "es") => `(tactic| simp (config := {failIfUnchanged := false}) only [List.set_cons_zero, List.set_cons_succ])
local macro_rules | `(tactic| walk_at "start") => `(tactic| (simp only [List.map_cons, List.map_nil, List.cons_append, List.nil_append, List.length_cons, List.length_nil, Nat.reduceAdd, Nat.reduceSub, List.replicate_succ, List.replicate_zero]))
local macro_rules | `(tactic| walk_at "st1") => `(tactic| first
  | ((with_reducible refine' wo_seq ?k))
  | ((with_reducible refine' wo_ift ?h ?e ?k); (case h => walk_at "ev"); (case e => simp only [beq_self_eq_true, Bool.true_beq, Bool.false_beq, decide_eq_true_eq, decide_eq_false_iff_not, Bool.not_eq_true', Bool.not_eq_false', Bool.or_eq_true, Bool.and_eq_true, Bool.or_eq_false_iff, Bool.and_eq_false_imp, Bool.not_true, Bool.not_false, Bool.false_or, Bool.or_false, Bool.true_or, Bool.or_true, Bool.true_and, Bool.and_true, Bool.false_and, Bool.and_false, Bool.true_eq_false, Bool.false_eq_true, decide_true, decide_false, reduceCtorEq, D.isNone, Int.not_lt, Int.not_le, ne_eq, Decidable.not_not, not_true_eq_false, not_false_eq_true, false_implies, true_implies, implies_true, and_true, true_and, and_false, false_and, or_true, true_or, or_false, false_or, reduceIte, eq_self]))
  | ((with_reducible refine' wo_iff ?h ?e ?k); (case h => walk_at "ev"); (case e => simp only [beq_self_eq_true, Bool.true_beq, Bool.false_beq, decide_eq_true_eq, decide_eq_false_iff_not, Bool.not_eq_true', Bool.not_eq_false', Bool.or_eq_true, Bool.and_eq_true, Bool.or_eq_false_iff, Bool.and_eq_false_imp, Bool.not_true, Bool.not_false, Bool.false_or, Bool.or_false, Bool.true_or, Bool.or_true, Bool.true_and, Bool.and_true, Bool.false_and, Bool.and_false, Bool.true_eq_false, Bool.false_eq_true, decide_true, decide_false, reduceCtorEq, D.isNone, Int.not_lt, Int.not_le, ne_eq, Decidable.not_not, not_true_eq_false, not_false_eq_true, false_implies, true_implies, implies_true, and_true, true_and, and_false, false_and, or_true, true_or, or_false, false_or, reduceIte, eq_self]))
  | (((with_reducible refine' wo_asg ?h1 ?k); (case h1 => walk_at "ev")); walk_at "es")
  | ((with_reducible refine' wo_ret ?h1 ?k); (case h1 => walk_at "ev"))
  | (((with_reducible refine' wo_tgt ?h1 ?h2 ?k); (case h1 => walk_at "ev"); (case h2 => exact rfl)); walk_at "es")
  | ((with_reducible refine' wo_nil ?k))
  | ((with_reducible refine' wo_raise ?k))
  | (((with_reducible refine' wo_own ?h1 ?k); (case h1 => walk_at "ev")); walk_at "es")
  | (((with_reducible refine' wo_asgL ?h1 ?k); (case h1 => walk_at "ev")); walk_at "es")
  | (((with_reducible refine' wo_app ?h1 ?h2 ?h3 ?k); (case h1 => exact rfl); (case h2 => walk_at "ev"); (case h3 => walk_at "len")); walk_at "es")
  | (((with_reducible refine' wo_par ?h1 ?h2 ?k); (case h1 => walk_at "ev"); (case h2 => walk_at "ev")); walk_at "es")
  | ((with_reducible refine wo_frz ?_); simp only [frz, List.getElem?_cons_zero, List.getElem?_cons_succ, List.set_cons_zero, List.set_cons_succ]))
local macro_rules | `(tactic| walk_at "st") => `(tactic| (walk_at "st1"; try dsimp only))
local macro_rules | `(tactic| walk_at "hs") => `(tactic| ((try simp only [beq_self_eq_true, Bool.true_beq, Bool.false_beq, decide_eq_true_eq, decide_eq_false_iff_not, Bool.not_eq_true', Bool.not_eq_false', Bool.or_eq_true, Bool.and_eq_true, Bool.or_eq_false_iff, Bool.and_eq_false_imp, Bool.not_true, Bool.not_false, Bool.false_or, Bool.or_false, Bool.true_or, Bool.or_true, Bool.true_and, Bool.and_true, Bool.false_and, Bool.and_false, Bool.true_eq_false, Bool.false_eq_true, decide_true, decide_false, reduceCtorEq, D.isNone, Int.not_lt, Int.not_le, ne_eq, Decidable.not_not, not_true_eq_false, not_false_eq_true, false_implies, true_implies, implies_true, and_true, true_and, and_false, false_and, or_true, true_or, or_false, false_or, reduceIte, eq_self]); exact rfl))
local macro_rules | `(tactic| walk_at "fls") => `(tactic| first | (with_reducible exact False.elim) | (with_reducible refine fun (_ : True) => ?_) | skip)
local macro_rules | `(tactic| walk_at "if") => `(tactic| ((with_reducible refine' wo_ifx ?h ?e1 ?e2 ?k1 ?k2); (case h => walk_at "ev"); (case e1 => walk_at "hs"); (case e2 => walk_at "hs"); (case' k1 => walk_at "fls"); (case' k2 => walk_at "fls")))
local macro_rules | `(tactic| walk_at "tt") => `(tactic| (try simp only [beq_self_eq_true, Bool.true_beq, Bool.false_beq, decide_eq_true_eq, decide_eq_false_iff_not, Bool.not_eq_true', Bool.not_eq_false', Bool.or_eq_true, Bool.and_eq_true, Bool.or_eq_false_iff, Bool.and_eq_false_imp, Bool.not_true, Bool.not_false, Bool.false_or, Bool.or_false, Bool.true_or, Bool.or_true, Bool.true_and, Bool.and_true, Bool.false_and, Bool.and_false, Bool.true_eq_false, Bool.false_eq_true, decide_true, decide_false, reduceCtorEq, D.isNone, Int.not_lt, Int.not_le, ne_eq, Decidable.not_not, not_true_eq_false, not_false_eq_true, false_implies, true_implies, implies_true, and_true, true_and, and_false, false_and, or_true, true_or, or_false, false_or, reduceIte, eq_self]))
local macro_rules | `(tactic| walk_at "hc") => `(tactic| simp only [beq_self_eq_true, Bool.true_beq, Bool.false_beq, decide_eq_true_eq, decide_eq_false_iff_not, Bool.not_eq_true', Bool.not_eq_false', Bool.or_eq_true, Bool.and_eq_true, Bool.or_eq_false_iff, Bool.and_eq_false_imp, Bool.not_true, Bool.not_false, Bool.false_or, Bool.or_false, Bool.true_or, Bool.or_true, Bool.true_and, Bool.and_true, Bool.false_and, Bool.and_false, Bool.true_eq_false, Bool.false_eq_true, decide_true, decide_false, reduceCtorEq, D.isNone, Int.not_lt, Int.not_le, ne_eq, Decidable.not_not, not_true_eq_false, not_false_eq_true, false_implies, true_implies, implies_true, and_true, true_and, and_false, false_and, or_true, true_or, or_false, false_or, reduceIte, eq_self] at *)
local macro_rules | `(tactic| walk_at "sts") => `(tactic| (walk_at "st"; try (walk_at "st"; try (walk_at "st"; try (walk_at "st"; try (walk_at "st"; try (walk_at "st"; try (walk_at "st"; try (walk_at "st"; try (walk_at "st"; try (walk_at "st"; try (walk_at "st"; try (walk_at "st"; try (walk_at "st"; try (walk_at "st"; try (walk_at "st"; try (walk_at "st"; try (walk_at "st"; try (walk_at "st"; try (walk_at "st"; try (walk_at "st"; try (walk_at "st"; try (walk_at "st"; try (walk_at "st"; try (walk_at "st"; try (walk_at "st"; try (walk_at "st"; try (walk_at "st"; try (walk_at "st"; try (walk_at "st"; try (walk_at "st"; try (walk_at "st"; try (walk_at "st"; try (walk_at "st"; try (walk_at "st"; try (walk_at "st"; try (walk_at "st"; try (walk_at "st"; try (walk_at "st"; try (walk_at "st"; try (walk_at "st"; try (walk_at "st"))))))))))))))))))))))))))))))))))))))))))
local macro_rules | `(tactic| walk_at "op") => `(tactic| first
  | with_reducible assumption
  | with_reducible exact dIs_nn
  | with_reducible exact dIs_pt _
  | with_reducible exact dIs_D3 _ _ _
  | with_reducible exact dIsN_nn
  | with_reducible exact dIsN_pt _
  | with_reducible exact dIsN_D3 _ _ _
  | ((with_reducible refine at_czm ?_); first | with_reducible assumption | omega)
  | ((with_reducible refine at_czm1 ?_); first | with_reducible assumption | omega)
  | ((with_reducible refine at_sides ?_); first | with_reducible assumption | omega)
  | ((with_reducible refine at_normals ?_); first | with_reducible assumption | omega)
  | ((with_reducible refine at_cz ?_ ?_) <;> first | with_reducible assumption | omega)
  | with_reducible exact dLen_scr _
  | with_reducible exact dLen_tup _
  | walk_at "opx")
local macro_rules | `(tactic| walk_at "opx") => `(tactic| first
  | with_reducible exact isi_bb _
  | with_reducible exact dIs_i _
  | with_reducible exact isi_u _
  | with_reducible exact dLen_u _
  | with_reducible exact dEqN_D3t _ _
  | with_reducible exact dEqE_D3t _ _
  | ((with_reducible refine at_lstI ?_ ?_) <;> first | with_reducible assumption | omega)
  | with_reducible exact dIs_D3t _
  | with_reducible exact dIsN_D3t _
  | with_reducible exact dAt_u0 _
  | with_reducible exact dAt_u1 _
  | with_reducible exact dAt_u2 _
  | with_reducible exact dIs_nn
  | with_reducible exact dIs_pt _
  | with_reducible exact dIs_D3 _ _ _
  | with_reducible exact dIs_lst _
  | with_reducible exact dIsN_nn
  | with_reducible exact dIsN_pt _
  | with_reducible exact dIsN_D3 _ _ _
  | with_reducible exact dLen_t2 _
  | with_reducible exact dLen_t3 _ _ _
  | with_reducible assumption)
local macro_rules | `(tactic| walk_at "bdq") => `(tactic| first
  | ((with_reducible refine' bd_cz ?h ?g _); (case h => first | with_reducible assumption | exact Body.bd (by with_reducible assumption)); (case g => first | with_reducible assumption | exact Body.pos (by with_reducible assumption) | omega)))
local macro_rules | `(tactic| walk_at "shp") => `(tactic| first
  | ((with_reducible refine' shp_mapL ?h _); (case h => (intro _; walk_at "shp"))))
local macro_rules | `(tactic| walk_at "rng") => `(tactic| first
  | ((with_reducible refine rngN ?_); walk_at "num"))
local macro_rules | `(tactic| walk_at "st1") => `(tactic| first
  | (((with_reducible refine' wo_ins ?h1 ?h2 ?h3 ?h4 ?h5 ?h6 ?k); (case h1 => exact rfl); (case h2 => walk_at "ev"); (case h3 => walk_at "ev"); (case h4 => walk_at "num"); (case h5 => walk_at "num"); (case h6 => walk_at "len")); walk_at "es"))
local macro_rules | `(tactic| walk_at "ev") => `(tactic| first
  | with_reducible exact ev_home _ _ _
  | ((with_reducible refine' ev_cutS ?h1 ?h2 ?h3); (case h1 => walk_at "ev"); (case h2 => walk_at "ev"); (case h3 => walk_at "ev"))
  | ((with_reducible refine' ev_ownLenM ?h1); (case h1 => exact rfl))
  | ((with_reducible refine' ev_revm ?h1); (case h1 => walk_at "ev"))
  | ((with_reducible refine' ev_rev ?h1); (case h1 => walk_at "ev"))
  | ((with_reducible refine' ev_lc6 ?h1 ?h2 ?h3 ?h4 ?h5 ?h6 ?h7); (case h1 => walk_at "ev"); (case h2 => exact ⟨_, rfl, by walk_at "ev"⟩); (case h3 => exact ⟨_, rfl, by walk_at "ev"⟩); (case h4 => exact ⟨_, rfl, by walk_at "ev"⟩); (case h5 => exact ⟨_, rfl, by walk_at "ev"⟩); (case h6 => exact ⟨_, rfl, by walk_at "ev"⟩); (case h7 => exact ⟨_, rfl, by walk_at "ev"⟩))
  | ((with_reducible refine' ev_lc8 ?h1 ?h2 ?h3 ?h4 ?h5 ?h6 ?h7 ?h8 ?h9); (case h1 => walk_at "ev"); (case h2 => exact ⟨_, rfl, by walk_at "ev"⟩); (case h3 => exact ⟨_, rfl, by walk_at "ev"⟩); (case h4 => exact ⟨_, rfl, by walk_at "ev"⟩); (case h5 => exact ⟨_, rfl, by walk_at "ev"⟩); (case h6 => exact ⟨_, rfl, by walk_at "ev"⟩); (case h7 => exact ⟨_, rfl, by walk_at "ev"⟩); (case h8 => exact ⟨_, rfl, by walk_at "ev"⟩); (case h9 => exact ⟨_, rfl, by walk_at "ev"⟩))
  | ((with_reducible refine' ev_lc3 ?h1 ?h2 ?h3 ?h4); (case h1 => walk_at "ev"); (case h2 => exact ⟨_, rfl, by walk_at "ev"⟩); (case h3 => exact ⟨_, rfl, by walk_at "ev"⟩); (case h4 => exact ⟨_, rfl, by walk_at "ev"⟩))
  | ((with_reducible refine' ev_lcN ?h1 ?h2 ?h3 ?h4); (case h1 => walk_at "ev"); (case h2 => walk_at "rng"); (case h3 => walk_at "len"); (case h4 => (intro _ _; exact ⟨_, rfl, by walk_at "ev"⟩))))
local macro_rules | `(tactic| walk_at "okt") => `(tactic| first
  | with_reducible assumption
  | ((with_reducible refine okT.take ?_ _); walk_at "okt")
  | ((with_reducible refine okT.drop ?_ _); walk_at "okt")
  | ((with_reducible refine okT.app ?_ ?_) <;> walk_at "okt")
  | ((with_reducible refine okT_numI _))
  | decide)
local macro_rules | `(tactic| walk_at "lenT") => `(tactic| first
  | with_reducible assumption
  | omega
  | ((simp only [List.length_append, List.length_cons, List.length_nil, List.length_take, List.length_drop]) <;> omega)
  | decide)
local macro_rules | `(tactic| walk_at "op") => `(tactic| first
  | ((with_reducible refine dEq_T ?_ ?_) <;> walk_at "okt")
  | ((with_reducible refine dNe_T ?_ ?_) <;> walk_at "okt")
  | ((with_reducible refine dLen_T ?_); walk_at "lenT")
  | ((with_reducible refine dAdd_T ?_); walk_at "lenT")
  | with_reducible exact dIn_T _ _
  | with_reducible exact dOrd_T _
  | ((with_reducible refine dAt_T0 ?_ ?_); (first | with_reducible assumption | decide); walk_at "lenT")
  | ((with_reducible refine dAt_Tn ?_ ?_) <;> walk_at "lenT")
  | ((with_reducible refine dStr_T ?_); walk_at "log")
  | with_reducible exact isi_T _
  | with_reducible exact dIs_T _
  | with_reducible exact dIsN_T _
  | with_reducible exact dIs_nnT
  | with_reducible exact dIsN_nnT
  | with_reducible exact dIs_iT _
  | with_reducible exact dIsN_iT _
  | with_reducible exact dIs_D2T _ _
  | with_reducible exact dIsN_D2T _ _)
local macro_rules | `(tactic| walk_at "ev") => `(tactic| first
  | with_reducible exact ev_lit lit_e
  | with_reducible exact ev_lit lit_m
  | with_reducible exact ev_lit lit_0
  | with_reducible exact ev_lit lit_s
  | with_reducible exact ev_lit lit_f
  | ((with_reducible refine' ev_cutTo1 ?h1 ?h2); (case h1 => walk_at "ev"); (case h2 => walk_at "lenT"))
  | ((with_reducible refine' ev_cutFrom1 ?h1 ?h2); (case h1 => walk_at "ev"); (case h2 => walk_at "lenT"))
  | ((with_reducible refine' ev_cutTo ?h1 ?h2 ?h3); (case h1 => walk_at "ev"); (case h2 => walk_at "ev"); (case h3 => walk_at "lenT"))
  | ((with_reducible refine' ev_cutFrom ?h1 ?h2 ?h3); (case h1 => walk_at "ev"); (case h2 => walk_at "ev"); (case h3 => walk_at "lenT")))
local macro_rules | `(tactic| walk_at "st1") => `(tactic| first
  | ((with_reducible refine' wo_ift ?h ?e ?k); (case h => walk_at "ev"); (case e => first | decide | (simp [D.isNone]; done)))
  | ((with_reducible refine' wo_iff ?h ?e ?k); (case h => walk_at "ev"); (case e => first | decide | (simp [D.isNone]; done))))
local macro_rules | `(tactic| walk_at "log") => `(tactic| ((with_reducible refine log_bd ?_); walk_at "dis"))
theorem strs_T : ∀ ws : List (List Nat), strsOf (ws.map T) = some (ws.map tS)
  | [] => rfl
  | w :: r => by
    show (strsOf (r.map T)).map (tS w :: ·) = _
    rw [strs_T r]
    rfl
theorem jn_ok {m : Nat} (hm : m < 1114112) : ∀ {ws : List (List Nat)}, (∀ w ∈ ws, okT w) → okT (TL.joinL [m] ws)
  | [], _ => fun c hc => by cases hc
  | [w], h => h w (by simp)
  | w :: v :: r, h => by
    show okT (w ++ ([m] ++ TL.joinL [m] (v :: r)))
    exact okT.app (h w (by simp)) (okT.app (fun c hc => by rw [List.mem_singleton.mp hc]; exact hm) (jn_ok hm fun x hx => h x (List.mem_cons_of_mem _ hx)))
theorem jn_len {m k : Nat} : ∀ {ws : List (List Nat)}, (∀ w ∈ ws, w.length ≤ k) → (TL.joinL [m] ws).length ≤ ws.length * (k + 1)
  | [], _ => Nat.zero_le _
  | [w], h => by
    have := h w (by simp)
    show w.length ≤ 1 * (k + 1)
    omega
  | w :: v :: r, h => by
    have ih := jn_len (m := m) (k := k) (ws := v :: r) fun x hx => h x (List.mem_cons_of_mem _ hx)
    have := h w (by simp)
    show (w ++ ([m] ++ TL.joinL [m] (v :: r))).length ≤ (r.length + 1 + 1) * (k + 1)
    have e : (r.length + 1 + 1) * (k + 1) = (k + 1) + (r.length + 1) * (k + 1) := by rw [Nat.add_mul (r.length + 1) 1]; omega
    rw [e, List.length_append, List.length_append, List.length_singleton]
    rw [List.length_cons] at ih
    omega
theorem jn_pos {m : Nat} {w : List Nat} {r : List (List Nat)} (h : 0 < w.length) : 0 < (TL.joinL [m] (w :: r)).length := by
  cases r with
  | nil => exact h
  | cons v r =>
    show 0 < (w ++ _).length
    rw [List.length_append]
    omega
theorem join_T {m k : Nat} {ws : List (List Nat)} (h : ∀ w ∈ ws, w.length ≤ k) (hk : ws.length * (k + 1) ≤ 1000000) : dJoin (tS [m]) (.lst (ws.map T)) = some (T (TL.joinL [m] ws)) := by
  show ((strsOf (ws.map T)).bind fun ys => if (ys.map (·.length)).sum + ys.length * (tS [m]).length ≤ 16777216 then some (D.str (Txt.join (tS [m]) ys)) else none) = _
  rw [strs_T]
  have sum : ∀ l : List (List Nat), (∀ w ∈ l, w.length ≤ k) → ((l.map tS).map (·.length)).sum ≤ l.length * k := by
    intro l
    induction l with
    | nil => intro _; simp
    | cons w r ih =>
      intro hl
      have h1 := ih fun x hx => hl x (List.mem_cons_of_mem _ hx)
      have h2 := hl w (by simp)
      rw [List.map_cons, List.map_cons, List.sum_cons, List.length_cons, Nat.add_mul, len_tS]
      omega
  have s1 := sum ws h
  show (if ((ws.map tS).map (·.length)).sum + (ws.map tS).length * (tS [m]).length ≤ 16777216 then some (D.str (Txt.join (tS [m]) (ws.map tS))) else none) = _
  rw [if_pos (by
    rw [List.length_map, len_tS, List.length_singleton]
    have : ws.length * (k + 1) = ws.length * k + ws.length := by rw [Nat.mul_add, Nat.mul_one]
    omega)]
  have e0 : (ws.map tS).map TL.tl = ws := by
    rw [List.map_map]
    conv => rhs; rw [← List.map_id ws]
    exact List.map_congr_left fun w _ => rfl
  have e := TL.tl_join (tS [m]) (ws.map tS)
  rw [e0] at e
  exact congrArg (fun z => some (D.str z)) (TL.ext_tl (y := tS (TL.joinL [m] ws)) ((congrArg TL.tl (TL.join_eq (tS [m]) (ws.map tS))).trans e))
theorem shp_word {m : Nat} {d : D} (h : Shp m d) : Shp (max 1 (max (m + 1) 1)) (.lst [.str "told", d]) := shp_consL shp_told (shp_consL h shp_nilL)
theorem shp_ptsL (ps : List (Int × Int)) : Shp 2 (ptsD ps) := by
  unfold ptsD
  induction ps with
  | nil => exact ⟨shp_nilL.1, Nat.le_trans shp_nilL.2 (by decide)⟩
  | cons p r ih => exact shp_consL (shp_D2 p.1 p.2) ih
theorem law_true (ns : List Int) (hl : ns.length ≤ 63) : F_law [.scr ns] = .ok (.bl true) := by
  obtain ⟨c0, a0, b0, k0⟩ := cell_spec ns 0 (by decide) (by decide)
  obtain ⟨c1, a1, b1, k1⟩ := cell_spec ns 1 (by decide) (by decide)
  obtain ⟨c2, a2, b2, k2⟩ := cell_spec ns 2 (by decide) (by decide)
  have bc1 : Bd 210 c1 := Bd.of_range a1 (Int.lt_trans b1 (by decide))
  obtain ⟨l1, kt, ot, lt, lp⟩ := point_text_q bc1
  obtain ⟨d1, ks, th1⟩ := spoiled_q (c := c0) ot (by omega) lp
  -- the points' texts
  obtain ⟨f, hf⟩ : ∃ f : Nat → List Nat, ∀ k : Nat, k < 900 → ∃ c, F__law_cell [.scr ns, .int (3 + (k : Int))] = .ok (.int c) ∧ F__law_point_text [.int c] = .ok (T (f k)) ∧ okT (f k) ∧ (f k).length ≤ 125 ∧ 0 < (f k).length := by
    have : ∀ k : Nat, ∃ l : List Nat, k < 900 → ∃ c, F__law_cell [.scr ns, .int (3 + (k : Int))] = .ok (.int c) ∧ F__law_point_text [.int c] = .ok (T l) ∧ okT l ∧ l.length ≤ 125 ∧ 0 < l.length := fun k => by
      by_cases h : k < 900
      · obtain ⟨c, x1, x2, x3⟩ := cell_spec ns (3 + (k : Int)) (by omega) (by omega)
        obtain ⟨l, y1, y2⟩ := point_text_q (Bd.of_range x1 (Int.lt_trans x2 (by decide)) : Bd 210 c)
        exact ⟨l, fun _ => ⟨c, x3, y1, y2⟩⟩
      · exact ⟨[], fun z => absurd z h⟩
    exact Classical.skolem.mp this
  have lsc := dLen_scr ns
  obtain ⟨q, hq⟩ : ∃ q : Nat, max 1 (min ((ns.length : Int) - 3) 30) = (q : Int) := ⟨(max 1 (min ((ns.length : Int) - 3) 30)).toNat, by omega⟩
  have q1 : 1 ≤ q := by omega
  have q2 : q ≤ 30 := by omega
  have wl : ∀ w ∈ (List.range q).map f, w.length ≤ 125 := fun w hw => by
    obtain ⟨k, hk, rfl⟩ := List.mem_map.mp hw
    have := List.mem_range.mp hk
    obtain ⟨_, _, _, _, h, _⟩ := hf k (by omega)
    exact h
  have wo : ∀ w ∈ (List.range q).map f, okT w := fun w hw => by
    obtain ⟨k, hk, rfl⟩ := List.mem_map.mp hw
    have := List.mem_range.mp hk
    obtain ⟨_, _, _, h, _⟩ := hf k (by omega)
    exact h
  have wlen : ((List.range q).map f).length = q := by rw [List.length_map, List.length_range]
  have kj := join_T (m := 59) (k := 125) wl (by rw [wlen]; omega)
  have jo := jn_ok (m := 59) (by decide) wo
  have jl := jn_len (m := 59) wl
  rw [wlen] at jl
  have jp : 0 < (TL.joinL [59] ((List.range q).map f)).length := by
    obtain ⟨r, hr⟩ : ∃ r, (List.range q).map f = f 0 :: r := by
      obtain ⟨p, rfl⟩ : ∃ p, q = p + 1 := ⟨q - 1, by omega⟩
      rw [List.range_succ_eq_map, List.map_cons]
      exact ⟨_, rfl⟩
    rw [hr]
    obtain ⟨_, _, _, _, _, h⟩ := hf 0 (by decide)
    exact jn_pos h
  have comp : aLcR [5] (gNm 5) mYes (aCons (eVar 3) aNil) (eF F__law_point_text (aCons (eF F__law_cell (aCons (eVar 0) (aCons (e2 dAdd (eC (.int 3)) (eVar 5)) aNil))) aNil)) [.v (.scr ns), .v d1, .un, .v (.int (q : Int)), .un, .un] = .ok (((List.range q).map f).map T) → True := fun _ => trivial
  clear comp
  have compq : ∀ s2 s4 : Sl, aLcR [5] (gNm 5) mYes (aCons (eVar 3) aNil) (eF F__law_point_text (aCons (eF F__law_cell (aCons (eVar 0) (aCons (e2 dAdd (eC (.int 3)) (eVar 5)) aNil))) aNil)) [.v (.scr ns), .v d1, s2, .v (.int (q : Int)), s4, .un] = .ok (((List.range q).map f).map T) := fun s2 s4 => by
    rw [List.map_map]
    refine ev_lcR (a0 := 0) (c := 1) (f' := fun k => T (f k)) (ev_cons (ev_var rfl) ev_nil) (rng1 (by omega) (by omega)) (by omega) fun x hx => ⟨_, rfl, ?_⟩
    obtain ⟨c, x1, x2, _⟩ := hf x (by omega)
    refine ev_F (ev_cons (ev_F (ev_cons (ev_var rfl) (ev_cons (ev_e2 (ev_c _) (ev_var rfl) (dAdd_int _ _)) ev_nil)) ?_) ev_nil) x2
    rw [show (0 : Int) + (x : Int) * 1 = (x : Int) by omega]
    exact x1
  generalize (TL.joinL [59] ((List.range q).map f)) = jt at *
  obtain ⟨d2, ks2, th2⟩ := spoiled_q (c := c2) jo (by omega) jp
  have et := eq_tt
  have nt := ne_tt
  unfold F_law b_law
  refine fn_ok ?_
  walk_at "start"
  refine wo_seq (wo_asg (ev_F (ev_cons (ev_F (ev_cons (ev_F (ev_cons (ev_var rfl) (ev_cons (ev_c _) ev_nil)) k1) ev_nil) kt) (ev_cons (ev_F (ev_cons (ev_var rfl) (ev_cons (ev_c _) ev_nil)) k0) ev_nil)) ks) ?_)
  walk_at "es"
  walk_at "st"
  walk_at "st"
  -- one point
  obtain ⟨o1, kw1, tst1⟩ : ∃ o : Option (Int × Int), F__law_point_word [d1] = .ok (wordD (o.map pD2)) ∧ ((o = none ∧ ∀ s3 s4 s5 : Sl, mAnd (mB (eB dIsi (aCons (eVar 1) (aCons (eC (.ty "str")) aNil)))) (mB (e2 dIsNot (eF F__law_point_due (aCons (eVar 1) aNil)) (eC .non))) [.v (.scr ns), .v d1, .v (.str "text"), s3, s4, s5] = .ok false) ∨
      ∃ p, o = some p ∧ F__law_point_due [d1] = .ok (pD2 p) ∧ ∀ s3 s4 s5 : Sl, mAnd (mB (eB dIsi (aCons (eVar 1) (aCons (eC (.ty "str")) aNil)))) (mB (e2 dIsNot (eF F__law_point_due (aCons (eVar 1) aNil)) (eC .non))) [.v (.scr ns), .v d1, .v (.str "text"), s3, s4, s5] = .ok true) := by
    rcases th1 with ⟨l, rfl, ol, ll⟩ | h
    · have kd := point_due_q ol ll
      refine ⟨ptOf l, ptword_q (read_pt_q ol ll), ?_⟩
      cases e : ptOf l with
      | none =>
        rw [e] at kd
        exact .inl ⟨rfl, fun _ _ _ => ev_and (ev_mB (ev_B (ev_cons (ev_var rfl) (ev_cons (ev_c _) ev_nil)) (isi_T l))) fun _ => ev_mB (ev_e2 (ev_F (ev_cons (ev_var rfl) ev_nil) kd) (ev_c _) dIsN_nnT)⟩
      | some p =>
        rw [e] at kd
        exact .inr ⟨p, rfl, kd, fun _ _ _ => ev_and (ev_mB (ev_B (ev_cons (ev_var rfl) (ev_cons (ev_c _) ev_nil)) (isi_T l))) fun _ => ev_mB (ev_e2 (ev_F (ev_cons (ev_var rfl) ev_nil) kd) (ev_c _) (dIsN_D2T _ _))⟩
    · refine ⟨none, ptword_q (o := none) (read_pt_no h), .inl ⟨rfl, fun _ _ _ => ?_⟩⟩
      exact ev_and (c := false) (ev_mB (ev_B (ev_cons (ev_var rfl) (ev_cons (ev_c _) ev_nil)) h)) fun z => by cases z
  obtain ⟨o2, kw2, tst2⟩ : ∃ o : Option (List (Int × Int)), F__law_points_word [d2] = .ok (wordD (o.map ptsD)) ∧ ((o = none ∧ ∀ s3 s4 s5 : Sl, mAnd (mB (eB dIsi (aCons (eVar 1) (aCons (eC (.ty "str")) aNil)))) (mB (e2 dIsNot (eF F__law_points_due (aCons (eVar 1) aNil)) (eC .non))) [.v (.scr ns), .v d2, .v (.str "text"), s3, s4, s5] = .ok false) ∨
      ∃ p, o = some p ∧ F__law_points_due [d2] = .ok (ptsD p) ∧ ∀ s3 s4 s5 : Sl, mAnd (mB (eB dIsi (aCons (eVar 1) (aCons (eC (.ty "str")) aNil)))) (mB (e2 dIsNot (eF F__law_points_due (aCons (eVar 1) aNil)) (eC .non))) [.v (.scr ns), .v d2, .v (.str "text"), s3, s4, s5] = .ok true) := by
    rcases th2 with ⟨l, rfl, ol, ll⟩ | h
    · have kd := points_due_q ol ll
      refine ⟨ptsOf l, ptsword_q (read_pts_q ol ll), ?_⟩
      cases e : ptsOf l with
      | none =>
        rw [e] at kd
        exact .inl ⟨rfl, fun _ _ _ => ev_and (ev_mB (ev_B (ev_cons (ev_var rfl) (ev_cons (ev_c _) ev_nil)) (isi_T l))) fun _ => ev_mB (ev_e2 (ev_F (ev_cons (ev_var rfl) ev_nil) kd) (ev_c _) dIsN_nnT)⟩
      | some p =>
        rw [e] at kd
        exact .inr ⟨p, rfl, kd, fun _ _ _ => ev_and (ev_mB (ev_B (ev_cons (ev_var rfl) (ev_cons (ev_c _) ev_nil)) (isi_T l))) fun _ => ev_mB (ev_e2 (ev_F (ev_cons (ev_var rfl) ev_nil) kd) (ev_c _) (show dIsNot (ptsD p) .non = some (.bl true) from rfl))⟩
    · refine ⟨none, ptsword_q (o := none) (read_pts_no h), .inl ⟨rfl, fun _ _ _ => ?_⟩⟩
      exact ev_and (c := false) (ev_mB (ev_B (ev_cons (ev_var rfl) (ev_cons (ev_c _) ev_nil)) h)) fun z => by cases z
  refine wo_seq (wo_cut (fun ρ => ρ = [.v (.scr ns), .v d1, .v (wordD (o1.map pD2)), .un, .un, .un]) ?_ ?_)
  · rcases tst1 with ⟨rfl, t⟩ | ⟨p, rfl, kd, t⟩
    · exact wo_iff (t _ _ _) rfl (wo_nil rfl)
    · refine wo_ift (t _ _ _) rfl (wo_asg (ev_L (ev_lst (ev_cons (ev_c _) (ev_cons (ev_F (ev_cons (ev_var rfl) ev_nil) kd) ev_nil)) (show 2 ≤ 16777216 by decide))) ?_)
      walk_at "es"
      rfl
  rintro ρ rfl
  have ne1 : dNe (wordD (o1.map pD2)) (wordD (o1.map pD2)) = some (.bl false) := by
    cases o1 with
    | none => exact nt
    | some p => exact dNe_self (shp_word (shp_D2 p.1 p.2)) (by decide)
  refine wo_seq (wo_iff (ev_mB (ev_e2 (ev_F (ev_cons (ev_var rfl) ev_nil) kw1) (ev_var rfl) ne1)) rfl (wo_nil ?_))
  refine wo_seq (wo_asg (d := .int (q : Int)) (by rw [← hq]; walk_at "ev") ?_)
  walk_at "es"
  have jn : ∀ s2 s4 : Sl, eJoin (eC (.str ";")) (eL (aLcR [5] (gNm 5) mYes (aCons (eVar 3) aNil) (eF F__law_point_text (aCons (eF F__law_cell (aCons (eVar 0) (aCons (e2 dAdd (eC (.int 3)) (eVar 5)) aNil))) aNil)))) [.v (.scr ns), .v d1, s2, .v (.int (q : Int)), s4, .un] = .ok (T jt) := fun s2 s4 => by
    unfold eJoin
    rw [ev_lit lit_se, bind_ok]
    show (eL _ _).bind (fun e => R.ofO (dJoin (tS [59]) e)) = _
    rw [ev_L (compq s2 s4), bind_ok, kj]
    rfl
  with_reducible refine wo_seq ?_
  with_reducible refine' wo_asg ?haJ ?kaJ
  case haJ => exact jn (.v (wordD (o1.map pD2))) .un
  case kaJ =>
  walk_at "es"
  refine wo_seq (wo_asg (ev_F (ev_cons (ev_var rfl) (ev_cons (ev_F (ev_cons (ev_var rfl) (ev_cons (ev_c _) ev_nil)) k2) ev_nil)) ks2) ?_)
  walk_at "es"
  refine wo_seq (wo_asg (ev_c _) ?_)
  walk_at "es"
  refine wo_seq (wo_cut (fun ρ => ∃ s3 s4 s5, ρ = [.v (.scr ns), .v d2, .v (wordD (o2.map ptsD)), s3, s4, s5]) ?_ ?_)
  · rcases tst2 with ⟨rfl, t⟩ | ⟨p, rfl, kd, t⟩
    · exact wo_iff (t _ _ _) rfl (wo_nil ⟨_, _, _, rfl⟩)
    · refine wo_ift (t _ _ _) rfl (wo_asg (ev_L (ev_lst (ev_cons (ev_c _) (ev_cons (ev_F (ev_cons (ev_var rfl) ev_nil) kd) ev_nil)) (show 2 ≤ 16777216 by decide))) ?_)
      walk_at "es"
      exact ⟨_, _, _, rfl⟩
  rintro ρ ⟨s3, s4, s5, rfl⟩
  have eq2 : dEq (wordD (o2.map ptsD)) (wordD (o2.map ptsD)) = some (.bl true) := by
    cases o2 with
    | none => exact et
    | some p => exact dEq_self (shp_word (shp_ptsL p)) (by decide)
  exact wo_ret (ev_e2 (ev_F (ev_cons (ev_var rfl) ev_nil) kw2) (ev_var rfl) eq2) rfl
end Law
open PySem PySem.W PyProof.Rows in
set_option maxRecDepth 100000 in
set_option maxHeartbeats 0 in
theorem PySem.Challenge.cw_glide_k47_points_read_holds : PySem.Challenge.rw_glide_k47_points_read.Holds := by
  w_on; o_law; k_head; (case hw => w_witness2)
  k_fill
  refine GD.walk (l := PySem.Challenge.rw_glide_k47_points_read) (k := 5) rfl rfl ⟨rfl, by decide, by decide⟩ (fun w h Y => PySem.W.kIn_of Y) ?F
  case F =>
    intro w mg fa h KX G hmg
    refine' Law.all_mk KX G hmg ?gC_Crowded ?kC_Crowded ?bC_Crowded ?tC_Crowded ?gC_Flat ?kC_Flat ?bC_Flat ?tC_Flat ?gC_GlideError ?kC_GlideError ?bC_GlideError ?tC_GlideError ?gC_NoName ?kC_NoName ?bC_NoName ?tC_NoName ?gC_NoNumber ?kC_NoNumber ?bC_NoNumber ?tC_NoNumber ?gC_NoRow ?kC_NoRow ?bC_NoRow ?tC_NoRow ?gC_NoText ?xC_NoText ?kC_NoText ?bC_NoText ?tC_NoText ?gC_Past ?kC_Past ?bC_Past ?tC_Past ?gC_Twice ?kC_Twice ?bC_Twice ?tC_Twice ?sg_NoText ?hd_Crowded ?hd_Flat ?hd_GlideError ?hd_NoName ?hd_NoNumber ?hd_NoRow ?hd_NoText ?hd_Past ?hd_Twice ?oN ?oT ?vg_NoText ?vk_NoText ?va_NoText ?vm_NoText ?sv_NoText ?su_NoText_Crowded ?su_NoText_Flat ?su_NoText_NoName ?su_NoText_NoNumber ?su_NoText_NoRow ?su_NoText_NoText ?su_NoText_Past ?su_NoText_Twice ?ss_Crowded ?ss_Flat ?ss_NoName ?ss_NoNumber ?ss_NoRow ?ss_NoText ?ss_Past ?ss_Twice ?a0 ?l0 ?c0 ?k0 ?a1 ?l1 ?c1 ?k1 ?a2 ?l2 ?c2 ?k2 ?a3 ?l3 ?c3 ?k3 ?a4 ?l4 ?c4 ?k4 ?a5 ?l5 ?c5 ?k5 ?a6 ?l6 ?c6 ?k6 ?a7 ?l7 ?c7 ?k7 ?a8 ?l8 ?c8 ?k8 ?a9 ?l9 ?c9 ?k9 ?a10 ?l10 ?c10 ?k10 ?a11 ?l11 ?c11 ?k11 ?a12 ?l12 ?c12 ?k12 ?a13 ?l13 ?c13 ?k13 ?a14 ?l14 ?c14 ?k14 ?gK_FIGURES ?zz_ValueError ?zz_all ?zz_int ?zz_isinstance ?zz_len ?zz_max ?zz_min ?zz_ord ?zz_range ?zz_str Law.law_true
    (case gC_Crowded => k_is)
    (case kC_Crowded => k_is)
    (case bC_Crowded => k_is)
    (case tC_Crowded => k_is)
    (case gC_Flat => k_is)
    (case kC_Flat => k_is)
    (case bC_Flat => k_is)
    (case tC_Flat => k_is)
    (case gC_GlideError => k_is)
    (case kC_GlideError => k_is)
    (case bC_GlideError => k_is)
    (case tC_GlideError => k_is)
    (case gC_NoName => k_is)
    (case kC_NoName => k_is)
    (case bC_NoName => k_is)
    (case tC_NoName => k_is)
    (case gC_NoNumber => k_is)
    (case kC_NoNumber => k_is)
    (case bC_NoNumber => k_is)
    (case tC_NoNumber => k_is)
    (case gC_NoRow => k_is)
    (case kC_NoRow => k_is)
    (case bC_NoRow => k_is)
    (case tC_NoRow => k_is)
    (case gC_NoText => k_is)
    (case xC_NoText => k_exc)
    (case kC_NoText => k_is)
    (case bC_NoText => k_is)
    (case tC_NoText => k_is)
    (case gC_Past => k_is)
    (case kC_Past => k_is)
    (case bC_Past => k_is)
    (case tC_Past => k_is)
    (case gC_Twice => k_is)
    (case kC_Twice => k_is)
    (case bC_Twice => k_is)
    (case tC_Twice => k_is)
    (case sg_NoText => k_is)
    (case hd_Crowded => k_is)
    (case hd_Flat => k_is)
    (case hd_GlideError => k_is)
    (case hd_NoName => k_is)
    (case hd_NoNumber => k_is)
    (case hd_NoRow => k_is)
    (case hd_NoText => k_is)
    (case hd_Past => k_is)
    (case hd_Twice => k_is)
    (case oN => k_is)
    (case oT => k_is)
    (case vg_NoText => k_is)
    (case vk_NoText => k_is)
    (case va_NoText => k_is)
    (case vm_NoText => k_is)
    (case sv_NoText => k_is)
    (case su_NoText_Crowded => k_is)
    (case su_NoText_Flat => k_is)
    (case su_NoText_NoName => k_is)
    (case su_NoText_NoNumber => k_is)
    (case su_NoText_NoRow => k_is)
    (case su_NoText_NoText => k_is)
    (case su_NoText_Past => k_is)
    (case su_NoText_Twice => k_is)
    (case ss_Crowded => k_is)
    (case ss_Flat => k_is)
    (case ss_NoName => k_is)
    (case ss_NoNumber => k_is)
    (case ss_NoRow => k_is)
    (case ss_NoText => k_is)
    (case ss_Past => k_is)
    (case ss_Twice => k_is)
    (case a0 => k_is)
    (case l0 => k_is)
    (case c0 => k_is)
    (case k0 => k_is)
    (case a1 => k_is)
    (case l1 => k_is)
    (case c1 => k_is)
    (case k1 => k_is)
    (case a2 => k_is)
    (case l2 => k_is)
    (case c2 => k_is)
    (case k2 => k_is)
    (case a3 => k_is)
    (case l3 => k_is)
    (case c3 => k_is)
    (case k3 => k_is)
    (case a4 => k_is)
    (case l4 => k_is)
    (case c4 => k_is)
    (case k4 => k_is)
    (case a5 => k_is)
    (case l5 => k_is)
    (case c5 => k_is)
    (case k5 => k_is)
    (case a6 => k_is)
    (case l6 => k_is)
    (case c6 => k_is)
    (case k6 => k_is)
    (case a7 => k_is)
    (case l7 => k_is)
    (case c7 => k_is)
    (case k7 => k_is)
    (case a8 => k_is)
    (case l8 => k_is)
    (case c8 => k_is)
    (case k8 => k_is)
    (case a9 => k_is)
    (case l9 => k_is)
    (case c9 => k_is)
    (case k9 => k_is)
    (case a10 => k_is)
    (case l10 => k_is)
    (case c10 => k_is)
    (case k10 => k_is)
    (case a11 => k_is)
    (case l11 => k_is)
    (case c11 => k_is)
    (case k11 => k_is)
    (case a12 => k_is)
    (case l12 => k_is)
    (case c12 => k_is)
    (case k12 => k_is)
    (case a13 => k_is)
    (case l13 => k_is)
    (case c13 => k_is)
    (case k13 => k_is)
    (case a14 => k_is)
    (case l14 => k_is)
    (case c14 => k_is)
    (case k14 => k_is)
    (case gK_FIGURES => k_is)
    (case zz_ValueError => k_is)
    (case zz_all => k_is)
    (case zz_int => k_is)
    (case zz_isinstance => k_is)
    (case zz_len => k_is)
    (case zz_max => k_is)
    (case zz_min => k_is)
    (case zz_ord => k_is)
    (case zz_range => k_is)
    (case zz_str => k_is)
